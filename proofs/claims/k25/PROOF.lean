import PyProof.Rows.All
import Wide.All
import OpenK.AllK
import Wide.FinOn
import HandS.ForMost
import PyProof.StrBlock2
import HandS.Exc
import HandS.Wide
import HandS.Defaults
import HandS.IsInst
import HandS.TupAny
import HandS.WordsExc
import HandS.TupLe
import HandS.Ends
import HandS.HotCalls
import HandS.ExcInit
import HandS.ExcField
import HandS.TryMany
import HandS.Codes
import KE.KIsAll
import HandS.ExcIs
import HandS.Deep
import HandS.More
import HandS.Conv
import HandS.Finally
import HandS.Strs
import HandS.Replace
import HandS.SortInts
import HandS.FStr
import HandS.DictComp
import HandS.DictEq
import KE.KEqDict
import KE.KCallOwn
import PyProof.InstNe
import PyProof.Rows.TmSorted
import PyProof.ReprRoads
import PyProof.CallFns
import KE.KDictList
import HandS.ListItems
import KE.SortData
import PyProof.EqKinds
import PyProof.MeetsIn
import HandS.Flow
import HandS.Style
import HandS.Head0
import HandS.Head1
import HandS.Head2
import HandS.HeadEnd
import HandS.HeadHook1
import HandS.HeadHook2
import HandS.HeadHook3
import HandS.HeadHook4
import HandS.WordsDict
import PyProof.Rows.SortStr
import PySem.Challenge.RW_peersmeet_k25_views_refused
import PyProof.ReprLen
set_option Elab.async false
set_option linter.all false
set_option maxRecDepth 100000
set_option maxHeartbeats 4000000
namespace WR
open PySem PySem.Spec PyProof.Rows L2

abbrev St := L2.St
/-! ## 1. the tracked view of an object -/
def absVs : List Value → Option (List V)
  | [] => some []
  | u :: us => match absV u, absVs us with
    | some v, some vs => some (v :: vs)
    | _, _ => none
theorem absV_rel {u : Value} {v : V} (h : absV u = some v) : RelV v u := by
  cases u <;> simp [absV] at h <;> subst h <;> first | rfl | exact ⟨_, rfl⟩
theorem absVs_rel : ∀ {us : List Value} {vs : List V}, absVs us = some vs → Vals vs us
  | [], vs, h => by cases h; exact .nil
  | u :: us, vs, h => by
    unfold absVs at h
    cases e1 : absV u with
    | none => rw [e1] at h; simp at h
    | some v =>
      cases e2 : absVs us with
      | none => rw [e1, e2] at h; simp at h
      | some w => rw [e1, e2] at h; cases h; exact .cons (absV_rel e1) (absVs_rel e2)

/-- a list or tuple of the written part -/
def kobj (K : PySem.W.Frag) (a : Addr) : Option HO :=
  match K.lookup a with
  | some o => match o.data with
    | .seq its _ => if its.size ≤ sizeLine then
        match absVs its.toList with
        | some vs => if (o.cls == .type "list") = true ∧ o.dict = none then some (.lst vs) else if (o.cls == .type "tuple") = true then some (.tup vs) else none
        | none => none
      else none
    | _ => none
  | none => none
/-- what is to be read at a -/
def look (K : PySem.W.Frag) (H : Hp) (a : Addr) : Option HO :=
  match H a with
  | some (.frz _ u) => some u
  | some o => some o
  | none => kobj K a

theorem kobj_lst {K : PySem.W.Frag} {H : Hp} {a : Addr} {xs : List V} (h : kobj K a = some (.lst xs)) : SqL K H a xs := by
  unfold kobj at h
  split at h
  · rename_i o ho
    split at h
    · rename_i its n hd
      split at h
      · rename_i hz
        split at h
        · rename_i vs hv
          split at h
          · rename_i hc
            cases h
            exact .inr ⟨o, its, n, ho, beq_iff_eq.mp hc.1, hc.2, hd, hz, absVs_rel hv⟩
          · split at h <;> cases h
        · cases h
      · cases h
    · cases h
  · cases h
theorem kobj_tup {K : PySem.W.Frag} {H : Hp} {a : Addr} {xs : List V} (h : kobj K a = some (.tup xs)) : SqT K H a xs := by
  unfold kobj at h
  split at h
  · rename_i o ho
    split at h
    · rename_i its n hd
      split at h
      · rename_i hz
        split at h
        · rename_i vs hv
          split at h
          · cases h
          · split at h
            · rename_i hc
              cases h
              exact .inr ⟨o, its, n, ho, beq_iff_eq.mp hc, hd, hz, absVs_rel hv⟩
            · cases h
        · cases h
      · cases h
    · cases h
  · cases h
theorem look_rd {K : PySem.W.Frag} {H : Hp} {a : Addr} {u : HO} (h : look K H a = some u) : Rd H a u ∨ (H a = none ∧ kobj K a = some u) := by
  unfold look at h
  split at h
  · rename_i o v e; cases h; exact .inl (.inr ⟨_, e⟩)
  · rename_i o hn e; cases h; exact .inl (.inl e)
  · rename_i e; exact .inr ⟨e, h⟩
theorem look_lst {K : PySem.W.Frag} {H : Hp} {a : Addr} {xs : List V} (h : look K H a = some (.lst xs)) : SqL K H a xs := by
  rcases look_rd h with r | ⟨_, r⟩
  · exact .inl r
  · exact kobj_lst r
theorem look_tup {K : PySem.W.Frag} {H : Hp} {a : Addr} {xs : List V} (h : look K H a = some (.tup xs)) : SqT K H a xs := by
  rcases look_rd h with r | ⟨_, r⟩
  · exact .inl r
  · exact kobj_tup r
theorem kobj_no {K : PySem.W.Frag} {a : Addr} {u : HO} (h : kobj K a = some u) : (∃ xs, u = .lst xs) ∨ ∃ xs, u = .tup xs := by
  unfold kobj at h
  split at h
  · split at h
    · split at h
      · split at h
        · split at h
          · cases h; exact .inl ⟨_, rfl⟩
          · split at h
            · cases h; exact .inr ⟨_, rfl⟩
            · cases h
        · cases h
      · cases h
    · cases h
  · cases h
theorem look_dK {K : PySem.W.Frag} {H : Hp} {a : Addr} {kvs : List (Key × V)} (h : look K H a = some (.dK kvs)) : Rd H a (.dK kvs) := by
  rcases look_rd h with r | ⟨_, r⟩
  · exact r
  · rcases kobj_no r with ⟨_, e⟩ | ⟨_, e⟩ <;> cases e
theorem look_of {K : PySem.W.Frag} {H : Hp} {a : Addr} {u : HO} (h : H a = some u) (hu : ∀ o w, u ≠ .frz o w) : look K H a = some u := by
  unfold look
  rw [h]
  cases u <;> first | rfl | exact absurd rfl (hu _ _)
theorem look_of_lst {K : PySem.W.Frag} {H : Hp} {a : Addr} {xs : List V} (h : H a = some (.lst xs)) : look K H a = some (.lst xs) := look_of h fun _ _ z => nomatch z
theorem look_of_tup {K : PySem.W.Frag} {H : Hp} {a : Addr} {xs : List V} (h : H a = some (.tup xs)) : look K H a = some (.tup xs) := look_of h fun _ _ z => nomatch z
theorem look_of_dK {K : PySem.W.Frag} {H : Hp} {a : Addr} {kvs : List (Key × V)} (h : H a = some (.dK kvs)) : look K H a = some (.dK kvs) := look_of h fun _ _ z => nomatch z
theorem look_ne {K : PySem.W.Frag} {H : Hp} {a b : Addr} {o : HO} (h : b ≠ a) : look K (upd H a o) b = look K H b := by
  unfold look; rw [upd_ne h]
theorem look_same {K : PySem.W.Frag} {H : Hp} {a : Addr} {o : HO} (ho : ∀ u w, o ≠ .frz u w) : look K (upd H a o) a = some o := look_of upd_same ho

/-! ## 2. weakenings -/
section
variable {X : Cx}
theorem PE_imp {e : Expr} {t t' : TE} (h : PE X e t) (k : ∀ σ H Q, t' σ H Q → t σ H Q) : PE X e t' := ⟨fun pins s σ H Q I q => h.run pins s σ H Q I (k σ H Q q)⟩
theorem PT_imp {e : Expr} {t t' : TT} (h : PT X e t) (k : ∀ σ H Q, t' σ H Q → t σ H Q) : PT X e t' := ⟨fun pins s σ H Q I q => h.run pins s σ H Q I (k σ H Q q)⟩
theorem PS_imp {e : Stmt} {t t' : TS} (h : PS X e t) (k : ∀ D σ H, t' D σ H → t D σ H) : PS X e t' := ⟨fun pins s σ H D I q => h.run pins s σ H D I (k D σ H q)⟩
theorem PSs_imp {e : List Stmt} {t t' : TS} (h : PSs X e t) (k : ∀ D σ H, t' D σ H → t D σ H) : PSs X e t' := ⟨fun pins s σ H D I q => h.run pins s σ H D I (k D σ H q)⟩
theorem OpR_imp {f : Value → Value → Sem Value} {r r' : R2} (h : OpR X f r) (k : ∀ x y H Q, r' x y H Q → r x y H Q) : OpR X f r' := fun pins s σ H x y v u Q I rx ry q => h pins s σ H x y v u Q I rx ry (k x y H Q q)
theorem CallR_imp {f : Value} {r r' : List V → Hp → VK → Prop} (h : CallR X f r) (k : ∀ xs H Q, r' xs H Q → r xs H Q) : CallR X f r' := fun pins s σ H xs us Q I rx q => h pins s σ H xs us Q I rx (k xs H Q q)
theorem MtR_imp {id : String} {r r' : V → List V → Hp → VK → Prop} (h : MtR X id r) (k : ∀ x xs H Q, r' x xs H Q → r x xs H Q) : MtR X id r' := fun pins s σ H x xs v us Q I rx rs q => h pins s σ H x xs v us Q I rx rs (k x xs H Q q)
end

/-! ## 3. operators by values -/
def oAdd (K : PySem.W.Frag) : R2 := fun x y H Q => match x, y with
  | .int i, .int j => Q (.int (i + j)) H
  | .str a, .str b => a.length + b.length ≤ sizeLine ∧ Q (.str (a ++ b)) H
  | .ref p, .ref q => match H p, H q with
    | some (.lst xs), some (.lst ys) => xs.length + ys.length ≤ sizeLine ∧ ∀ n, H n = none → Q (.ref n) (upd H n (.lst (xs ++ ys)))
    | some (.tup xs), some (.tup ys) => xs.length + ys.length ≤ sizeLine ∧ (xs = [] → Q (.ref q) H) ∧ (xs ≠ [] → ys = [] → Q (.ref p) H) ∧ (xs ≠ [] → ys ≠ [] → ∀ n, H n = none → Q (.ref n) (upd H n (.tup (xs ++ ys))))
    | _, _ => False
  | _, _ => False
def oSub : R2 := fun x y H Q => match x, y with
  | .int i, .int j => Q (.int (i - j)) H
  | _, _ => False
def oMul : R2 := fun x y H Q => match x, y with
  | .int i, .int j => CMulW i j ∧ Q (.int (i * j)) H
  | .str a, .int j => PySem.MulOk a j ∧ Q (.str (Txt.mul a j)) H
  | _, _ => False
def oFdiv : R2 := fun x y H Q => match x, y with
  | .int i, .int j => CDivW i j ∧ Q (.int (i / j)) H
  | _, _ => False
def oMod : R2 := fun x y H Q => match x, y with
  | .int i, .int j => 0 < j ∧ Q (.int (i % j)) H
  | _, _ => False
def oPow : R2 := fun x y H Q => match x, y with
  | .int i, .int j => CPow i j ∧ Q (.int (i ^ j.toNat)) H
  | _, _ => False
def oShl : R2 := fun x y H Q => match x, y with
  | .int i, .int j => CPow i j ∧ Q (.int (i * 2 ^ j.toNat)) H
  | _, _ => False
def oLt : R2 := fun x y H Q => match x, y with
  | .int i, .int j => Q (.bl (decide (i < j))) H
  | .str a, .str b => Q (.bl (decide (a.cps.toList < b.cps.toList))) H
  | _, _ => False
def oLe : R2 := fun x y H Q => match x, y with
  | .int i, .int j => Q (.bl (decide (i ≤ j))) H
  | .str a, .str b => Q (.bl (!decide (b.cps.toList < a.cps.toList))) H
  | _, _ => False
def oGt : R2 := fun x y H Q => match x, y with
  | .int i, .int j => Q (.bl (decide (j < i))) H
  | .str a, .str b => Q (.bl (decide (b.cps.toList < a.cps.toList))) H
  | _, _ => False
def oGe : R2 := fun x y H Q => match x, y with
  | .int i, .int j => Q (.bl (decide (j ≤ i))) H
  | .str a, .str b => Q (.bl (!decide (a.cps.toList < b.cps.toList))) H
  | _, _ => False
def oEq (K : PySem.W.Frag) : R2 := fun x y H Q => (scal x y = true ∧ Q (.bl (decide (x = y))) H) ∨ rEqD K x y H Q
def oNe (K : PySem.W.Frag) : R2 := fun x y H Q => (scal x y = true ∧ Q (.bl (!decide (x = y))) H) ∨ rNeD K x y H Q
def oIs : R2 := fun x y H Q => match y with
  | .non => Q (.bl (decide (x = .non))) H
  | .bl b => (match x with
    | .bl a => Q (.bl (decide (a = b))) H
    | _ => False)
  | _ => False
def oIsNot : R2 := fun x y H Q => match y with
  | .non => Q (.bl (!decide (x = .non))) H
  | .bl b => (match x with
    | .bl a => Q (.bl (!decide (a = b))) H
    | _ => False)
  | _ => False
section
variable {X : Cx}
theorem r_add : OpR X (binaryOp .Add) (oAdd X.K) := by
  refine OpR_imp (op_add.or (op_add_str.or (op_cat.or op_catA))) fun x y H Q h => ?_
  unfold oAdd at h
  split at h
  · exact .inl ⟨_, _, rfl, rfl, h⟩
  · exact .inr (.inl ⟨_, _, rfl, rfl, h.1, h.2⟩)
  · split at h
    · rename_i hp hq
      exact .inr (.inr (.inl ⟨_, _, _, _, rfl, rfl, hp, hq, h.1, h.2⟩))
    · rename_i hp hq
      exact .inr (.inr (.inr ⟨_, _, _, _, rfl, rfl, .of hp, .of hq, h.1, h.2.1, h.2.2.1, h.2.2.2⟩))
    · exact h.elim
  · exact h.elim
theorem r_sub : OpR X (binaryOp .Sub) oSub := OpR_imp op_sub fun x y H Q h => by
  unfold oSub at h
  split at h
  · exact ⟨_, _, rfl, rfl, h⟩
  · exact h.elim
theorem r_mul : OpR X (binaryOp .Mult) oMul := by
  intro pins s σ H x y v u Q I rx ry h
  unfold oMul at h
  split at h
  · exact op_mulW pins s σ H _ _ v u Q I rx ry ⟨_, _, rfl, rfl, h.1, h.2⟩
  · obtain ⟨t1, rfl⟩ := rx
    obtain ⟨t2, rfl⟩ := ry
    exact PySem.SB.mul h.1 fun t' k => ⟨.str _, H, I.tok _, ⟨_, rfl⟩, h.2⟩
  · exact h.elim
theorem r_fdiv : OpR X (binaryOp .FloorDiv) oFdiv := OpR_imp op_fdivW fun x y H Q h => by
  unfold oFdiv at h
  split at h
  · exact ⟨_, _, rfl, rfl, h.1, h.2⟩
  · exact h.elim
theorem r_mod : OpR X (binaryOp .Mod) oMod := OpR_imp op_mod fun x y H Q h => by
  unfold oMod at h
  split at h
  · exact ⟨_, _, rfl, rfl, h.1, h.2⟩
  · exact h.elim
theorem r_pow : OpR X (binaryOp .Pow) oPow := OpR_imp op_pow fun x y H Q h => by
  unfold oPow at h
  split at h
  · exact ⟨_, _, rfl, rfl, h.1, h.2⟩
  · exact h.elim
theorem r_shl : OpR X (binaryOp .LShift) oShl := OpR_imp op_shl fun x y H Q h => by
  unfold oShl at h
  split at h
  · exact ⟨_, _, rfl, rfl, h.1, h.2⟩
  · exact h.elim
theorem r_lt : OpR X (compareOp .Lt) oLt := OpR_imp (op_lt.or op_lt_str) fun x y H Q h => by
  unfold oLt at h
  split at h
  · exact .inl ⟨_, _, rfl, rfl, h⟩
  · exact .inr ⟨_, _, rfl, rfl, h⟩
  · exact h.elim
theorem r_le : OpR X (compareOp .LtE) oLe := OpR_imp (op_le.or op_le_str) fun x y H Q h => by
  unfold oLe at h
  split at h
  · exact .inl ⟨_, _, rfl, rfl, h⟩
  · exact .inr ⟨_, _, rfl, rfl, h⟩
  · exact h.elim
theorem r_gt : OpR X (compareOp .Gt) oGt := OpR_imp (op_gt.or op_gt_str) fun x y H Q h => by
  unfold oGt at h
  split at h
  · exact .inl ⟨_, _, rfl, rfl, h⟩
  · exact .inr ⟨_, _, rfl, rfl, h⟩
  · exact h.elim
theorem r_ge : OpR X (compareOp .GtE) oGe := OpR_imp (op_ge.or op_ge_str) fun x y H Q h => by
  unfold oGe at h
  split at h
  · exact .inl ⟨_, _, rfl, rfl, h⟩
  · exact .inr ⟨_, _, rfl, rfl, h⟩
  · exact h.elim
theorem r_eq (hu : X.A.units + 64 < cLine) : OpR X (compareOp .Eq) (oEq X.K) := op_eq.or (op_eqD hu)
theorem r_ne (hu : X.A.units + 64 < cLine) : OpR X (compareOp .NotEq) (oNe X.K) := op_ne.or (op_neD hu)
theorem r_is : OpR X (compareOp .Is) oIs := OpR_imp (op_isN.or op_is_bl) fun x y H Q h => by
  unfold oIs at h
  split at h
  · exact .inl ⟨rfl, h⟩
  · split at h
    · exact .inr ⟨_, _, rfl, rfl, h⟩
    · exact h.elim
  · exact h.elim
theorem r_isnot : OpR X (compareOp .IsNot) oIsNot := OpR_imp (op_notN.or op_isnot_bl) fun x y H Q h => by
  unfold oIsNot at h
  split at h
  · exact .inl ⟨rfl, h⟩
  · split at h
    · exact .inr ⟨_, _, rfl, rfl, h⟩
    · exact h.elim
  · exact h.elim
end
end WR

set_option Elab.async false
set_option linter.all false
set_option maxRecDepth 100000
set_option maxHeartbeats 4000000
namespace WR
open PySem PySem.Spec PyProof.Rows L2

/-! ## a def's promise where no repr is under way (so that repr of lists may be asked) -/
structure FnW (P : Program) (w : World) (K : PySem.W.Frag) (mg : Str → Option Value) (base : Heap) (CX : CXT) (k : Nat) (f : Addr) (fd : FuncData) (ps : List Str) (sp : Sp) : Prop where
  len : ∀ vs H Q E, sp vs H Q E → vs.length = ps.length
  run : ∀ (A : Around) (outer : List Env) (s : Shared) (H : Hp) (args : Args) (us : List Value) (vs : List V) (Q : VK) (E : XK), Room k A → A.guards = some [] →
    Env0 P w K mg base A outer s H → BindsTo s fd args (ps.zip us) → Vals vs us → sp vs H Q E → codeAny (model P w) A (.call (.ref f) args) (CR CX outer P w H s Q E) s
theorem FnW.false_ {P : Program} {w : World} {K : PySem.W.Frag} {mg : Str → Option Value} {base : Heap} {CX : CXT} {k : Nat} {f : Addr} {fd : FuncData} {ps : List Str} : FnW P w K mg base CX k f fd ps (fun _ _ _ _ => False) :=
  ⟨fun _ _ _ _ z => z.elim, fun _ _ _ _ _ _ _ _ _ _ _ _ _ _ z => z.elim⟩
theorem gd_make {A : Around} (g : A.guards = some []) (C : Addr) (us : List Value) (kw : List (Str × Value)) : (A.under (.builtin "type.__call__" ⟨.ref C :: us, kw⟩)).guards = some [] := by
  have e : (A.under (.builtin "type.__call__" ⟨.ref C :: us, kw⟩)).guards = A.guards := by
    first
      | rfl
      | simp [Around.under, Code.guards, Code.isGuard, guardIds, pushGuards, g]
  rw [e, g]
section
variable {CX : CXT} {P : Program} {w : World} {K : PySem.W.Frag} {mg : Str → Option Value} {base : Heap} {N ps : List Str} {k : Nat} {sp : Sp} {x qual : Str} {params : Arguments} {body : List Stmt} {scope : Scope} {dvs : List V} {kws : List (Str × V)} {f : Addr} {fd : FuncData}
/-- from the reading of its body -/
theorem fnW_of (F : FunD K x qual params body scope dvs kws f fd) (S : FnScope N ps scope) (len : ∀ vs H Q E, sp vs H Q E → vs.length = ps.length)
    (hbody : ∀ (cdv : Value) (A : Around) (outer : List Env) (s : Shared) (H : Hp) (vs : List V) (Q : VK) (E : XK), Room k (A.deeper (envOfC qual scope s.heap.objs.size f cdv)) → A.guards = some [] → sp vs H Q E →
      ∃ t, PSs (cxOf CX P w K mg base N qual scope f cdv A outer s H E) body t ∧ t { nx := fun _ H' => Q .non H', rt := Q } (start N vs) H) : FnW P w K mg base CX (k + 1) f fd ps sp := by
  obtain ⟨oc, od, dV, kV, doc, pm, an, cdv, ct, osl, rfl, lk, hcd, _, _⟩ := F.ex
  constructor
  · exact len
  intro A outer s H args us vs Q E room gd env binds rel want
  have KX : K.In s.heap := env.mod.kin.keeps fun b o z => (env.bs b o z).1
  have nolim : s.heap.NoLimit := env.mod.nolimit.keeps fun b o z => (env.bs b o z).1
  have known : ∀ y ∈ ps.zip us, scope.names.lookup y.1 = some .local ∨ (scope.names.lookup y.1 = some .cell ∧ ((cellsFrom (s.heap.objs.size + 1) scope.names []).lookup y.1).isSome = true) := by
    rintro ⟨n, v⟩ hy
    cases S.par n (List.of_mem_zip hy).1 with
    | inl q => exact .inl q
    | inr q => exact .inr ⟨q, PySem.W.cellsFrom_some _ _ _ (.inl q)⟩
  apply codeAny_call_function room.depth (KX _ _ lk) rfl S.co S.gen rfl (PySem.W.codeRec_of KX hcd)
  apply binds
  apply wpAny_newFunctionEnv_cells S.kind known
  rintro env' rfl s1 inc
  refine ⟨nolim.keeps inc.toInCall.keep, codeAny_func ?_⟩
  obtain ⟨t, ht, hq⟩ := hbody cdv A outer s H vs Q E (room.deeper _) gd want
  have start_ok : Inv (cxOf CX P w K mg base N qual scope f cdv A outer s H E) [] (start N vs) H s1 := inv_start S room.hd env (len _ _ _ _ want) rel inc
  refine wpAny_mono (ht.run [] s1 (start N vs) H _ start_ok hq) ?_ (fun _ _ z => z)
  intro fl s' got
  have back : ∀ {σ' : St} {H' : Hp} {v : V} {u : Value}, Inv (cxOf CX P w K mg base N qual scope f cdv A outer s H E) [] σ' H' s' → RelV v u → Q v H' → CE outer P w H s Q u s' := by
    intro σ' H' v u J rv q
    exact ⟨v, H', J.os, J.bare, J.base, J.hok, rv, q⟩
  match fl, got with
  | .ret u, ⟨v, σ', H', J, rv, q⟩ => exact back J rv q
  | .next, ⟨σ', H', J, q⟩ => exact back (v := .non) (u := .none) J rfl q
  | .brk, ⟨_, _, _, q⟩ => exact q.elim
  | .cont, ⟨_, _, _, q⟩ => exact q.elim
end
/-! ## the promise of a def that is called while an exception is handled: nothing of its reading asks that none is -/
structure FnHW (P : Program) (w : World) (K : PySem.W.Frag) (mg : Str → Option Value) (base : Heap) (CX : CXT) (k : Nat) (f : Addr) (fd : FuncData) (ps : List Str) (sp : Sp) : Prop where
  len : ∀ vs H Q E, sp vs H Q E → vs.length = ps.length
  run : ∀ (A : Around) (outer : List Env) (s : Shared) (H : Hp) (args : Args) (us : List Value) (vs : List V) (Q : VK) (E : XK), L2H.RoomH k A → A.guards = some [] →
    Env0 P w K mg base A outer s H → BindsTo s fd args (ps.zip us) → Vals vs us → sp vs H Q E → codeAny (model P w) A (.call (.ref f) args) (CR CX outer P w H s Q E) s
theorem FnHW.false_ {P : Program} {w : World} {K : PySem.W.Frag} {mg : Str → Option Value} {base : Heap} {CX : CXT} {k : Nat} {f : Addr} {fd : FuncData} {ps : List Str} : FnHW P w K mg base CX k f fd ps (fun _ _ _ _ => False) :=
  ⟨fun _ _ _ _ z => z.elim, fun _ _ _ _ _ _ _ _ _ _ _ _ _ _ z => z.elim⟩
theorem FnHW.w {P : Program} {w : World} {K : PySem.W.Frag} {mg : Str → Option Value} {base : Heap} {CX : CXT} {k : Nat} {f : Addr} {fd : FuncData} {ps : List Str} {sp : Sp} (F : FnHW P w K mg base CX k f fd ps sp) : FnW P w K mg base CX k f fd ps sp :=
  ⟨F.len, fun A outer s H args us vs Q E r gd e b v h => F.run A outer s H args us vs Q E (L2H.roomH_of r) gd e b v h⟩
/-- the context of its body -/
def cxW (CX : CXT) (P : Program) (w : World) (K : PySem.W.Frag) (mg : Str → Option Value) (base : Heap) (N : List Str) (qual : Str) (scope : Scope) (f : Addr) (cd : Value) (A : Around) (outer : List Env) (s : Shared) (H : Hp) (E : XK) : Cx :=
  { cxOf CX P w K mg base N qual scope f cd A outer s H E with calm := false }
section
variable {CX : CXT} {P : Program} {w : World} {K : PySem.W.Frag} {mg : Str → Option Value} {base : Heap} {N ps : List Str} {k : Nat} {sp : Sp} {x qual : Str} {params : Arguments} {body : List Stmt} {scope : Scope} {dvs : List V} {kws : List (Str × V)} {f : Addr} {fd : FuncData}
theorem inv_startW {cd : Value} {A : Around} {outer : List Env} {s s1 : Shared} {H : Hp} {E : XK} {us : List Value} {vs : List V}
    (S : FnScope N ps scope) (e0 : Env0 P w K mg base A outer s H) (hl : vs.length = ps.length) (r : Vals vs us)
    (inc : InCallC s s.heap.objs.size (bindL (envOfC qual scope s.heap.objs.size f cd).kindOf (ps.zip us) fun _ => none) (cellsFrom (s.heap.objs.size + 1) scope.names []) (bindC (envOfC qual scope s.heap.objs.size f cd).kindOf (ps.zip us) fun _ => none) s1) :
    Inv (cxW CX P w K mg base N qual scope f cd A outer s H E) [] (start N vs) H s1 := by
  have e1 : Env0 P w K mg base { A with handled := none } outer s H := ⟨e0.frames, e0.mod, e0.bs, e0.bsz, e0.funs, e0.frf, e0.hok, e0.bare⟩
  have I : Inv (cxOf CX P w K mg base N qual scope f cd { A with handled := none } outer s H E) [] (start N vs) H s1 := inv_start S rfl e1 hl r inc
  have ok := I.ok
  exact ⟨⟨ok.mod, ok.kind, ok.glob, ok.blt, ok.above, ok.inj, ok.has, ok.cab, fun z => Bool.noConfusion (show false = true from z), Around.frames_deeper e0.frames, ok.stk, ok.exf, ok.bs, ok.bsz, ok.noex, ok.exfs, ok.funs, ok.frf⟩, I.os, I.bare, I.base, I.loc, I.cell, I.free, I.freeC, I.pin, I.hok, I.len⟩
/-- from the reading of its body -/
theorem fnHW_of (F : FunD K x qual params body scope dvs kws f fd) (S : FnScope N ps scope) (len : ∀ vs H Q E, sp vs H Q E → vs.length = ps.length)
    (hbody : ∀ (cdv : Value) (A : Around) (outer : List Env) (s : Shared) (H : Hp) (vs : List V) (Q : VK) (E : XK), L2H.RoomH k (A.deeper (envOfC qual scope s.heap.objs.size f cdv)) → A.guards = some [] → sp vs H Q E →
      ∃ t, PSs (cxW CX P w K mg base N qual scope f cdv A outer s H E) body t ∧ t { nx := fun _ H' => Q .non H', rt := Q } (start N vs) H) : FnHW P w K mg base CX (k + 1) f fd ps sp := by
  obtain ⟨oc, od, dV, kV, doc, pm, an, cdv, ct, osl, rfl, lk, hcd, _, _⟩ := F.ex
  constructor
  · exact len
  intro A outer s H args us vs Q E room gd env binds rel want
  have KX : K.In s.heap := env.mod.kin.keeps fun b o z => (env.bs b o z).1
  have nolim : s.heap.NoLimit := env.mod.nolimit.keeps fun b o z => (env.bs b o z).1
  have known : ∀ y ∈ ps.zip us, scope.names.lookup y.1 = some .local ∨ (scope.names.lookup y.1 = some .cell ∧ ((cellsFrom (s.heap.objs.size + 1) scope.names []).lookup y.1).isSome = true) := by
    rintro ⟨n, v⟩ hy
    cases S.par n (List.of_mem_zip hy).1 with
    | inl q => exact .inl q
    | inr q => exact .inr ⟨q, PySem.W.cellsFrom_some _ _ _ (.inl q)⟩
  apply codeAny_call_function room.depth (KX _ _ lk) rfl S.co S.gen rfl (PySem.W.codeRec_of KX hcd)
  apply binds
  apply wpAny_newFunctionEnv_cells S.kind known
  rintro env' rfl s1 inc
  refine ⟨nolim.keeps inc.toInCall.keep, codeAny_func ?_⟩
  obtain ⟨t, ht, hq⟩ := hbody cdv A outer s H vs Q E (room.deeper _) gd want
  have start_ok : Inv (cxW CX P w K mg base N qual scope f cdv A outer s H E) [] (start N vs) H s1 := inv_startW S env (len _ _ _ _ want) rel inc
  refine wpAny_mono (ht.run [] s1 (start N vs) H _ start_ok hq) ?_ (fun _ _ z => z)
  intro fl s' got
  have back : ∀ {σ' : St} {H' : Hp} {v : V} {u : Value}, Inv (cxW CX P w K mg base N qual scope f cdv A outer s H E) [] σ' H' s' → RelV v u → Q v H' → CE outer P w H s Q u s' := by
    intro σ' H' v u J rv q
    exact ⟨v, H', J.os, J.bare, J.base, J.hok, rv, q⟩
  match fl, got with
  | .ret u, ⟨v, σ', H', J, rv, q⟩ => exact back J rv q
  | .next, ⟨σ', H', J, q⟩ => exact back (v := .non) (u := .none) J rfl q
  | .brk, ⟨_, _, _, q⟩ => exact q.elim
  | .cont, ⟨_, _, _, q⟩ => exact q.elim
end
/-- the law's call: the script is an object of its own, known to the object -/
theorem lawW_call {P : Program} {w : World} {K : PySem.W.Frag} {mg mb : Str → Option Value} {CX : CXT} {k : Nat} {fa a : Addr} {fd : FuncData} {x : Str} {sp : Sp} {s₁ : Shared} {vs : List Value} {ns : List Int}
    (KX : K.In s₁.heap) (hns : s₁.heap.Ns mainGlobals mg) (hb : s₁.heap.Ns builtinsNs mb) (hbb : ∀ x : Str, x ≠ "__name__" → mb x = bootBuiltins x) (hlim : s₁.heap.NoLimit) (hg : s₁.gens = #[])
    (ha : s₁.heap.get? a = some { cls := .type "list", data := .seq vs.toArray }) (hi : IntsAre vs ns) (hl : ns.length ≤ sizeLine) (hr : Room k callerA) (hK : K.lookup a = none)
    (F : ∀ base : Heap, K.In base → base.Ns mainGlobals mg → FnW P w K mg base CX k fa fd [x] sp) (hbind : ∀ (s : Shared) (u : Value), BindsTo s fd ⟨[u], []⟩ [(x, u)])
    (hsp : ∀ H : Hp, Only H → (∃ o, H a = some (.frz o (.lst (ns.map V.int)))) → sp [.ref a] H (fun v _ => v = .bl true) fun _ _ _ => False)
    (hCX : ∀ H e s', CX [] H s₁ (fun _ _ _ => False) e s' → False) :
    codeAny (model P w) callerA (.call (.ref fa) ⟨[.ref a], []⟩) (fun r s' => r = .ok (.ret (.bool true)) ∧ OldK s₁.heap s'.heap ∧ s'.os = s₁.os ∧ AllBare s'.gens) s₁ := by
  have rel := vals_ints hi
  let H : Hp := fun b => if b = a then some (.frz { cls := .type "list", data := .seq vs.toArray } (.lst (ns.map V.int))) else none
  have Ha : H a = some (.frz { cls := .type "list", data := .seq vs.toArray } (.lst (ns.map V.int))) := if_pos rfl
  have Hn : ∀ {b : Addr}, b ≠ a → H b = none := fun z => if_neg z
  have only : Only H := fun b => by
    by_cases z : b = a
    · subst z; exact .inr ⟨_, _, Ha⟩
    · exact .inl (Hn z)
  have hok : HOk P w H s₁.heap := fun b u z => by
    by_cases e : b = a
    · subst e
      rw [Ha] at z; cases z
      exact ⟨ha, by rw [List.length_map]; exact hl, vs, _, rel, ha⟩
    · rw [Hn e] at z; cases z
  have hid : ∀ {b : Addr} {o : Obj}, s₁.heap.get? b = some o → b ≠ a → (hidT s₁.heap H).get? b = some o := fun z n => hidT_get z (Hn n)
  have nsK : ∀ {b : Addr} {m : Str → Option Value}, s₁.heap.Ns b m → (hidT s₁.heap H).Ns b m := by
    rintro b m ⟨o, es, ep, z, dd, r⟩
    refine ⟨o, es, ep, hid z ?_, dd, r⟩
    rintro rfl
    rw [ha] at z; cases z; cases dd
  have KB : K.In (hidT s₁.heap H) := fun b o z => hid (KX b o z) fun e => by rw [e, hK] at z; cases z
  have M : Mod K mg (hidT s₁.heap H) := by
    obtain ⟨mc, l1, l2⟩ := hlim
    exact ⟨KB, nsK hns, ⟨mb, nsK hb, hbb⟩, ⟨mc, nsK l1, l2⟩⟩
  have env : Env0 P w K mg (hidT s₁.heap H) callerA [] s₁ H := by
    refine ⟨rfl, M, fun b o z => of_hidT z, Nat.le_of_eq (hidT_size _ _), trivial, ?_, hok, .of_eq hg⟩
    intro b hb
    exact absurd (show b ∈ ([] : List Addr) from hb) (by simp)
  refine codeAny_mono ((F _ KB (nsK hns)).run callerA [] s₁ H ⟨[.ref a], []⟩ [.ref a] [.ref a] _ _ hr rfl env (hbind s₁ (.ref a)) (.cons rfl .nil) (hsp H only ⟨_, Ha⟩)) ?_
  intro r s' got
  match r, got with
  | .error e, got => exact (hCX H e s' got).elim
  | .ok .next, got => exact False.elim got
  | .ok .brk, got => exact False.elim got
  | .ok .cont, got => exact False.elim got
  | .ok (.ret u), got =>
    obtain ⟨v, H', os, bare, un, hok', ru, q⟩ := got
    obtain rfl : v = .bl true := q
    obtain rfl : u = Value.bool true := ru
    refine ⟨rfl, OldK.of_keep fun b o z => ?_, os, bare⟩
    by_cases e : b = a
    · subst e
      rw [ha] at z; cases z
      exact (hok' b _ (un.frzs b _ _ Ha)).1
    · exact un.keep b o z (Hn e) (fun m => absurd (show b ∈ ([] : List Addr) from m) (by simp)) (by simp)
end WR

set_option Elab.async false
set_option linter.all false
set_option maxRecDepth 100000
set_option maxHeartbeats 4000000
/-! ## own exception classes over ValueError, KeyError, LookupError, made by an own __init__(self, x): B.__init__(self, text); self.f = x -/
namespace WRX
open PySem PySem.W PySem.Calls PyProof.Rows PySem.HandSPX
/-- B.__init__ is BaseException's -/
structure XIn (B initId : String) : Prop where
  plain : plainId initId = true
  entry : entryFor table initId = some Builtin.«BaseException.__init__»
  split : splitId initId = some (B, "__init__")
  kind : builtinKind initId = some .slot
  row : Manifest.signature? initId = some ⟨.positional, "*", B, .self, [⟨"args", .varPos, false⟩]⟩
  noStar : (B != "*") = true
inductive XB where | val | key | loo
  deriving DecidableEq
/-- the built-in class -/
def XB.nm : XB → String | .val => "ValueError" | .key => "KeyError" | .loo => "LookupError"
/-- the class that brings __new__ -/
def XB.mk : XB → String | .val => "ValueError" | .key => "LookupError" | .loo => "LookupError"
def XB.new : XB → String | .val => "ValueError.__new__" | .key => "LookupError.__new__" | .loo => "LookupError.__new__"
def XB.ini : XB → String | .val => "ValueError.__init__" | .key => "KeyError.__init__" | .loo => "LookupError.__init__"
def XB.tail : XB → List Value
  | .val => [.type "ValueError", .type "Exception", .type "BaseException", .type "object"]
  | .key => [.type "KeyError", .type "LookupError", .type "Exception", .type "BaseException", .type "object"]
  | .loo => [.type "LookupError", .type "Exception", .type "BaseException", .type "object"]
theorem xin (b : XB) : XIn b.nm b.ini := by
  cases b
  · exact ⟨by decide +kernel, F.excCall_ValueError.initEntry, by kernel_rfl, by kernel_rfl, by kernel_rfl, by decide +kernel⟩
  · exact ⟨by decide +kernel, entryFor_alias (id' := "BaseException.__init__") (by rw [fastTable_eq_tree]; kernel_rfl) (by first | rfl | decide +kernel) (by decide +kernel) (by rw [fastTable_eq_tree]; kernel_rfl),
      by kernel_rfl, by kernel_rfl, by kernel_rfl, by decide +kernel⟩
  · exact ⟨by decide +kernel, F.excCall_LookupError.initEntry, by kernel_rfl, by kernel_rfl, by kernel_rfl, by decide +kernel⟩
theorem xbase (b : XB) : ∃ ini bmB, ExcBaseFacts b.mk b.new ini bmB := by
  cases b
  · exact ⟨_, _, F.excBase_ValueError⟩
  · exact ⟨_, _, F.excBase_LookupError⟩
  · exact ⟨_, _, F.excBase_LookupError⟩
def isRf : Value → Bool
  | .ref _ => true
  | _ => false
/-- own classes, then the built-in tail -/
def tailB (b : XB) (l : List Value) : Bool := decide (l.dropWhile isRf = b.tail)
theorem tail_split {b : XB} {l : List Value} (h : tailB b l = true) : ∃ rs, l = rs ++ b.tail ∧ ∀ r ∈ rs, isRf r = true := by
  have e : l.dropWhile isRf = b.tail := of_decide_eq_true h
  refine ⟨l.takeWhile isRf, ?_, fun r hr => ?_⟩
  · rw [← e, List.takeWhile_append_dropWhile]
  · have aux : ∀ m : List Value, r ∈ m.takeWhile isRf → isRf r = true := by
      intro m
      induction m with
      | nil => intro z; cases z
      | cons x m ih =>
        intro z
        rw [List.takeWhile_cons] at z
        split at z
        · rcases List.mem_cons.mp z with rfl | z
          · assumption
          · exact ih z
        · cases z
    exact aux l hr
theorem rfs_has {X : String} : ∀ {rs : List Value}, (∀ r ∈ rs, isRf r = true) → rs.contains (.type X) = false
  | [], _ => rfl
  | r :: rs, h => by
    have h1 := h r (List.mem_cons_self ..)
    rw [List.contains_cons, rfs_has fun q hq => h q (List.mem_cons_of_mem _ hq), Bool.or_false]
    cases r <;> first | rfl | (simp [isRf] at h1; done)
theorem tail_has {b : XB} {l : List Value} (h : tailB b l = true) (X : String) : l.contains (.type X) = b.tail.contains (.type X) := by
  obtain ⟨rs, rfl, hr⟩ := tail_split h
  rw [List.contains_eq_any_beq, List.any_append, ← List.contains_eq_any_beq, ← List.contains_eq_any_beq, rfs_has hr, Bool.false_or]
theorem tail_pass {b : XB} (self : Value) {l : List Value} (h : tailB b l = true) : refuseLoop self "__setattr__" l = pure () := by
  obtain ⟨rs, rfl, hr⟩ := tail_split h
  induction rs with
  | nil => cases b <;> kernel_rfl
  | cons r rs ih =>
    have h1 := hr r (List.mem_cons_self ..)
    cases r <;> first | (simp [isRf] at h1; done) | skip
    rw [List.cons_append, refuseLoop_ref]
    have h2 : tailB b (rs ++ b.tail) = true := by
      have : ((.ref _ :: rs) ++ b.tail).dropWhile isRf = b.tail := of_decide_eq_true h
      rw [List.cons_append, List.dropWhile_cons] at this
      exact decide_eq_true this
    exact ih (fun q hq => hr q (List.mem_cons_of_mem _ hq)) h2
theorem tail_ne {b : XB} {l : List Value} (h : tailB b l = true) : l.isEmpty = false := by
  obtain ⟨rs, rfl, hr⟩ := tail_split h
  cases rs <;> cases b <;> rfl
section
variable {M : Model} {A : Around} {E : Value → Shared → Prop} {h : Heap} {g : Array GenState} {d : Drawn} {t : Nat} {os : OsState}
variable {nm q : Str} {C N : Addr} {bs bm bmB : List Value} {hdct : Bool} {sn : List Str} {sub : List Value} {ab : Bool} {col : Option Bool} {dd : Option Addr} {k0 k1 k2 k3 k5 : Option Value} {B newId initId : String}
theorem xm_check (F : ExcBaseFacts B newId initId bmB) (hB : bm.contains (.type B) = true) {rest : List Value} {Q : Unit → Shared → Prop}
    (hC : h.get? C = some (excClassObj nm q C N bs bm hdct sn sub ab col dd k0 k1 k2 k3 k5 newId)) (hq : Q () ⟨h, g, d, t, os⟩) :
    wpAny M A (checkBuiltinCall newId ⟨.ref C :: rest, []⟩) Q E ⟨h, g, d, t, os⟩ := by
  have into : (Value.ref C :: bm).contains (.type B) = true := by simp only [List.contains_cons, hB, Bool.or_true]
  have star := F.noStar
  simp only [checkBuiltinCall, F.newSplit, F.newKind, F.newRow]
  repeat (first
    | refine wpAny_loadPart_at hC ?_
    | (refine wpAny_isSubtype_exc hC ?_; rw [into])
    | refine wpAny_staticBase_exc hC ?_
    | refine wpAny_madeBy_exc hC ?_
    | simp only [bne_self_eq_false, Bool.false_eq_true, if_false]
    | wp_step)
  exact hq
theorem xm_check_init (J : XIn B initId) (hB : bm.contains (.type B) = true) {e : Addr} {oe : Obj} {rest : List Value} {Q : Unit → Shared → Prop}
    (hC : h.get? C = some (excClassObj nm q C N bs bm hdct sn sub ab col dd k0 k1 k2 k3 k5 newId)) (he : h.get? e = some oe) (hcls : oe.cls = .ref C) (hq : Q () ⟨h, g, d, t, os⟩) :
    wpAny M A (checkBuiltinCall initId ⟨.ref e :: rest, []⟩) Q E ⟨h, g, d, t, os⟩ := by
  have into : (Value.ref C :: bm).contains (.type B) = true := by simp only [List.contains_cons, hB, Bool.or_true]
  have star := J.noStar
  simp only [checkBuiltinCall, J.split, J.kind, J.row]
  repeat (first
    | (with_reducible refine wpAny_loadPart_at he ?_; rw [hcls])
    | with_reducible refine wpAny_loadPart_at hC ?_
    | (with_reducible refine wpAny_isSubtype_exc hC ?_; rw [into])
    | wp_step)
  refine wpAny_onRaise ?_
  have star_ok : ∀ (a b : String) (n : Nat), Bind.check ⟨.positional, "*", B, .self, [⟨"args", .varPos, false⟩]⟩ a b n (List.map (fun x => x.fst) ({ pos := Value.ref e :: rest } : Args).kw) = pure () :=
    fun a b n => check_star_args _ _ _ _ _ _
  rw [star_ok]
  exact wpAny_pure hq
end
section
variable {prog : Program} {w : World} {A : Around} {E : Value → Shared → Prop} {R : Result → Shared → Prop} {h : Heap} {g : Array GenState} {d : Drawn} {t : Nat} {os : OsState}
variable {nm q : Str} {C N : Addr} {bs bm bmB : List Value} {hdct : Bool} {sn : List Str} {sub : List Value} {ab : Bool} {col : Option Bool} {dd : Option Addr} {k0 k1 k2 k3 k5 : Option Value} {B newId initId : String}
theorem xm_new (F : ExcBaseFacts B newId initId bmB) (hB : bm.contains (.type B) = true) (hA : bm.contains (.type "AttributeError") = false) (hN : bm.contains (.type "NameError") = false) {rest : List Value}
    (hC : h.get? C = some (excClassObj nm q C N bs bm hdct sn sub ab col dd k0 k1 k2 k3 k5 newId))
    (hq : R (.ok (.ret (.ref (h.objs.size + 1)))) ⟨(h.push (kdv_tup rest)).push (excO C h.objs.size), g, d, t, os⟩) (hrest : rest.length ≤ sizeLine) :
    codeAny (model prog w) A (.builtin newId ⟨.ref C :: rest, []⟩) R ⟨h, g, d, t, os⟩ := by
  have hends := F.ends
  have b1 : (Value.ref C :: bm).contains (.type B) = true := by simp only [List.contains_cons, hB, Bool.or_true]
  have b2 : (Value.ref C :: bm).contains (.type "AttributeError") = false := by simp only [List.contains_cons, hA]; rfl
  have b3 : (Value.ref C :: bm).contains (.type "NameError") = false := by simp only [List.contains_cons, hN]; rfl
  apply codeAny_builtinAt F.entry
  unfold Builtin.«BaseException.__new__»
  refine PySem.wpAt_bind ?_
  show PySem.wpAt _ _ _ (stack >>= _) _ _ _
  refine PySem.wpAt_bind (PySem.wpAt_stack fun p below => PySem.wpAt_of_wpAny ?_)
  wp_walk
  apply PySem.wpAt_of_wpAny
  rw [F.owner]
  repeat (first
    | with_reducible refine wpAny_madeHere_exc F.canon hC ?_
    | with_reducible refine wpAny_loadPart_at hC ?_
    | (with_reducible refine wpAny_isSubtype_exc hC ?_; first | rw [b1] | rw [b2] | rw [b3])
    | wp_step)
  show R _ _
  rw [Heap.size_push]
  exact hq
theorem xm_type_call (F : ExcBaseFacts B newId initId bmB) (hB : bm.contains (.type B) = true) (hA : bm.contains (.type "AttributeError") = false) (hN : bm.contains (.type "NameError") = false) {rest : List Value} {fI : Addr} {Q : Fin → Shared → Prop}
    (hC : h.get? C = some (excClassObj nm q C N bs bm hdct sn sub ab col dd k0 k1 k2 k3 k5 newId))
    (hi : Looks (model prog w) h (typeLookup (.ref C) "__init__") (some (.ref fI))) (hb : ∀ self, Looks (model prog w) h (bindSpecial (.ref fI) self) (.ref fI, [self])) (hrest : rest.length ≤ sizeLine)
    (hq : codeAny (model prog w) A (.call (.ref fI) ⟨.ref (h.objs.size + 1) :: rest, []⟩)
      (fun r s' => match r with | .ok (.ret v) => v = .none ∧ Q (.done (.ret (.ref (h.objs.size + 1)))) s' | .ok _ => False | .error e => E e s')
      ⟨(h.push (kdv_tup rest)).push (excO C h.objs.size), g, d, t, os⟩) :
    wpAny (model prog w) A (Builtin.«type.__call__» ⟨.ref C :: rest, []⟩) Q E ⟨h, g, d, t, os⟩ := by
  repeat (first
    | with_reducible refine wpAny_loadPart_at hC ?_
    | with_reducible refine wpAny_madeBy_exc hC ?_
    | wp_step)
  apply codeAny_call_builtin_code (Code.quiet_builtin _ F.quiet)
  apply xm_check F hB hC
  refine xm_new F hB hA hN hC ?_ hrest
  show wpAny _ _ _ _ _ _
  have k : ∀ b o, h.get? b = some o → ((h.push (kdv_tup rest)).push (excO C h.objs.size)).get? b = some o := fun b o z => Heap.get?_push_of_some _ (Heap.get?_push_of_some _ z)
  have C1 := k _ _ hC
  have new_ : ((h.push (kdv_tup rest)).push (excO C h.objs.size)).get? (h.objs.size + 1) = some (excO C h.objs.size) := by heap_get
  have self_ : (Value.ref C :: bm).contains (.ref C) = true := by simp
  have i1 := hi.keeps k
  have b1 := (hb (.ref (h.objs.size + 1))).keeps k
  unfold isInstance
  repeat (first
    | with_reducible refine wpAny_loadPart_at new_ ?_
    | (with_reducible refine wpAny_isSubtype_exc C1 ?_; rw [self_])
    | wp_step)
  show wpAny _ _ (typeLookup (.ref C) _) _ _ _
  refine i1.at (wpAny_holding (wpAny_bind (b1.at (wpAny_bind (wpAny_call (codeAny_mono hq fun r s' z => ?_))))))
  rcases r with e | (v | _ | _ | _) <;> first | exact z | exact False.elim z | skip
  obtain ⟨rfl, z⟩ := z
  first
    | exact wpAny_pure (wpAny_pure z)
    | (wp_walk; exact z)
theorem xm_call (F : ExcBaseFacts B newId initId bmB) (hB : bm.contains (.type B) = true) (hA : bm.contains (.type "AttributeError") = false) (hN : bm.contains (.type "NameError") = false) {rest : List Value} {fI : Addr}
    (hC : h.get? C = some (excClassObj nm q C N bs bm hdct sn sub ab col dd k0 k1 k2 k3 k5 newId))
    (hi : Looks (model prog w) h (typeLookup (.ref C) "__init__") (some (.ref fI))) (hb : ∀ self, Looks (model prog w) h (bindSpecial (.ref fI) self) (.ref fI, [self])) (hrest : rest.length ≤ sizeLine)
    (hq : codeAny (model prog w) (A.under (.builtin "type.__call__" ⟨.ref C :: rest, []⟩)) (.call (.ref fI) ⟨.ref (h.objs.size + 1) :: rest, []⟩) (InitBack (h.objs.size + 1) R)
      ⟨(h.push (kdv_tup rest)).push (excO C h.objs.size), g, d, t, os⟩) :
    codeAny (model prog w) A (.call (.ref C) ⟨rest, []⟩) R ⟨h, g, d, t, os⟩ := by
  have l1 := tc_lookup
  have l2 := tc_bind (.ref C)
  have ty : (⟨h, g, d, t, os⟩ : Shared).TypeIs (.ref C) "type" := ⟨_, hC, rfl⟩
  apply codeAny_of_tree
  show wpAny _ _ (callAny (.ref C) _) _ _ _
  repeat (any_goals (first
    | assumption
    | with_reducible refine wpAny_loadPart_at hC ?_
    | wp_step))
  refine ⟨rfl, codeAny_call_builtin_at (Code.quiet_builtin _ (by decide +kernel)) entry_typeCall (wpAny_check_type_call_sub hC (xm_type_call F hB hA hN hC hi hb hrest ?_))⟩
  refine codeAny_mono hq fun r s' z => ?_
  rcases r with e | (v | _ | _ | _) <;> exact z
/-- B.__init__(e, ..): the args are laid anew -/
theorem xm_init (J : XIn B initId) (hB : bm.contains (.type B) = true) {e t0 : Addr} {rest : List Value}
    (hC : h.get? C = some (excClassObj nm q C N bs bm hdct sn sub ab col dd k0 k1 k2 k3 k5 newId)) (he : h.get? e = some (excO C t0)) (hrest : rest.length ≤ sizeLine)
    (hq : ∀ h' t1, (∀ b o, b ≠ e → h.get? b = some o → h'.get? b = some o) → h'.get? e = some (excO C t1) → R (.ok (.ret .none)) ⟨h', g, d, t, os⟩) :
    codeAny (model prog w) A (.call (.builtin initId) ⟨.ref e :: rest, []⟩) R ⟨h, g, d, t, os⟩ := by
  apply codeAny_call_builtin J.plain J.entry
  apply xm_check_init J hB hC he rfl
  wp_walk
  apply hq _ h.objs.size
  · intro b o hb ho
    rw [Heap.get?_update_other _ _ (Ne.symm hb)]
    exact Heap.get?_push_of_some _ ho
  · rw [Heap.get?_update_self _ (Heap.get?_push_of_some _ he) rfl]
    rfl
end
section
open Builtin Builtin.ObjectAttr
variable {prog : Program} {w : World} {A : Around} {R : Result → Shared → Prop} {hp : Heap} {g : Array GenState} {d : Drawn} {t : Nat} {os : OsState}
/-- the first field of an exception that has no dict yet -/
theorem xm_osa {K : W.Frag} {b : XB} {name : Str} {tk : Tok} {v : Value} {x C : Addr} {fv : Array Value} {cd : ClassData}
    (X : K.In hp) (hx : hp.get? x = some { cls := .ref C, data := .fields fv }) (hcd : W.clsIn K C = some cd) (hm : tailB b cd.mro = true) (hh : cd.hasDict = true) (ha : W.findIn K (.ref C) name = some none)
    (hq : ∀ h' tk' dx, (∀ b o, b ≠ x → hp.get? b = some o → h'.get? b = some o) → hp.objs.size ≤ dx → dx ≠ x → h'.get? x = some { cls := .ref C, dict := some dx, data := .fields fv } →
      h'.Ns1 dx (fun y => if y = name then some v else none) → R (.ok (.ret .none)) ⟨h', g, d, tk', os⟩) :
    codeAny (model prog w) A (.call (.builtin "object.__setattr__") ⟨[.ref x, .str name tk, v], []⟩) R ⟨hp, g, d, t, os⟩ := by
  have I : W.InstAt hp x { cls := .ref C, data := .fields fv } C none := ⟨hx, rfl, rfl, trivial⟩
  have SF := F.store_object
  have ne := tail_ne hm
  have hob : cd.mro.contains (.type "object") = true := by
    rw [tail_has hm]
    cases b <;> decide +kernel
  have apart : x ≠ hp.objs.size := Nat.ne_of_lt (Heap.lt_size hx)
  have into : W.mroIn K C (.type "object") = some true := by
    unfold W.mroIn
    rw [hcd, Option.bind_some, ne, hob]
    rfl
  have sub : W.Looks (model prog w) hp (isInstance (.ref x) (.type "object")) true := I.type.andThen (W.looks_mroIn X into)
  apply codeAny_call_builtin SF.slot.plain SF.entry
  apply @W.check_slot (model prog w) _ _ ⟨hp, g, d, t, os⟩ "object.__setattr__" "object" "__setattr__" (.ref x) [.str name tk, v] [] _ SF.kind SF.split sub (SF.args (.ref x) (.str name tk) v)
  have hmr : W.Looks (model prog w) hp (mroOf (.ref C)) cd.mro := (W.looks_clsIn X hcd).andThen .now
  have none_ : W.Looks (model prog w) hp (storeTaker? none) none := .now
  have cls_ : W.Looks (model prog w) hp (classData C) cd := W.looks_clsIn X hcd
  rw [W.osa_eq, refuse_eq]
  apply wpAny_bind
  apply wpAny_bind
  refine I.type.at (wpAny_bind (hmr.at ?_))
  rw [tail_pass _ hm]
  refine wpAny_pure (wpAny_bind (I.type.at (wpAny_bind ((W.looks_findIn X ha).at (wpAny_bind (none_.at ?_))))))
  show wpAny _ _ (storeInOwnDict (.ref x) (.ref C) (.str name tk) name v false) _ _ _
  obtain ⟨nm, bs, mro, ns, qn, hd, sn, sb, ab, col, del⟩ := cd
  dsimp only at hh
  subst hh
  unfold storeInOwnDict ownDictForStores
  repeat (first
    | with_reducible refine store_in_new ?_ ?_
    | with_reducible refine wpAny_loadPart_at hx ?_
    | with_reducible refine cls_.at ?_
    | wp_step)
  · exact ⟨_, #[], _, (Heap.get?_update_ne _ _ _ _ apart.symm).trans (Heap.get?_push_at rfl rfl), rfl, fun e he => absurd he (by simp), fun _ => rfl⟩
  · intro h' tk' hn' hs
    have hx1 : (hp.push { cls := .type "dict", data := .dict #[] }).get? x = some { cls := .ref C, data := .fields fv } := Heap.get?_push_of_some _ hx
    apply hq h' tk' hp.objs.size
    · intro b o hb ho
      exact (hs.2 b (Nat.ne_of_lt (Heap.lt_size ho))).trans ((Heap.get?_update_ne _ _ _ _ hb).trans (Heap.get?_push_of_some _ ho))
    · exact Nat.le_refl _
    · exact apart.symm
    · exact (hs.2 x apart).trans (Heap.get?_update_self _ hx1 rfl)
    · exact hn'
end
end WRX

set_option Elab.async false
set_option linter.all false
set_option maxRecDepth 100000
set_option maxHeartbeats 4000000
namespace WR
open PySem PySem.Spec PyProof.Rows L2
open WRX (XB tailB)
/-! ## own exceptions, made by C(e) where C's __init__ says B.__init__(self, text); self.f = x -/
/-- what the written part says of such a class -/
structure XcC (K : PySem.W.Frag) (b : XB) (C : Addr) : Prop where
  cls : ∃ nm q N bs bm sn sub ab col dd k0 k1 k2 k3 k5, K.lookup C = some (excClassObj nm q C N bs bm true sn sub ab col dd k0 k1 k2 k3 k5 b.new) ∧ tailB b bm = true
  sa : PySem.W.findIn K (.ref C) "__setattr__" = some (some (.builtin "object.__setattr__"))
  exC : PySem.W.subIn K (.ref C) (.type "BaseException") = some true
  tyC : PySem.W.typeIn K (.ref C) = some (.type "type")
  kC : PySem.W.keepIn K (.ref C) = true
def xcO (b : XB) (C : Addr) (o : Obj) : Bool := match o with
  | ⟨.type t, _, .cls ⟨_, _, .ref C' :: bm, _, _, true, _, _, _, _, false⟩, sl⟩ => (t == "type") && (decide (C' = C) && (tailB b bm && (match sl.toList with
    | [_, _, _, _, some (.builtin id), _] => id == b.new
    | _ => false)))
  | _ => false
theorem xcO_ok {b : XB} {C : Addr} {o : Obj} (h : xcO b C o = true) : ∃ nm q N bs bm sn sub ab col dd k0 k1 k2 k3 k5, o = excClassObj nm q C N bs bm true sn sub ab col dd k0 k1 k2 k3 k5 b.new ∧ tailB b bm = true := by
  unfold xcO at h
  split at h
  · simp only [Bool.and_eq_true, decide_eq_true_eq, beq_iff_eq] at h
    obtain ⟨rfl, rfl, h2, h3⟩ := h
    split at h3
    · rename_i e
      have e3 := beq_iff_eq.mp h3
      subst e3
      have e5 : ∀ {sl : Array (Option Value)} {l : List (Option Value)}, sl.toList = l → sl = l.toArray := fun z => Array.ext' z
      rw [e5 e]
      exact ⟨_, _, _, _, _, _, _, _, _, _, _, _, _, _, _, rfl, h2⟩
    · cases h3
  · cases h
def xcB (K : PySem.W.Frag) (b : XB) (C : Addr) : Bool := (match K.lookup C with | some o => xcO b C o | none => false) && (decide (PySem.W.findIn K (.ref C) "__setattr__" = some (some (.builtin "object.__setattr__"))) &&
  (decide (PySem.W.subIn K (.ref C) (.type "BaseException") = some true) && (decide (PySem.W.typeIn K (.ref C) = some (.type "type")) && PySem.W.keepIn K (.ref C))))
theorem xcB_ok {K : PySem.W.Frag} {b : XB} {C : Addr} (h : xcB K b C = true) : XcC K b C := by
  unfold xcB at h
  simp only [Bool.and_eq_true, decide_eq_true_eq] at h
  obtain ⟨h1, h2, h3, h4, h5⟩ := h
  refine ⟨?_, h2, h3, h4, h5⟩
  split at h1
  · rename_i o e
    obtain ⟨nm, q, N, bs, bm, sn, sub, ab, col, dd, k0, k1, k2, k3, k5, rfl, ht⟩ := xcO_ok h1
    exact ⟨nm, q, N, bs, bm, sn, sub, ab, col, dd, k0, k1, k2, k3, k5, e, ht⟩
  · cases h1
section
variable {X : Cx} {pins : List (Addr × Obj)} {σ : St} {H : Hp} {s : Shared} {a C dx P : Addr} {f : Str} {y : V} {u : Value} {fs : List (Str × V)} {b : XB}
/-- self.f = y, the first one -/
theorem ox_set {Q : Unit → Shared → Prop} {E : Value → Shared → Prop} {A : Around} (T : XcC X.K b C) (I : Inv X pins σ H s) (e : H a = some (exo a C none)) (hno : PySem.W.findIn X.K (.ref C) f = some none) (ry : RelV y u)
    (h : ∀ dx s', H dx = none → dx ≠ a → Inv X pins σ (upd (upd H dx (exd dx [(f, y)])) a (exo a C (some dx))) s' → Q () s') : wpAny (model X.prog X.w) A (setAttr (.ref a) f u) Q E s := by
  obtain ⟨nm, q, N, bs, bm, sn, sub, ab, col, dd, k0, k1, k2, k3, k5, hC, hbm⟩ := T.cls
  have data : PySem.W.clsIn X.K C = some { name := nm, bases := bs, mro := .ref C :: bm, ns := N, qualname := q, hasDict := true, slotNames := sn, subclasses := sub, abstract := ab, collection := col, hasDel := false } := by
    unfold PySem.W.clsIn
    rw [hC] <;> rfl
  obtain ⟨t1, there⟩ := exo_at I.hok e
  obtain ⟨hp, g, d, t, os⟩ := s
  have tl : tailB b (.ref C :: bm) = true := by
    unfold tailB
    rw [List.dropWhile_cons]
    exact hbm
  apply PySem.W.set_plain I.kIn (ox := { cls := .ref C, dict := none, data := .fields #[.ref t1, .none, .none, .none, .bool false, .none] }) (od := none) ⟨there, rfl, rfl, trivial⟩ T.sa
  apply WRX.xm_osa I.kIn there data tl rfl hno
  intro h' tk' dx keep far apart ox ns
  have free : H dx = none := I.hok.fresh far
  have low : ∀ {c : Addr} {o : Obj}, hp.get? c = some o → c ≠ dx := fun z => Nat.ne_of_lt (Nat.lt_of_lt_of_le (Heap.lt_size z) far)
  have not_a : ∀ {c : Addr}, H c = none → c ≠ a := by
    rintro c n rfl
    rw [e] at n
    cases n
  have un : Un X.fs [] H (upd (upd H dx (exd dx [(f, y)])) a (exo a C (some dx))) hp h' := by
    constructor
    · intro c o z n _ _
      exact keep c o (not_a n) z
    · intro c o z n _ _
      exact ⟨o.slots, keep c o (not_a n) z⟩
    · intro c o z n _
      rw [upd_ne (not_a n), upd_ne (low z)]
      exact n
    · intro c o z _
      by_cases q : c = a
      · subst q
        exact ⟨_, ox⟩
      · exact ⟨o, keep c o q z⟩
    · intro c xs z
      rw [upd_ne (at_ne e z exo_tup), upd_ne (ne_of_none z free)]
      exact z
    · intro c o v z
      rw [upd_ne (at_ne e z exo_frz), upd_ne (ne_of_none z free)]
      exact z
    · intro c ps z
      refine ⟨#[], ?_⟩
      rw [upd_ne (at_ne e z exo_tbl), upd_ne (ne_of_none z free), z]
      simp
  refine h dx _ free apart (I.un (t' := tk') un ?_)
  intro c o z
  by_cases q : c = a
  · subst q
    rw [upd_same] at z
    cases z
    exact exo_ok ox
  rw [upd_ne q] at z
  by_cases q2 : c = dx
  · subst q2
    rw [upd_same] at z
    cases z
    exact exd_ok ns (relO_put (fs := []) ry fun _ => True.intro)
  rw [upd_ne q2] at z
  refine (I.hok c o z).stay ?_ ?_ ?_
  · intro c2 v hc k
    refine keep c2 v ?_ k
    rcases hc with rfl | hc
    · exact q
    · exact at_ne e hc exo_own
  · intro c2 hc
    rw [upd_ne (at_ne e hc exo_own), upd_ne (ne_of_none hc free)]
    exact hc
  · intro c2 xs hc
    rw [upd_ne (at_ne e hc exo_tup), upd_ne (ne_of_none hc free)]
    exact hc
/-- B.__init__(self, ..) -/
theorem ox_init {us : List Value} {Q : Value → Shared → Prop} (T : XcC X.K b C) (I : Inv X pins σ H s) (e : H a = some (exo a C none)) (hl : us.length ≤ sizeLine) (h : ∀ s', Inv X pins σ H s' → Q .none s') :
    wpAny (model X.prog X.w) X.A (call (.builtin b.ini) (.ref a :: us)) Q X.xe s := by
  obtain ⟨nm, q, N, bs, bm, sn, sub, ab, col, dd, k0, k1, k2, k3, k5, hC, hbm⟩ := T.cls
  obtain ⟨t1, there⟩ := exo_at I.hok e
  obtain ⟨hp, g, d, t, os⟩ := s
  have into : bm.contains (.type b.nm) = true := by
    rw [WRX.tail_has hbm]
    cases b <;> decide +kernel
  refine wpAny_call (WRX.xm_init (WRX.xin b) into (I.kIn _ _ hC) there hl fun h' t2 keep ox => ?_)
  have J := I.write (t' := t) (x := a) (e := a) (o := exo a C none) (by rw [e]; exact True.intro) (.inl rfl) keep ⟨_, ox⟩ (exo_ok ox)
  have same : upd H a (exo a C none) = H := funext fun c => by
    by_cases q : c = a
    · rw [q, upd_same, e]
    · rw [upd_ne q]
  rw [same] at J
  exact h _ J
/-- attributes of the class P are read plainly, its __init__ is B's -/
structure XpC (K : PySem.W.Frag) (b : XB) (P : Addr) : Prop where
  rd : PySem.W.readsIn K P (.type "type") = true
  ga : PySem.W.specialIn K (.ref P) "__getattribute__" = some (some (.builtin "type.__getattribute__"))
  ini : ∃ r, PySem.W.findCls K (.ref P) (.type "type") "__init__" = some r ∧ r = .val (.builtin b.ini)
def isV (r : Option PySem.W.CFound) (id : String) : Bool := match r with
  | some (.val (.builtin i)) => i == id
  | _ => false
def xpB (K : PySem.W.Frag) (b : XB) (P : Addr) : Bool := PySem.W.readsIn K P (.type "type") && (decide (PySem.W.specialIn K (.ref P) "__getattribute__" = some (some (.builtin "type.__getattribute__"))) &&
  isV (PySem.W.findCls K (.ref P) (.type "type") "__init__") b.ini)
theorem xpB_ok {K : PySem.W.Frag} {b : XB} {P : Addr} (h : xpB K b P = true) : XpC K b P := by
  unfold xpB at h
  simp only [Bool.and_eq_true, decide_eq_true_eq] at h
  refine ⟨h.1, h.2.1, ?_⟩
  have h3 := h.2.2
  unfold isV at h3
  split at h3
  · rename_i i e
    exact ⟨_, e, by rw [beq_iff_eq.mp h3]⟩
  · cases h3
end
/-- what it promises -/
def spX (b : XB) (K : PySem.W.Frag) (f : Str) : Sp := fun vs H Q _ => ∃ a y C, vs = [.ref a, y] ∧ XcC K b C ∧ PySem.W.findIn K (.ref C) f = some none ∧ H a = some (exo a C none) ∧ ∀ dx, H dx = none → dx ≠ a → Q .non (upd (upd H dx (exd dx [(f, y)])) a (exo a C (some dx)))
end WR

set_option Elab.async false
set_option linter.all false
set_option maxRecDepth 100000
set_option maxHeartbeats 4000000
namespace WR
open PySem PySem.Spec PyProof.Rows L2

/-! ## 4. what the text's names mean -/
/-- a def of the module, called with n written values and the keywords ks; arr puts them (and the defaults) in the parameters' order -/
structure FnI where
  name : Str
  n : Nat
  ks : List Str
  arr : List V → List V → List V
  sp : Sp
/-- a method of the class at cls (n, ks, arr: behind self) -/
structure MtI where
  cls : Addr
  name : Str
  n : Nat
  ks : List Str
  arr : List V → List V → List V
  sp : Sp
/-- a class whose instances are made by an own __init__ (n, ks, arr: behind self) -/
structure MkI where
  name : Str
  cls : Addr
  n : Nat
  ks : List Str
  arr : List V → List V → List V
  sp : Sp
/-- an own exception class whose __init__ keeps its one value under f -/
structure XcI where
  name : Str
  C : Addr
  f : Str
structure G where
  K : PySem.W.Frag
  fns : List FnI
  cons : List (Str × V)
  blt : List Str
  mts : List MtI
  mks : List MkI
  ats : List (Str × List Addr)
  nes : List (Str × Addr) := []
  xcs : List XcI := []
  tps : List (Str × List V) := []
  hfs : List FnI := []   -- defs that a suite may call

/-- a tuple of the written part, plain -/
def tupB (K : PySem.W.Frag) (a : Addr) : Bool := match K.lookup a with
  | some o => (match o.cls with
    | .type c => c == "tuple"
    | _ => false) && o.dict.isNone
  | none => false
theorem tupB_ok {K : PySem.W.Frag} {a : Addr} (h : tupB K a = true) : ∃ o, K.lookup a = some o ∧ o.cls = .type "tuple" ∧ o.dict = none := by
  unfold tupB at h
  split at h
  · rename_i o e
    obtain ⟨h1, h2⟩ := Bool.and_eq_true_iff.mp h
    refine ⟨o, e, ?_, Option.isNone_iff_eq_none.mp h2⟩
    split at h1
    · rename_i c ec; rw [ec, beq_iff_eq.mp h1]
    · cases h1
  · cases h
/-- sys.modules stands in the written part, a dict -/
def isDctO (o : Obj) : Bool := match o.data with
  | .dict _ _ => true
  | _ => false
def sysB (K : PySem.W.Frag) : Bool := match K.lookup sysModules with
  | some o => isDctO o
  | none => false
def basics : List String := ["NoneType", "bool", "int", "str", "list", "tuple", "dict"]
/-- what an own class must say, so that != and isinstance ask rightly -/
def ownB (K : PySem.W.Frag) (C : Addr) : Bool := decide (PySem.W.findIn K (.ref C) "__ne__" = some (some (.builtin "object.__ne__"))) && (decide (PySem.W.findIn K (.ref C) "__class__" = some (some (.builtin "object.__class__"))) &&
  (decide (PySem.W.specialIn K (.builtin "object.__class__") "__get__" = some (some (.builtin "getset_descriptor.__get__"))) && (decide (PySem.W.takesIn K (.builtin "object.__class__") = some true) && (decide (PySem.W.mroIn K C (.type "object") = some true) &&
  (decide (PySem.W.kitOne K (.ref C) (.ref C) = some true) && basics.all fun n => decide (PySem.W.kitOne K (.type n) (.ref C) = some false))))))
/-- .. and that they mean it -/
structure GOk (g : G) (P : Program) (w : World) (mg : Str → Option Value) (base : Heap) (lev : Nat) : Prop where
  fns : ∀ f ∈ g.fns, ∃ fa fd ps gf, mg f.name = some (.ref fa) ∧ PySem.W.keepIn g.K (.ref fa) = true ∧ FnW P w g.K mg base (L2.CX P w) lev fa fd ps f.sp ∧ KBn g.K fd ps f.n f.ks gf f.arr
  cons : ∀ p ∈ g.cons, ∃ u, mg p.1 = some u ∧ RelV p.2 u
  blt : ∀ x ∈ g.blt, mg x = none
  mts : ∀ m ∈ g.mts, ∃ fa fd ps gf, Cls g.K m.cls ∧ Meth g.K m.cls m.name fa ∧ FnW P w g.K mg base (L2.CX P w) lev fa fd ps m.sp ∧ KBn g.K fd ps (m.n + 1) m.ks gf (fun vs zs => match vs with | v :: r => v :: m.arr r zs | [] => [])
  mks : ∀ m ∈ g.mks, ∃ fa fd ps gf, mg m.name = some (.ref m.cls) ∧ Mk g.K m.cls fa ∧ FnW P w g.K mg base (L2.CX P w) lev fa fd ps m.sp ∧ KBn g.K fd ps (m.n + 1) m.ks gf (fun vs zs => match vs with | v :: r => v :: m.arr r zs | [] => [])
  ats : ∀ p ∈ g.ats, ∀ C ∈ p.2, Cls g.K C ∧ NoAttr g.K C p.1
  nes : ∀ p ∈ g.nes, ownB g.K p.2 = true
  nec : ∀ p ∈ g.nes, Cls g.K p.2
  sys : sysB g.K = true
  xcs : ∀ x ∈ g.xcs, ∃ b fI fd px, mg x.name = some (.ref x.C) ∧ XcC g.K b x.C ∧ XfC g.K x.C ∧ PySem.W.findIn g.K (.ref x.C) x.f = some none ∧ PySem.W.findIn g.K (.ref x.C) "__init__" = some (some (.ref fI)) ∧
    PySem.W.typeIn g.K (.ref fI) = some (.type "function") ∧ FnOk P w g.K mg base (L2.CX P w) 1 fI fd ["self", px] (spX b g.K x.f) ∧ Binds g.K fd ["self", px] []
  tps : ∀ p ∈ g.tps, ∃ a, mg p.1 = some (.ref a) ∧ kobj g.K a = some (.tup p.2) ∧ tupB g.K a = true
  hfs : ∀ f ∈ g.hfs, ∃ fa fd ps gf, mg f.name = some (.ref fa) ∧ PySem.W.keepIn g.K (.ref fa) = true ∧ FnHW P w g.K mg base (L2.CX P w) lev fa fd ps f.sp ∧ KBn g.K fd ps f.n f.ks gf f.arr

/-- where an expression is read -/
structure COk (g : G) (lev : Nat) (X : Cx) (N : List Str) (sc : Scope) (W : WX) : Prop where
  gok : GOk g X.prog X.w X.mg X.base lev
  hK : X.K = g.K
  hN : X.N = N
  hsc : X.env.scope = sc
  nd : X.N.Nodup
  calm : X.calm = true
  tk : Takes X W
  room : Room (lev + 1) X.A
  gd : X.A.guards = some []
  room2 : Room 2 X.A
/-- the same without what suites lack -/
structure BOk (g : G) (X : Cx) (N : List Str) (sc : Scope) : Prop where
  gok : ∃ lev, GOk g X.prog X.w X.mg X.base lev
  hK : X.K = g.K
  hN : X.N = N
  hsc : X.env.scope = sc
  nd : X.N.Nodup
  gd : X.A.guards = some []
  un : X.A.units + 200 < cLine
  room : ∃ lev, GOk g X.prog X.w X.mg X.base lev ∧ L2H.RoomH lev X.A
theorem COk.b {g : G} {lev : Nat} {X : Cx} {N : List Str} {sc : Scope} {W : WX} (c : COk g lev X N sc W) : BOk g X N sc := ⟨⟨lev, c.gok⟩, c.hK, c.hN, c.hsc, c.nd, c.gd, by have := c.room.un; omega, lev, c.gok, L2H.roomH_of (c.room.mono (Nat.le_succ _))⟩

theorem COk.hu {g : G} {lev : Nat} {X : Cx} {N : List Str} {sc : Scope} {W : WX} (c : COk g lev X N sc W) : X.A.units + 64 < cLine := c.room.units
theorem COk.hu1 {g : G} {lev : Nat} {X : Cx} {N : List Str} {sc : Scope} {W : WX} (c : COk g lev X N sc W) : X.A.units + 1 < cLine := hu_of c.room
theorem COk.room0 {g : G} {lev : Nat} {X : Cx} {N : List Str} {sc : Scope} {W : WX} (c : COk g lev X N sc W) : Room lev X.A := c.room.mono (Nat.le_succ _)

/-! ## 5. names -/
def ix? : List Str → Str → Option Nat
  | [], _ => none
  | y :: r, x => if decide (y = x) = true then some 0 else (ix? r x).map (· + 1)
theorem ix_get : ∀ {N : List Str} {x : Str} {i : Nat}, ix? N x = some i → N[i]? = some x
  | [], x, i, h => by cases h
  | y :: r, x, i, h => by
    unfold ix? at h
    split at h
    · rename_i e; cases h; simp [of_decide_eq_true e]
    · cases e : ix? r x with
      | none => rw [e] at h; cases h
      | some j => rw [e] at h; cases h; simpa using ix_get e
def plainName (x : Str) : Bool := !(x == ("__debug__" : Str)) && (!(x == ("__classdict__" : Str)) && !decide (x = "__name__"))
theorem plain_d {x : Str} (h : plainName x = true) : (x == ("__debug__" : Str)) = false := by unfold plainName at h; simp only [Bool.and_eq_true, Bool.not_eq_true'] at h; exact h.1
theorem plain_c {x : Str} (h : plainName x = true) : (x == ("__classdict__" : Str)) = false := by unfold plainName at h; simp only [Bool.and_eq_true, Bool.not_eq_true'] at h; exact h.2.1
theorem plain_n {x : Str} (h : plainName x = true) : x ≠ "__name__" := by unfold plainName at h; simp only [Bool.and_eq_true, Bool.not_eq_true', decide_eq_false_iff_not] at h; exact h.2.2

def cVar (i : Nat) : TE := fun σ H Q => match σ[i]? with
  | some (some v) => Q v H
  | _ => False
/-- the built-in classes as values -/
def bltTy (x : Str) : Option String := match bootBuiltins x with
  | some (.type n) => some n
  | _ => none
theorem bltTy_boot {x : Str} {n : String} (h : bltTy x = some n) : bootBuiltins x = some (.type n) := by
  unfold bltTy at h
  split at h
  · rename_i e; cases h; exact e
  · cases h
/-- a tuple that the text's top has written: untracked, wherever it stands -/
def cKT (K : PySem.W.Frag) (vs : List V) : TE := fun _ H Q => ∀ a, H a = none → kobj K a = some (.tup vs) → tupB K a = true → Q (.ref a) H
def tName (g : G) (N : List Str) (sc : Scope) (x : Str) : Option TE :=
  if plainName x = true then
    match sc.names.lookup x with
    | some .local | some .cell | some .free => (ix? N x).map cVar
    | some .globalImplicit => match g.cons.lookup x with
      | some v => some (tC v)
      | none => match g.tps.lookup x with
        | some vs => some (cKT g.K vs)
        | none => if x ∈ g.blt then (bltTy x).map fun n => tC (.ty n) else none
    | _ => none
  else none

section
variable {g : G} {lev : Nat} {X : Cx} {N : List Str} {sc : Scope} {W : WX}
theorem cVar_ok {i : Nat} {x : Str} {pos : Pos} (hN : X.N[i]? = some x) (hv : Vis X.env.scope x) (h1 : plainName x = true) : PE X (.Name x pos) (cVar i) :=
  PE_imp (pe_var hN hv (plain_d h1) (plain_c h1)) fun σ H Q q => by
    unfold cVar at q
    split at q
    · rename_i v e; exact ⟨v, e, q⟩
    · exact q.elim
theorem lookup_mem {α : Type} : ∀ {l : List (Str × α)} {x : Str} {v : α}, l.lookup x = some v → (x, v) ∈ l := fun h => PySem.mem_of_lookup h
theorem tName_ok {x : Str} {pos : Pos} {t : TE} (h : tName g N sc x = some t) (c : BOk g X N sc) : PE X (.Name x pos) t := by
  obtain ⟨lev, gok⟩ := c.gok
  unfold tName at h
  split at h
  · rename_i hp
    have vis : ∀ k, sc.names.lookup x = some k → (k = .local ∨ k = .cell ∨ k = .free) → (ix? N x).map cVar = some t → PE X (.Name x pos) t := fun k hk hkk h => by
      cases e : ix? N x with
      | none => rw [e] at h; cases h
      | some i =>
        rw [e] at h; cases h
        refine cVar_ok (by rw [c.hN]; exact ix_get e) ?_ hp
        unfold Vis
        rw [c.hsc, hk]
        rcases hkk with rfl | rfl | rfl <;> simp
    split at h
    · rename_i e; exact vis _ e (by simp) h
    · rename_i e; exact vis _ e (by simp) h
    · rename_i e; exact vis _ e (by simp) h
    · rename_i e
      have hg : Gl X x := by unfold Gl Env.kindOf; rw [c.hsc]; exact e
      split at h
      · rename_i v ev
        cases h
        obtain ⟨u, h1, h2⟩ := gok.cons _ (lookup_mem ev)
        exact pe_glob hg h1 h2 (plain_d hp)
      · split at h
        · rename_i vs ev
          cases h
          obtain ⟨a, h1, h2, h4⟩ := gok.tps _ (lookup_mem ev)
          refine ⟨fun pins s σ H Q I q => ?_⟩
          have ha : H a = none := by
            have h3 : kobj X.K a = some (.tup vs) := by rw [c.hK]; exact h2
            unfold kobj at h3
            split at h3
            · rename_i o e
              exact (I.bs _ o (I.ok.mod.kin _ _ e)).2
            · cases h3
          exact (pe_glob (v := .ref a) hg h1 rfl (plain_d hp)).run pins s σ H Q I (q a ha h2 h4)
        split at h
        · rename_i hb
          cases e2 : bltTy x with
          | none => rw [e2] at h; cases h
          | some n =>
            rw [e2] at h; cases h
            exact pe_bltn hg (gok.blt x hb) (bltTy_boot e2) (v := .ty n) rfl (plain_n hp) (plain_d hp)
        · cases h
    · cases h
  · cases h
end

/-! ## 6. argument lists -/
def notStar : Expr → Bool
  | .Starred _ _ => false
  | _ => true
theorem star_of {e : Expr} {es : List Expr} {env : Env} (h : notStar e = true) : starEach (e :: es) env = (false, eval e env) :: starEach es env := by
  cases e <;> first | rfl | exact absurd h Bool.false_ne_true
theorem star_all : ∀ {es : List Expr} {env : Env} {pos : Pos}, es.all notStar = true → (backTo pos (starEach es env)).any (·.1) = false
  | [], _, _, _ => rfl
  | e :: es, env, pos, h => by
    rw [List.all_cons, Bool.and_eq_true] at h
    rw [star_of h.1]
    show (false || (backTo pos (starEach es env)).any (·.1)) = false
    rw [star_all h.2]; rfl
theorem star_all' : ∀ {es : List Expr} {env : Env} {pos : Pos}, es.all notStar = true → (backTo pos (starEach es env)).all (fun x => !x.1) = true
  | [], _, _, _ => rfl
  | e :: es, env, pos, h => by
    rw [List.all_cons, Bool.and_eq_true] at h
    rw [star_of h.1]
    show (true && (backTo pos (starEach es env)).all (fun x => !x.1)) = true
    rw [star_all' h.2]; rfl
def kwNames : List Keyword → Option (List Str)
  | [] => some []
  | ⟨some x, _, _⟩ :: r => (kwNames r).map (x :: ·)
  | ⟨none, _, _⟩ :: _ => none
theorem kw_all : ∀ {kws : List Keyword} {ks : List Str} {env : Env} {pos : Pos}, kwNames kws = some ks →
    (backToKw pos (keywordEach kws env)).all (·.1.isSome) = true ∧ (backToKw pos (keywordEach kws env)).any (·.1.isNone) = false ∧ (backToKw pos (keywordEach kws env)).filterMap (·.1) = ks ∧ ks.length = kws.length
  | [], ks, _, _, h => by cases h; exact ⟨rfl, rfl, rfl, rfl⟩
  | ⟨some x, v, p⟩ :: r, ks, env, pos, h => by
    unfold kwNames at h
    cases e : kwNames r with
    | none => rw [e] at h; cases h
    | some l =>
      rw [e] at h; cases h
      obtain ⟨h1, h2, h3, h4⟩ := kw_all (env := env) (pos := pos) e
      refine ⟨?_, ?_, ?_, by simp [h4]⟩
      · show (true && (backToKw pos (keywordEach r env)).all (·.1.isSome)) = true
        rw [h1]; rfl
      · show (false || (backToKw pos (keywordEach r env)).any (·.1.isNone)) = false
        rw [h2]; rfl
      · show x :: (backToKw pos (keywordEach r env)).filterMap (·.1) = x :: l
        rw [h3]
  | ⟨none, _, _⟩ :: _, _, _, _, h => by cases h

/-! ## 7. calls of own defs -/
section
variable {X : Cx} {lev : Nat} {fa : Addr} {fd : FuncData} {ps ks : List Str} {sp : Sp} {x : Str} {n : Nat} {p pos apos : Pos} {es : List Expr} {kws : List Keyword} {t tk : TA} {gf : List Value → List Value → List Value} {arr : List V → List V → List V} {W : WX}
theorem run_own {pins : List (Addr × Obj)} {σ : St} {H : Hp} {s : Shared} {Q : VK} {us ws : List Value} {vs zs : List V} (F : FnW X.prog X.w X.K X.mg X.base (L2.CX X.prog X.w) lev fa fd ps sp) (hr : Room lev X.A) (gd : X.A.guards = some []) (hb : KBn X.K fd ps n ks gf arr) (tkx : Takes X W)
    (I : Inv X pins σ H s) (r : Vals vs us) (rz : Vals zs ws) (l1 : vs.length = n) (l2 : zs.length = ks.length) (h : sp (arr vs zs) H Q (fun cls d H' => W cls d σ H')) : wpAny (model X.prog X.w) X.A (call (.ref fa) us (ks.zip ws)) (EP X pins σ Q) X.xe s := by
  have r2 := hb.rel r rz
  refine wpAny_call (codeAny_mono (F.run X.A X.stack s H ⟨us, ks.zip ws⟩ (gf us ws) (arr vs zs) Q _ hr gd I.env0 (hb.to s us ws I.kIn (r.length.symm.trans l1) (rz.length.symm.trans l2)) r2 h) fun r s' hq => ?_)
  cases r with
  | error e => exact tkx e s' (XE.of_call I (fun _ _ _ h => h) hq)
  | ok fl =>
    cases fl with
    | ret u => exact I.after hq
    | next => exact False.elim hq
    | brk => exact False.elim hq
    | cont => exact False.elim hq
def cCall (sp : Sp) (n m : Nat) (arr : List V → List V → List V) (t tk : TA) (W : WX) : TE := fun σ H Q => t σ H fun vs H1 => tk σ H1 fun zs H2 => vs.length = n ∧ zs.length = m ∧ sp (arr vs zs) H2 Q (fun cls d H' => W cls d σ H')
/-- what is called keeps its arguments in a plain way -/
def Keeps (X : Cx) (f : Value) : Prop := ∀ h : Heap, X.K.In h → ∃ k, (k = Keeper.frame ∨ k = Keeper.machine ∨ k = Keeper.boundFrame) ∧ PySem.W.Looks (model X.prog X.w) h (keeperOf f) k
theorem keeps_ref {f : Value} (hk : PySem.W.keepIn X.K f = true) : Keeps X f := fun h k => PySem.W.keeps_K hk h k
theorem keeps_blt {id : String} : Keeps X (.builtin id) := fun h k => ⟨.machine, by simp, PySem.W.Looks.of_pure rfl⟩
theorem keeps_ty {T : String} : Keeps X (.type T) := fun h k => ⟨.machine, by simp, PySem.W.Looks.of_pure rfl⟩
/-- values of the arguments, then of the keywords, of any call -/
theorem args_of {f : Value} {first : List Value} {pins : List (Addr × Obj)} {s : Shared} {σ : St} {H : Hp} {Q : Value → Shared → Prop} {R : List V → List V → Hp → Prop}
    (hk : Keeps X f) (hnil : es = [] → t = tNil) (hstar : es.all notStar = true) (hkw : kwNames kws = some ks) (ha : PA X es t) (hw : PK X kws tk) (I : Inv X pins σ H s)
    (q : t σ H fun vs H1 => tk σ H1 fun zs H2 => R vs zs H2)
    (hf : ∀ vs zs us ws s2 H2, Inv X pins σ H2 s2 → Vals vs us → Vals zs ws → R vs zs H2 → wpAny (model X.prog X.w) X.A (call f (first ++ us) (ks.zip ws)) Q X.xe s2) :
    wpAny (model X.prog X.w) X.A (callWith pos f first (backTo pos (starEach es X.env)) (backToKw pos (keywordEach kws X.env))) Q X.xe s := by
  obtain ⟨k1, k2, k3, k4⟩ := kw_all (env := X.env) (pos := pos) hkw
  cases es with
  | nil =>
    refine PySem.W.callWith_of (P := X.K.In) (by rw [k2]; rfl) hk (PyProof.Rows.evalArgs_kw2_nil k1 ?_)
    rw [hnil rfl] at q
    refine thn (hw.run pos pins s σ H _ I q) fun ws s2 ⟨zs, H2, I2, rz, q2⟩ => ⟨I2.kIn, ?_⟩
    rw [k3]
    exact hf [] zs [] ws s2 H2 I2 .nil rz q2
  | cons e es =>
    rw [List.all_cons, Bool.and_eq_true] at hstar
    refine PySem.W.callWith_of (P := X.K.In) ?_ hk (PyProof.Rows.evalArgs_kw2 k1 ?_ (star_of hstar.1))
    rotate_left
    · refine thn (ha.run pos pins s σ H _ I q) fun us s1 ⟨vs, H1, I1, r, q1⟩ => ?_
      refine thn (hw.run pos pins s1 σ H1 _ I1 q1) fun ws s2 ⟨zs, H2, I2, rz, q2⟩ => ⟨I2.kIn, ?_⟩
      rw [k3]
      exact hf vs zs us ws s2 H2 I2 r rz q2
    · rw [k2, star_all (by rw [List.all_cons, hstar.1, hstar.2]; rfl)]; rfl

/-- f(..) -/
theorem pe_own (F : FnW X.prog X.w X.K X.mg X.base (L2.CX X.prog X.w) lev fa fd ps sp) (hr : Room lev X.A) (gd : X.A.guards = some []) (hb : KBn X.K fd ps n ks gf arr) (tkx : Takes X W) (hg : Gl X x) (hm : X.mg x = some (.ref fa)) (hk : PySem.W.keepIn X.K (.ref fa) = true)
    (hx : plainName x = true) (hnil : es = [] → t = tNil) (hstar : es.all notStar = true) (hkw : kwNames kws = some ks) (ha : PA X es t) (hw : PK X kws tk) : PE X (.Call (.Name x p) es kws pos) (cCall sp n ks.length arr t tk W) := by
  refine ⟨fun pins s σ H Q I h => ?_⟩
  refine wpAny_Call_Name_kw (ld_glob I hg hm ?_ (plain_d hx))
  refine args_of (first := []) (R := fun vs zs H2 => vs.length = n ∧ zs.length = ks.length ∧ sp (arr vs zs) H2 Q (fun cls d H' => W cls d σ H')) (keeps_ref hk) hnil hstar hkw ha hw I h fun vs zs us ws s2 H2 I2 r rz q => ?_
  exact run_own F hr gd hb tkx I2 r rz q.1 q.2.1 q.2.2
/-- .. while an exception is handled -/
theorem run_ownH {pins : List (Addr × Obj)} {σ : St} {H : Hp} {s : Shared} {Q : VK} {us ws : List Value} {vs zs : List V} (F : FnHW X.prog X.w X.K X.mg X.base (L2.CX X.prog X.w) lev fa fd ps sp) (hr : L2H.RoomH lev X.A) (gd : X.A.guards = some []) (hb : KBn X.K fd ps n ks gf arr) (tkx : Takes X W)
    (I : Inv X pins σ H s) (r : Vals vs us) (rz : Vals zs ws) (l1 : vs.length = n) (l2 : zs.length = ks.length) (h : sp (arr vs zs) H Q (fun cls d H' => W cls d σ H')) : wpAny (model X.prog X.w) X.A (call (.ref fa) us (ks.zip ws)) (EP X pins σ Q) X.xe s := by
  have r2 := hb.rel r rz
  refine wpAny_call (codeAny_mono (F.run X.A X.stack s H ⟨us, ks.zip ws⟩ (gf us ws) (arr vs zs) Q _ hr gd I.env0 (hb.to s us ws I.kIn (r.length.symm.trans l1) (rz.length.symm.trans l2)) r2 h) fun r s' hq => ?_)
  cases r with
  | error e => exact tkx e s' (XE.of_call I (fun _ _ _ h => h) hq)
  | ok fl =>
    cases fl with
    | ret u => exact I.after hq
    | next => exact False.elim hq
    | brk => exact False.elim hq
    | cont => exact False.elim hq
theorem pe_ownH (F : FnHW X.prog X.w X.K X.mg X.base (L2.CX X.prog X.w) lev fa fd ps sp) (hr : L2H.RoomH lev X.A) (gd : X.A.guards = some []) (hb : KBn X.K fd ps n ks gf arr) (tkx : Takes X W) (hg : Gl X x) (hm : X.mg x = some (.ref fa)) (hk : PySem.W.keepIn X.K (.ref fa) = true)
    (hx : plainName x = true) (hnil : es = [] → t = tNil) (hstar : es.all notStar = true) (hkw : kwNames kws = some ks) (ha : PA X es t) (hw : PK X kws tk) : PE X (.Call (.Name x p) es kws pos) (cCall sp n ks.length arr t tk W) := by
  refine ⟨fun pins s σ H Q I h => ?_⟩
  refine wpAny_Call_Name_kw (ld_glob I hg hm ?_ (plain_d hx))
  refine args_of (first := []) (R := fun vs zs H2 => vs.length = n ∧ zs.length = ks.length ∧ sp (arr vs zs) H2 Q (fun cls d H' => W cls d σ H')) (keeps_ref hk) hnil hstar hkw ha hw I h fun vs zs us ws s2 H2 I2 r rz q => ?_
  exact run_ownH F hr gd hb tkx I2 r rz q.1 q.2.1 q.2.2
end

/-! ## 8. method calls: any receiver -/
def baseOk : Expr → Bool
  | .Call (.Name _ _) [] [] _ => false
  | _ => true
theorem base_of {o : Expr} {a : Str} {env : Env} {w : Sem Value} (h : baseOk o = true) : attributeBase o a env w = w := by
  unfold attributeBase
  split
  · exact absurd h Bool.false_ne_true
  · rfl
section
variable {prog : Program} {w : World} {A : Around} {E : Value → Shared → Prop} {s : Shared}
theorem meth_gen {o : Expr} {name : Str} {apos pos : Pos} {es : List Expr} {kws : List Keyword} {ks : List Str} {env : Env} {Q : Value → Shared → Prop} (hb : baseOk o = true) (hstar : es.all notStar = true) (hkw : kwNames kws = some ks) (hfew : es.length + kws.length < 29)
    (hline : (apos.endLine == pos.line) = true)
    (h : wpAny (model prog w) A (eval o env) (fun ov s₁ => ∀ pl, wpAny (model prog w) A (getMethod ov name pl) (fun fx s₂ => wpAny (model prog w) A (callWith pos fx.1 fx.2 (backTo pos (starEach es env)) (backToKw pos (keywordEach kws env))) Q E s₂) E s₁) E s) :
    wpAny (model prog w) A (eval (.Call (.Attribute o name apos) es kws pos) env) Q E s := by
  rw [arm_eval_Call, base_of hb]
  refine wpAny_bind (wpAny_mono h (fun ov s₁ h₁ => ?_) fun _ _ e => e)
  refine wpAny_bind (wpAny_standAt ?_)
  obtain ⟨k1, k2, k3, k4⟩ := kw_all (env := env) (pos := pos) hkw
  have hform : methodCallForm (es.length + kws.length) (backTo pos (starEach es env)) (backToKw pos (keywordEach kws env)) = true := by
    unfold methodCallForm
    rw [star_all' hstar, k1]
    simp only [Bool.true_and, decide_eq_true_eq]
    split <;> omega
  have hpos : methodCallPos true o env apos pos = pure pos := by unfold methodCallPos; simp [hline]
  unfold methodCall
  rw [hform]
  refine wpAny_bind (wpAny_holding ?_)
  unfold calleeOf
  rw [if_pos rfl]
  refine wpAny_mono (h₁ _) (fun fx s₂ h₂ => ?_) fun _ _ e => e
  exact wpAny_bind (wpAny_of_eq hpos h₂)
end

/-! ### what a built-in's method does -/
/-- the methods of built-in types that are carried: type, name -/
structure BM where
  T : String
  name : Str
  id : String
  r : V → List V → Hp → VK → Prop
/-- .. rightly, where X is -/
structure BMOk (X : Cx) (b : BM) : Prop where
  pa : PlainAttrs b.T
  slot : Slot b.T b.name b.id
  ty : typeOf (.builtin b.id) = pure (.type "method_descriptor")
  run : MtR X b.id b.r
end WR

set_option Elab.async false
set_option linter.all false
set_option maxRecDepth 100000
set_option maxHeartbeats 4000000
namespace WR
open PySem PySem.Spec PyProof.Rows L2
open WRX (XB tailB)
section
variable {X : Cx} {pins : List (Addr × Obj)} {σ : St} {H : Hp} {s : Shared} {a C dx P : Addr} {f : Str} {y : V} {u : Value} {fs : List (Str × V)} {b : XB}
/-- the reading of B.__init__(self, ..) -/
def tXI (b : XB) (K : PySem.W.Frag) (ta : TA) : TE := fun σ H Q => ta σ H fun vs H1 => ∃ (a C : Addr) (ws : List V), vs = .ref a :: ws ∧ ws.length ≤ 1000 ∧ XcC K b C ∧ H1 a = some (exo a C none) ∧ Q .non H1
theorem handed_b (b : XB) : PySem.W.handedIn (.builtin b.ini) = true := by cases b <;> decide +kernel
theorem pe_xinit {B : Str} {p1 p2 pos : Pos} {es : List Expr} {ta : TA} (hg : Gl X B) (hx : plainName B = true) (hm : X.mg B = some (.ref P)) (R : XpC X.K b P) (hstar : es.all notStar = true) (hfew : es.length < 29) (hline : (p2.endLine == pos.line) = true) (hnil : es = [] → ta = tNil) (ha : PA X es ta) :
    PE X (.Call (.Attribute (.Name B p1) "__init__" p2) es [] pos) (tXI b X.K ta) := by
  refine ⟨fun pins s σ H Q I h => ?_⟩
  refine meth_gen (ks := []) rfl hstar rfl hfew hline (ld_glob I hg hm ?_ (plain_d hx))
  intro pl
  obtain ⟨r, e, rfl⟩ := R.ini
  refine PySem.W.method_cls I.kIn R.ga (PySem.W.cls_value I.kIn R.rd e (handed_b _) ?_)
  refine args_of (tk := tNil) (ks := []) (first := []) (R := fun vs zs H2 => zs = [] ∧ ∃ (a C : Addr) (ws : List V), vs = .ref a :: ws ∧ ws.length ≤ 1000 ∧ XcC X.K b C ∧ H2 a = some (exo a C none) ∧ Q .non H2) keeps_blt hnil hstar rfl ha pk_nil (I.tok _)
    (?_ : ta σ H fun vs H1 => tNil σ H1 fun zs H2 => zs = [] ∧ _) ?_
  · have e : (fun (vs : List V) (H1 : Hp) => tNil σ H1 fun zs H2 => zs = [] ∧ ∃ (a C : Addr) (ws : List V), vs = .ref a :: ws ∧ ws.length ≤ 1000 ∧ XcC X.K b C ∧ H2 a = some (exo a C none) ∧ Q .non H2) = fun vs H2 => ∃ (a C : Addr) (ws : List V), vs = .ref a :: ws ∧ ws.length ≤ 1000 ∧ XcC X.K b C ∧ H2 a = some (exo a C none) ∧ Q .non H2 := by
      funext vs H1
      exact propext ⟨fun z => z.2, fun z => ⟨rfl, z⟩⟩
    rw [e]
    exact h
  · rintro vs zs us ws s2 H2 I2 r rz ⟨rfl, a, C, ys, rfl, hl, T, ea, q⟩
    cases rz
    cases r with
    | @cons _ u0 _ ur ra rw' =>
      obtain rfl : u0 = Value.ref a := ra
      refine ox_init T I2 ea ?_ fun s' J => ⟨.non, H2, J, rfl, q⟩
      rw [← Paired.length rw', sizeLine_eq]
      omega
/-- the reading of self.f = e -/
def tXs (b : XB) (K : PySem.W.Frag) (f : Str) (to te : TE) : TS := fun D σ H => te σ H fun y H1 => to σ H1 fun x H2 => ∃ a C : Addr, x = .ref a ∧ XcC K b C ∧ PySem.W.findIn K (.ref C) f = some none ∧
  H2 a = some (exo a C none) ∧ ∀ dx, H2 dx = none → dx ≠ a → D.nx σ (upd (upd H2 dx (exd dx [(f, y)])) a (exo a C (some dx)))
theorem ps_xs {o e : Expr} {to te : TE} {p' pos : Pos} (ho : PE X o to) (he : PE X e te) (hs : swapsWith e (some (.Attribute o f p')) pos.line X.env = pure false) : PS X (.Assign [.Attribute o f p'] e pos) (tXs b X.K f to te) := by
  refine ⟨fun pins s σ H D I h => ?_⟩
  refine plainObj_wpAny_Assign_Attribute (thn (he.run pins s σ H _ I h) fun v s1 z1 => ?_) hs
  obtain ⟨y, H1, I1, r1, q1⟩ := z1
  refine thn (ho.run pins s1 σ H1 _ I1 q1) fun u s2 z2 => ?_
  obtain ⟨x, H2, I2, r2, a, C, rfl, T, hno, ea, q⟩ := z2
  obtain rfl : u = Value.ref a := r2
  exact ox_set T I2 ea hno r1 fun dx s' n ne J => ⟨σ, _, J, q dx n ne⟩
end

/-! ### the __init__ -/
/-- the body of such an __init__: the base's name, the field, what is stored -/
def xBody : List Stmt → Option (Str × Str × Str)
  | [.Expr (.Call (.Attribute (.Name B _) i p2) [.Name s _, .Constant (.str _) _ _] [] pos) _, .Assign [.Attribute (.Name s' _) f _] (.Name x _) _] =>
    if i = "__init__" ∧ s = "self" ∧ s' = "self" ∧ (p2.endLine == pos.line) = true then some (B, f, x) else none
  | _ => none
theorem xBody_ok {l : List Stmt} {B f x : Str} (h : xBody l = some (B, f, x)) : ∃ p1 p2 p3 m j p4 pos p5 p6 p7 p8 p9, l = [.Expr (.Call (.Attribute (.Name B p1) "__init__" p2) [.Name "self" p3, .Constant (.str m) j p4] [] pos) p5, .Assign [.Attribute (.Name "self" p6) f p7] (.Name x p8) p9] ∧ (p2.endLine == pos.line) = true := by
  unfold xBody at h
  split at h
  · split at h
    · rename_i hc
      obtain ⟨rfl, rfl, rfl, hl⟩ := hc
      cases h
      exact ⟨_, _, _, _, _, _, _, _, _, _, _, _, rfl, hl⟩
    · cases h
  · cases h
section
variable {Pr : Program} {w : World} {K : PySem.W.Frag} {mg : Str → Option Value} {base : Heap} {b : XB} {fI P : Addr} {fd : FuncData} {nm qual B f x : Str} {params : Arguments} {body : List Stmt} {scope : Scope} {dvs : List V} {kws : List (Str × V)}
theorem xinit_ok (F : FunD K nm qual params body scope dvs kws fI fd) (S : FnScope ["self", x] ["self", x] scope) (hb : xBody body = some (B, f, x)) (hx : plainName x = true) (hB : plainName B = true) (hsc : scope.names.lookup B = some .globalImplicit) (hm : mg B = some (.ref P)) (R : XpC K b P) :
    FnOk Pr w K mg base (L2.CX Pr w) 1 fI fd ["self", x] (spX b K f) := by
  obtain ⟨p1, p2, p3, m, j, p4, pos, p5, p6, p7, p8, p9, rfl, hl⟩ := xBody_ok hb
  refine F.ok (k := 0) S (fun vs H Q E z => ?_) fun cdv A outer s H vs Q E hr z => ?_
  · obtain ⟨a, y, C, rfl, _⟩ := z
    rfl
  obtain ⟨a, y, C, rfl, T, hno, ea, q⟩ := z
  have vis : ∀ n : Str, n ∈ (["self", x] : List Str) → Vis scope n := fun n hn => by
    unfold Vis
    rcases S.par n hn with z | z <;> rw [z] <;> simp
  have ix0 : (["self", x] : List Str)[0]? = some ("self" : Str) := rfl
  have ix1 : (["self", x] : List Str)[1]? = some x := rfl
  have self_ : ∀ p, PE (cxOf (L2.CX Pr w) Pr w K mg base ["self", x] qual scope fI cdv A outer s H E) (.Name "self" p) (cVar 0) := fun p => cVar_ok ix0 (vis _ (List.mem_cons_self ..)) (by decide)
  have x_ : ∀ p, PE (cxOf (L2.CX Pr w) Pr w K mg base ["self", x] qual scope fI cdv A outer s H E) (.Name x p) (cVar 1) := fun p => cVar_ok ix1 (vis _ (List.mem_cons_of_mem _ (List.mem_cons_self ..))) hx
  have c1 := pe_xinit (X := cxOf (L2.CX Pr w) Pr w K mg base ["self", x] qual scope fI cdv A outer s H E) (b := b) (P := P) (B := B) (p1 := p1) (p2 := p2) (pos := pos) (es := [.Name "self" p3, .Constant (.str m) j p4])
    hsc hB hm R rfl (by show 2 < 29; decide) hl (fun z => nomatch z) (pa_cons (self_ p3) (pa_cons (pe_str (x := m) (j := j) (pos := p4)) pa_nil (star_of rfl)) (star_of rfl))
  refine ⟨_, pss_cons (ps_expr c1 rfl) (pss_one (ps_xs (b := b) (f := f) (self_ p6) (x_ p8) rfl)), ?_⟩
  refine ⟨a, C, [.str m], rfl, (by show 1 ≤ 1000; decide), T, ea, ?_⟩
  refine ⟨a, C, rfl, T, hno, ea, fun dx n ne => ?_⟩
  exact q dx n ne
end
/-! ### C(e), to be raised -/
def tMkX (C : Addr) (f : Str) (te : TE) : St → Hp → XK → Prop := fun σ H Q => te σ H fun v H1 => ∀ d, H1 d = none → Q (.ref C) (some d) (upd H1 d (.xd [(f, v)]))
section
variable {X : Cx} {b : XB} {C fI : Addr} {fd : FuncData} {x f px : Str} {p pos : Pos} {e : Expr} {te : TE}
theorem xb_facts (b : XB) : ∃ ini bmB, ExcBaseFacts b.mk b.new ini bmB := WRX.xbase b
theorem pmk_x (T : XcC X.K b C) (hno : PySem.W.findIn X.K (.ref C) f = some none) (iC : PySem.W.findIn X.K (.ref C) "__init__" = some (some (.ref fI))) (tI : PySem.W.typeIn X.K (.ref fI) = some (.type "function"))
    (F1 : FnOk X.prog X.w X.K X.mg X.base (L2.CX X.prog X.w) 1 fI fd ["self", px] (spX b X.K f)) (hr : Room 2 X.A) (hb : Binds X.K fd ["self", px] []) (hg : Gl X x) (hx : plainName x = true) (hm : X.mg x = some (.ref C)) (hst : notStar e = true) (he : PE X e te) :
    PMk X (.Call (.Name x p) [e] [] pos) (tMkX C f te) := by
  intro pins s σ H Q I h
  obtain ⟨nm, q, N, bs, bm, sn, sub, ab, col, dd, k0, k1, k2, k3, k5, hC, hbm⟩ := T.cls
  obtain ⟨ini, bmB, F⟩ := xb_facts b
  have c1 : bm.contains (.type b.mk) = true := by
    rw [WRX.tail_has hbm]
    cases b <;> decide +kernel
  have c2 : bm.contains (.type "AttributeError") = false := by
    rw [WRX.tail_has hbm]
    cases b <;> decide +kernel
  have c3 : bm.contains (.type "NameError") = false := by
    rw [WRX.tail_has hbm]
    cases b <;> decide +kernel
  refine wpAny_Call_Name_kw (ld_glob I hg hm ?_ (plain_d hx))
  have hpl : (backTo pos (starEach ([] : List Expr) X.env)).any (·.1) = false := rfl
  refine PySem.W.callWith_K (h₀ := X.base) I.ok.mod.kin T.kC ?_ (star_of hst) hpl
  refine thn ((pa_cons he pa_nil (star_of hst)).run pos pins s σ H _ I (show tCons te tNil σ H fun vs H1 => ∃ v, vs = [v] ∧ ∀ d, H1 d = none → Q (.ref C) (some d) (upd H1 d (.xd [(f, v)])) from ?_)) fun us s1 z => ?_
  · have e0 : (fun (v : V) (H1 : Hp) => tNil σ H1 fun xs H2 => ∃ v', v :: xs = [v'] ∧ ∀ d, H2 d = none → Q (.ref C) (some d) (upd H2 d (.xd [(f, v')]))) = fun v H1 => ∀ d, H1 d = none → Q (.ref C) (some d) (upd H1 d (.xd [(f, v)])) := by
      funext v H1
      refine propext ⟨fun z => ?_, fun z => ⟨v, rfl, z⟩⟩
      obtain ⟨v', ev, z⟩ := z
      cases ev
      exact z
    show te σ H (fun v H1 => tNil σ H1 fun xs H2 => ∃ v', v :: xs = [v'] ∧ ∀ d, H2 d = none → Q (.ref C) (some d) (upd H2 d (.xd [(f, v')])))
    rw [e0]
    exact h
  obtain ⟨vs, H1, I1, r1, v, rfl, q1⟩ := z
  obtain ⟨u, rfl, ru⟩ := vals1 r1
  refine ⟨I1.kIn, ?_⟩
  show wpAny _ _ (call (.ref C) [u]) _ _ _
  obtain ⟨hp, g, dr, tk, os⟩ := s1
  have big : hp.objs.size ≤ hp.objs.size + 1 := Nat.le_succ _
  have fresh1 : H1 (hp.objs.size + 1) = none := I1.hok.fresh big
  have keep : ∀ c o, hp.get? c = some o → ((hp.push (PySem.W.kdv_tup [u])).push (PySem.HandSPX.excO C hp.objs.size)).get? c = some o := fun c o z => Heap.get?_push_of_some _ (Heap.get?_push_of_some _ z)
  have new_ : ((hp.push (PySem.W.kdv_tup [u])).push (PySem.HandSPX.excO C hp.objs.size)).get? (hp.objs.size + 1) = some (PySem.HandSPX.excO C hp.objs.size) := by heap_get
  have I2 : Inv X pins σ (upd H1 (hp.objs.size + 1) (exo (hp.objs.size + 1) C none)) ⟨(hp.push (PySem.W.kdv_tup [u])).push (PySem.HandSPX.excO C hp.objs.size), g, dr, tk, os⟩ :=
    I1.laid (t' := tk) (a := hp.objs.size + 1) (o := exo (hp.objs.size + 1) C none) (h' := (hp.push (PySem.W.kdv_tup [u])).push (PySem.HandSPX.excO C hp.objs.size)) keep big (exo_ok new_)
  have r2 : Vals [V.ref (hp.objs.size + 1), v] [Value.ref (hp.objs.size + 1), u] := .cons rfl (.cons ru .nil)
  have hq : spX b X.K f [V.ref (hp.objs.size + 1), v] (upd H1 (hp.objs.size + 1) (exo (hp.objs.size + 1) C none)) (fun z H2 => z = .non ∧ ∃ d, H2 (hp.objs.size + 1) = some (exo (hp.objs.size + 1) C (some d)) ∧ H2 d = some (exd d [(f, v)]) ∧ H1 d = none ∧ Q (.ref C) (some d) (upd (del H2 (hp.objs.size + 1)) d (.xd [(f, v)]))) (fun _ _ _ => False) := by
    refine ⟨_, _, C, rfl, T, hno, upd_same, fun dx n ne => ⟨rfl, dx, upd_same, ?_, ?_, ?_⟩⟩
    · rw [upd_ne ne, upd_same]
    · rw [upd_ne ne] at n
      exact n
    · rw [upd_ne ne] at n
      have same : upd (del (upd (upd (upd H1 (hp.objs.size + 1) (exo (hp.objs.size + 1) C none)) dx (exd dx [(f, v)])) (hp.objs.size + 1) (exo (hp.objs.size + 1) C (some dx))) (hp.objs.size + 1)) dx (.xd [(f, v)]) = upd H1 dx (.xd [(f, v)]) := by
        funext c
        by_cases z : c = dx
        · subst z
          rw [upd_same, upd_same]
        · rw [upd_ne z, upd_ne z]
          by_cases z2 : c = hp.objs.size + 1
          · subst z2
            rw [del_same, fresh1]
          · rw [del_ne z2, upd_ne z2, upd_ne z, upd_ne z2]
      rw [same]
      exact q1 dx n
  have hl : ([Value.ref (hp.objs.size + 1), u] ++ []).length = (["self", px] : List Str).length := rfl
  refine wpAny_call (WRX.xm_call F c1 c2 c3 (I1.kIn _ _ hC) (PySem.W.looks_findIn I1.kIn iC) (fun self => PySem.W.bind_fn I1.kIn self tI) (by show 1 ≤ _; rw [sizeLine_eq]; decide)
    (codeAny_mono (F1.run _ X.stack _ _ ⟨[Value.ref (hp.objs.size + 1), u], []⟩ [Value.ref (hp.objs.size + 1), u] _ _ (fun _ _ _ => False) (hr.make C [u] []) (I2.env0.make C [u] []) (by
      have z := hb _ [Value.ref (hp.objs.size + 1), u] I2.kIn hl
      rw [List.append_nil] at z
      exact z) r2 hq) fun r s' got => ?_))
  cases r with
  | error er => obtain ⟨_, _, _, _, _, _, _, _, _, _, _, _, z⟩ := got; exact z.elim
  | ok fl =>
    cases fl with
    | ret u' =>
      obtain ⟨z, H2, os2, bare2, un2, hok2, rv, rfl, d, ea, ed, hd1, q2⟩ := got
      obtain ⟨h2, g2, d2, t2, os'⟩ := s'
      exact ⟨rv, mk_end (raises_own T.exC T.tyC) I1 big keep un2 hok2 os2 bare2 ea ed hd1 q2⟩
    | next => exact False.elim got
    | brk => exact False.elim got
    | cont => exact False.elim got
end
end WR

set_option Elab.async false
set_option linter.all false
set_option maxRecDepth 100000
set_option maxHeartbeats 4000000
namespace WRE
open PySem PySem.W PySem.Calls PyProof.Rows
/-! ## isinstance of a caught exception that bears a dict -/
section
variable {P : Program} {w : World} {B : Around} {R : Value → Shared → Prop} {t : Shared} {F : Frag} {e C : Addr} {oe : Obj} {od : Option Obj}
theorem fo_any {nm : Str} {v u : Value} (k1 : (clsIn F C).isSome = true) (k2 : findIn F (.ref C) nm = some (some v)) (k3 : specialIn F v "__get__" = some (some u)) (k4 : takesIn F v = some true) : findObj F C od nm = some (.bind u v) := by
  obtain ⟨cd, k1⟩ := Option.isSome_iff_exists.mp k1
  unfold findObj; rw [k1]
  rw [Option.bind_some]; rw [k2]
  rw [Option.bind_some]; simp [k3, k4]
theorem xc_class {Q : Option Value → Shared → Prop} (c : L2.ExcC F C) (X : F.In t.heap) (I : InstAt t.heap e oe C od) (q : Q (some (.ref C)) { t with toks := t.toks + 1 }) : wpAny (model P w) B (getAttr? (.ref e) "__class__") Q R t := by
  have fo : findObj F C od "__class__" = some (.bind (.builtin "getset_descriptor.__get__") (.builtin "object.__class__")) := fo_any (by
    obtain ⟨cd, z, _⟩ := any_some c.hd; rw [z]; rfl) c.ha c.hn c.ht
  obtain ⟨hp, gs, dd, tk, os⟩ := t
  have T0 := I.type (M := model P w)
  have T1 := looks_findIn (M := model P w) X c.hg
  have T2 := looks_findIn (M := model P w) X c.hk
  have T3 := looks_find (M := model P w) X I fo
  have isB : Looks (model P w) hp (isInstance (.ref e) (.type "BaseException")) true := T0.andThen (looks_subIn X c.hs)
  have z0 : (false && onTheHeap (Value.builtin "BaseException.__getattribute__")) = false := rfl
  have z1 : (onTheHeap (Value.ref C) && Value.builtin "BaseException.__getattribute__" == Value.builtin "object.__getattribute__") = false := by
    rw [show (Value.builtin "BaseException.__getattribute__" == Value.builtin "object.__getattribute__") = false from by decide +kernel]; rfl
  unfold getAttr?; unfold getAttrBy?; unfold getAttrBy
  refine wpAny_bind (wpAny_mkText (wpAny_bind (wpAny_attempt (wpAny_holding (wpAny_bind (T0.at (wpAny_bind (T1.at ?_))))))))
  show wpAny _ _ (if (onTheHeap (Value.ref C) && Value.builtin "BaseException.__getattribute__" == Value.builtin "object.__getattribute__") = true then _ else _) _ _ _
  rw [z1]; rw [if_neg Bool.false_ne_true]
  unfold getAttrByItsOwn; unfold hookBefore
  refine wpAny_bind ?_; rw [if_pos (show onTheHeap (Value.ref C) = true from rfl)]
  refine T2.at ?_; refine wpAny_bind (wpAny_attempt (wpAny_holding ?_))
  unfold callGetattribute; rw [z0]; rw [if_neg Bool.false_ne_true]
  unfold boundAndCalled; rw [PySem.F.excAttr_ValueError.ga.bind (.ref e)]
  refine wpAny_bind (wpAny_pure ?_); show wpAny _ _ (call (.builtin "BaseException.__getattribute__") [.ref e, .str "__class__" tk]) _ _ _
  refine wpAny_call (codeAny_call_builtin PySem.F.excAttr_ValueError.ga.plain PySem.F.entry_bexc_ga ?_); refine @check_slot (model P w) _ _ ⟨hp, gs, dd, tk + 1, os⟩ "BaseException.__getattribute__" "BaseException" "__getattribute__" (.ref e) [.str "__class__" tk] [] _ (by decide +kernel) (by decide +kernel) isB (PySem.F.args_bexc_ga (.ref e) (.str "__class__" tk)) ?_
  unfold Builtin.«object.__getattribute__»; refine wpAny_bind (wpAny_of_eq (a := ((Value.ref e : Value), [Value.str "__class__" tk])) (by first | rfl | (simp only [slotArgs]; rfl)) ?_)
  refine wpAny_bind (wpAny_pure (wpAny_bind (T0.at (wpAny_bind (T3.at ?_)))))
  show wpAny _ _ (holding [Value.builtin "object.__class__"] (call (.builtin "getset_descriptor.__get__") [.builtin "object.__class__", .ref e, .ref C]) >>= ret) _ _ _
  refine wpAny_bind (wpAny_holding (wpAny_call (class_get (s := ⟨hp, gs, dd, tk + 1, os⟩) (ox := oe) (od := od) X I c.hm ?_)))
  refine wpAny_pure ?_; show wpAny _ _ (handedOut (.ref C)) _ _ _
  rw [handedOut_of (v := .ref C) rfl]
  first
    | exact wpAny_pure (wpAny_pure q)
    | exact wpAny_pure q
    | exact wpAny_pure (wpAny_bind (wpAny_pure (wpAny_pure q)))
theorem xc_kit (c : L2.ExcC F C) : KitX F (.ref e) (.ref C) (fun h => InstAt h e oe C od) where
  ty := fun _ _ _ I => I.type
  it := fun _ _ X _ => by
    obtain ⟨cd, z, _⟩ := any_some c.hd
    unfold clsIn at z; split at z
    · rename_i o1
      intro A' Q' E' s' k q
      unfold isType; unfold loadHead
      exact wpAny_bind (wpAny_loadPart (k _ _ (X _ _ o1)) (wpAny_pure q))
    · cases z
  ne := fun h tp dd its n sl X htp => by
    obtain ⟨cd, z, _⟩ := any_some c.hd
    refine Bool.eq_false_iff.mpr fun q => ?_
    have same : C = tp := Value.ref.inj (beq_iff_eq.mp q)
    subst same
    unfold clsIn at z; split at z
    · rename_i o1
      have bad := (X _ _ o1).symm.trans htp
      cases bad
    · cases z
  ca := fun X I k => xc_class c X I k
end
end WRE
namespace WR
open PySem PySem.Spec PyProof.Rows L2
def excB (K : PySem.W.Frag) (D : Addr) : Bool := decide (PySem.W.findIn K (.ref D) "__getattribute__" = some (some (.builtin "BaseException.__getattribute__"))) && (decide (PySem.W.findIn K (.ref D) "__getattr__" = some none) && (decide (PySem.W.subIn K (.ref D) (.type "BaseException") = some true) &&
  (PySem.W.hasDictIn K D && (decide (PySem.W.findIn K (.ref D) "__class__" = some (some (.builtin "object.__class__"))) && (decide (PySem.W.specialIn K (.builtin "object.__class__") "__get__" = some (some (.builtin "getset_descriptor.__get__"))) &&
  (decide (PySem.W.takesIn K (.builtin "object.__class__") = some true) && decide (PySem.W.mroIn K D (.type "object") = some true)))))))
theorem excB_ok {K : PySem.W.Frag} {D : Addr} (h : excB K D = true) : ExcC K D := by
  unfold excB at h
  simp only [Bool.and_eq_true, decide_eq_true_eq] at h
  obtain ⟨h1, h2, h3, h4, h5, h6, h7, h8⟩ := h
  exact ⟨h1, h2, h3, h4, h5, h6, h7, h8⟩
/-- isinstance(e, c), e the exception that the suite holds, its dict tracked -/
def rIsX (g : G) (a : Addr) (cls : Value) (d : Option Addr) : List V → Hp → VK → Prop := fun xs H Q => ∃ x ∈ g.xcs, ∃ (C' dd : Addr) (fs : List (Str × V)) (b : Bool), xs = [.ref a, .ref C'] ∧ cls = .ref x.C ∧ excB g.K x.C = true ∧ d = some dd ∧ H dd = some (.xd fs) ∧ PySem.W.kitOne g.K (.ref x.C) (.ref C') = some b ∧ Q (.bl b) H
theorem call_isX {g : G} {X : Cx} {a : Addr} {oe : Obj} {cls : Value} {d : Option Addr} {pn : List (Addr × Obj)} (hK : X.K = g.K) (hz : Zc cls d oe) (hf : ∃ vs, oe.data = .fields vs) : CallR (X.suite a ((a, oe) :: pn)) (.builtin "isinstance") (rIsX g a cls d) := by
  intro pins s σ H xs us Q I r h
  obtain ⟨x, hx, C', dd, fs, b, rfl, hc, hE, rfl, hd, e, q⟩ := h
  subst hc
  obtain ⟨u1, u2, rfl, r1, r2⟩ := vals2 r
  cases (show u1 = Value.ref a from r1)
  cases (show u2 = Value.ref C' from r2)
  obtain ⟨at_, _⟩ := I.pin (a, oe) (List.mem_append.mpr (.inl List.mem_cons_self))
  obtain ⟨vs, hv⟩ := hf
  obtain ⟨mA, ns, _⟩ := (show ObjOk X.prog X.w H s.heap dd (.xd fs) from I.hok dd _ hd)
  have there : ∃ o, s.heap.get? dd = some o := let ⟨o, _, _, z, _⟩ := ns; ⟨o, z⟩
  obtain ⟨o, ho⟩ := there
  have J : PySem.W.InstAt s.heap a oe x.C (some o) := by
    obtain ⟨oc, od, oda, osl⟩ := oe
    obtain ⟨h1, h2⟩ := hz
    dsimp only at h1 h2 hv
    subst h1 hv
    exact ⟨at_, rfl, rfl, by dsimp only; rw [h2]; exact ho⟩
  exact PySem.W.kia_one (WRE.xc_kit (excB_ok hE)) (by rw [← hK]; exact I.kIn) J e (fun z => nomatch z) fun tk => ⟨.bl b, H, I.kept (t' := tk) fun _ _ z => z, rfl, q⟩
end WR

set_option Elab.async false
set_option linter.all false
set_option maxRecDepth 100000
set_option maxHeartbeats 4000000
namespace WR
open PySem PySem.Spec PyProof.Rows L2

/-! ## 9. subscripts, slices, in -/
def keyOf : V → Option Key
  | .int i => some (.inl i)
  | .str s => some (.inr s)
  | _ => none
theorem keyOf_kV {y : V} {k : Key} (h : keyOf y = some k) : y = kV k := by
  cases y <;> cases h <;> rfl
/-- a dict's look at a key -/
def oGet (H : Hp) (p : Addr) (y : V) (R : Option V → Prop) : Prop := match H p with
  | some (.dK kvs) | some (.frz _ (.dK kvs)) => (match keyOf y with
      | some k => R (valV kvs k)
      | none => False)
  | some (.dT kvs) | some (.frz _ (.dT kvs)) => ∃ k b, y = .ref b ∧ H b = some (.tup (k.map kV)) ∧ R (valV kvs k)
  | _ => False
theorem oGet_dget {H : Hp} {p : Addr} {y : V} {R : Option V → Prop} (h : oGet H p y R) : ∃ o, DGet H p y o ∧ R o := by
  unfold oGet at h
  split at h
  · rename_i kvs e
    split at h
    · rename_i k ek
      exact ⟨_, .inl ⟨kvs, k, .inl e, keyOf_kV ek, rfl⟩, h⟩
    · exact h.elim
  · rename_i ob kvs e
    split at h
    · rename_i k ek
      exact ⟨_, .inl ⟨kvs, k, .inr ⟨ob, e⟩, keyOf_kV ek, rfl⟩, h⟩
    · exact h.elim
  · rename_i kvs e
    obtain ⟨k, b, rfl, eb, h⟩ := h
    exact ⟨_, .inr ⟨kvs, k, b, .inl e, rfl, eb, rfl⟩, h⟩
  · rename_i ob kvs e
    obtain ⟨k, b, rfl, eb, h⟩ := h
    exact ⟨_, .inr ⟨kvs, k, b, .inr ⟨ob, e⟩, rfl, eb, rfl⟩, h⟩
  · exact h.elim
def oIx (K : PySem.W.Frag) : R2 := fun x y H Q => match x with
  | .ref p => (match look K H p with
    | some (.lst xs) => (match y with
        | .int i => (match atI xs i with
            | some v => Q v H
            | none => False)
        | _ => False)
    | some (.tup xs) => (match y with
        | .int i => (match atI xs i with
            | some v => Q v H
            | none => False)
        | _ => False)
    | _ => oGet H p y fun o => match o with
        | some v => Q v H
        | none => False)
  | .str z => (match y with
    | .int i => z.length ≤ sizeLine ∧ (match atI z.cps.toList i with
        | some c => Q (.str ⟨#[c]⟩) H
        | none => False)
    | _ => False)
  | _ => False
def oIn (K : PySem.W.Frag) (neg : Bool) : R2 := fun x y H Q => match y with
  | .str z => (match x with
    | .str s => (match s.cps.toList with
        | [c] => Q (.bl (neg ^^ decide (c ∈ z.cps.toList))) H
        | _ => Q (.bl (neg ^^ !(Builtin.Str.occurrences z s 0 z.length 1).isEmpty)) H)
    | _ => False)
  | .ref p => (match look K H p with
    | some (.lst xs) => (flatV x = true ∧ xs.all flatV = true ∧ Q (.bl (neg ^^ inV x xs)) H) ∨
        ∃ d ds, Dp K H x d ∧ Dp K H y (.list ds) ∧ SeqAt.shaped d = true ∧ SeqAt.shaped (.list ds) = true ∧ Q (.bl (neg ^^ ds.any fun z => PyData.eqv z d)) H
    | some (.tup xs) => flatV x = true ∧ xs.all flatV = true ∧ Q (.bl (neg ^^ inV x xs)) H
    | _ => oGet H p x fun o => Q (.bl (neg ^^ o.isSome)) H)
  | _ => False
section
variable {X : Cx}
theorem ix_dict (hu : X.A.units + 1 < cLine) : IxR X (fun x y H Q => ∃ a v, x = .ref a ∧ DGet H a y (some v) ∧ Q v H) := by
  intro value slice pins s σ H x y v u Q I rx ry h hs
  obtain ⟨a, v', rfl, g, q⟩ := h
  cases rx
  exact tail_any (dict_typeIs I g) PySem.F.slot_dict_getitem.lookup (d_getItem hu I g ry fun w' s3 I3 rw' => ⟨v', H, I3, rw', q⟩) hs
theorem r_ix (hu : X.A.units + 1 < cLine) : IxR X (oIx X.K) := by
  intro value slice pins s σ H x y v u Q I rx ry h hs
  unfold oIx at h
  split at h
  · rename_i p
    split at h
    · rename_i xs e
      split at h
      · split at h
        · rename_i ea
          exact ix_seq value slice pins s σ H _ _ v u Q I rx ry (.inl ⟨_, _, _, _, rfl, rfl, look_lst e, ea, h⟩) hs
        · exact h.elim
      · exact h.elim
    · rename_i xs e
      split at h
      · split at h
        · rename_i ea
          exact ix_seq value slice pins s σ H _ _ v u Q I rx ry (.inr (.inl ⟨_, _, _, _, rfl, rfl, look_tup e, ea, h⟩)) hs
        · exact h.elim
      · exact h.elim
    · obtain ⟨o, g, h⟩ := oGet_dget h
      cases o with
      | none => exact h.elim
      | some w => exact ix_dict hu value slice pins s σ H _ _ v u Q I rx ry ⟨_, _, rfl, g, h⟩ hs
  · split at h
    · obtain ⟨hz, h⟩ := h
      split at h
      · rename_i ea
        exact ix_seq value slice pins s σ H _ _ v u Q I rx ry (.inr (.inr ⟨_, _, _, rfl, rfl, hz, ea, h⟩)) hs
      · exact h.elim
    · exact h.elim
  · exact h.elim
theorem xf (b : Bool) : (false ^^ b) = b := by cases b <;> rfl
theorem xt (b : Bool) : (true ^^ b) = !b := by cases b <;> rfl
theorem one_of {s : Str} {c : Nat} (h : s.cps.toList = [c]) : s = ⟨#[c]⟩ := by
  obtain ⟨cps⟩ := s
  have : cps = #[c] := by
    apply Array.ext'
    exact h
  subst this; rfl
theorem r_in (hu : X.A.units + 65 < cLine) : OpR X (compareOp .In) (oIn X.K false) := by
  intro pins s σ H x y v u Q I rx ry h
  unfold oIn at h
  split at h
  · split at h
    · split at h
      · rename_i c e
        rw [xf] at h
        rw [one_of e] at rx
        exact op_in_sign pins s σ H _ _ v u Q I rx ry ⟨_, _, rfl, rfl, h⟩
      · rw [xf] at h
        exact op_in_str pins s σ H _ _ v u Q I rx ry ⟨_, _, rfl, rfl, h⟩
    · exact h.elim
  · split at h
    · rename_i xs e
      rcases h with ⟨h1, h2, h⟩ | ⟨d, ds, h1, h2, h3, h4, h⟩
      · rw [xf] at h
        exact op_in_seq pins s σ H _ _ v u Q I rx ry ⟨_, _, rfl, .inl (look_lst e), h1, h2, h⟩
      · rw [xf] at h
        exact op_inD hu pins s σ H _ _ v u Q I rx ry ⟨d, ds, h1, h2, h3, h4, h⟩
    · rename_i xs e
      obtain ⟨h1, h2, h⟩ := h
      rw [xf] at h
      exact op_in_seq pins s σ H _ _ v u Q I rx ry ⟨_, _, rfl, .inr (look_tup e), h1, h2, h⟩
    · obtain ⟨o, g, h⟩ := oGet_dget h
      rw [xf] at h
      cases ry
      exact d_in (by omega) I g rx fun s' I' => ⟨.bl _, H, I', rfl, h⟩
  · exact h.elim
theorem r_notin (hu : X.A.units + 65 < cLine) : OpR X (compareOp .NotIn) (oIn X.K true) := by
  intro pins s σ H x y v u Q I rx ry h
  unfold oIn at h
  split at h
  · split at h
    · split at h
      · rename_i c e
        rw [xt] at h
        rw [one_of e] at rx
        exact op_notIn_sign pins s σ H _ _ v u Q I rx ry ⟨_, _, rfl, rfl, h⟩
      · rw [xt] at h
        exact op_notin_str pins s σ H _ _ v u Q I rx ry ⟨_, _, rfl, rfl, h⟩
    · exact h.elim
  · split at h
    · rename_i xs e
      rcases h with ⟨h1, h2, h⟩ | ⟨d, ds, h1, h2, h3, h4, h⟩
      · rw [xt] at h
        exact op_notIn_seq pins s σ H _ _ v u Q I rx ry ⟨_, _, rfl, .inl (look_lst e), h1, h2, h⟩
      · rw [xt] at h
        exact op_notInD hu pins s σ H _ _ v u Q I rx ry ⟨d, ds, h1, h2, h3, h4, h⟩
    · rename_i xs e
      obtain ⟨h1, h2, h⟩ := h
      rw [xt] at h
      exact op_notIn_seq pins s σ H _ _ v u Q I rx ry ⟨_, _, rfl, .inr (look_tup e), h1, h2, h⟩
    · obtain ⟨o, g, h⟩ := oGet_dget h
      rw [xt] at h
      cases ry
      exact d_notIn (by omega) I g rx fun s' I' => ⟨.bl _, H, I', rfl, h⟩
  · exact h.elim
/-- x[lo:hi] -/
def oSl (K : PySem.W.Frag) : V → Option Int → Option Int → Hp → VK → Prop := fun x lo hi H Q => match x with
  | .str z => z.length ≤ sizeLine ∧ Q (.str (cutS z lo hi)) H
  | .ref a => (match look K H a with
    | some (.lst xs) => ∀ p, H p = none → Q (.ref p) (upd H p (.lst (cutV xs lo hi)))
    | some (.tup xs) => (HT.sIx xs.length 0 lo = 0 ∧ HT.sIx xs.length xs.length hi = xs.length → Q (.ref a) H) ∧ (¬ (HT.sIx xs.length 0 lo = 0 ∧ HT.sIx xs.length xs.length hi = xs.length) → ∀ p, H p = none → Q (.ref p) (upd H p (.tup (cutV xs lo hi))))
    | _ => False)
  | _ => False
theorem r_sl : L2.SlR X (oSl X.K) := by
  intro pins s σ H x v vl vu lo hi sl Q I rx hs pl pu h
  unfold oSl at h
  split at h
  · exact sl_str pins s σ H _ v vl vu lo hi sl Q I rx hs pl pu ⟨_, rfl, h.1, h.2⟩
  · split at h
    · rename_i e
      exact sl_list pins s σ H _ v vl vu lo hi sl Q I rx hs pl pu ⟨_, _, rfl, look_lst e, h⟩
    · rename_i e
      exact sl_tupA pins s σ H _ v vl vu lo hi sl Q I rx hs pl pu ⟨_, _, rfl, look_tup e, h.1, h.2⟩
    · exact h.elim
  · exact h.elim
end

/-! ## 10. truth -/
def oTru (K : PySem.W.Frag) (x : V) (H : Hp) : Option Bool := match x with
  | .non => some false
  | .bl b => some b
  | .int i => some (i != 0)
  | .str y => if y.length ≤ sizeLine then some ((y.length : Int) != 0) else none
  | .ref p => (match look K H p with
    | some (.lst xs) => some (!xs.isEmpty)
    | some (.tup xs) => some (!xs.isEmpty)
    | _ => (match H p with
      | some (.dK kvs) => some (!kvs.isEmpty)
      | _ => none))
  | _ => none
theorem oTru_ok {K : PySem.W.Frag} {x : V} {H : Hp} {b : Bool} (h : oTru K x H = some b) : TruV K x H b := by
  unfold oTru at h
  split at h
  · cases h; exact rfl
  · cases h; exact rfl
  · cases h; exact rfl
  · split at h
    · rename_i hz; cases h; exact ⟨hz, rfl⟩
    · cases h
  · split at h
    · rename_i e; cases h; exact .inl ⟨_, look_lst e, rfl⟩
    · rename_i e; cases h; exact .inr (.inl ⟨_, look_tup e, rfl⟩)
    · split at h
      · rename_i e; cases h; exact .inr (.inr ⟨_, e, rfl⟩)
      · cases h
  · cases h
def cTru (K : PySem.W.Frag) (t : TE) : TT := fun σ H Q => t σ H fun x H1 => match oTru K x H1 with
  | some b => Q b H1
  | none => False

/-! ## 11. built-in functions -/
abbrev RC := List V → Hp → VK → Prop
def tyN (K : PySem.W.Frag) (H : Hp) (x : V) : Option String := match x with
  | .non => some "NoneType"
  | .bl _ => some "bool"
  | .int _ => some "int"
  | .str _ => some "str"
  | .ref p => (match look K H p with
    | some (.lst _) => some "list"
    | some (.tup _) => some "tuple"
    | some (.dK _) => some "dict"
    | _ => (match H p with
      | some (.dT _) => some "dict"
      | _ => none))
  | _ => none
theorem kobj_lstO {K : PySem.W.Frag} {a : Addr} {xs : List V} (h : kobj K a = some (.lst xs)) : ∃ o, K.lookup a = some o ∧ o.cls = .type "list" := by
  have z := kobj_lst (H := fun _ => none) h
  rcases z with z | ⟨o, its, n, e, c, _⟩
  · rcases z with z | ⟨_, z⟩ <;> cases z
  · exact ⟨o, e, c⟩
theorem kobj_tupO {K : PySem.W.Frag} {a : Addr} {xs : List V} (h : kobj K a = some (.tup xs)) : ∃ o, K.lookup a = some o ∧ o.cls = .type "tuple" := by
  have z := kobj_tup (H := fun _ => none) h
  rcases z with z | ⟨o, its, n, e, c, _⟩
  · rcases z with z | ⟨_, z⟩ <;> cases z
  · exact ⟨o, e, c⟩
theorem tyN_ok {K : PySem.W.Frag} {H : Hp} {x : V} {n : String} (h : tyN K H x = some n) : TyX K H x (.type n) := by
  unfold tyN at h
  split at h
  · cases h; exact .base .non
  · cases h; exact .base (.bl _)
  · cases h; exact .base (.int _)
  · cases h; exact .base (.str _)
  · split at h
    · rename_i e; cases h
      rcases look_rd e with (r | ⟨o, r⟩) | ⟨_, r⟩
      · exact .base (.lst r)
      · exact .base (.frz r)
      · obtain ⟨o, h1, h2⟩ := kobj_lstO r; exact .kList h1 h2
    · rename_i e; cases h
      rcases look_rd e with (r | ⟨o, r⟩) | ⟨_, r⟩
      · exact .base (.tup r)
      · exact .fTuple r
      · obtain ⟨o, h1, h2⟩ := kobj_tupO r; exact .kTuple h1 h2
    · rename_i e; cases h
      rcases look_dK e with r | ⟨o, r⟩
      · exact .base (.dK r)
      · exact .fDict r
    · split at h
      · rename_i e; cases h; exact .base (.dT e)
      · cases h
  · cases h
/-- isinstance(x, T), isinstance(x, (T, ..)), T built-in; of own classes by the written part -/
def allTy : List V → Option (List String)
  | [] => some []
  | .ty n :: r => (allTy r).map (n :: ·)
  | _ :: _ => none
def kitBs (n : String) : List String → Option Bool
  | [] => some false
  | T :: r => match kitB n T with
    | some true => some true
    | some false => kitBs n r
    | none => none
def bIsi (K : PySem.W.Frag) : RC := fun xs H Q => match xs with
  | [x, .ty T] => (match tyN K H x with
    | some n => (match kitB n T with
        | some b => Q (.bl b) H
        | none => False)
    | none => rIsi K xs H Q)
  | [x, .ref c] => (match H c with
    | some (.tup cs) => (match tyN K H x, allTy cs with
        | some n, some ts => (match kitBs n ts with
            | some b => Q (.bl b) H
            | none => False)
        | _, _ => rIsiT K xs H Q)
    | _ => rIsi K xs H Q)
  | _ => False
theorem allTy_cls : ∀ {cs : List V} {ts : List String}, allTy cs = some ts → Paired ClsV cs (ts.map Value.type)
  | [], ts, h => by cases h; exact .nil
  | c :: r, ts, h => by
    cases c <;> first | (simp only [allTy] at h; done) | skip
    all_goals try (cases h; done)
    rename_i n
    simp only [allTy] at h
    cases e : allTy r with
    | none => rw [e] at h; cases h
    | some l => rw [e] at h; cases h; exact .cons (.ty _) (allTy_cls e)
theorem kitBs_ok {K : PySem.W.Frag} {n : String} : ∀ {ts : List String} {b : Bool}, kitBs n ts = some b → PySem.W.kitAny K (.type n) (ts.map Value.type) = some b
  | [], b, h => by cases h; exact kitAny_nil
  | T :: r, b, h => by
    unfold kitBs at h
    split at h
    · rename_i e; cases h; exact kitAny_cons (kit_ty e) (fun z => nomatch z) fun _ => rfl
    · rename_i e; exact kitAny_cons (kit_ty e) (fun _ => kitBs_ok h) (fun z => nomatch z)
    · cases h
def bLen (K : PySem.W.Frag) : RC := fun xs H Q => match xs with
  | [.str y] => y.length ≤ sizeLine ∧ Q (.int y.length) H
  | [.ref p] => (match look K H p with
    | some (.lst ys) => Q (.int ys.length) H
    | some (.tup ys) => Q (.int ys.length) H
    | _ => (match H p with
      | some (.dK kvs) => Q (.int kvs.length) H
      | _ => False))
  | _ => False
def bAbs : RC := fun xs H Q => match xs with
  | [.int i] => Q (.int (if i < 0 then -i else i)) H
  | _ => False
def bMax : RC := fun xs H Q => match xs with
  | [.int i, .int j] => Q (.int (if j > i then j else i)) H
  | _ => False
def bMin : RC := fun xs H Q => match xs with
  | [.int i, .int j] => Q (.int (if j < i then j else i)) H
  | _ => False
def bOrd : RC := fun xs H Q => match xs with
  | [.str x] => x.length = 1 ∧ Q (.int (x.cps.getD 0 0 : Nat)) H
  | _ => False
def bInt : RC := fun xs H Q => match xs with
  | [.int i] => Q (.int i) H
  | [.bl k] => Q (.int (if k then 1 else 0)) H
  | [.str a] => a.length ≤ 640 ∧ (match PySem.intText? a with
    | some n => Q (.int n) H
    | none => False)
  | _ => False
def bStrOf : RC := fun xs H Q => match xs with
  | [.int i] => i.natAbs.log2 < 1920 ∧ Q (.str (toString i)) H
  | _ => False
def bAll (K : PySem.W.Frag) : RC := fun xs H Q => ∃ (a : Addr) (bs : List Bool), xs = [V.ref a] ∧ look K H a = some (.lst (bs.map V.bl)) ∧ Q (.bl (bs.all id)) H
def bAny (K : PySem.W.Frag) : RC := fun xs H Q => ∃ (a : Addr) (bs : List Bool), xs = [V.ref a] ∧ look K H a = some (.lst (bs.map V.bl)) ∧ Q (.bl (bs.any id)) H
def bSum (K : PySem.W.Frag) : RC := fun xs H Q => ∃ (a : Addr) (ns : List Int), xs = [V.ref a] ∧ look K H a = some (.lst (ns.map V.int)) ∧ Q (.int ns.sum) H
def bList (K : PySem.W.Frag) : RC := fun xs H Q => match xs with
  | [.ref p] => (match look K H p with
    | some (.lst ys) => ∀ l, H l = none → Q (.ref l) (upd H l (.lst ys))
    | some (.tup ys) => ∀ l, H l = none → Q (.ref l) (upd H l (.lst ys))
    | some (.dK kvs) => ∀ l, H l = none → Q (.ref l) (upd H l (.lst (kvs.map fun kv => kV kv.1)))
    | _ => False)
  | _ => False
def bTuple (K : PySem.W.Frag) : RC := fun xs H Q => match xs with
  | [.ref p] => (match look K H p with
    | some (.lst ys) => ∀ l, H l = none → Q (.ref l) (upd H l (.tup ys))
    | some (.tup ys) => Q (.ref p) H
    | _ => False)
  | _ => False
def bDict (K : PySem.W.Frag) : RC := fun xs H Q => match xs with
  | [.ref p] => (match look K H p with
    | some (.dK kvs) => ∀ l, H l = none → Q (.ref l) (upd H l (.dK kvs))
    | some (.lst ys) => ∃ (ps : List Addr) (kvs : List (Key × V)), ys = ps.map V.ref ∧ Paired (fun p kv => SqT K H p [kV kv.1, kv.2]) ps kvs ∧ ∀ l, H l = none → Q (.ref l) (upd H l (.dK (mergeK [] kvs)))
    | _ => False)
  | _ => False
section
variable {X : Cx}
theorem b_isi : CallR X (.builtin "isinstance") (bIsi X.K) := by
  refine CallR_imp (call_isi.or call_isiT) fun xs H Q h => ?_
  unfold bIsi at h
  split at h
  · split at h
    · rename_i n e
      split at h
      · rename_i b eb
        exact .inl ⟨_, _, _, _, b, rfl, .ty _, tyN_ok e, kit_ty eb, h⟩
      · exact h.elim
    · exact .inl h
  · split at h
    · rename_i cs ec
      split at h
      · rename_i n ts e1 e2
        split at h
        · rename_i b eb
          exact .inr ⟨_, _, _, _, _, b, rfl, ec, allTy_cls e2, tyN_ok e1, kitBs_ok eb, h⟩
        · exact h.elim
      · exact .inr h
    · exact .inl h
  · exact h.elim
theorem b_len : CallR X (.builtin "len") (bLen X.K) := by
  refine CallR_imp (call_len.or call_lenD) fun xs H Q h => ?_
  unfold bLen at h
  split at h
  · exact .inl ⟨_, _, rfl, ⟨h.1, rfl⟩, h.2⟩
  · split at h
    · rename_i e; exact .inl ⟨_, _, rfl, .inl ⟨_, look_lst e, rfl⟩, h⟩
    · rename_i e; exact .inl ⟨_, _, rfl, .inr ⟨_, look_tup e, rfl⟩, h⟩
    · split at h
      · rename_i e; exact .inr ⟨_, _, rfl, e, h⟩
      · exact h.elim
  · exact h.elim
theorem b_abs : CallR X (.builtin "abs") bAbs := CallR_imp call_abs fun xs H Q h => by
  unfold bAbs at h; split at h
  · exact ⟨_, rfl, h⟩
  · exact h.elim
theorem b_max (hc : X.calm = true) : CallR X (.builtin "max") bMax := CallR_imp (call_max2 hc) fun xs H Q h => by
  unfold bMax at h; split at h
  · exact ⟨_, _, rfl, h⟩
  · exact h.elim
theorem b_min (hc : X.calm = true) : CallR X (.builtin "min") bMin := CallR_imp (call_min2 hc) fun xs H Q h => by
  unfold bMin at h; split at h
  · exact ⟨_, _, rfl, h⟩
  · exact h.elim
theorem b_ord : CallR X (.builtin "ord") bOrd := CallR_imp call_ord fun xs H Q h => by
  unfold bOrd at h; split at h
  · exact ⟨_, rfl, h.1, h.2⟩
  · exact h.elim
theorem b_int : CallR X (.type "int") bInt := CallR_imp (call_int1.or call_int_str) fun xs H Q h => by
  unfold bInt at h; split at h
  · exact .inl (.inl ⟨_, rfl, h⟩)
  · exact .inl (.inr ⟨_, rfl, h⟩)
  · obtain ⟨hz, h⟩ := h
    split at h
    · rename_i e; exact .inr ⟨_, _, rfl, e, hz, h⟩
    · exact h.elim
  · exact h.elim
theorem b_str : CallR X (.type "str") bStrOf := CallR_imp call_str_int fun xs H Q h => by
  unfold bStrOf at h; split at h
  · exact ⟨_, rfl, h.1, h.2⟩
  · exact h.elim
theorem b_all (hc : X.calm = true) : CallR X (.builtin "all") (bAll X.K) := CallR_imp (cr_all hc) fun xs H Q ⟨a, bs, e, l, q⟩ => ⟨a, bs, e, look_lst l, q⟩
theorem b_any (hc : X.calm = true) : CallR X (.builtin "any") (bAny X.K) := CallR_imp (cr_any hc) fun xs H Q ⟨a, bs, e, l, q⟩ => ⟨a, bs, e, look_lst l, q⟩
theorem b_sum (hc : X.calm = true) : CallR X (.builtin "sum") (bSum X.K) := CallR_imp (cr_sum hc) fun xs H Q ⟨a, bs, e, l, q⟩ => ⟨a, bs, e, look_lst l, q⟩
theorem b_list (hc : X.calm = true) : CallR X (.type "list") (bList X.K) := CallR_imp (call_list_of.or (call_listD hc)) fun xs H Q h => by
  unfold bList at h
  split at h
  · split at h
    · rename_i e; exact .inl ⟨_, _, rfl, .inl (look_lst e), h⟩
    · rename_i e; exact .inl ⟨_, _, rfl, .inr (look_tup e), h⟩
    · rename_i e; exact .inr ⟨_, _, rfl, look_dK e, h⟩
    · exact h.elim
  · exact h.elim
theorem b_tuple : CallR X (.type "tuple") (bTuple X.K) := CallR_imp call_tuple_of fun xs H Q h => by
  unfold bTuple at h
  split at h
  · split at h
    · rename_i e; exact ⟨_, _, rfl, .inl ⟨look_lst e, h⟩⟩
    · rename_i e; exact ⟨_, _, rfl, .inr ⟨look_tup e, h⟩⟩
    · exact h.elim
  · exact h.elim
theorem b_dict (hc : X.calm = true) : CallR X (.type "dict") (bDict X.K) := CallR_imp (call_dictD.or (call_dictP hc)) fun xs H Q h => by
  unfold bDict at h
  split at h
  · split at h
    · rename_i e; exact .inl ⟨_, _, rfl, look_dK e, h⟩
    · rename_i e
      obtain ⟨ps, kvs, rfl, hp, q⟩ := h
      exact .inr ⟨_, ps, kvs, rfl, look_lst e, hp, q⟩
    · exact h.elim
  · exact h.elim
end
end WR

set_option Elab.async false
set_option linter.all false
set_option maxRecDepth 100000
set_option maxHeartbeats 4000000
namespace WR
open PySem PySem.Spec PyProof.Rows L2

/-! ## 12. methods of built-in types -/
abbrev RM := V → List V → Hp → VK → Prop
def mAppend : RM := fun x vs H Q => match x, vs with
  | .ref l, [y] => (match H l with
    | some (.lst xs) => xs.length < sizeLine ∧ Q .non (upd H l (.lst (xs ++ [y])))
    | _ => False)
  | _, _ => False
def mExtend : RM := fun x vs H Q => match x, vs with
  | .ref l, [.ref b] => (match H l, H b with
    | some (.lst xs), some (.lst zs) => xs.length + zs.length ≤ sizeLine ∧ Q .non (upd H l (.lst (xs ++ zs)))
    | _, _ => False)
  | _, _ => False
def mPopL : RM := fun x vs H Q => match x, vs with
  | .ref l, [] => (match H l with
    | some (.lst xs) => (match xs[xs.length - 1]? with
        | some y => Q y (upd H l (.lst xs.dropLast))
        | none => False)
    | _ => False)
  | .ref l, [.int i] => (match H l with
    | some (.lst xs) => -(2 ^ 63) ≤ i ∧ i < 2 ^ 63 ∧ (match seqIndex? i xs.length with
        | some k => (match xs[k]? with
          | some y => Q y (upd H l (.lst (xs.eraseIdx k)))
          | none => False)
        | none => False)
    | _ => False)
  | _, _ => False
def mReverse : RM := fun x vs H Q => match x, vs with
  | .ref l, [] => (match H l with
    | some (.lst xs) => Q .non (upd H l (.lst xs.reverse))
    | _ => False)
  | _, _ => False
def mClearL : RM := fun x vs H Q => match x, vs with
  | .ref l, [] => (match H l with
    | some (.lst xs) => Q .non (upd H l (.lst []))
    | _ => False)
  | _, _ => False
def mInsert : RM := fun x vs H Q => match x, vs with
  | .ref l, [.int i, y] => (match H l with
    | some (.lst xs) => xs.length < sizeLine ∧ 0 ≤ i ∧ i < 2 ^ 63 ∧ Q .non (upd H l (.lst (xs.take i.toNat ++ [y] ++ xs.drop i.toNat)))
    | _ => False)
  | _, _ => False
def mIndexL (K : PySem.W.Frag) : RM := fun x vs H Q => match x, vs with
  | .ref l, [y] => (match look K H l with
    | some (.lst ys) => flatV y = true ∧ ys.all flatV = true ∧ ∃ (j : Nat) (z : V), ys[j]? = some z ∧ eqV z y = true ∧ (∀ (m : Nat) (z' : V), m < j → ys[m]? = some z' → eqV z' y = false) ∧ Q (.int (j : Nat)) H
    | _ => False)
  | _, _ => False
def mIndexT (K : PySem.W.Frag) : RM := fun x vs H Q => match x, vs with
  | .ref l, [.str z] => ∃ (ys : List Str) (j : Nat), look K H l = some (.tup (ys.map V.str)) ∧ ys[j]? = some z ∧ (∀ m, m < j → ys[m]? ≠ some z) ∧ Q (.int (j : Nat)) H
  | _, _ => False
def mGetD : RM := fun x vs H Q => match x, vs with
  | .ref a, [y] => oGet H a y fun o => Q (o.getD .non) H
  | .ref a, [y, d] => oGet H a y fun o => Q (o.getD d) H
  | _, _ => False
def mPopD : RM := fun x vs H Q => match x, vs with
  | .ref a, [y] => (match H a, keyOf y with
    | some (.dK kvs), some k => (match valV kvs k with
        | some v => Q v (upd H a (.dK (dropK kvs k)))
        | none => False)
    | _, _ => False)
  | .ref a, [y, d] => (match H a, keyOf y with
    | some (.dK kvs), some k => (match valV kvs k with
        | some v => Q v (upd H a (.dK (dropK kvs k)))
        | none => Q d H)
    | _, _ => False)
  | _, _ => False
def mClearD : RM := fun x vs H Q => match x, vs with
  | .ref a, [] => (match H a with
    | some (.dK kvs) => Q .non (upd H a (.dK []))
    | _ => False)
  | _, _ => False
def mJoin (K : PySem.W.Frag) : RM := fun x vs H Q => match x, vs with
  | .str a, [.ref p] => ∃ ys : List Str, (look K H p = some (.lst (ys.map V.str)) ∨ look K H p = some (.tup (ys.map V.str))) ∧ (ys.map (·.length)).sum + ys.length * a.length ≤ 16777216 ∧ Q (.str (Txt.join a ys)) H
  | _, _ => False
def mSplit : RM := fun x vs H Q => match x, vs with
  | .str a, [.str b] => (b.length == 0) = false ∧ a.length + 2 ≤ sizeLine ∧ ∀ p, H p = none → Q (.ref p) (upd H p (.lst ((Txt.split a b).map V.str)))
  | _, _ => False
def mPartition : RM := fun x vs H Q => match x, vs with
  | .str a, [.str b] => (b.length == 0) = false ∧ a.length ≤ sizeLine ∧ ∀ p, H p = none → Q (.ref p) (upd H p (.tup [.str (Txt.partition a b).1, .str (Txt.partition a b).2.1, .str (Txt.partition a b).2.2]))
  | _, _ => False
def mIndexS : RM := fun x vs H Q => match x, vs with
  | .str a, [.str b] => (match Builtin.Str.occurrences a b 0 a.length 1 with
    | i :: _ => Q (.int (i : Nat)) H
    | [] => False)
  | _, _ => False
def mEnds : RM := fun x vs H Q => match x, vs with
  | .str a, [.str b] => Q (.bl (Txt.endswith a b)) H
  | _, _ => False
def mCountS : RM := fun x vs H Q => match x, vs with
  | .str a, [.str b] => Q (.int (Txt.count a b)) H
  | _, _ => False
def mUpper : RM := fun x vs H Q => match x, vs with
  | .str a, [] => a.length ≤ 5592405 ∧ Q (.str (Txt.upper a)) H
  | _, _ => False
section
variable {X : Cx}
theorem m_append : MtR X "list.append" mAppend := MtR_imp mt_append fun x vs H Q h => by
  unfold mAppend at h; split at h
  · split at h
    · rename_i e; exact ⟨_, _, _, rfl, rfl, e, h.1, h.2⟩
    · exact h.elim
  · exact h.elim
theorem m_extend : MtR X "list.extend" mExtend := MtR_imp mt_extend fun x vs H Q h => by
  unfold mExtend at h; split at h
  · split at h
    · rename_i e f; exact ⟨_, _, _, _, rfl, rfl, e, f, h.1, h.2⟩
    · exact h.elim
  · exact h.elim
theorem m_popL : MtR X "list.pop" mPopL := MtR_imp (MtR.or mt_pop mt_popAt) fun x vs H Q h => by
  unfold mPopL at h; split at h
  · split at h
    · rename_i e
      split at h
      · rename_i f; exact .inl ⟨_, _, _, rfl, rfl, e, f, h⟩
      · exact h.elim
    · exact h.elim
  · split at h
    · rename_i e
      obtain ⟨h1, h2, h⟩ := h
      split at h
      · rename_i f
        split at h
        · rename_i g; exact .inr ⟨_, _, _, _, _, rfl, rfl, e, h1, h2, f, g, h⟩
        · exact h.elim
      · exact h.elim
    · exact h.elim
  · exact h.elim
theorem m_reverse : MtR X "list.reverse" mReverse := MtR_imp mt_reverse fun x vs H Q h => by
  unfold mReverse at h; split at h
  · split at h
    · rename_i e; exact ⟨_, _, rfl, rfl, e, h⟩
    · exact h.elim
  · exact h.elim
theorem m_clearL : MtR X "list.clear" mClearL := MtR_imp mt_clear fun x vs H Q h => by
  unfold mClearL at h; split at h
  · split at h
    · rename_i e; exact ⟨_, _, rfl, rfl, e, h⟩
    · exact h.elim
  · exact h.elim
theorem m_insert : MtR X "list.insert" mInsert := MtR_imp mt_insert fun x vs H Q h => by
  unfold mInsert at h; split at h
  · split at h
    · rename_i e; exact ⟨_, _, _, _, rfl, rfl, e, h.1, h.2.1, h.2.2.1, h.2.2.2⟩
    · exact h.elim
  · exact h.elim
theorem m_indexL : MtR X "list.index" (mIndexL X.K) := MtR_imp mt_index fun x vs H Q h => by
  unfold mIndexL at h; split at h
  · split at h
    · rename_i e
      obtain ⟨h1, h2, j, z, h3, h4, h5, q⟩ := h
      exact ⟨_, _, _, j, z, rfl, rfl, look_lst e, h1, h2, h3, h4, h5, q⟩
    · exact h.elim
  · exact h.elim
theorem m_indexT : MtR X "tuple.index" (mIndexT X.K) := MtR_imp mt_tup_index fun x vs H Q h => by
  unfold mIndexT at h; split at h
  · obtain ⟨ys, j, h1, h2, h3, q⟩ := h
    exact ⟨_, ys, _, j, rfl, rfl, look_tup h1, h2, h3, q⟩
  · exact h.elim
theorem m_getD (hu : X.A.units + 1 < cLine) : MtR X "dict.get" mGetD := by
  intro pins s σ H x vs v us Q I rx rs h
  unfold mGetD at h
  split at h
  · obtain ⟨o, g, q⟩ := oGet_dget h
    cases rx
    obtain ⟨u, rfl, ru⟩ := vals1 rs
    exact d_get1 hu I g ru fun w' s' I' r' => ⟨_, H, I', r', q⟩
  · obtain ⟨o, g, q⟩ := oGet_dget h
    cases rx
    obtain ⟨u, u2, rfl, ru, ru2⟩ := vals2 rs
    exact d_get2 hu I g ru ru2 fun w' s' I' r' => ⟨_, H, I', r', q⟩
  · exact h.elim
theorem m_popD : MtR X "dict.pop" mPopD := by
  intro pins s σ H x vs v us Q I rx rs h
  unfold mPopD at h
  split at h
  · split at h
    · rename_i k e ek
      split at h
      · rename_i el
        cases rx
        obtain ⟨u, rfl, ru⟩ := vals1 rs
        rw [keyOf_kV ek] at ru
        exact d_pop (more := []) I e ru el (.inl rfl) fun w' s' I' r' => ⟨_, _, I', r', h⟩
      · exact h.elim
    · exact h.elim
  · split at h
    · rename_i k e ek
      cases rx
      obtain ⟨u, u2, rfl, ru, ru2⟩ := vals2 rs
      rw [keyOf_kV ek] at ru
      split at h
      · rename_i el
        exact d_pop I e ru el (.inr ⟨_, rfl⟩) fun w' s' I' r' => ⟨_, _, I', r', h⟩
      · rename_i el
        exact d_popD I e ru el fun s' I' => ⟨_, _, I', ru2, h⟩
    · exact h.elim
  · exact h.elim
theorem m_clearD : MtR X "dict.clear" mClearD := MtR_imp mtd_clear fun x vs H Q h => by
  unfold mClearD at h; split at h
  · split at h
    · rename_i e; exact ⟨_, _, rfl, rfl, e, h⟩
    · exact h.elim
  · exact h.elim
theorem m_join : MtR X "str.join" (mJoin X.K) := MtR_imp mt_join fun x vs H Q h => by
  unfold mJoin at h; split at h
  · obtain ⟨ys, e, hz, q⟩ := h
    exact ⟨_, _, ys, rfl, rfl, e.elim (fun e => .inl (look_lst e)) (fun e => .inr (look_tup e)), hz, q⟩
  · exact h.elim
theorem m_split : MtR X "str.split" mSplit := MtR_imp mt_split fun x vs H Q h => by
  unfold mSplit at h; split at h
  · exact ⟨_, _, rfl, rfl, h.1, h.2.1, h.2.2⟩
  · exact h.elim
theorem m_partition : MtR X "str.partition" mPartition := MtR_imp mt_partition fun x vs H Q h => by
  unfold mPartition at h; split at h
  · exact ⟨_, _, rfl, rfl, h.1, h.2.1, h.2.2⟩
  · exact h.elim
theorem m_indexS : MtR X "str.index" mIndexS := MtR_imp mt_sindex fun x vs H Q h => by
  unfold mIndexS at h; split at h
  · split at h
    · rename_i e; exact ⟨_, _, _, _, rfl, rfl, e, h⟩
    · exact h.elim
  · exact h.elim
theorem m_ends : MtR X "str.endswith" mEnds := MtR_imp mt_endswith fun x vs H Q h => by
  unfold mEnds at h; split at h
  · exact ⟨_, _, rfl, rfl, h⟩
  · exact h.elim
theorem m_countS : MtR X "str.count" mCountS := MtR_imp mt_count fun x vs H Q h => by
  unfold mCountS at h; split at h
  · exact ⟨_, _, rfl, rfl, h⟩
  · exact h.elim
theorem m_upper : MtR X "str.upper" mUpper := MtR_imp mt_upper fun x vs H Q h => by
  unfold mUpper at h; split at h
  · exact ⟨_, rfl, rfl, h.1, h.2⟩
  · exact h.elim
end
/-- the table -/
def bms (K : PySem.W.Frag) : List BM := [
  ⟨"list", "append", "list.append", mAppend⟩, ⟨"list", "extend", "list.extend", mExtend⟩, ⟨"list", "pop", "list.pop", mPopL⟩, ⟨"list", "reverse", "list.reverse", mReverse⟩, ⟨"list", "clear", "list.clear", mClearL⟩,
  ⟨"list", "insert", "list.insert", mInsert⟩, ⟨"list", "index", "list.index", mIndexL K⟩,
  ⟨"dict", "get", "dict.get", mGetD⟩, ⟨"dict", "pop", "dict.pop", mPopD⟩, ⟨"dict", "clear", "dict.clear", mClearD⟩,
  ⟨"str", "join", "str.join", mJoin K⟩, ⟨"str", "split", "str.split", mSplit⟩, ⟨"str", "partition", "str.partition", mPartition⟩, ⟨"str", "index", "str.index", mIndexS⟩, ⟨"str", "endswith", "str.endswith", mEnds⟩,
  ⟨"str", "count", "str.count", mCountS⟩, ⟨"str", "upper", "str.upper", mUpper⟩, ⟨"tuple", "index", "tuple.index", mIndexT K⟩]
theorem bms_ok {X : Cx} (hu : X.A.units + 1 < cLine) : ∀ b ∈ bms X.K, BMOk X b := by
  intro b hb
  simp only [bms, List.mem_cons, List.not_mem_nil, or_false] at hb
  rcases hb with rfl | rfl | rfl | rfl | rfl | rfl | rfl | rfl | rfl | rfl | rfl | rfl | rfl | rfl | rfl | rfl | rfl | rfl
  · exact ⟨PySem.F.plainAttrs_list, PySem.F.slot_list_append, PySem.F.type_list_append, m_append⟩
  · exact ⟨PySem.F.plainAttrs_list, PySem.F.slot_list_extend, PySem.F.type_list_extend, m_extend⟩
  · exact ⟨PySem.F.plainAttrs_list, PySem.F.slot_list_pop, PySem.F.type_list_pop, m_popL⟩
  · exact ⟨PySem.F.plainAttrs_list, PySem.F.slot_list_reverse, PySem.F.type_list_reverse, m_reverse⟩
  · exact ⟨PySem.F.plainAttrs_list, PySem.F.slot_list_clear, PySem.F.type_list_clear, m_clearL⟩
  · exact ⟨PySem.F.plainAttrs_list, PySem.F.slot_list_insert, PySem.F.type_list_insert, m_insert⟩
  · exact ⟨PySem.F.plainAttrs_list, PySem.F.slot_list_index, PySem.F.type_list_index, m_indexL⟩
  · exact ⟨PySem.F.plainAttrs_dict, PySem.F.slot_dict_get, PySem.F.type_dict_get, m_getD hu⟩
  · exact ⟨PySem.F.plainAttrs_dict, PySem.F.slot_dict_pop, PySem.F.type_dict_pop, m_popD⟩
  · exact ⟨PySem.F.plainAttrs_dict, PySem.F.slot_dict_clear, PySem.F.type_dict_clear, m_clearD⟩
  · exact ⟨PySem.F.plainAttrs_str, PySem.F.slot_str_join, PySem.F.type_str_join, m_join⟩
  · exact ⟨PySem.F.plainAttrs_str, PySem.F.slot_str_split, PySem.F.type_str_split, m_split⟩
  · exact ⟨PySem.F.plainAttrs_str, PySem.F.slot_str_partition, PySem.F.type_str_partition, m_partition⟩
  · exact ⟨PySem.F.plainAttrs_str, PySem.F.slot_str_index, PySem.F.type_str_index, m_indexS⟩
  · exact ⟨PySem.F.plainAttrs_str, PySem.F.slot_str_endswith, PySem.F.type_str_endswith, m_ends⟩
  · exact ⟨PySem.F.plainAttrs_str, PySem.F.slot_str_count, PySem.F.type_str_count, m_countS⟩
  · exact ⟨PySem.F.plainAttrs_str, PySem.F.slot_str_upper, PySem.F.type_str_upper, m_upper⟩
  · exact ⟨PySem.F.plainAttrs_tuple, PySem.F.slot_tuple_index, PySem.F.type_tuple_index, m_indexT⟩

/-! ## 13. a method's call, by what the receiver is -/
def tyB (K : PySem.W.Frag) (H : Hp) (x : V) : Option String := match x with
  | .str _ => some "str"
  | .ref p => (match look K H p with
    | some (.lst _) => some "list"
    | some (.tup _) => if tupB K p = true then some "tuple" else none
    | _ => (match H p with
      | some (.dK _) => some "dict"
      | some (.dT _) => some "dict"
      | some (.set _ _) => some "set"
      | _ => none))
  | _ => none
theorem tyB_ok {K : PySem.W.Frag} {H : Hp} {x : V} {T : String} (h : tyB K H x = some T) : tyV K T x H := by
  unfold tyB at h
  split at h
  · cases h; exact rfl
  · split at h
    · rename_i e; cases h; exact .inl ⟨rfl, _, look_lst e⟩
    · split at h
      · rename_i e; cases h; exact .inr (.inl ⟨rfl, tupB_ok e⟩)
      · cases h
    · split at h
      · rename_i e; cases h; exact .inr (.inr (.inl ⟨rfl, .inl ⟨_, e⟩⟩))
      · rename_i e; cases h; exact .inr (.inr (.inl ⟨rfl, .inr ⟨_, e⟩⟩))
      · rename_i e; cases h; exact .inr (.inr (.inr ⟨rfl, _, _, e⟩))
      · cases h
  · cases h
def insOf (H : Hp) (x : V) : Option (Addr × Addr × List (Str × V)) := match x with
  | .ref a => (match H a with
    | some (.ins C dx fs) => some (a, C, fs)
    | _ => none)
  | _ => none
theorem insOf_ok {H : Hp} {x : V} {a C : Addr} {fs : List (Str × V)} (h : insOf H x = some (a, C, fs)) : ∃ dx, x = .ref a ∧ H a = some (.ins C dx fs) := by
  unfold insOf at h
  split at h
  · split at h
    · rename_i e; cases h; exact ⟨_, rfl, e⟩
    · cases h
  · cases h
def cMeth (K : PySem.W.Frag) (m : Str) (n nk : Nat) (cands : List MtI) (bs : List BM) (ta : TE) (t tk : TA) (W : WX) : TE := fun σ H Q => ta σ H fun x H1 =>
  match insOf H1 x with
  | some (_, C, fs) => fs.lookup m = none ∧ ∃ c ∈ cands, c.cls = C ∧ t σ H1 fun vs H2 => tk σ H2 fun zs H3 => vs.length = n ∧ zs.length = nk ∧ c.sp (x :: c.arr vs zs) H3 Q (fun cls d H' => W cls d σ H')
  | none => (match tyB K H1 x with
    | some T => (match bs.find? (fun b => b.T == T) with
      | some b => nk = 0 ∧ t σ H1 fun vs H2 => b.r x vs H2 Q
      | none => False)
    | none => False)
section
variable {g : G} {lev : Nat} {X : Cx} {N : List Str} {sc : Scope} {W : WX}
theorem pe_methG {o : Expr} {m : Str} {apos pos : Pos} {es : List Expr} {kws : List Keyword} {ks : List Str} {ta : TE} {t tk : TA} {cands : List MtI} {bs : List BM} (c : COk g lev X N sc W) (hb : baseOk o = true) (hstar : es.all notStar = true) (hkw : kwNames kws = some ks)
    (hfew : es.length + kws.length < 29) (hline : (apos.endLine == pos.line) = true) (hc : ∀ i ∈ cands, i ∈ g.mts ∧ i.name = m ∧ i.n = es.length ∧ i.ks = ks) (hbs : ∀ b ∈ bs, BMOk X b ∧ b.name = m)
    (hnil : es = [] → t = tNil) (hknil : kws = [] → tk = tNil) (ho : PE X o ta) (ha : PA X es t) (hw : PK X kws tk) : PE X (.Call (.Attribute o m apos) es kws pos) (cMeth g.K m es.length ks.length cands bs ta t tk W) := by
  refine ⟨fun pins s σ H Q I h => ?_⟩
  refine meth_gen hb hstar hkw hfew hline (thn (ho.run pins s σ H _ I h) fun ov s1 ⟨x, H1, I1, rx, q1⟩ pl => ?_)
  dsimp only at q1
  split at q1
  · rename_i a C fs e
    obtain ⟨l, i, hi, hC, q1⟩ := q1
    obtain ⟨dx, rfl, ea⟩ := insOf_ok e
    obtain ⟨hm, hn, hnn, hks⟩ := hc i hi
    obtain ⟨fa, fd, ps, gf, cl, me, F, kb⟩ := c.gok.mts i hm
    rw [hC] at cl me
    rw [hn] at me
    rw [hnn, hks] at kb
    rw [← c.hK] at cl me F kb
    cases rx
    refine getmeth_ok I1 ea cl me l ?_
    refine args_of (first := [.ref a]) (R := fun vs zs H2 => vs.length = es.length ∧ zs.length = ks.length ∧ i.sp (.ref a :: i.arr vs zs) H2 Q (fun cls d H' => W cls d σ H')) (keeps_ref me.kp) hnil hstar hkw ha hw I1 q1 fun vs zs us ws s2 H2 I2 r rz q => ?_
    exact run_own (vs := .ref a :: vs) (us := .ref a :: us) F c.room0 c.gd kb c.tk I2 (.cons rfl r) rz (by rw [List.length_cons, q.1]) q.2.1 q.2.2
  · split at q1
    · rename_i T eT
      split at q1
      · rename_i b eb
        obtain ⟨hz, q1⟩ := q1
        have hbm : b ∈ bs := List.mem_of_find?_eq_some eb
        have hT : b.T = T := by have := List.find?_some eb; exact beq_iff_eq.mp this
        obtain ⟨ok, hn⟩ := hbs b hbm
        obtain ⟨h1, h2⟩ := tyV_is I1 rx (by rw [c.hK]; exact tyB_ok eT)
        have hkz : ks = [] := List.length_eq_zero_iff.mp hz
        subst hkz
        have hkws : kws = [] := by
          have := (kw_all (env := X.env) (pos := pos) hkw).2.2.2
          exact List.length_eq_zero_iff.mp this.symm
        subst hkws
        rw [hknil rfl] at hw
        refine getMethod_builtin (T := T) (id := b.id) h1 (hT ▸ ok.pa) (hn ▸ hT ▸ ok.slot) ok.ty h2 ?_
        refine args_of (tk := tNil) (ks := []) (first := [ov]) (R := fun vs zs H2 => zs = [] ∧ b.r x vs H2 Q) keeps_blt hnil hstar hkw ha hw I1 (?_ : t σ H1 fun vs H2 => tNil σ H2 fun zs H3 => zs = [] ∧ b.r x vs H3 Q) fun vs zs us ws s2 H2 I2 r rz q => ?_
        · have e : (fun (vs : List V) (H2 : Hp) => tNil σ H2 fun zs H3 => zs = [] ∧ b.r x vs H3 Q) = fun vs H2 => b.r x vs H2 Q := by
            funext vs H2
            exact propext ⟨fun z => z.2, fun z => ⟨rfl, z⟩⟩
          rw [e]
          exact q1
        · obtain ⟨rfl, q⟩ := q
          exact ok.run pins s2 σ H2 x vs ov us Q I2 rx r q
      · exact q1.elim
    · exact q1.elim
end
end WR

set_option Elab.async false
set_option linter.all false
set_option maxRecDepth 100000
set_option maxHeartbeats 4000000
namespace WR
open PySem PySem.Spec PyProof.Rows L2

theorem ownB_ok {K : PySem.W.Frag} {C : Addr} (h : ownB K C = true) : PySem.W.findIn K (.ref C) "__ne__" = some (some (.builtin "object.__ne__")) ∧ PySem.W.findIn K (.ref C) "__class__" = some (some (.builtin "object.__class__")) ∧
    PySem.W.specialIn K (.builtin "object.__class__") "__get__" = some (some (.builtin "getset_descriptor.__get__")) ∧ PySem.W.takesIn K (.builtin "object.__class__") = some true ∧ PySem.W.mroIn K C (.type "object") = some true ∧
    PySem.W.kitOne K (.ref C) (.ref C) = some true ∧ ∀ n ∈ basics, PySem.W.kitOne K (.type n) (.ref C) = some false := by
  unfold ownB at h
  simp only [Bool.and_eq_true, decide_eq_true_eq, List.all_eq_true] at h
  obtain ⟨h1, h2, h3, h4, h5, h6, h7⟩ := h
  exact ⟨h1, h2, h3, h4, h5, h6, h7⟩
/-! ## the text's own specials: len, ==, !=, str, bool of an own class's instances -/
/-! ## dicts compared deeply -/
inductive DpKv (K : PySem.W.Frag) (H : Hp) : List (Key × V) → List (Key × PyData) → Prop
  | nil : DpKv K H [] []
  | cons {k : Key} {v : V} {d : PyData} {kvs : List (Key × V)} {ds : List (Key × PyData)} (h : Dp K H v d) (s : SeqAt.shaped d = true) (r : DpKv K H kvs ds) : DpKv K H ((k, v) :: kvs) ((k, d) :: ds)
def dat (es : List (Key × PyData)) (k : Key) : Option PyData := (es.find? fun p => decide (p.1 = k)).map (·.2)
def eqKv (ds es : List (Key × PyData)) : Bool := ds.all fun p => match dat es p.1 with | some e => PyData.eqv p.2 e | none => false
theorem DpKv.len {K : PySem.W.Frag} {H : Hp} {ks : List (Key × V)} {ds : List (Key × PyData)} (h : DpKv K H ks ds) : ks.length = ds.length := by
  induction h with
  | nil => rfl
  | cons _ _ _ ih => simp [ih]
theorem DpKv.get {K : PySem.W.Frag} {H : Hp} {k : Key} {ks : List (Key × V)} {ds : List (Key × PyData)} (h : DpKv K H ks ds) : (valV ks k = none ∧ dat ds k = none) ∨ ∃ v d, valV ks k = some v ∧ dat ds k = some d ∧ Dp K H v d ∧ SeqAt.shaped d = true := by
  induction h with
  | nil => exact .inl ⟨rfl, rfl⟩
  | @cons k' v d kvs ds h s r ih =>
    by_cases e : k' = k
    · exact .inr ⟨v, d, valV_pos e, by simp [dat, e], h, s⟩
    · rw [valV_neg e]
      have : dat ((k', d) :: ds) k = dat ds k := by simp [dat, List.find?_cons, e]
      rw [this]; exact ih
theorem hits_deep {X : Cx} {pins : List (Addr × Obj)} {σ : St} {H : Hp} {s : Shared} {A : Around} {ls : List (Key × V)} {vb : List (Key × Value)} {es : List (Key × PyData)} (I : Inv X pins σ H s) (hu : A.in1.units + 64 < cLine) (rb : KV ls vb) (he : DpKv X.K H ls es) :
    ∀ {ks : List (Key × V)} {va : List (Key × Value)} {ds : List (Key × PyData)}, KV ks va → DpKv X.K H ks ds → PySem.W.KeqHits A.in1 s vb va (eqKv ds es) := by
  intro ks va ds ra hd
  induction hd generalizing va with
  | nil => cases ra; exact .nil
  | @cons k v d kvs ds h sh r ih =>
    cases ra with
    | @cons _ q _ vr h1 t =>
      obtain ⟨k', u⟩ := q
      obtain ⟨rfl, ru⟩ := h1
      have rl := rb.val k
      rcases he.get (k := k) with ⟨a, b⟩ | ⟨y, e, a, b, hy, se⟩
      · rw [a] at rl
        have hn : valueAt vb k = none := by
          cases q : valueAt vb k with
          | none => rfl
          | some w => rw [q] at rl; exact rl.elim
        have e : eqKv ((k, d) :: ds) es = false := by simp [eqKv, b]
        rw [e]
        exact .miss hn
      · rw [a] at rl
        obtain ⟨w, hw, rw'⟩ : ∃ w, valueAt vb k = some w ∧ RelV y w := by
          cases q : valueAt vb k with
          | none => rw [q] at rl; exact rl.elim
          | some w => rw [q] at rl; exact ⟨w, rfl, rl⟩
        have e1 : eqKv ((k, d) :: ds) es = (PyData.eqv d e && eqKv ds es) := by simp [eqKv, b]
        rw [e1]
        obtain ⟨as, r1⟩ := Dp.reads I d v u h ru
        obtain ⟨bs, r2⟩ := Dp.reads I e y w hy rw'
        exact .hit hw (PySem.W.keq_at r1 r2 sh se hu) (ih t)
def rEqDD (K : PySem.W.Frag) : R2 := fun x y H Q => ∃ a b ks ls ds es, x = .ref a ∧ y = .ref b ∧ H a = some (.dK ks) ∧ H b = some (.dK ls) ∧ DpKv K H ks ds ∧ DpKv K H ls es ∧ Q (.bl (ks.length == ls.length && eqKv ds es)) H
def rNeDD (K : PySem.W.Frag) : R2 := fun x y H Q => ∃ a b ks ls ds es, x = .ref a ∧ y = .ref b ∧ H a = some (.dK ks) ∧ H b = some (.dK ls) ∧ DpKv K H ks ds ∧ DpKv K H ls es ∧ Q (.bl (!(ks.length == ls.length && eqKv ds es))) H
theorem op_eqDD {X : Cx} (hu : X.A.units + 65 < cLine) : OpR X (compareOp .Eq) (rEqDD X.K) := by
  intro pins s σ H x y v u Q I rx ry h
  obtain ⟨a, b, ks, ls, ds, es, rfl, rfl, ea, eb, hd, he, q⟩ := h
  obtain rfl : v = Value.ref a := rx
  obtain rfl : u = Value.ref b := ry
  obtain ⟨_, ya, va, ra, da⟩ := (show ObjOk X.prog X.w H s.heap a (.dK ks) from I.hok a _ ea)
  obtain ⟨_, yb, vb, rb, db⟩ := (show ObjOk X.prog X.w H s.heap b (.dK ls) from I.hok b _ eb)
  refine PySem.W.keq_eq (knd := mixKind X.prog X.w) ya yb da db (by omega) (fun _ => hits_deep I (by show X.A.units + 1 + 64 < _; omega) rb he ra hd) ⟨.bl _, H, I, ?_, q⟩
  rw [ra.length, rb.length]
  rfl
theorem op_neDD {X : Cx} (hu : X.A.units + 65 < cLine) : OpR X (compareOp .NotEq) (rNeDD X.K) := by
  intro pins s σ H x y v u Q I rx ry h
  obtain ⟨a, b, ks, ls, ds, es, rfl, rfl, ea, eb, hd, he, q⟩ := h
  obtain rfl : v = Value.ref a := rx
  obtain rfl : u = Value.ref b := ry
  obtain ⟨_, ya, va, ra, da⟩ := (show ObjOk X.prog X.w H s.heap a (.dK ks) from I.hok a _ ea)
  obtain ⟨_, yb, vb, rb, db⟩ := (show ObjOk X.prog X.w H s.heap b (.dK ls) from I.hok b _ eb)
  refine PySem.W.keq_ne (knd := mixKind X.prog X.w) ya yb da db (by omega) (fun _ => hits_deep I (by show X.A.units + 1 + 64 < _; omega) rb he ra hd) ⟨.bl _, H, I, ?_, q⟩
  rw [ra.length, rb.length]
  rfl
/-- own methods that fit -/
def cands (g : G) (m : Str) (n : Nat) : List MtI := g.mts.filter fun i => decide (i.name = m) && (decide (i.n = n) && decide (i.ks = []))
theorem cands_ok {g : G} {m : Str} {n : Nat} {c : MtI} (h : c ∈ cands g m n) : c ∈ g.mts ∧ c.name = m ∧ c.n = n ∧ c.ks = [] := by
  unfold cands at h
  have := List.mem_filter.mp h
  simp only [Bool.and_eq_true, decide_eq_true_eq] at this
  exact ⟨this.1, this.2.1, this.2.2.1, this.2.2.2⟩
/-- what an own special of the class at C does with these values; no exception leaves it -/
def spc (g : G) (m : Str) (C : Addr) (x : V) (vs : List V) (H : Hp) (Q : VK) : Prop := ∃ c ∈ cands g m vs.length, c.cls = C ∧ c.sp (x :: c.arr vs []) H Q (fun _ _ _ => False)
def bLenG (g : G) : RC := fun xs H Q => match xs with
  | [x] => (match insOf H x with
    | some (_, C, _) => spc g "__len__" C x [] H fun v H' => match v with
        | .int n => (0 ≤ n ∧ n < 2 ^ 63) ∧ Q (.int n) H'
        | _ => False
    | none => bLen g.K xs H Q)
  | _ => False
def bStrG (g : G) : RC := fun xs H Q => match xs with
  | [x] => (match insOf H x with
    | some (_, C, _) => spc g "__str__" C x [] H fun v H' => match v with
        | .str y => Q (.str y) H'
        | _ => False
    | none => bStrOf xs H Q)
  | _ => False
def bBoolG (g : G) : RC := fun xs H Q => match xs with
  | [.int i] => Q (.bl (i != 0)) H
  | [.bl b] => Q (.bl b) H
  | [x] => (match insOf H x with
    | some (_, C, _) => (∃ cs, g.ats.lookup ("__bool__" : Str) = some cs ∧ C ∈ cs) ∧ spc g "__len__" C x [] H fun v H' => match v with
        | .int n => (0 ≤ n ∧ n < 2 ^ 63) ∧ Q (.bl (n != 0)) H'
        | _ => False
    | none => False)
  | _ => False
def eqOk (g : G) (C : Addr) (H : Hp) (y : V) : Prop := (tyN g.K H y).isSome = true ∨ ∃ b fs, insOf H y = some (b, C, fs)
def oEqG0 (g : G) : R2 := fun x y H Q => match insOf H x with
  | some (_, C, _) => eqOk g C H y ∧ spc g "__eq__" C x [y] H fun v H' => match v with
      | .bl b => Q (.bl b) H'
      | _ => False
  | none => oEq g.K x y H Q ∨ rEqDD g.K x y H Q
def oNeG (g : G) : R2 := fun x y H Q => match insOf H x with
  | some (_, C, _) => (∃ p ∈ g.nes, p.2 = C) ∧ eqOk g C H y ∧ spc g "__eq__" C x [y] H fun v H' => match v with
      | .bl b => Q (.bl (!b)) H'
      | _ => False
  | none => oNe g.K x y H Q ∨ rNeDD g.K x y H Q

section
variable {g : G} {lev : Nat} {X : Cx} {N : List Str} {sc : Scope} {W : WX}
theorem room_in3 {k : Nat} {A : Around} (r : Room (k + 1) A) : Room k A.in1.in1.in1 :=
  ⟨r.hd, by have := r.dp; show A.depth + 3 * k + 5 < _; omega, by have := r.un; show A.units + 1 + 1 + 1 + 16 * k + 200 < _; omega⟩
theorem room_in2 {k : Nat} {A : Around} (r : Room (k + 1) A) : Room k A.in1.in1 :=
  ⟨r.hd, by have := r.dp; show A.depth + 3 * k + 5 < _; omega, by have := r.un; show A.units + 1 + 1 + 16 * k + 200 < _; omega⟩
/-- an own def called somewhere below, no exception leaving it -/
theorem run_below {A : Around} {fa : Addr} {fd : FuncData} {ps : List Str} {sp : Sp} {n : Nat} {gf : List Value → List Value → List Value} {arr : List V → List V → List V} {pins : List (Addr × Obj)} {σ : St} {H : Hp} {s : Shared} {Q : VK} {us : List Value} {vs : List V}
    (hr : Room lev A) (gd : A.guards = some []) (hfr : A.frames = X.A.frames) (F : FnW X.prog X.w X.K X.mg X.base (L2.CX X.prog X.w) lev fa fd ps sp) (hb : KBn X.K fd ps n [] gf arr)
    (I : Inv X pins σ H s) (r : Vals vs us) (l1 : vs.length = n) (h : sp (arr vs []) H Q (fun _ _ _ => False)) {E : Value → Shared → Prop} : wpAny (model X.prog X.w) A (call (.ref fa) us) (EP X pins σ Q) E s := by
  have r2 := hb.rel r (zs := []) (ws := []) .nil
  have e0 : Env0 X.prog X.w X.K X.mg X.base A X.stack s H := by
    have e := I.env0
    exact ⟨by rw [hfr]; exact e.frames, e.mod, e.bs, e.bsz, e.funs, e.frf, e.hok, e.bare⟩
  refine wpAny_call (codeAny_mono (F.run A X.stack s H ⟨us, []⟩ (gf us []) (arr vs []) Q _ hr gd e0 (hb.to s us [] I.kIn (r.length.symm.trans l1) rfl) r2 h) fun r s' hq => ?_)
  cases r with
  | error e => obtain ⟨_, _, _, _, _, _, _, _, _, _, _, _, z⟩ := hq; exact z.elim
  | ok fl =>
    cases fl with
    | ret u => exact I.after hq
    | next => exact False.elim hq
    | brk => exact False.elim hq
    | cont => exact False.elim hq
/-- an own special's parts -/
theorem spc_get (c : COk g lev X N sc W) {m : Str} {C a : Addr} {vs : List V} {us : List Value} {H : Hp} {Q : VK} (h : spc g m C (.ref a) vs H Q) : ∃ fa, PySem.W.findIn X.K (.ref C) m = some (some (.ref fa)) ∧ PySem.W.isFn X.K (.ref fa) = true ∧ Cls X.K C ∧
    ∀ {A : Around} {pins : List (Addr × Obj)} {σ : St} {s : Shared} {E : Value → Shared → Prop}, Room lev A → A.guards = some [] → A.frames = X.A.frames → Inv X pins σ H s → Vals vs us → wpAny (model X.prog X.w) A (call (.ref fa) (.ref a :: us)) (EP X pins σ Q) E s := by
  obtain ⟨i, hi, hC, q⟩ := h
  obtain ⟨i1, i2, i3, i4⟩ := cands_ok hi
  obtain ⟨fa, fd, ps, gf, cl, me, F, kb⟩ := c.gok.mts i i1
  rw [hC] at cl me
  rw [i2] at me
  rw [i3, i4] at kb
  rw [← c.hK] at cl me F kb
  refine ⟨fa, me.at_, me.fn, cl, fun hr gd hf I r => ?_⟩
  exact run_below (vs := .ref a :: vs) hr gd hf F kb I (.cons rfl r) (by rw [List.length_cons]) q
theorem b_lenG (c : COk g lev X N sc W) (hl : CallR X (.builtin "len") (bLen g.K)) : CallR X (.builtin "len") (bLenG g) := by
  intro pins s σ H xs us Q I r h
  unfold bLenG at h
  split at h
  · rename_i x
    split at h
    · rename_i a C fs e
      obtain ⟨dx, rfl, ea⟩ := insOf_ok e
      obtain ⟨u, rfl, ru⟩ := vals1 r
      cases ru
      obtain ⟨fa, h1, h2, cl, run⟩ := spc_get (us := []) c h
      obtain ⟨mA, J, _⟩ := ins_get I.hok ea
      obtain ⟨od, J, _⟩ := J.look
      obtain ⟨m, hF⟩ := I.fr
      refine PySem.W.len_K hF I.ok.mod.kin J h1 h2 (wpAny_mono (run (c.room.in1) c.gd rfl I .nil) (fun u s' z => ?_) fun _ _ z => z)
      obtain ⟨v, H', I', rv, q⟩ := z
      cases v <;> first | exact q.elim | skip
      obtain ⟨t, rfl⟩ := rv
      exact ⟨q.1, ⟨.int _, H', I'.tok _, ⟨_, rfl⟩, q.2⟩⟩
    · exact hl pins s σ H _ us Q I r h
  · exact h.elim
theorem b_strG (c : COk g lev X N sc W) : CallR X (.type "str") (bStrG g) := by
  intro pins s σ H xs us Q I r h
  unfold bStrG at h
  split at h
  · rename_i x
    split at h
    · rename_i a C fs e
      obtain ⟨dx, rfl, ea⟩ := insOf_ok e
      obtain ⟨u, rfl, ru⟩ := vals1 r
      cases ru
      obtain ⟨fa, h1, h2, cl, run⟩ := spc_get (us := []) c h
      obtain ⟨mA, J, _⟩ := ins_get I.hok ea
      obtain ⟨od, J, _⟩ := J.look
      refine PySem.W.kso_call (by have := c.room.un; show X.A.units + 1 + 1 < _; omega) I.kIn J h1 h2 (wpAny_mono (run (room_in2 c.room) c.gd rfl I .nil) (fun u s' z => ?_) fun _ _ z => z)
      obtain ⟨v, H', I', rv, q⟩ := z
      cases v <;> first | exact q.elim | skip
      obtain ⟨t, rfl⟩ := rv
      exact ⟨.str _, H', I', ⟨_, rfl⟩, q⟩
    · exact b_str pins s σ H _ us Q I r h
  · exact h.elim
/-! ### == and != -/
theorem sub_no {K : PySem.W.Frag} {C : Addr} {n : String} {H : Hp} {x : V} (h : tyN K H x = some n) : PySem.W.notFirst K C (.type n) = true := by
  have key : ∀ m : String, m ∈ ["NoneType", "bool", "int", "str", "list", "tuple", "dict"] → PySem.W.notFirst K C (.type m) = true := by
    intro m hm
    simp only [List.mem_cons, List.not_mem_nil, or_false] at hm
    rcases hm with rfl | rfl | rfl | rfl | rfl | rfl | rfl <;> (first | rfl | kernel_rfl)
  refine key n ?_
  unfold tyN at h
  split at h
  all_goals try (cases h <;> simp)
  split at h
  all_goals try (cases h <;> simp)
  split at h <;> cases h <;> simp
theorem eq_looks {pins : List (Addr × Obj)} {σ : St} {H : Hp} {s : Shared} {C : Addr} {y : V} {v : Value} (c : COk g lev X N sc W) (I : Inv X pins σ H s) (ry : RelV y v) (h : eqOk g C H y) :
    ∃ tb, PySem.W.Looks (model X.prog X.w) s.heap (typeOf v) tb ∧ PySem.W.notFirst X.K C tb = true := by
  rcases h with h | ⟨b, fs, h⟩
  · cases e : tyN g.K H y with
    | none => rw [e] at h; cases h
    | some n =>
      have e2 := e
      rw [← c.hK] at e
      obtain ⟨P, Z, p, _⟩ := kit_of I ry (tyN_ok e)
      exact ⟨_, Z.ty _ _ I.kIn p, sub_no e⟩
  · obtain ⟨dx, rfl, ea⟩ := insOf_ok h
    cases ry
    obtain ⟨mA, J, _⟩ := ins_get I.hok ea
    obtain ⟨od, J, _⟩ := J.look
    exact ⟨_, J.type, by simp [PySem.W.notFirst]⟩
theorem r_eqG0 (c : COk g lev X N sc W) (ho : OpR X (compareOp .Eq) (oEq g.K)) : OpR X (compareOp .Eq) (oEqG0 g) := by
  intro pins s σ H x y v u Q I rx ry h
  unfold oEqG0 at h
  split at h
  · rename_i a C fs e
    obtain ⟨dx, rfl, ea⟩ := insOf_ok e
    cases rx
    obtain ⟨hy, h⟩ := h
    obtain ⟨tb, hb, hn⟩ := eq_looks c I ry hy
    obtain ⟨fa, h1, h2, cl, run⟩ := spc_get (us := [u]) c h
    obtain ⟨mA, J, _⟩ := ins_get I.hok ea
    obtain ⟨od, J, _⟩ := J.look
    obtain ⟨m, hF⟩ := I.fr
    show wpAny (model X.prog X.w) X.A (richCompare .Eq (.ref a) u) _ _ _
    refine PySem.W.cmp_K (op := .Eq) (by have := c.room.un; omega) hF I.ok.mod.kin J hb hn h1 h2 (wpAny_mono (run c.room0 c.gd rfl I (.cons ry .nil)) (fun r s' z => ?_) fun _ _ z => z)
    obtain ⟨w, H', I', rv, q⟩ := z
    cases w <;> first | exact q.elim | skip
    cases rv
    exact ⟨.bl _, H', I', rfl, q⟩
  · rcases h with h | h
    · exact ho pins s σ H x y v u Q I rx ry h
    · rw [← c.hK] at h
      exact op_eqDD (by have := c.room.un; omega) pins s σ H x y v u Q I rx ry h
end
end WR
namespace PySem.W
open PySem PySem.Spec PySem.Calls PyProof.Rows PySem.Builtin
section
variable {prog : Program} {w : World} {A : Around} {E : Value → Shared → Prop} {s : Shared} {K : Frag} {x C L f : Addr} {h₀ : Heap} {m : Str → Option Value} {ox : Obj} {od : Option Obj} {name : Str} {b tb : Value}
theorem wr_ifBoundB {M : Model} {id : String} {args : List Value} {Q : Option Value → Shared → Prop} (X : K.In s.heap) (I : InstAt s.heap x ox C od) (hs : findIn K (.ref C) name = some (some (.builtin id))) (hb : ∀ self, bindSpecial (.builtin id) self = pure (.builtin id, [self]))
    (h : wpAny M A (call (.builtin id) (.ref x :: args)) (fun v => Q (some v)) E s) : wpAny M A (callSpecialIfBound? (.ref x) name args) Q E s := by
  simp only [callSpecialIfBound?, bindSpecialIfBound?]
  refine wpAny_holding (wpAny_bind (wpAny_bind (wpAny_bind (I.type.here ((looks_findIn X hs).here ?_)))))
  refine wpAny_bind (wpAny_askSetting (wpAny_ite ?_))
  have fin : wpAny M A (call (.builtin id) ([.ref x] ++ args) >>= fun v => pure (some v)) Q E s := wpAny_bind (wpAny_mono h (fun v s' h' => wpAny_pure h') fun _ _ h' => h')
  split
  · exact wpAny_bind ((Looks.of_pure (hb _)).here (wpAny_pure (by exact fin)))
  · exact wpAny_tryCatch (wpAny_bind ((Looks.of_pure (hb _)).here (wpAny_pure (by exact fin))))
theorem wr_ne {Q : Value → Shared → Prop} (hu : A.units + 1 < cLine) (X : K.In s.heap) (I : InstAt s.heap x ox C od) (hb : Looks (model prog w) s.heap (typeOf b) tb) (hn : notFirst K C tb = true)
    (hne : findIn K (.ref C) "__ne__" = some (some (.builtin "object.__ne__"))) (hm : Looks (model prog w) s.heap (isInstance (.ref x) (.type "object")) true) (hs : findIn K (.ref C) "__eq__" = some (some (.ref f))) (hf : isFn K (.ref f) = true)
    (h : wpAny (model prog w) A.in1 (call (.ref f) [.ref x, b]) (fun v s' => ∃ r, v = .bool r ∧ Q (.bool (!r)) s') E s) : wpAny (model prog w) A (richCompare .NotEq (.ref x) b) Q E s := by
  have one : wpAny (model prog w) A (tryCompare (.ref x) "__ne__" b) (fun r s' => ∃ v, r = some v ∧ Q v s') E s := by
    unfold tryCompare
    refine wpAny_bind (wr_ifBoundB (id := "object.__ne__") X I hne PySem.F.slot_zip_ne.bind (wpAny_call (codeAny_call_builtin PySem.F.slot_zip_ne.plain F.cmpEntry_ne (check_slot F.cmpKind_ne F.cmpSplit_ne hm (F.cmpArgs_ne _ _) ?_))))
    unfold Builtin.«object.__ne__»
    refine wpAny_bind (m := slotArgs "__ne__" 1 _) (wpAny_pure ?_)
    refine wpAny_bind (wpAny_cRoomFor hu ?_)
    refine wpAny_bind (m := callSpecialIfBound? (.ref x) (Str.ofString "__eq__") [b]) (ifBound_K X I hs hf (wpAny_mono h (fun v s' hv => ?_) fun _ _ e => e))
    obtain ⟨r, rfl, hq⟩ := hv
    refine wpAny_bind (m := truthy (.bool r)) (wpAny_truthy_bool ?_)
    first | exact wpAny_pure ⟨_, rfl, wpAny_pure ⟨_, rfl, hq⟩⟩ | exact wpAny_pure (wpAny_pure ⟨_, rfl, hq⟩) | exact wpAny_pure ⟨_, rfl, hq⟩ | exact wpAny_pure ⟨_, rfl, wpAny_pure hq⟩
  unfold richCompare
  simp only [oneThing_ref]
  refine wpAny_holding (wpAny_bind (wpAny_cRoomFor (Nat.lt_of_succ_lt hu) ?_))
  refine wpAny_bind (I.type.here (wpAny_bind (hb.here ?_)))
  rw [cmpInfo_NotEq]
  dsimp only
  split
  · rename_i q
    have e : subIn K tb (.ref C) = some false := by
      rcases Bool.or_eq_true_iff.mp hn with e | e
      · rw [beq_iff_eq.mp e] at q; simp at q
      · exact beq_iff_eq.mp e
    refine wpAny_bind ((looks_subIn X e).here ?_)
    simp only [Bool.false_eq_true, if_false]
    refine wpAny_bind (wpAny_mono one (fun r s' z => ?_) fun _ _ e => e)
    obtain ⟨v, rfl, hq⟩ := z
    exact wpAny_pure hq
  · refine wpAny_bind (wpAny_pure ?_)
    simp only [Bool.false_eq_true, if_false]
    refine wpAny_bind (wpAny_mono one (fun r s' z => ?_) fun _ _ e => e)
    obtain ⟨v, rfl, hq⟩ := z
    exact wpAny_pure hq
theorem wr_truthy {Q : Bool → Shared → Prop} (X : K.In s.heap) (I : InstAt s.heap x ox C od) (hb : findIn K (.ref C) "__bool__" = some none) (hs : findIn K (.ref C) "__len__" = some (some (.ref f))) (hf : isFn K (.ref f) = true)
    (h : wpAny (model prog w) A.in1 (call (.ref f) [.ref x]) (fun r s' => ∃ n u, r = .int n u ∧ (0 ≤ n ∧ n < 2 ^ 63) ∧ Q (n != 0) { s' with toks := s'.toks + 1 }) E s) : wpAny (model prog w) A (truthy (.ref x)) Q E s := by
  have key : wpAny (model prog w) A (runValue (.builtin "len" ⟨[.ref x], []⟩)) (fun r s' => ∃ n t, r = .int n t ∧ Q (n != 0) s') E s := by
    refine wpAny_runValue (codeAny_builtin entry_len ?_)
    rw [Around.under_plainId plain_len _]
    unfold Builtin.«len»
    refine wpAny_bind (m := oneArg "len" _) (wpAny_pure ?_)
    refine wpAny_bind (m := callSpecial? (.ref x) (Str.ofString "__len__")) (special_fn X I hs (beq_iff_eq.mp hf) (wpAny_mono h (fun r s' hr => ?_) fun _ _ y => y))
    obtain ⟨n, u, rfl, ⟨h0, h1⟩, hq⟩ := hr
    refine wpAny_bind (wpAny_holding (wpAny_pure ?_))
    refine wpAny_bind (wpAny_letGo ?_)
    show wpAny _ _ (if n < 0 then _ else _) _ _ _
    rw [if_neg (by omega)]
    show wpAny _ _ (if n ≥ 2 ^ 63 then _ else _) _ _ _
    rw [if_neg (by omega)]
    exact wpAny_bind (wpAny_mkInt (wpAny_pure ⟨_, _, rfl, hq⟩))
  unfold truthy
  refine wpAny_bind (m := callSpecial? (.ref x) (Str.ofString "__bool__")) ?_
  refine wpAny_bind (wpAny_bind (I.type.here ((looks_findIn X hb).here ?_)))
  refine wpAny_pure ?_
  refine wpAny_bind (wpAny_bind (I.type.here ((looks_findIn X hs).here ?_)))
  show wpAny _ _ (if (some (Value.ref f)).isNone = true then _ else _) _ _ _
  rw [if_neg (by simp)]
  refine wpAny_bind (m := runValue _) (wpAny_mono key (fun v s' hv => ?_) fun _ _ e => e)
  obtain ⟨n, t, rfl, hq⟩ := hv
  exact wpAny_pure hq
theorem wr_bool {Q : Value → Shared → Prop} (h : wpAny (model prog w) A.in1.in1 (truthy (.ref x)) (fun b s' => Q (.bool b) s') E s) : wpAny (model prog w) A (call (.type "bool") [.ref x]) Q E s := by
  refine callType_newIn F.called_bool (by decide) (F.typeCall_bool_1 _) (F.newCall_bool_1 _) (fun obj => F.args_object_init_2 obj _) F.entry_bool_new (S := fun A R s => wpAny (model prog w) A.in1 (truthy (.ref x)) (fun b s' => R (.ok (.ret (.bool b))) s') (fun e s' => R (.error e) s') s) (MeetsIn.of_wp fun A R s hq => ?_) ?_
  · obtain ⟨hp, g, d, tk, os⟩ := s
    have f1 := F.conv_sub_bool
    repeat (any_goals (first | assumption | (refine wpAny_mono hq (fun b s' hb => ?_) fun _ _ e => e) | wp_step))
    all_goals first | exact ⟨_, rfl, hb⟩ | exact hb | skip
  · exact wpAny_mono h (fun b s' hb => ⟨rfl, hb⟩) fun _ _ e => e
end
end PySem.W

namespace WR
open PySem PySem.Spec PyProof.Rows L2
section
variable {g : G} {lev : Nat} {X : Cx} {N : List Str} {sc : Scope} {W : WX}
theorem r_neG (c : COk g lev X N sc W) (ho : OpR X (compareOp .NotEq) (oNe g.K)) : OpR X (compareOp .NotEq) (oNeG g) := by
  intro pins s σ H x y v u Q I rx ry h
  unfold oNeG at h
  split at h
  · rename_i a C fs e
    obtain ⟨dx, rfl, ea⟩ := insOf_ok e
    cases rx
    obtain ⟨⟨p, hp, hC⟩, hy, h⟩ := h
    subst hC
    have hne := (ownB_ok (c.gok.nes p hp)).1
    rw [← c.hK] at hne
    obtain ⟨tb, hb, hn⟩ := eq_looks c I ry hy
    obtain ⟨fa, h1, h2, cl, run⟩ := spc_get (us := [u]) c h
    obtain ⟨mA, J, _⟩ := ins_get I.hok ea
    obtain ⟨od, J, _⟩ := J.look
    show wpAny (model X.prog X.w) X.A (richCompare .NotEq (.ref a) u) _ _ _
    have hm : PySem.W.Looks (model X.prog X.w) s.heap (isInstance (.ref a) (.type "object")) true := by
      obtain ⟨cd, hc, ho⟩ := PySem.W.any_some cl.po
      have ne : cd.mro.isEmpty = false := by cases q : cd.mro with | nil => rw [q] at ho; cases ho | cons _ _ => rfl
      exact J.type.andThen (PySem.W.looks_mroIn I.kIn (by unfold PySem.W.mroIn; rw [hc, Option.bind_some, if_neg (by rw [ne]; decide), PySem.W.only_has ho]))
    refine PySem.W.wr_ne (by have := c.room.un; omega) I.kIn J hb hn hne hm h1 h2 (wpAny_mono (run c.room.in1 c.gd rfl I (.cons ry .nil)) (fun r s' z => ?_) fun _ _ z => z)
    obtain ⟨w, H', I', rv, q⟩ := z
    cases w <;> first | exact q.elim | skip
    cases rv
    exact ⟨_, rfl, .bl _, H', I', rfl, q⟩
  · rcases h with h | h
    · exact ho pins s σ H x y v u Q I rx ry h
    · rw [← c.hK] at h
      exact op_neDD (by have := c.room.un; omega) pins s σ H x y v u Q I rx ry h
theorem b_boolG (c : COk g lev X N sc W) : CallR X (.type "bool") (bBoolG g) := by
  intro pins s σ H xs us Q I r h
  unfold bBoolG at h
  split at h
  · exact call_bool1 pins s σ H _ us Q I r (.inl ⟨_, rfl, h⟩)
  · exact call_bool1 pins s σ H _ us Q I r (.inr ⟨_, rfl, h⟩)
  · split at h
    · rename_i x _ _ a C fs e
      obtain ⟨dx, rfl, ea⟩ := insOf_ok e
      obtain ⟨u, rfl, ru⟩ := vals1 r
      cases ru
      obtain ⟨⟨cs, hl, hC⟩, h⟩ := h
      obtain ⟨_, hb⟩ := c.gok.ats _ (lookup_mem hl) _ hC
      rw [← c.hK] at hb
      obtain ⟨fa, h1, h2, cl, run⟩ := spc_get (us := []) c h
      obtain ⟨mA, J, _⟩ := ins_get I.hok ea
      obtain ⟨od, J, _⟩ := J.look
      refine PySem.W.wr_bool (PySem.W.wr_truthy I.kIn J hb h1 h2 (wpAny_mono (run (room_in3 c.room) c.gd rfl I .nil) (fun u s' z => ?_) fun _ _ z => z))
      obtain ⟨v, H', I', rv, q⟩ := z
      cases v <;> first | exact q.elim | skip
      obtain ⟨t, rfl⟩ := rv
      exact ⟨_, _, rfl, q.1, ⟨.bl _, H', I'.tok _, rfl, q.2⟩⟩
    · exact h.elim
  · exact h.elim

/-- isinstance(x, D), D an own class -/
def bIsO (g : G) (D : Addr) : RC := fun xs H Q => match xs with
  | [x, .ref D'] => D' = D ∧ (match insOf H x with
    | some (_, C, _) => (∃ p ∈ g.nes, p.2 = C) ∧ ((C = D ∧ Q (.bl true) H) ∨ (PySem.W.kitOne g.K (.ref C) (.ref D) = some false ∧ Q (.bl false) H))
    | none => (tyN g.K H x).isSome = true ∧ Q (.bl false) H)
  | _ => False
theorem tyN_basic {K : PySem.W.Frag} {H : Hp} {x : V} {n : String} (h : tyN K H x = some n) : n ∈ basics := by
  unfold tyN at h
  split at h
  all_goals try (cases h <;> simp [basics])
  split at h
  all_goals try (cases h <;> simp [basics])
  split at h <;> cases h <;> simp [basics]
theorem b_isO (c : COk g lev X N sc W) {D : Str × Addr} (hD : D ∈ g.nes) : CallR X (.builtin "isinstance") (bIsO g D.2) := by
  refine CallR_imp call_isi fun xs H Q h => ?_
  rw [c.hK]
  unfold bIsO at h
  split at h
  · obtain ⟨rfl, h⟩ := h
    have hcl := c.gok.nec D hD
    obtain ⟨k1, k2, k3, k4, k5, k6, k7⟩ := ownB_ok (c.gok.nes D hD)
    split at h
    · rename_i a C fs e
      obtain ⟨dx, rfl, ea⟩ := insOf_ok e
      obtain ⟨⟨p, hp, rfl⟩, h⟩ := h
      obtain ⟨m1, m2, m3, m4, m5, m6, m7⟩ := ownB_ok (c.gok.nes p hp)
      rcases h with ⟨hC, h⟩ | ⟨hk, h⟩
      · rw [hC] at ea
        exact ⟨_, _, _, _, true, rfl, .own _, .base (.ins ea hcl k2 k3 k4 k5), k6, h⟩
      · rcases c.gok.nec p hp with cl
        exact ⟨_, _, _, _, false, rfl, .own _, .base (.ins ea cl m2 m3 m4 m5), hk, h⟩
    · cases e : tyN g.K H _ with
      | none => rw [e] at h; cases h.1
      | some n => exact ⟨_, _, _, _, false, rfl, .own _, tyN_ok e, k7 n (tyN_basic e), h.2⟩
  · exact h.elim
/-! ### sorted -/
def allStr : List V → Option (List Str)
  | [] => some []
  | .str x :: r => (allStr r).map (x :: ·)
  | _ => none
def allInt : List V → Option (List Int)
  | [] => some []
  | .int x :: r => (allInt r).map (x :: ·)
  | _ => none
theorem allStr_ok : ∀ {vs : List V} {ss : List Str}, allStr vs = some ss → vs = ss.map V.str
  | [], ss, h => by cases h; rfl
  | v :: r, ss, h => by
    cases v <;> simp [allStr] at h
    obtain ⟨l, hl, rfl⟩ := h
    rw [allStr_ok hl]; rfl
theorem allInt_ok : ∀ {vs : List V} {ss : List Int}, allInt vs = some ss → vs = ss.map V.int
  | [], ss, h => by cases h; rfl
  | v :: r, ss, h => by
    cases v <;> simp [allInt] at h
    obtain ⟨l, hl, rfl⟩ := h
    rw [allInt_ok hl]; rfl
theorem allStr_map : ∀ ss : List Str, allStr (ss.map V.str) = some ss
  | [] => rfl
  | x :: r => by show (allStr (r.map V.str)).map (x :: ·) = _; rw [allStr_map r]; rfl
theorem allInt_map : ∀ ss : List Int, allInt (ss.map V.int) = some ss
  | [] => rfl
  | x :: r => by show (allInt (r.map V.int)).map (x :: ·) = _; rw [allInt_map r]; rfl
def keysS : List (Key × V) → Option (List Str)
  | [] => some []
  | (.inr x, _) :: r => (keysS r).map (x :: ·)
  | _ => none
theorem keysS_ok : ∀ {kvs : List (Key × V)} {ss : List Str}, keysS kvs = some ss → kvs.map (·.1) = ss.map Sum.inr
  | [], ss, h => by cases h; rfl
  | (k, v) :: r, ss, h => by
    cases k with
    | inl i => simp [keysS] at h
    | inr x =>
      simp [keysS] at h
      obtain ⟨l, hl, rfl⟩ := h
      rw [List.map_cons, List.map_cons, keysS_ok hl]
/-- sorted(..) of texts, of whole numbers, of a dict's text keys -/
def bSorted (K : PySem.W.Frag) : RC := fun xs H Q => match xs with
  | [.ref a] => (match look K H a with
    | some (.lst vs) => (match allStr vs with
      | some ss => ss.length < 64 ∧ ∀ ys : List Str, ys.Perm ss → sortedS ys = true → ∀ p, H p = none → Q (.ref p) (upd H p (.lst (ys.map V.str)))
      | none => (match allInt vs with
        | some ns => ∀ ys : List Int, ys.Perm ns → ys.Pairwise (· ≤ ·) → ∀ p, H p = none → Q (.ref p) (upd H p (.lst (ys.map V.int)))
        | none => False))
    | some (.dK kvs) => (match keysS kvs with
      | some ss => ss.length < 64 ∧ ∀ ys : List Str, ys.Perm ss → sortedS ys = true → ∀ p, H p = none → Q (.ref p) (upd H p (.lst (ys.map V.str)))
      | none => False)
    | _ => False)
  | _ => False
theorem b_sorted (hc : X.calm = true) : CallR X (.builtin "sorted") (bSorted X.K) := by
  refine CallR_imp (cr_sortedS.or (cr_sortedI.or (call_sortedD hc))) fun xs H Q h => ?_
  unfold bSorted at h
  split at h
  · split at h
    · rename_i vs e
      split at h
      · rename_i ss es
        rw [allStr_ok es] at e
        exact .inl ⟨_, ss, rfl, look_lst e, h.1, fun ys p h1 h2 h3 => h.2 ys h1 h2 p h3⟩
      · split at h
        · rename_i ns es
          rw [allInt_ok es] at e
          exact .inr (.inl ⟨_, ns, rfl, look_lst e, fun ys p h1 h2 h3 => h ys h1 h2 p h3⟩)
        · exact h.elim
    · rename_i kvs e
      split at h
      · rename_i ss es
        exact .inr (.inr ⟨_, kvs, ss, rfl, look_dK e, keysS_ok es, h.1, fun ys p h1 h2 h3 => h.2 ys h1 h2 p h3⟩)
      · exact h.elim
    · exact h.elim
  · exact h.elim
end

/-! ### f'..', dict comprehensions -/
def cFmt (te : TE) : TE := fun σ H Q => te σ H fun x H1 => match x with
  | .str y => y.length ≤ sizeLine ∧ Q (.str y) H1
  | .int i => i.natAbs.log2 < 1920 ∧ Q (.str (toString i)) H1
  | _ => False
/-- the texts one behind the other -/
def cJs : List TE → Str → St → Hp → (Str → Hp → Prop) → Prop
  | [], acc, _, H, Q => Q acc H
  | t :: ts, acc, σ, H, Q => t σ H fun x H1 => match x with
    | .str y => (acc ++ y).length ≤ sizeLine ∧ cJs ts (acc ++ y) σ H1 Q
    | _ => False
/-- a dict comprehension's turns -/
def lpd (J : It) (g : TG) (tt : TT) (tk tv : TE) (vs : List Nat) (σ : St) (D : Addr) (Q : VK) : Nat → Nat → Hp → Prop
  | 0, i, H => J.stop i H ∧ Q (.ref D) H
  | n + 1, i, H => (J.stop i H ∧ Q (.ref D) H) ∨ (J.go i H ∧ ∀ x H', J.yld i H x H' → g x (wipe σ vs) H' fun σ2 H2 => wipe σ2 vs = wipe σ vs ∧ tt σ2 H2 fun b H3 =>
      if b = true then tk σ2 H3 fun y H4 => tv σ2 H4 fun z H5 => ∃ kvs k, y = kV k ∧ H5 D = some (.dK kvs) ∧ kvs.length < sizeLine ∧ lpd J g tt tk tv vs σ D Q n (i + 1) (upd H5 D (.dK (putK kvs k z)))
      else lpd J g tt tk tv vs σ D Q n (i + 1) H3)
def cDc (wi : TI) (g : TG) (tt : TT) (tk tv : TE) (vs : List Nat) : TE := fun σ H Q => wi σ H fun J H1 => ∀ D, H1 D = none → ∃ n, lpd J g tt tk tv vs σ D Q n 0 (upd H1 D (.dK []))
end WR

set_option Elab.async false
set_option linter.all false
set_option maxRecDepth 100000
set_option maxHeartbeats 4000000
namespace WR
open PySem PySem.Spec PyProof.Rows L2

/-! ## repr of data at any depth -/
def kD : Key → PyData
  | .inl i => .int i
  | .inr s => .str s
mutual
inductive Dx (K : PySem.W.Frag) (H : Hp) : V → PyData → Prop
  | non : Dx K H .non .none
  | bl (b : Bool) : Dx K H (.bl b) (.bool b)
  | int (i : Int) : Dx K H (.int i) (.int i)
  | str (x : Str) : Dx K H (.str x) (.str x)
  | lst {a : Addr} {xs : List V} {ds : List PyData} : look K H a = some (.lst xs) → DxAll K H xs ds → Dx K H (.ref a) (.list ds)
  | tup {a : Addr} {xs : List V} {ds : List PyData} : look K H a = some (.tup xs) → DxAll K H xs ds → Dx K H (.ref a) (.tuple ds)
  | dic {a : Addr} {kvs : List (Key × V)} {ds : List (PyData × PyData)} : Rd H a (.dK kvs) → DxKv K H kvs ds → Dx K H (.ref a) (.dict ds)
inductive DxAll (K : PySem.W.Frag) (H : Hp) : List V → List PyData → Prop
  | nil : DxAll K H [] []
  | cons {v : V} {vs : List V} {d : PyData} {ds : List PyData} : Dx K H v d → DxAll K H vs ds → DxAll K H (v :: vs) (d :: ds)
inductive DxKv (K : PySem.W.Frag) (H : Hp) : List (Key × V) → List (PyData × PyData) → Prop
  | nil : DxKv K H [] []
  | cons {k : Key} {v : V} {kvs : List (Key × V)} {d : PyData} {ds : List (PyData × PyData)} : Dx K H v d → DxKv K H kvs ds → DxKv K H ((k, v) :: kvs) ((kD k, d) :: ds)
end
theorem sys_dict {K : PySem.W.Frag} (h : sysB K = true) : ∃ o es n, K.lookup sysModules = some o ∧ o.data = .dict es n := by
  unfold sysB at h
  split at h
  · rename_i o e
    unfold isDctO at h
    split at h
    · rename_i es n hd
      exact ⟨o, es, n, e, hd⟩
    · cases h
  · cases h
section
variable {X : Cx} {pins : List (Addr × Obj)} {σ : St} {H : Hp} {s : Shared}
/-- nothing tracked stands at sys.modules, and no list of the written part -/
theorem sys_free (I : Inv X pins σ H s) (hs : sysB X.K = true) : H sysModules = none := by
  obtain ⟨o, es, n, e, _⟩ := sys_dict hs
  exact (I.bs _ o (I.ok.mod.kin _ _ e)).2
theorem sys_lst (I : Inv X pins σ H s) (hs : sysB X.K = true) {a : Addr} {u : HO} (h : look X.K H a = some u) : sysModules ≠ a := by
  rintro rfl
  have n := sys_free I hs
  unfold look at h
  rw [n] at h
  obtain ⟨o, es, m, e, hd⟩ := sys_dict hs
  unfold kobj at h
  rw [e] at h
  simp only [hd] at h
  cases h
theorem key_reads {k : Key} {u : Value} (h : keyIs k u = true) : Reads s.heap u (kD k) [] := by
  rcases keyIs_shape h with ⟨i, t, rfl, rfl⟩ | ⟨x, t, rfl, rfl⟩
  · exact .int i t
  · exact .str x t
mutual
theorem Dx.reads (I : Inv X pins σ H s) (hs : sysB X.K = true) : ∀ (d : PyData) (v : V) (u : Value), Dx X.K H v d → RelV v u → ∃ as, Reads s.heap u d as ∧ sysModules ∉ as
  | .none, _, _, h, r => by
    cases h; cases r
    exact ⟨[], .none, by simp⟩
  | .bool b, _, _, h, r => by
    cases h; cases r
    exact ⟨[], .bool b, by simp⟩
  | .int i, _, _, h, r => by
    cases h
    obtain ⟨t, rfl⟩ := r
    exact ⟨[], .int i t, by simp⟩
  | .str x, _, _, h, r => by
    cases h
    obtain ⟨t, rfl⟩ := r
    exact ⟨[], .str x t, by simp⟩
  | .list ds, _, _, h, r => by
    cases h with
    | lst e ha =>
      cases r
      obtain ⟨its, rv, ⟨o, n, ho, hc, _, hd⟩, _⟩ := I.list (look_lst e)
      obtain ⟨as, hr, ns⟩ := Dx.readsAll I hs ds _ its ha rv
      refine ⟨_, .list ho hc hd hr, ?_⟩
      intro m
      rcases List.mem_cons.mp m with m | m
      · exact sys_lst I hs e m
      · exact ns m
  | .tuple ds, _, _, h, r => by
    cases h with
    | tup e ha =>
      cases r
      obtain ⟨its, rv, ⟨o, ho, hc, n, hd⟩, _⟩ := I.tuple (look_tup e)
      obtain ⟨as, hr, ns⟩ := Dx.readsAll I hs ds _ its ha rv
      exact ⟨as, .tuple ho hc hd hr, ns⟩
  | .dict ds, _, _, h, r => by
    cases h with
    | dic e ha =>
      rename_i a kvs
      cases r
      have ok : ObjOk X.prog X.w H s.heap a (.dK kvs) := by
        rcases e with e | ⟨ob, e⟩
        · exact I.hok _ _ e
        · exact (show ObjOk X.prog X.w H s.heap a (.frz ob (.dK kvs)) from I.hok _ _ e).2
      obtain ⟨_, na, vs, kv, o, es, ep, ho, hx, hd, hk, hp, _⟩ := ok
      obtain ⟨as, bs, r1, r2, n1, n2⟩ := Dx.readsKv I hs ds kvs vs es.toList ha kv hp
      refine ⟨_, .dict ho hx.1 hd r1 r2, ?_⟩
      have na' : sysModules ≠ a := fun z => by rw [← z] at na; simp at na
      simp only [List.cons_append, List.mem_cons, List.mem_append, not_or]
      exact ⟨na', n1, n2⟩
theorem Dx.readsAll (I : Inv X pins σ H s) (hs : sysB X.K = true) : ∀ (ds : List PyData) (vs : List V) (us : List Value), DxAll X.K H vs ds → Vals vs us → ∃ as, ReadsAll s.heap us ds as ∧ sysModules ∉ as
  | [], _, _, h, r => by
    cases h; cases r
    exact ⟨[], .nil, by simp⟩
  | d :: ds, _, _, h, r => by
    cases h with
    | cons h1 h2 =>
      cases r with
      | cons r1 r2 =>
        obtain ⟨as, q1, n1⟩ := Dx.reads I hs d _ _ h1 r1
        obtain ⟨bs, q2, n2⟩ := Dx.readsAll I hs ds _ _ h2 r2
        exact ⟨_, .cons q1 q2, fun m => (List.mem_append.mp m).elim n1 n2⟩
theorem Dx.readsKv (I : Inv X pins σ H s) (hs : sysB X.K = true) : ∀ (ds : List (PyData × PyData)) (kvs : List (Key × V)) (vs : List (Key × Value)) (es : List DictEntry), DxKv X.K H kvs ds → KV kvs vs → Pairs (mixKind X.prog X.w) es vs →
    ∃ as bs, ReadsAll s.heap (es.map (·.key)) (ds.map (·.1)) as ∧ ReadsAll s.heap (es.map (·.val)) (ds.map (·.2)) bs ∧ sysModules ∉ as ∧ sysModules ∉ bs
  | [], kvs, vs, es, h, r, p => by
    cases h; cases r; cases p
    exact ⟨[], [], .nil, .nil, by simp, by simp⟩
  | (kd, d) :: ds, kvs, vs, es, h, r, p => by
    cases h with
    | cons h1 h2 =>
      cases r with
      | cons r1 r2 =>
        cases p with
        | cons p1 p2 p3 =>
          obtain ⟨e1, r1⟩ := r1
          obtain ⟨as, bs, q1, q2, n1, n2⟩ := Dx.readsKv I hs ds _ _ _ h2 r2 p3
          obtain ⟨cs, q3, n3⟩ := Dx.reads I hs d _ _ h1 r1
          rw [← p2] at q3
          rw [← e1] at p1
          refine ⟨_, _, .cons (key_reads p1) q1, .cons q3 q2, ?_, ?_⟩
          · simpa using n1
          · exact fun m => (List.mem_append.mp m).elim n3 n2
end
end
/-! ### repr -/
def bRepr (K : PySem.W.Frag) : RC := fun xs H Q => ∃ x d, xs = [x] ∧ Dx K H x d ∧ d.showable = true ∧ d.depth ≤ 40 ∧ d.shown.length ≤ sizeLine ∧ Q (.str d.shown) H
theorem b_repr {X : Cx} (gd : X.A.guards = some []) (hu : X.A.units + 64 < cLine) (hs : sysB X.K = true) : CallR X (.builtin "repr") (bRepr X.K) := by
  intro pins s σ H xs us Q I r h
  obtain ⟨x, d, rfl, hx, h1, h2, h3, q⟩ := h
  obtain ⟨u, rfl, ru⟩ := vals1 r
  obtain ⟨as, rd, ns⟩ := Dx.reads I hs d x u hx ru
  cases rd with
  | none => exact PySem.P.repr_of_none ⟨.str _, H, I.tok _, ⟨_, rfl⟩, q⟩
  | bool b => exact PySem.P.repr_of_bool ⟨.str _, H, I.tok _, ⟨_, rfl⟩, q⟩
  | int i t => exact PySem.P.repr_of_int (by simpa [PyData.showable] using h1) ⟨.str _, H, I.tok _, ⟨_, rfl⟩, q⟩
  | str y t => exact PySem.P.repr_of_str ⟨.str _, H, I.tok _, ⟨_, rfl⟩, q⟩ h3
  | list e1 e2 e3 e4 => exact repr_of_reads' (.list e1 e2 e3 e4) h1 (fun _ => ns) gd (by omega) (fun _ _ z => z) (fun h' u tk k => ⟨.str _, H, I.kept (t' := tk) k, ⟨_, rfl⟩, q⟩) h3
  | tuple e1 e2 e3 e4 => exact repr_of_reads' (.tuple e1 e2 e3 e4) h1 (fun _ => ns) gd (by omega) (fun _ _ z => z) (fun h' u tk k => ⟨.str _, H, I.kept (t' := tk) k, ⟨_, rfl⟩, q⟩) h3
  | dict e1 e2 e3 e4 e5 => exact repr_of_reads' (.dict e1 e2 e3 e4 e5) h1 (fun _ => ns) gd (by omega) (fun _ _ z => z) (fun h' u tk k => ⟨.str _, H, I.kept (t' := tk) k, ⟨_, rfl⟩, q⟩) h3
end WR

set_option Elab.async false
set_option linter.all false
set_option maxRecDepth 100000
set_option maxHeartbeats 4000000
namespace WR
open PySem PySem.Spec PyProof.Rows L2

/-! ## list(d.values()), list(d.items()) -/
def cLV (te : TE) : TE := fun σ H Q => te σ H fun x H1 => match x with
  | .ref d => (match H1 d with
    | some (.dK kvs) => ∀ p, H1 p = none → Q (.ref p) (upd H1 p (.lst (kvs.map (·.2))))
    | _ => False)
  | _ => False
section
variable {X : Cx} {e : Expr} {te : TE} {p apos cpos pos : Pos}
theorem kv_vals {kvs : List (Key × V)} {vs : List (Key × Value)} (kv : KV kvs vs) : Vals (kvs.map (·.2)) (vs.map (·.2)) := by
  induction kv with
  | nil => exact .nil
  | cons h t ih => exact .cons h.2 ih
theorem pe_listVals (hc : X.calm = true) (he : PE X e te) (hg : Gl X "list") (hm : X.mg "list" = none) (hv : bootBuiltins "list" = some (.type "list")) (hbase : attributeBase e "values" X.env (eval e X.env) = eval e X.env) (hline : (apos.endLine == cpos.line) = true) :
    PE X (.Call (.Name "list" p) [.Call (.Attribute e "values" apos) [] [] cpos] [] pos) (cLV te) := by
  constructor
  intro pins s σ H Q I want
  have hs : starEach [.Call (.Attribute e "values" apos) [] [] cpos] X.env = (false, eval (.Call (.Attribute e "values" apos) [] [] cpos) X.env) :: starEach [] X.env := rfl
  refine wpAny_Call_Name_kw (ld_blt I hg hm hv (PyProof.Rows.callWith_type1 ?_ hs rfl))
  rw [hs]
  show wpAny _ _ (spliced ((false, eval (.Call (.Attribute e "values" apos) [] [] cpos) X.env) :: backTo pos (starEach [] X.env))) _ _ s
  apply Calls.spliced_cons
  apply wpAny_Call_method (T := "dict") (id := "dict.values") hbase rfl hline F.plainAttrs_dict F.slot_dict_values F.type_dict_values
  refine thn (he.run pins s σ H _ I want) fun u s1 got => ?_
  obtain ⟨x, H1, I1, rx, q⟩ := got
  try dsimp only at q
  split at q
  · rename_i d
    split at q
    · rename_i kvs hd
      obtain rfl : u = Value.ref d := rx
      obtain ⟨hz, hs0, vs, kv, hdo⟩ := I1.hok d _ hd
      obtain ⟨ep, hat⟩ := hdo.dictAt
      have lk : kvs.length = vs.length := Paired.length kv
      have I2 : Inv X pins σ H1 { s1 with heap := s1.heap.push { cls := .type "dict_values", data := .fields #[.ref d] } } := I1.kept (t' := s1.toks) fun b ob q => Heap.get?_push_of_some _ q
      refine ⟨hdo.typeIs, hdo.mapOf.noDict, ?_⟩
      show wpAny _ _ (callWith cpos (.builtin "dict.values") [.ref d] [] []) _ X.xe s1
      refine method_meetsIn F.slot_dict_values F.entry_dict_values rfl (PySem.evalArgs_none ⟨rfl, hdo.typeIs, F.args_dict_values_1 _, _, meets_dict_values (mixKind X.prog X.w) d hs0, ⟨vs, hdo⟩, ?_⟩)
      refine Calls.spliced_nil ?_
      refine PySem.W.kdl_call (PySem.W.kdl_values (knd := mixKind X.prog X.w) (kvs := vs) (ep := ep)) (I1.ok.hd hc) ⟨⟨_, Heap.get?_push_size _ rfl, rfl, rfl⟩, hat.push _⟩ (by omega) fun h' tk acc c keep hS items => ?_
      have el : acc.toList = vs.map (·.2) := by
        apply List.ext_getElem?
        intro j
        by_cases hj : j < acc.size
        · have e1 : acc[j]? = some acc[j] := Array.getElem?_eq_getElem hj
          obtain ⟨k, e2⟩ := items.2 j _ e1
          rw [Array.getElem?_toList, e1, List.getElem?_map, e2]
          rfl
        · have hl := items.1
          rw [List.getElem?_eq_none (by simpa using hj), List.getElem?_eq_none (by rw [List.length_map]; omega)]
      have fresh : H1 ({ s1 with heap := s1.heap.push { cls := .type "dict_values", data := .fields #[.ref d] } } : Shared).heap.objs.size = none := I2.hok.fresh (Nat.le_refl _)
      refine ⟨.ref _, _, I2.laid (t' := tk) (o := .lst (kvs.map (·.2))) keep (Nat.le_refl _) ?_, rfl, q _ fresh⟩
      refine ⟨by rw [List.length_map]; exact hz, acc.toList, c, ?_, ?_⟩
      · rw [el]
        exact kv_vals kv
      · rw [Array.toArray_toList]
        exact hS
    · exact q.elim
  · exact q.elim
end
def cLI (te : TE) : TE := LiI.tListItems te
end WR

set_option Elab.async false
set_option linter.all false
set_option maxRecDepth 100000
set_option maxHeartbeats 4000000
namespace WR
open PySem PySem.Spec PyProof.Rows L2 PySem.W

/-! ## > and >= of tuples of ints and texts; | of truths; sorted of data -/
def pOk : V → V → Bool
  | .int _, .int _ => true
  | .str _, .str _ => true
  | _, _ => false
def vGt : V → V → Bool
  | .int i, .int j => decide (j < i)
  | .str a, .str b => decide (b.cps.toList < a.cps.toList)
  | _, _ => false
def vGe : V → V → Bool
  | .int i, .int j => decide (j ≤ i)
  | .str a, .str b => !decide (a.cps.toList < b.cps.toList)
  | _, _ => false
def vLex (r : V → V → Bool) (z : Bool) : List V → List V → Bool
  | x :: xs, y :: ys => if x = y then vLex r z xs ys else r x y
  | _, _ => z
def pAll : List V → List V → Bool
  | [], [] => true
  | x :: xs, y :: ys => pOk x y && pAll xs ys
  | _, _ => false
theorem pAll_len : ∀ {xs ys : List V}, pAll xs ys = true → xs.length = ys.length
  | [], [], _ => rfl
  | x :: xs, y :: ys, h => by
    simp only [pAll, Bool.and_eq_true] at h
    simp [pAll_len h.2]
  | [], _ :: _, h => by cases h
  | _ :: _, [], h => by cases h
theorem pAll_at : ∀ {xs ys : List V}, pAll xs ys = true → ∀ j (h1 : j < xs.length) (h2 : j < ys.length), pOk xs[j] ys[j] = true
  | x :: xs, y :: ys, h, 0, _, _ => by
    simp only [pAll, Bool.and_eq_true] at h
    exact h.1
  | x :: xs, y :: ys, h, j + 1, h1, h2 => by
    simp only [pAll, Bool.and_eq_true] at h
    exact pAll_at h.2 j (by simpa using h1) (by simpa using h2)
  | [], _, _, _, h1, _ => by simp at h1
  | _, [], _, _, _, h2 => by simp at h2
theorem lex_is (r : V → V → Bool) (z : Bool) {xs ys : List V} (hl : xs.length = ys.length) : ∀ k i, i + k = xs.length →
    Ob.lexAt (fun j => decide (xs.getD j .non = ys.getD j .non)) (fun j => r (xs.getD j .non) (ys.getD j .non)) z i k = vLex r z (xs.drop i) (ys.drop i)
  | 0, i, h => by
    rw [List.drop_of_length_le (by omega), Ob.lexAt_zero]; rfl
  | k + 1, i, h => by
    have h1 : i < xs.length := by omega
    have h2 : i < ys.length := by omega
    rw [Ob.lexAt_succ, List.drop_eq_getElem_cons h1, List.drop_eq_getElem_cons h2, lex_is r z hl k (i + 1) (by omega)]
    have e1 : xs.getD i .non = xs[i] := by simp [h1]
    have e2 : ys.getD i .non = ys[i] := by simp [h2]
    rw [e1, e2]
    simp only [vLex, decide_eq_true_eq]
def oGtK (K : PySem.W.Frag) : R2 := fun x y H Q => match x, y with
  | .ref a, .ref b => (match look K H a, look K H b with
    | some (.tup xs), some (.tup ys) => pAll xs ys = true ∧ Q (.bl (vLex vGt false xs ys)) H
    | _, _ => False)
  | _, _ => oGt x y H Q
def oGeK (K : PySem.W.Frag) : R2 := fun x y H Q => match x, y with
  | .ref a, .ref b => (match look K H a, look K H b with
    | some (.tup xs), some (.tup ys) => pAll xs ys = true ∧ Q (.bl (vLex vGe true xs ys)) H
    | _, _ => False)
  | _, _ => oGe x y H Q
section
variable {X : Cx} {pins : List (Addr × Obj)} {σ : St} {H : Hp} {s : Shared}
theorem vals_at : ∀ {xs : List V} {us : List Value}, Vals xs us → ∀ j (h1 : j < xs.length) (h2 : j < us.length), RelV xs[j] us[j]
  | _, _, .cons h t, 0, _, _ => h
  | _, _, .cons h t, j + 1, h1, h2 => vals_at t j (by simpa using h1) (by simpa using h2)
theorem pair_eq {A : Around} {x y : V} {u v : Value} (h : pOk x y = true) (ru : RelV x u) (rv : RelV y v) : SeqAt.EqAt A s u v (decide (x = y)) := by
  unfold pOk at h
  split at h
  · rename_i i j
    obtain ⟨t, rfl⟩ := ru
    obtain ⟨t', rfl⟩ := rv
    have z : decide (V.int i = V.int j) = (i == j) := by
      by_cases q : i = j <;> simp [q]
    rw [z]
    exact SeqAt.EqAt.int_int _ _ _ _
  · rename_i i j
    obtain ⟨t, rfl⟩ := ru
    obtain ⟨t', rfl⟩ := rv
    have z : decide (V.str i = V.str j) = (i == j) := by
      by_cases q : i = j <;> simp [q]
    rw [z]
    exact SeqAt.EqAt.str_str _ _ _ _
  · cases h
theorem pair_gt {A : Around} {x y : V} {u v : Value} (h : pOk x y = true) (ru : RelV x u) (rv : RelV y v) : Ob.RcOp .Gt A s u v (vGt x y) := by
  unfold pOk at h
  split at h
  · obtain ⟨t, rfl⟩ := ru
    obtain ⟨t', rfl⟩ := rv
    exact Ob.RcOp.gt_int _ _ _ _
  · obtain ⟨t, rfl⟩ := ru
    obtain ⟨t', rfl⟩ := rv
    exact fun _ _ _ _ q => PySem.P.gt_str q
  · cases h
theorem pair_ge {A : Around} {x y : V} {u v : Value} (h : pOk x y = true) (ru : RelV x u) (rv : RelV y v) : Ob.RcOp .GtE A s u v (vGe x y) := by
  unfold pOk at h
  split at h
  · obtain ⟨t, rfl⟩ := ru
    obtain ⟨t', rfl⟩ := rv
    exact Ob.RcOp.ge_int _ _ _ _
  · obtain ⟨t, rfl⟩ := ru
    obtain ⟨t', rfl⟩ := rv
    exact fun _ _ _ _ q => PySem.P.ge_str q
  · cases h
theorem r_gtK (hu : X.A.units < cLine) : OpR X (compareOp .Gt) (oGtK X.K) := by
  intro pins s σ H x y v u Q I rx ry h
  unfold oGtK at h
  split at h
  · rename_i a b
    split at h
    · rename_i xs ys ha hb
      obtain ⟨hp, q⟩ := h
      cases rx
      cases ry
      obtain ⟨its, r1, p1, _⟩ := I.tuple (look_tup ha)
      obtain ⟨its2, r2, p2, _⟩ := I.tuple (look_tup hb)
      have l1 := r1.length
      have l2 := r2.length
      have l3 := pAll_len hp
      have R := Ob.RcOp.tuples_gt (A := X.A) (s := s) (e := fun j => decide (xs.getD j .non = ys.getD j .non)) (r := fun j => vGt (xs.getD j .non) (ys.getD j .non)) p1 p2 hu (fun j h1 h2 => by
        simp only [List.size_toArray] at h1 h2
        have e1 : xs.getD j .non = xs[j] := by simp [show j < xs.length by omega]
        have e2 : ys.getD j .non = ys[j] := by simp [show j < ys.length by omega]
        try dsimp only
        rw [e1, e2]
        exact pair_eq (pAll_at hp j (by omega) (by omega)) (by simpa using vals_at r1 j (by omega) h1) (by simpa using vals_at r2 j (by omega) h2)) (fun j h1 h2 _ => by
        simp only [List.size_toArray] at h1 h2
        have e1 : xs.getD j .non = xs[j] := by simp [show j < xs.length by omega]
        have e2 : ys.getD j .non = ys[j] := by simp [show j < ys.length by omega]
        try dsimp only
        rw [e1, e2]
        exact pair_gt (pAll_at hp j (by omega) (by omega)) (by simpa using vals_at r1 j (by omega) h1) (by simpa using vals_at r2 j (by omega) h2))
      rw [List.size_toArray, List.size_toArray, ← l1, ← l2, l3, Nat.min_self, lex_is vGt _ l3 ys.length 0 (by omega)] at R
      rw [show decide (ys.length > ys.length) = false from by simp] at R
      exact R X.prog X.w X.xe (EP X pins σ Q) ⟨.bl _, H, I, rfl, q⟩
    · exact h.elim
  · exact r_gt pins s σ H x y v u Q I rx ry h
theorem r_geK (hu : X.A.units < cLine) : OpR X (compareOp .GtE) (oGeK X.K) := by
  intro pins s σ H x y v u Q I rx ry h
  unfold oGeK at h
  split at h
  · rename_i a b
    split at h
    · rename_i xs ys ha hb
      obtain ⟨hp, q⟩ := h
      cases rx
      cases ry
      obtain ⟨its, r1, p1, _⟩ := I.tuple (look_tup ha)
      obtain ⟨its2, r2, p2, _⟩ := I.tuple (look_tup hb)
      have l1 := r1.length
      have l2 := r2.length
      have l3 := pAll_len hp
      have R := Ob.RcOp.tuples_ge (A := X.A) (s := s) (e := fun j => decide (xs.getD j .non = ys.getD j .non)) (r := fun j => vGe (xs.getD j .non) (ys.getD j .non)) p1 p2 hu (fun j h1 h2 => by
        simp only [List.size_toArray] at h1 h2
        have e1 : xs.getD j .non = xs[j] := by simp [show j < xs.length by omega]
        have e2 : ys.getD j .non = ys[j] := by simp [show j < ys.length by omega]
        try dsimp only
        rw [e1, e2]
        exact pair_eq (pAll_at hp j (by omega) (by omega)) (by simpa using vals_at r1 j (by omega) h1) (by simpa using vals_at r2 j (by omega) h2)) (fun j h1 h2 _ => by
        simp only [List.size_toArray] at h1 h2
        have e1 : xs.getD j .non = xs[j] := by simp [show j < xs.length by omega]
        have e2 : ys.getD j .non = ys[j] := by simp [show j < ys.length by omega]
        try dsimp only
        rw [e1, e2]
        exact pair_ge (pAll_at hp j (by omega) (by omega)) (by simpa using vals_at r1 j (by omega) h1) (by simpa using vals_at r2 j (by omega) h2))
      rw [List.size_toArray, List.size_toArray, ← l1, ← l2, l3, Nat.min_self, lex_is vGe _ l3 ys.length 0 (by omega)] at R
      rw [show decide (ys.length ≥ ys.length) = true from by simp] at R
      exact R X.prog X.w X.xe (EP X pins σ Q) ⟨.bl _, H, I, rfl, q⟩
    · exact h.elim
  · exact r_ge pins s σ H x y v u Q I rx ry h
def oBor : R2 := fun x y H Q => match x, y with
  | .bl a, .bl b => Q (.bl (a || b)) H
  | .int i, .int j => Q (.int (Builtin.bitOr i j)) H
  | _, _ => False
theorem r_bor : OpR X (binaryOp .BitOr) oBor := by
  intro pins s σ H x y v u Q I rx ry h
  unfold oBor at h
  split at h
  · cases rx
    cases ry
    exact PyProof.Rows.or_bool ⟨.bl _, H, I, rfl, h⟩
  · exact op_or pins s σ H _ _ v u Q I rx ry ⟨_, _, rfl, rfl, h⟩
  · exact h.elim
/-- sorted of data that can be put in order -/
def bSortT (K : PySem.W.Frag) : RC := fun xs H Q => ∃ (a : Addr) (vs : List V) (ds : List PyData), xs = [.ref a] ∧ look K H a = some (.lst vs) ∧ DpAll K H vs ds ∧ AllAlike ds ∧ Sortable ds ∧ (∀ d ∈ ds, d.depth ≤ 40) ∧
  ∀ p, H p = none → Q (.ref p) (upd H p (.lst (((vs.zip ds).mergeSort (dataLe false (·.2))).map (·.1))))
theorem zip_each (I : Inv X pins σ H s) : ∀ {vs : List V} {ds : List PyData} {us : List Value}, DpAll X.K H vs ds → Vals vs us →
    (vs.zip ds).map (·.2) = ds ∧ (vs.zip ds).length = vs.length ∧ EachIs (fun u b => RelV b.1 u) us (vs.zip ds) ∧ EachIs (fun u b => ∃ as, Reads s.heap u b.2 as) us (vs.zip ds)
  | [], ds, us, h, r => by
    cases h; cases r
    exact ⟨rfl, rfl, .nil, .nil⟩
  | v :: vs, ds, us, h, r => by
    cases h with
    | @cons _ _ d ds h1 h2 =>
      cases r with
      | @cons _ u _ us r1 r2 =>
        obtain ⟨a, b, c, e⟩ := zip_each I h2 r2
        exact ⟨by simp only [List.zip_cons_cons, List.map_cons, a], by simp only [List.zip_cons_cons, List.length_cons, b], .cons r1 c, .cons (Dp.reads I d v u h1 r1) e⟩
theorem each_vals {bs : List (V × PyData)} {out : List Value} (h : EachIs (fun u b => RelV b.1 u) out bs) : Vals (bs.map (·.1)) out := by
  induction h with
  | nil => exact .nil
  | cons a _ ih => exact .cons a ih
theorem b_sortT (hu : X.A.units + 64 < cLine) : CallR X (.builtin "sorted") (bSortT X.K) := by
  intro pins s σ H xs us Q I r h
  obtain ⟨a, vs, ds, rfl, hs, hd, hal, hso, hdp, q⟩ := h
  obtain ⟨its, rv, hl, hz⟩ := I.list (look_lst hs)
  rw [Vals.ref1 r]
  obtain ⟨e1, e2, e3, e4⟩ := zip_each I hd rv
  refine sorted_data (R := fun u b => RelV b.1 u) (enc := (·.2)) (bs := vs.zip ds) hl.isList e3 e4 (by rw [e1]; exact hal) (by rw [e1]; exact hso) (by rw [e2]; exact hz) (fun b hb => ?_) fun out h1 h2 => ?_
  · have : b.2 ∈ ds := by rw [← e1]; exact List.mem_map_of_mem hb
    have := hdp _ this
    omega
  · obtain ⟨ep, he'⟩ := PyProof.Rows.sortedAll_at s.heap its out.toArray
    have hlen : (((vs.zip ds).mergeSort (dataLe false (·.2))).map (·.1)).length ≤ sizeLine := by
      rw [List.length_map, List.length_mergeSort, e2]; exact hz
    exact ⟨.ref _, upd H (s.heap.objs.size + 1) (.lst (((vs.zip ds).mergeSort (dataLe false (·.2))).map (·.1))), I.laid (t' := s.toks) (fun _ _ => PyProof.Rows.sortedAll_old) (Nat.le_succ _) ⟨hlen, out, ep, each_vals h2, he'⟩, rfl, q _ (I.hok.fresh (Nat.le_succ _))⟩
def bSortedX (K : PySem.W.Frag) : RC := fun xs H Q => bSorted K xs H Q ∨ bSortT K xs H Q
theorem b_sortedX (hc : X.calm = true) (hu : X.A.units + 64 < cLine) : CallR X (.builtin "sorted") (bSortedX X.K) := CallR_imp ((b_sorted hc).or (b_sortT hu)) fun _ _ _ h => h
end
end WR

set_option Elab.async false
set_option linter.all false
set_option maxRecDepth 100000
set_option maxHeartbeats 4000000
namespace WRR
open PySem PySem.W PySem.Calls PyProof.Rows
section
variable {prog : Program} {w : World} {A : Around} {E : Value → Shared → Prop} {s : Shared} {K : Frag} {x C f : Addr} {ox : Obj} {od : Option Obj}
/-! ## u == x, x an own instance: the builtin on the left declines, x is asked -/
theorem wr_eqR {T id : String} {u : Value} {Q : Value → Shared → Prop} (hu : A.units < cLine) (X : K.In s.heap) (I : InstAt s.heap x ox C od) (hT : s.TypeIs u T) (hsub : subIn K (.ref C) (.type T) = some false) (sl : Slot T (cmpInfo .Eq).2.1 id)
    (hc : ∀ Q' : Value → Shared → Prop, Q' .notImplemented s → wpAny (model prog w) A (call (.builtin id) [u, .ref x]) Q' E s) (hs : findIn K (.ref C) "__eq__" = some (some (.ref f))) (hf : isFn K (.ref f) = true)
    (h : wpAny (model prog w) A (call (.ref f) [.ref x, u]) (PySem.W.CmpBack Q) E s) : wpAny (model prog w) A (richCompare .Eq u (.ref x)) Q E s := by
  unfold richCompare
  simp only [hT.oneThing_none]
  refine wpAny_holding (wpAny_bind (wpAny_cRoomFor hu ?_))
  refine wpAny_bind (wpAny_typeOf hT (wpAny_bind (I.type.here ?_)))
  rw [cmpInfo_Eq]
  dsimp only
  rw [if_pos (show (Value.type T != Value.ref C) = true from rfl)]
  refine wpAny_bind ((looks_subIn X hsub).here ?_)
  simp only [Bool.false_eq_true, if_false, Bool.not_false, if_true]
  refine wpAny_bind (m := tryCompare u _ (.ref x)) (wpAny_tryCompare_declines hT sl (hc _ ⟨rfl, ?_⟩))
  refine wpAny_bind (m := tryCompare (.ref x) _ u) ?_
  unfold tryCompare
  refine wpAny_bind (ifBound_K X I hs hf (wpAny_mono h (fun v s' hv => ?_) fun _ _ e => e))
  cases v <;> first | exact hv.elim | exact wpAny_pure (wpAny_pure hv)
theorem int_declines (b : Int) (u : Tok) (l : Addr) (c : Value) (dd : Option Addr) (sl : Array (Option Value)) :
    Meets (Builtin.«int.__eq__» ⟨[.int b u, .ref l], []⟩) (fun _ R s => s.heap.get? l = some { cls := c, dict := dd, data := .plain, slots := sl } ∧ R (.ok (.ret .notImplemented)) s) :=
  .of_wp fun prog w A R s h => by obtain ⟨hp, g, d, tk, os⟩ := s; obtain ⟨hl, h⟩ := h; wp_walk using wpAny_loadPart' hl, wpAny_load hl; exact ⟨_, rfl, h⟩
theorem str_declines (b : Str) (u : Tok) (l : Addr) (c : Value) (dd : Option Addr) (sl : Array (Option Value)) :
    Meets (Builtin.«str.__eq__» ⟨[.str b u, .ref l], []⟩) (fun _ R s => s.heap.get? l = some { cls := c, dict := dd, data := .plain, slots := sl } ∧ R (.ok (.ret .notImplemented)) s) :=
  .of_wp fun prog w A R s h => by obtain ⟨hp, g, d, tk, os⟩ := s; obtain ⟨hl, h⟩ := h; wp_walk using wpAny_loadPart' hl, wpAny_load hl; exact ⟨_, rfl, h⟩
theorem list_declines (l x : Addr) : MeetsIn prog w (Builtin.«list.__eq__» ⟨[.ref l, .ref x], []⟩) (fun _ R s => Looks (model prog w) s.heap (isInstance (.ref x) (.type "list")) false ∧ R (.ok (.ret .notImplemented)) s) := by
  rintro A R s ⟨L, h⟩
  show wpAny _ _ (slotArgs "__eq__" 1 ⟨[.ref l, .ref x], []⟩ >>= _) _ _ _
  refine wpAny_bind (m := slotArgs "__eq__" 1 _) (wpAny_pure ?_)
  refine wpAny_bind (L.here ?_)
  simp only [Bool.not_false, if_true]
  first
    | exact wpAny_pure h
    | exact wpAny_bind (wpAny_pure (wpAny_pure h))
    | exact wpAny_bind (wpAny_pure h)
theorem dict_declines (l x : Addr) : MeetsIn prog w (Builtin.«dict.__eq__» ⟨[.ref l, .ref x], []⟩) (fun _ R s => Looks (model prog w) s.heap (isInstance (.ref x) (.type "dict")) false ∧ R (.ok (.ret .notImplemented)) s) := by
  rintro A R s ⟨L, h⟩
  show wpAny _ _ (Builtin.Dict.dictSlotArgs "__eq__" ⟨[.ref l, .ref x], []⟩ >>= _) _ _ _
  refine wpAny_bind (m := Builtin.Dict.dictSlotArgs "__eq__" _) (wpAny_of_eq (a := ((.ref l : Value), (.ref x : Value))) (by rfl) ?_)
  refine wpAny_bind (L.here ?_)
  simp only [Bool.not_false, if_true]
  refine wpAny_bind (wpAny_rule ?_)
  first
    | exact wpAny_pure h
    | exact wpAny_bind (wpAny_pure (wpAny_pure h))
    | exact wpAny_bind (wpAny_pure h)
end
end WRR
namespace WR
open PySem PySem.Spec PyProof.Rows L2
/-- kinds whose == declines an own instance -/
def tyR (H : Hp) : V → Option String
  | .non => some "NoneType"
  | .int _ => some "int"
  | .str _ => some "str"
  | .ref p => (match H p with
    | some (.lst _) => some "list"
    | some (.dK _) => some "dict"
    | _ => none)
  | _ => none
/-- x == y, y an own instance: y is asked -/
def oEqR (g : G) : R2 := fun x y H Q => ∃ n b C fs, tyR H x = some n ∧ insOf H y = some (b, C, fs) ∧ PySem.W.subIn g.K (.ref C) (.type n) = some false ∧ spc g "__eq__" C y [x] H fun v H' => match v with
  | .bl b => Q (.bl b) H'
  | _ => False
def oEqG (g : G) : R2 := fun x y H Q => oEqG0 g x y H Q ∨ oEqR g x y H Q
section
variable {g : G} {lev : Nat} {X : Cx} {N : List Str} {sc : Scope} {W : WX}
theorem r_eqR (c : COk g lev X N sc W) : OpR X (compareOp .Eq) (oEqR g) := by
  intro pins s σ H x y v u Q I rx ry h
  obtain ⟨n, b, C, fs, tx, ey, hs, h⟩ := h
  obtain ⟨dx, rfl, ea⟩ := insOf_ok ey
  cases ry
  obtain ⟨fa, h1, h2, cl, run⟩ := spc_get (us := [v]) c h
  have ob : s.heap.get? b = some (PySem.W.instObj C dx) := (show ObjOk X.prog X.w H s.heap b (.ins C dx fs) from I.hok b _ ea).2.2.2.1
  obtain ⟨mA, J, _⟩ := ins_get I.hok ea
  obtain ⟨od, J, _⟩ := J.look
  have hu : X.A.units < cLine := by have := c.room.un; omega
  rw [← c.hK] at hs
  have ni : PySem.W.Looks (model X.prog X.w) s.heap (isInstance (.ref b) (.type n)) false := J.type.andThen (PySem.W.looks_subIn I.kIn hs)
  have body : wpAny (model X.prog X.w) X.A (call (.ref fa) [.ref b, v]) (PySem.W.CmpBack (EP X pins σ Q)) X.xe s := by
    refine wpAny_mono (run c.room0 c.gd rfl I (.cons rx .nil)) (fun r s' z => ?_) fun _ _ z => z
    obtain ⟨w, H', I', rv, q⟩ := z
    cases w <;> first | exact q.elim | skip
    cases rv
    exact ⟨.bl _, H', I', rfl, q⟩
  show wpAny (model X.prog X.w) X.A (richCompare .Eq v (.ref b)) _ _ _
  cases x with
  | non =>
    cases tx
    obtain rfl : v = Value.none := rx
    exact WRR.wr_eqR hu I.kIn J rfl hs F.slot_NoneType_eq (fun _ hq => call_gives F.slot_NoneType_eq rfl F.entry_NoneType_eq (F.args_NoneType_eq_2 _ _) (SeqAt.NoneType___eq___none_ref_0 b) hq) h1 h2 body
  | int i =>
    cases tx
    obtain ⟨t, rfl⟩ := (show ∃ t, v = Value.int i t from rx)
    exact WRR.wr_eqR hu I.kIn J (typeIs_int s i t) hs F.slot_int_eq (fun _ hq => call_meets F.slot_int_eq (typeIs_int s i t) F.entry_int_eq (F.args_int_eq_2 _ _) (WRR.int_declines i t b (.ref C) (some dx) #[]) ⟨ob, hq⟩) h1 h2 body
  | str y =>
    cases tx
    obtain ⟨t, rfl⟩ := (show ∃ t, v = Value.str y t from rx)
    exact WRR.wr_eqR hu I.kIn J (typeIs_str s y t) hs F.slot_str_eq (fun _ hq => call_meets F.slot_str_eq (typeIs_str s y t) F.entry_str_eq (F.args_str_eq_2 _ _) (WRR.str_declines y t b (.ref C) (some dx) #[]) ⟨ob, hq⟩) h1 h2 body
  | ref p =>
    obtain rfl : v = Value.ref p := rx
    simp only [tyR] at tx
    split at tx
    · rename_i xs e
      cases tx
      obtain ⟨_, its, m, _, eo⟩ := (show ObjOk X.prog X.w H s.heap p (.lst xs) from I.hok p _ e)
      have ty : s.TypeIs (.ref p) "list" := ⟨_, eo, rfl⟩
      exact WRR.wr_eqR hu I.kIn J ty hs F.slot_list_eq (fun _ hq => call_meetsIn F.slot_list_eq ty F.entry_list_eq (F.args_list_eq_2 _ _) (WRR.list_declines p b) ⟨ni, hq⟩) h1 h2 body
    · rename_i kvs e
      cases tx
      obtain ⟨_, _, vs, _, dd⟩ := (show ObjOk X.prog X.w H s.heap p (.dK kvs) from I.hok p _ e)
      have ty : s.TypeIs (.ref p) "dict" := by
        obtain ⟨o, _, _, eo, ed, _⟩ := dd
        exact ⟨o, eo, ed.1⟩
      exact WRR.wr_eqR hu I.kIn J ty hs F.slot_dict_eq (fun _ hq => call_meetsIn F.slot_dict_eq ty F.entry_dict_eq (F.args_dict_eq_2 _ _) (WRR.dict_declines p b) ⟨ni, hq⟩) h1 h2 body
    · cases tx
  | _ => cases tx
theorem r_eqG (c : COk g lev X N sc W) (ho : OpR X (compareOp .Eq) (oEq g.K)) : OpR X (compareOp .Eq) (oEqG g) := (r_eqG0 c ho).or (r_eqR c)
end
end WR

set_option Elab.async false
set_option linter.all false
set_option maxRecDepth 100000
set_option maxHeartbeats 4000000
namespace WR
open PySem PySem.Spec PyProof.Rows L2

/-! ## 14. the translation of expressions -/
abbrev OE := Option (WX → TE)
abbrev FE := List Str → Scope → Expr → OE
abbrev FT := List Str → Scope → Expr → Option (WX → TT)

def opR (K : PySem.W.Frag) : Operator → Option R2
  | .Add => some (oAdd K)
  | .Sub => some oSub
  | .Mult => some oMul
  | .FloorDiv => some oFdiv
  | .Mod => some oMod
  | .Pow => some oPow
  | .LShift => some oShl
  | .BitOr => some oBor
  | _ => none
def cmpR (g : G) : CmpOp → Option R2
  | .Lt => some oLt
  | .LtE => some oLe
  | .Gt => some (oGtK g.K)
  | .GtE => some (oGeK g.K)
  | .Eq => some (oEqG g)
  | .NotEq => some (oNeG g)
  | .In => some (oIn g.K false)
  | .NotIn => some (oIn g.K true)
  | .Is => some oIs
  | .IsNot => some oIsNot
def notSet : Expr → Bool
  | .Set _ _ _ => false
  | _ => true
theorem notSet_b {op : CmpOp} {e : Expr} (h : notSet e = true) : behindInMarks op e = false := by
  cases e <;> first | rfl | exact absurd h Bool.false_ne_true
theorem notSet_l {o o' : CmpOp} {b e : Expr} (h : notSet e = true) : lastMarks [o, o'] [b, e] = false := notSet_b (op := o') h

def tArgs (f : Expr → OE) : List Expr → Option (WX → TA)
  | [] => some fun _ => tNil
  | e :: es => if notStar e = true then match f e, tArgs f es with
      | some te, some t => some fun W => tCons (te W) (t W)
      | _, _ => none
    else none
def tKws (f : Expr → OE) : List Keyword → Option (WX → TA)
  | [] => some fun _ => tNil
  | k :: ks => match f k.value, tKws f ks with
      | some te, some t => some fun W => tCons (te W) (t W)
      | _, _ => none
def cAnd (K : PySem.W.Frag) (ta tb : TE) : TE := fun σ H Q => ta σ H fun x H1 => match oTru K x H1 with
  | some true => tb σ H1 Q
  | some false => Q x H1
  | none => False
def cOr (K : PySem.W.Frag) (ta tb : TE) : TE := fun σ H Q => ta σ H fun x H1 => match oTru K x H1 with
  | some true => Q x H1
  | some false => tb σ H1 Q
  | none => False
def cNot (K : PySem.W.Frag) (ta : TE) : TE := fun σ H Q => ta σ H fun x H1 => match oTru K x H1 with
  | some b => Q (.bl (!b)) H1
  | none => False
def cTest (t : TE) : TT := fun σ H Q => t σ H fun x H1 => match x with
  | .bl k => Q k H1
  | _ => False
def tBool (K : PySem.W.Frag) (f : Expr → OE) (isAnd : Bool) : List Expr → OE
  | [] => none
  | [e] => f e
  | e :: es => match f e, tBool K f isAnd es with
    | some ta, some tb => some fun W => if isAnd then cAnd K (ta W) (tb W) else cOr K (ta W) (tb W)
    | _, _ => none
def tBoolT (f : Expr → Option (WX → TT)) (isAnd : Bool) : List Expr → Option (WX → TT)
  | [] => none
  | [e] => f e
  | e :: es => match f e, tBoolT f isAnd es with
    | some ta, some tb => some fun W => if isAnd then tAnd (ta W) (tb W) else tOr (ta W) (tb W)
    | _, _ => none
/-- comparisons a op b op' c -/
def cChain (r r' : R2) (ta tb tc : TE) : TE := fun σ H Q => ta σ H fun x H1 => tb σ H1 fun y H2 => r x y H2 fun z H3 => match z with
  | .bl true => tc σ H3 fun w' H4 => r' y w' H4 Q
  | .bl false => Q (.bl false) H3
  | _ => False
def cUn (ta : TE) : TE := fun σ H Q => ta σ H fun x H1 => match x with
  | .int i => Q (.int (-i)) H1
  | _ => False
def cPart (t : TE) : TO := fun σ H Q => t σ H fun x H1 => match x with
  | .int i => Q (some i) H1
  | _ => False
def tPartO (f : Expr → OE) : Option Expr → Option (WX → TO)
  | none => some fun _ => tNoPart
  | some e => match f e with
    | some t => some fun W => cPart (t W)
    | none => none
/-- built-in functions by name -/
def bltTab (g : G) : List (Str × Value × RC) := [("repr", .builtin "repr", bRepr g.K), ("len", .builtin "len", bLenG g), ("isinstance", .builtin "isinstance", bIsi g.K), ("all", .builtin "all", bAll g.K), ("any", .builtin "any", bAny g.K), ("sum", .builtin "sum", bSum g.K),
  ("abs", .builtin "abs", bAbs), ("max", .builtin "max", bMax), ("min", .builtin "min", bMin), ("ord", .builtin "ord", bOrd), ("int", .type "int", bInt), ("str", .type "str", bStrG g), ("list", .type "list", bList g.K), ("tuple", .type "tuple", bTuple g.K), ("dict", .type "dict", bDict g.K),
  ("bool", .type "bool", bBoolG g), ("sorted", .builtin "sorted", bSortedX g.K)]
def bltR (g : G) (x : Str) : Option (Value × RC) := (bltTab g).lookup x
/-- isinstance(.., D), D an own class by its name -/
def isOwn (g : G) (sc : Scope) (x : Str) : List Expr → Option (Str × Addr)
  | [_, .Name c _] => if x = "isinstance" ∧ sc.names.lookup c = some .globalImplicit then g.nes.find? (fun p => decide (p.1 = c)) else none
  | _ => none
def cMk (C : Addr) (n m : Nat) (arr : List V → List V → List V) (sp : Sp) (t tk : TA) (W : WX) : TE := fun σ H Q => t σ H fun vs H1 => tk σ H1 fun zs H2 => vs.length = n ∧ zs.length = m ∧ ∀ x dx, H2 x = none → H2 dx = none → dx ≠ x →
  sp (.ref x :: arr vs zs) (upd (upd H2 dx (.own x)) x (.ins C dx [])) (fun v H3 => v = .non ∧ Q (.ref x) H3) (fun cls d H' => W cls d σ H')
def tCallName (g : G) (f : Expr → OE) (sc : Scope) (x : Str) (es : List Expr) (kws : List Keyword) : OE :=
  if plainName x = true ∧ sc.names.lookup x = some .globalImplicit then
    match kwNames kws, tArgs f es, tKws f kws with
    | some ks, some t, some tk => match g.fns.find? (fun i => decide (i.name = x) && decide (i.n = es.length) && decide (i.ks = ks)) with
      | some i => some fun W => cCall i.sp es.length ks.length i.arr (t W) (tk W) W
      | none => match g.mks.find? (fun i => decide (i.name = x) && decide (i.n = es.length) && decide (i.ks = ks)) with
        | some i => some fun W => cMk i.cls es.length ks.length i.arr i.sp (t W) (tk W) W
        | none => if x ∈ g.blt ∧ kws = [] ∧ es ≠ [] then match (match isOwn g sc x es with | some D => some (Value.builtin "isinstance", bIsO g D.2) | none => bltR g x) with
            | some (v, r) => if bootBuiltins x = some v then some fun W => tCB r (t W) else none
            | none => none
          else none
    | _, _, _ => none
  else none
/-- list(d.values()), list(d.items()) -/
def tListV (g : G) (f : Expr → OE) (sc : Scope) (x : Str) (es : List Expr) (kws : List Keyword) : OE := match es with
  | [.Call (.Attribute o m apos) [] [] cpos] => if x = "list" ∧ kws = [] ∧ sc.names.lookup x = some .globalImplicit ∧ x ∈ g.blt ∧ baseOk o = true ∧ (apos.endLine == cpos.line) = true then (match f o with
    | some t => if m = "values" then some fun W => cLV (t W) else if m = "items" then some fun W => cLI (t W) else none
    | none => none) else none
  | _ => none
/-- attributes of own classes -/
def cAttr (cands : List Addr) (f : Str) (ta : TE) : TE := fun σ H Q => ta σ H fun x H1 => match insOf H1 x with
  | some (_, C, fs) => C ∈ cands ∧ (match fs.lookup f with
    | some v => Q v H1
    | none => False)
  | none => False
def tPairsL (f : Expr → OE) : List (Option Expr) → List Expr → Option (List (WX → TE × TE))
  | [], [] => some []
  | some k :: ks, v :: vs => match f k, f v, tPairsL f ks vs with
    | some tk, some tv, some r => some ((fun W => (tk W, tv W)) :: r)
    | _, _, _ => none
  | _, _ => none
def tDict (f : Expr → OE) (ks : List (Option Expr)) (vs : List Expr) : OE := match ks, vs with
  | [], [] => some fun _ => tDNewK
  | ks, vs => if ks.length ≤ 15 then (match tPairsL f ks vs with
    | some trs => some fun W => tDisp (trs.map fun t => t W)
    | none => none) else none
end WR

set_option Elab.async false
set_option linter.all false
set_option maxRecDepth 100000
set_option maxHeartbeats 4000000
namespace WR
open PySem PySem.Spec PyProof.Rows L2

/-! ## 15. what a for walks; loops by turns -/
def cIter (K : PySem.W.Frag) (ta : TE) : TI := fun σ H R => ta σ H fun x H1 => match x with
  | .ref a => (match look K H1 a with
    | some (.lst _) => R (Itl K a) H1
    | some (.tup _) => R (Itt K a) H1
    | _ => (match H1 a with
      | some (.frz o (.dK kvs)) => R (Itk a o kvs) H1
      | some (.frz o (.dT kvs)) => R (Itkt a o kvs) H1
      | _ => False))
  | .str z => R (Its z) H1
  | _ => False
def cRng1 (ta : TA) : TI := fun σ H R => ta σ H fun vs H1 => match vs with
  | [.int j] => (-(2 ^ 62) ≤ j ∧ j < 2 ^ 62) ∧ R (Itr 0 j.toNat) H1
  | _ => False
def cRng2 (ta : TA) : TI := fun σ H R => ta σ H fun vs H1 => match vs with
  | [.int i, .int j] => (-(2 ^ 62) ≤ i ∧ i < 2 ^ 62 ∧ -(2 ^ 62) ≤ j ∧ j < 2 ^ 62) ∧ R (Itr i (j - i).toNat) H1
  | _ => False
def cRng3 (ta : TA) : TI := fun σ H R => ta σ H fun vs H1 => match vs with
  | [.int i, .int j, .int c] => ∃ n, RgC i j c n ∧ R (Itc i c n) H1
  | _ => False
def cEnum (K : PySem.W.Frag) (ta : TA) : TI := fun σ H R => ta σ H fun vs H1 => match vs with
  | [.ref a] => (match look K H1 a with
    | some (.lst _) => R (Ite K a) H1
    | _ => False)
  | _ => False
def cZip (K : PySem.W.Frag) (ta : TA) : TI := fun σ H R => ta σ H fun vs H1 => match vs with
  | [.ref a, .ref b] => (match look K H1 a, look K H1 b with
    | some (.lst _), some (.lst _) => R (Itz K a b) H1
    | _, _ => False)
  | _ => False
def cRev (K : PySem.W.Frag) (ta : TA) : TI := fun σ H R => ta σ H fun vs H1 => match vs with
  | [.ref a] => (match look K H1 a with
    | some (.lst xs) => R (Itv K a xs.length) H1
    | _ => False)
  | _ => False
def cDview (k : Nat) (td : TE) : TI := fun σ H R => td σ H fun x H1 => match x with
  | .ref d => (match H1 d with
    | some (.frz o (.dK kvs)) => R (if k = 0 then Itk d o kvs else if k = 1 then Itd d o kvs else Iti d o kvs) H1
    | _ => False)
  | _ => False
section
variable {X : Cx} {tg : Expr}
theorem PI_imp {l : Expr} {t t' : TI} (h : PI X tg l t) (k : ∀ σ H R, t' σ H R → t σ H R) : PI X tg l t' := ⟨fun pins s σ H R I q => h.run pins s σ H R I (k σ H R q)⟩
theorem pi_dyn {l : Expr} {tl : TE} (hl : PE X l tl) : PI X tg l (cIter X.K tl) := by
  refine ⟨fun pins s σ H R I h => ?_⟩
  refine thn (hl.run pins s σ H _ I h) fun v s1 ⟨x, H1, I1, r1, q1⟩ => ?_
  dsimp only at q1
  split at q1
  · rename_i a
    split at q1
    · rename_i xs e
      cases r1
      obtain ⟨its, rv, p, hz⟩ := I1.list (look_lst e)
      exact wpAny_pyIter_list p.isList (pi_one (tk := s1.toks) I1 _ (turn_list a _) ⟨_, Heap.get?_push_size _ rfl, rfl, rfl⟩ q1)
    · rename_i xs e
      cases r1
      obtain ⟨its, rv, p, hz⟩ := I1.tuple (look_tup e)
      exact wpAny_pyIter_tuple (show s1.heap.IsTuple a its.toArray from p) (pi_one (tk := s1.toks) I1 _ (turn_tuple a _) ⟨_, Heap.get?_push_size _ rfl, rfl, rfl⟩ q1)
    · split at q1
      · rename_i o kvs hd
        obtain rfl : v = Value.ref a := r1
        obtain ⟨hs, hgd, hx, es, ep, vs, hdt, hsz, kv, hm⟩ := I1.frzK hd
        refine iter_keys hs hgd hx hdt (pi_one (tk := s1.toks) I1 _ (turn_keys _ hdt) ⟨_, Heap.get?_push_size _ rfl, rfl, ?_⟩ q1)
        rw [hsz] <;> rfl
      · rename_i o kvs hd
        obtain rfl : v = Value.ref a := r1
        obtain ⟨hs, hgd, hx, es, ep, hdt, hsz, ent⟩ := I1.frzT hd
        refine iter_keys hs hgd hx hdt (pi_one (tk := s1.toks) I1 _ (turn_keysT _ hdt) ⟨_, Heap.get?_push_size _ rfl, rfl, ?_⟩ q1)
        rw [hsz] <;> rfl
      · exact q1.elim
  · rename_i x
    obtain ⟨t, rfl⟩ := r1
    cases ha : x.cps.all (· < 128)
    · exact wpAny_pyIter_wide ha (pi_one (tk := s1.toks) I1 _ (turn_str _ x t "str_iterator" (.inr rfl)) ⟨_, Heap.get?_push_size _ rfl, rfl, rfl⟩ q1)
    · exact wpAny_pyIter_ascii ha (pi_one (tk := s1.toks) I1 _ (turn_str _ x t "str_ascii_iterator" (.inl rfl)) ⟨_, Heap.get?_push_size _ rfl, rfl, rfl⟩ q1)
  · exact q1.elim
end

/-- a dict that is walked is locked from then on (where it isn't locked for the statement alone) -/
def frzE (t : TE) : TE := fun σ H Q => t σ H fun x H1 => match x with
  | .ref d => (match H1 d with
    | some (.dK kvs) => ∀ o, Q (.ref d) (upd H1 d (.frz o (.dK kvs)))
    | _ => Q (.ref d) H1)
  | x => Q x H1
theorem pe_frz {X : Cx} {e : Expr} {t : TE} (h : PE X e t) : PE X e (frzE t) := by
  refine ⟨fun pins s σ H Q I q => ?_⟩
  refine thn (h.run pins s σ H _ I q) fun v s1 ⟨x, H1, I1, r1, q1⟩ => ?_
  dsimp only at q1
  split at q1
  · split at q1
    · rename_i e
      obtain ⟨od, I2⟩ := I1.lock e trivial
      exact ⟨_, _, I2, r1, q1 od⟩
    · exact ⟨_, _, I1, r1, q1⟩
  · exact ⟨_, _, I1, r1, q1⟩
/-- a for's turns -/
def lp (J : It) (g : TG) (tb : TS) (D : Ends) : Nat → Nat → St → Hp → Prop
  | 0, i, σ, H => J.stop i H ∧ D.nx σ H
  | n + 1, i, σ, H => (J.stop i H ∧ D.nx σ H) ∨ (J.go i H ∧ ∀ x H', J.yld i H x H' → g x σ H' fun σ2 H2 => tb { D with nx := lp J g tb D n (i + 1), ct := lp J g tb D n (i + 1), bk := D.nx } σ2 H2)
def cFor (wi : TI) (g : TG) (tb : TS) : TS := fun D σ H => wi σ H fun J H1 => ∃ n, lp J g tb D n 0 σ H1
/-- TI's readings are monotone in what is wanted: asked of the very ones that are used -/
def MonoI (wi : TI) : Prop := ∀ σ H R R', (∀ J H', R J H' → R' J H') → wi σ H R → wi σ H R'
theorem lp_W {J : It} {g : TG} {tb : TS} {D : Ends} {σ : St} {H1 : Hp} (h : ∃ n, lp J g tb D n 0 σ H1) :
    ∃ W : Nat → Nat → St → Hp → Prop, (∃ m, W 0 m σ H1) ∧ ∀ i m σ H, W i m σ H →
      (J.stop i H ∧ D.nx σ H) ∨ (J.go i H ∧ ∃ N : St → Hp → Prop, (∀ σ' H', N σ' H' → ∃ m', m' < m ∧ W (i + 1) m' σ' H') ∧ ∀ x H', J.yld i H x H' → g x σ H' fun σ2 H2 => tb { D with nx := N, ct := N, bk := D.nx } σ2 H2) := by
  obtain ⟨n, h⟩ := h
  refine ⟨fun i m σ H => lp J g tb D m i σ H, ⟨n, h⟩, fun i m σ H w => ?_⟩
  cases m with
  | zero => exact .inl w
  | succ m =>
    rcases w with w | ⟨go, w⟩
    · exact .inl w
    · exact .inr ⟨go, lp J g tb D m (i + 1), fun σ' H' q => ⟨m, Nat.lt_succ_self _, q⟩, w⟩
/-- a comprehension's turns -/
def lpc (J : It) (g : TG) (tt : TT) (te : TE) (vs : List Nat) (σ : St) (D : Addr) (Q : VK) : Nat → Nat → Hp → Prop
  | 0, i, H => J.stop i H ∧ Q (.ref D) H
  | n + 1, i, H => (J.stop i H ∧ Q (.ref D) H) ∨ (J.go i H ∧ ∀ x H', J.yld i H x H' → g x (wipe σ vs) H' fun σ2 H2 => wipe σ2 vs = wipe σ vs ∧ tt σ2 H2 fun b H3 =>
      if b = true then te σ2 H3 fun y H4 => ∃ acc, H4 D = some (.lst acc) ∧ acc.length < sizeLine ∧ lpc J g tt te vs σ D Q n (i + 1) (upd H4 D (.lst (acc ++ [y]))) else lpc J g tt te vs σ D Q n (i + 1) H3)
def cLc (wi : TI) (g : TG) (tt : TT) (te : TE) (vs : List Nat) : TE := fun σ H Q => wi σ H fun J H1 => ∀ D, H1 D = none → ∃ n, lpc J g tt te vs σ D Q n 0 (upd H1 D (.lst []))
theorem lpc_W {J : It} {g : TG} {tt : TT} {te : TE} {vs : List Nat} {σ : St} {D : Addr} {Q : VK} {H1 : Hp} (h : ∃ n, lpc J g tt te vs σ D Q n 0 H1) :
    ∃ W : Nat → Nat → Hp → Prop, (∃ m, W 0 m H1) ∧ ∀ i m H, W i m H →
      (J.stop i H ∧ Q (.ref D) H) ∨ (J.go i H ∧ ∃ Nx : Hp → Prop, (∀ H', Nx H' → ∃ m', m' < m ∧ W (i + 1) m' H') ∧ ∀ x H', J.yld i H x H' → g x (wipe σ vs) H' fun σ2 H2 => wipe σ2 vs = wipe σ vs ∧ tt σ2 H2 fun b H3 =>
        if b = true then te σ2 H3 fun y H4 => ∃ acc, H4 D = some (.lst acc) ∧ acc.length < sizeLine ∧ Nx (upd H4 D (.lst (acc ++ [y]))) else Nx H3) := by
  obtain ⟨n, h⟩ := h
  refine ⟨fun i m H => lpc J g tt te vs σ D Q m i H, ⟨n, h⟩, fun i m H w => ?_⟩
  cases m with
  | zero => exact .inl w
  | succ m =>
    rcases w with w | ⟨go, w⟩
    · exact .inl w
    · exact .inr ⟨go, lpc J g tt te vs σ D Q m (i + 1), fun H' q => ⟨m, Nat.lt_succ_self _, q⟩, w⟩
/-- a while's turns -/
def lpw (c : TT) (tb : TS) (D : Ends) : Nat → St → Hp → Prop
  | 0, _, _ => False
  | n + 1, σ, H => c σ H fun b H1 => if b = true then tb { D with nx := lpw c tb D n, ct := lpw c tb D n, bk := D.nx } σ H1 else D.nx σ H1
def cWhile (c : TT) (tb : TS) : TS := fun D σ H => ∃ n, lpw c tb D n σ H
end WR

set_option Elab.async false
set_option linter.all false
set_option maxRecDepth 100000
set_option maxHeartbeats 4000000
namespace WR
open PySem PySem.Spec PyProof.Rows L2

/-! ## 16. readings closed upwards -/
def upE (t : TE) : TE := fun σ H Q => ∃ Q0 : VK, t σ H Q0 ∧ ∀ v H', Q0 v H' → Q v H'
def upT (t : TT) : TT := fun σ H Q => ∃ Q0 : Bool → Hp → Prop, t σ H Q0 ∧ ∀ v H', Q0 v H' → Q v H'
def upI (t : TI) : TI := fun σ H R => ∃ R0 : It → Hp → Prop, t σ H R0 ∧ ∀ J H', R0 J H' → R J H'
section
variable {X : Cx}
theorem PE_up {e : Expr} {t : TE} (h : PE X e t) : PE X e (upE t) := ⟨fun pins s σ H Q I ⟨Q0, q, k⟩ => thn (h.run pins s σ H Q0 I q) fun _ _ ⟨v, H', I', r, z⟩ => ⟨v, H', I', r, k v H' z⟩⟩
theorem PT_up {e : Expr} {t : TT} (h : PT X e t) : PT X e (upT t) := ⟨fun pins s σ H Q I ⟨Q0, q, k⟩ => thn (h.run pins s σ H Q0 I q) fun _ _ ⟨H', I', z⟩ => ⟨H', I', k _ H' z⟩⟩
theorem PI_up {tg l : Expr} {t : TI} (h : PI X tg l t) : PI X tg l (upI t) := ⟨fun pins s σ H R I ⟨R0, q, k⟩ => thn (h.run pins s σ H R0 I q) fun _ _ z => thn z fun _ _ ⟨it, fp, tn, J, H', a, b, c, d, e, f⟩ => ⟨it, fp, tn, J, H', a, b, c, d, e, k J H' f⟩⟩
theorem pe_and' {a b : Expr} {rest : List Expr} {pos : Pos} {ta tb : TE} (ha : PE X a ta) (hb : PE X (.BoolOp .And (b :: rest) pos) tb) : PE X (.BoolOp .And (a :: b :: rest) pos) (cAnd X.K ta tb) :=
  PE_imp (pe_andT (PE_up ha) hb) fun σ H Q h => ⟨_, h, fun x H1 q => by
    try dsimp only at q
    split at q
    · rename_i e; exact ⟨true, oTru_ok e, iteT q⟩
    · rename_i e; exact ⟨false, oTru_ok e, iteF q⟩
    · exact q.elim⟩
theorem pe_or' {a b : Expr} {rest : List Expr} {pos : Pos} {ta tb : TE} (ha : PE X a ta) (hb : PE X (.BoolOp .Or (b :: rest) pos) tb) : PE X (.BoolOp .Or (a :: b :: rest) pos) (cOr X.K ta tb) :=
  PE_imp (pe_orT (PE_up ha) hb) fun σ H Q h => ⟨_, h, fun x H1 q => by
    try dsimp only at q
    split at q
    · rename_i e; exact ⟨true, oTru_ok e, iteT q⟩
    · rename_i e; exact ⟨false, oTru_ok e, iteF q⟩
    · exact q.elim⟩
theorem pe_not' {a : Expr} {pos : Pos} {ta : TE} (ha : PE X a ta) : PE X (.UnaryOp .Not a pos) (cNot X.K ta) :=
  PE_imp (pe_notT (PE_up ha)) fun σ H Q h => ⟨_, h, fun x H1 q => by
    try dsimp only at q
    split at q
    · rename_i e; exact ⟨_, oTru_ok e, q⟩
    · exact q.elim⟩
theorem pe_neg' {a : Expr} {pos : Pos} {ta : TE} (ha : PE X a ta) : PE X (.UnaryOp .USub a pos) (cUn ta) :=
  PE_imp (pe_un un_neg (PE_up ha)) fun σ H Q h => ⟨_, h, fun x H1 q => by
    try dsimp only at q
    split at q
    · exact ⟨_, rfl, q⟩
    · exact q.elim⟩
theorem pt_tru' {e : Expr} {t : TE} (h : PE X e t) (he : ∀ whole, isTrue e X.env whole = (do let v ← whole; standAt e.pos; holding [v] (truthy v))) : PT X e (cTru X.K t) :=
  PT_imp (pt_truth (PE_up h) he) fun σ H Q h => ⟨_, h, fun x H1 q => by
    try dsimp only at q
    split at q
    · rename_i e; exact ⟨_, oTru_ok e, q⟩
    · exact q.elim⟩
theorem pt_cmp' {a b : Expr} {op : CmpOp} {r : R2} {pos : Pos} {ta tb : TE} (ho : OpR X (compareOp op) r) (ha : PE X a ta) (hb : PE X b tb) (hm : behindInMarks op b = false) : PT X (.Compare a [op] [b] pos) (cTest (tOp r ta tb)) := by
  refine PT_imp (pt_cmpR (r := fun x y H Q => ∃ Q0, r x y H Q0 ∧ ∀ v H', Q0 v H' → Q v H') (fun pins s σ H x y v u Q I rx ry ⟨Q0, q, k⟩ => thn (ho pins s σ H x y v u Q0 I rx ry q) fun _ _ ⟨v, H', I', r, z⟩ => ⟨v, H', I', r, k v H' z⟩) (PE_up ha) (PE_up hb) hm) fun σ H Q h => ?_
  refine ⟨_, h, fun x H1 q => ⟨_, q, fun y H2 q => ⟨_, q, fun z H3 q => ?_⟩⟩⟩
  try dsimp only at q
  split at q
  · exact ⟨_, rfl, q⟩
  · exact q.elim
theorem opUp {f : Value → Value → Sem Value} {r : R2} (ho : OpR X f r) : OpR X f (fun x y H Q => ∃ Q0 : VK, r x y H Q0 ∧ ∀ v H', Q0 v H' → Q v H') := fun pins s σ H x y v u Q I rx ry ⟨Q0, q, k⟩ => thn (ho pins s σ H x y v u Q0 I rx ry q) fun _ _ ⟨v, H', I', r, z⟩ => ⟨v, H', I', r, k v H' z⟩
theorem pe_chain' {a b c : Expr} {op op' : CmpOp} {r r' : R2} {pos : Pos} {ta tb tc : TE} (ho : OpR X (compareOp op) r) (ho' : OpR X (compareOp op') r') (ha : PE X a ta) (hb : PE X b tb) (hc : PE X c tc) (hm : lastMarks [op, op'] [b, c] = false) :
    PE X (.Compare a [op, op'] [b, c] pos) (cChain r r' ta tb tc) := by
  refine PE_imp (pe_chain (opUp ho) ho' (PE_up ha) (PE_up hb) hc hm) fun σ H Q h => ?_
  refine ⟨_, h, fun x H1 q => ⟨_, q, fun y H2 q => ⟨_, q, fun z H3 q => ?_⟩⟩⟩
  try dsimp only at q
  split at q
  · exact ⟨true, rfl, iteT q⟩
  · exact ⟨false, rfl, iteF q⟩
  · exact q.elim
theorem pt_chain' {a b c : Expr} {op op' : CmpOp} {r r' : R2} {pos : Pos} {ta tb tc : TE} (ho : OpR X (compareOp op) r) (ho' : OpR X (compareOp op') r') (ha : PE X a ta) (hb : PE X b tb) (hc : PE X c tc) (hm : lastMarks [op, op'] [b, c] = false) :
    PT X (.Compare a [op, op'] [b, c] pos) (cTest (cChain r r' ta tb tc)) := by
  refine PT_imp (pt_chain (opUp ho) (opUp ho') (PE_up ha) (PE_up hb) (PE_up hc) hm) fun σ H Q h => ?_
  refine ⟨_, h, fun x H1 q => ⟨_, q, fun y H2 q => ⟨_, q, fun z H3 q => ?_⟩⟩⟩
  try dsimp only at q
  split at q
  · refine ⟨true, rfl, iteT ?_⟩
    refine ⟨_, q, fun w H4 q => ⟨_, q, fun z2 H5 q => ?_⟩⟩
    try dsimp only at q
    split at q
    · exact ⟨_, rfl, q⟩
    · exact q.elim
  · exact ⟨false, rfl, iteF ⟨_, rfl, q⟩⟩
  · exact q.elim
theorem po_part' {e : Expr} {t : TE} (h : PE X e t) : PO X (some e) (cPart t) := by
  have z := po_some (PE_up h)
  refine ⟨fun pins s σ H Q I q => z.run pins s σ H Q I ⟨_, q, fun x H1 q => ?_⟩⟩
  try dsimp only at q
  split at q
  · exact ⟨_, rfl, q⟩
  · exact q.elim
/-- iterables -/
def upA (t : TA) : TA := fun σ H Q => ∃ Q0 : List V → Hp → Prop, t σ H Q0 ∧ ∀ v H', Q0 v H' → Q v H'
theorem PA_up {es : List Expr} {t : TA} (h : PA X es t) : PA X es (upA t) := ⟨fun ps pins s σ H Q I ⟨Q0, q, k⟩ => thn (h.run ps pins s σ H Q0 I q) fun _ _ ⟨v, H', I', r, z⟩ => ⟨v, H', I', r, k v H' z⟩⟩
theorem star1 {a : Expr} {env : Env} (h : notStar a = true) : starEach [a] env = [(false, eval a env)] := star_of h
theorem pi_rng1' {tg a : Expr} {ta : TA} {p pos : Pos} (hg : Gl X "range") (hm : X.mg "range" = none) (h1 : notStar a = true) (ha : PA X [a] ta) : PI X tg (.Call (.Name "range" p) [a] [] pos) (cRng1 ta) :=
  PI_imp (pi_range1 hg hm (PA_up ha) (star1 h1)) fun σ H R h => ⟨_, h, fun vs H1 q => by
    try dsimp only at q
    split at q
    · exact ⟨_, rfl, q.1.1, q.1.2, q.2⟩
    · exact q.elim⟩
theorem pi_rng2' {tg a b : Expr} {ta : TA} {p pos : Pos} (hg : Gl X "range") (hm : X.mg "range" = none) (h1 : notStar a = true) (h2 : notStar b = true) (ha : PA X [a, b] ta) : PI X tg (.Call (.Name "range" p) [a, b] [] pos) (cRng2 ta) :=
  PI_imp (pi_range2 hg hm (PA_up ha) ((star_of h1).trans (by rw [star1 h2])) (star1 h2)) fun σ H R h => ⟨_, h, fun vs H1 q => by
    try dsimp only at q
    split at q
    · exact ⟨_, _, rfl, q.1, q.2⟩
    · exact q.elim⟩
theorem pi_rng3' {tg a b c : Expr} {ta : TA} {p pos : Pos} (hg : Gl X "range") (hm : X.mg "range" = none) (h1 : notStar a = true) (h2 : notStar b = true) (h3 : notStar c = true) (ha : PA X [a, b, c] ta) : PI X tg (.Call (.Name "range" p) [a, b, c] [] pos) (cRng3 ta) :=
  PI_imp (pi_range3 hg hm (PA_up ha) (star_of h1) (star_all (by rw [List.all_cons, List.all_cons, h2, h3]; rfl))) fun σ H R h => ⟨_, h, fun vs H1 q => by
    try dsimp only at q
    split at q
    · obtain ⟨n, c, q⟩ := q; exact ⟨_, _, _, n, rfl, c, q⟩
    · exact q.elim⟩
theorem pi_enum' {a : Expr} {elts : List Expr} {kk : Nat} {ta : TA} {p pos tpos : Pos} (hg : Gl X "enumerate") (hm : X.mg "enumerate" = none) (h1 : notStar a = true) (ha : PA X [a] ta) : PI X (.Tuple elts kk tpos) (.Call (.Name "enumerate" p) [a] [] pos) (cEnum X.K ta) :=
  PI_imp (pi_enum hg hm (PA_up ha) (star1 h1)) fun σ H R h => ⟨_, h, fun vs H1 q => by
    try dsimp only at q
    split at q
    · split at q
      · rename_i e; exact ⟨_, _, rfl, look_lst e, q⟩
      · exact q.elim
    · exact q.elim⟩
theorem pi_zip' {a b : Expr} {elts : List Expr} {kk : Nat} {ta : TA} {p pos tpos : Pos} (hg : Gl X "zip") (hm : X.mg "zip" = none) (h1 : notStar a = true) (h2 : notStar b = true) (ha : PA X [a, b] ta) : PI X (.Tuple elts kk tpos) (.Call (.Name "zip" p) [a, b] [] pos) (cZip X.K ta) :=
  PI_imp (pi_zip hg hm (PA_up ha) (star_of h1) (star_all (by rw [List.all_cons, h2]; rfl))) fun σ H R h => ⟨_, h, fun vs H1 q => by
    try dsimp only at q
    split at q
    · split at q
      · rename_i e f; exact ⟨_, _, _, _, rfl, look_lst e, look_lst f, q⟩
      · exact q.elim
    · exact q.elim⟩
theorem pi_rev' {tg a : Expr} {ta : TA} {p pos : Pos} (hg : Gl X "reversed") (hm : X.mg "reversed" = none) (h1 : notStar a = true) (ha : PA X [a] ta) : PI X tg (.Call (.Name "reversed" p) [a] [] pos) (cRev X.K ta) :=
  PI_imp (pi_reversed hg hm (PA_up ha) (star1 h1)) fun σ H R h => ⟨_, h, fun vs H1 q => by
    try dsimp only at q
    split at q
    · split at q
      · rename_i e; exact ⟨_, _, rfl, look_lst e, q⟩
      · exact q.elim
    · exact q.elim⟩
theorem pi_view' {tg e : Expr} {td : TE} {apos cpos : Pos} {m : Str} {k : Nat} (he : PE X e td) (hb : baseOk e = true) (hl : (apos.endLine == cpos.line) = true) (hk : (m = "keys" ∧ k = 0) ∨ (m = "values" ∧ k = 1) ∨ (m = "items" ∧ k = 2 ∧ ∃ elts kk tpos, tg = .Tuple elts kk tpos)) :
    PI X tg (.Call (.Attribute e m apos) [] [] cpos) (cDview k td) := by
  rcases hk with ⟨rfl, rfl⟩ | ⟨rfl, rfl⟩ | ⟨rfl, rfl, elts, kk, tpos, rfl⟩
  · refine PI_imp (pi_keysM (PE_up he) (base_of hb) hl) fun σ H R h => ⟨_, h, fun x H1 q => ?_⟩
    try dsimp only at q
    split at q
    · split at q
      · rename_i e; exact ⟨_, _, _, rfl, e, q⟩
      · exact q.elim
    · exact q.elim
  · refine PI_imp (pi_values (PE_up he) (base_of hb) hl) fun σ H R h => ⟨_, h, fun x H1 q => ?_⟩
    try dsimp only at q
    split at q
    · split at q
      · rename_i e; exact ⟨_, _, _, rfl, e, q⟩
      · exact q.elim
    · exact q.elim
  · refine PI_imp (pi_items (PE_up he) (base_of hb) hl) fun σ H R h => ⟨_, h, fun x H1 q => ?_⟩
    try dsimp only at q
    split at q
    · split at q
      · rename_i e; exact ⟨_, _, _, rfl, e, q⟩
      · exact q.elim
    · exact q.elim
end
end WR

set_option Elab.async false
set_option linter.all false
set_option maxRecDepth 100000
set_option maxHeartbeats 4000000
namespace WR
open PySem PySem.Spec PyProof.Rows L2

/-! ## 17. targets -/
abbrev wNone : WX := fun _ _ _ _ => False
def cTupG (K : PySem.W.Frag) (n : Nat) (t : TGs) : TG := fun v σ H Q => match v with
  | .ref a => (match look K H a with
    | some (.tup xs) => xs.length = n ∧ t xs σ H Q
    | _ => False)
  | _ => False
/-- o[i] = v -/
def oSet : TSet := fun o i v H Q => match o with
  | .ref p => (match H p with
    | some (.lst xs) => (match i with
      | .int k => (match ixN xs.length k with
        | some j => Q (upd H p (.lst (xs.set j v)))
        | none => False)
      | _ => False)
    | some (.dK kvs) => (match keyOf i with
      | some k => kvs.length < sizeLine ∧ Q (upd H p (.dK (putK kvs k v)))
      | none => ∃ H', DPut H p i v H' ∧ Q H')
    | some (.dT kvs) => ∃ H', DPut H p i v H' ∧ Q H'
    | _ => False)
  | _ => False
def notSlice : Expr → Bool
  | .Slice _ _ _ _ => false
  | _ => true
mutual
def tG (K : PySem.W.Frag) (f : Expr → OE) (N : List Str) (sc : Scope) (okc : Str → Bool) : Nat → Expr → Option (WX → TG)
  | 0, _ => none
  | n + 1, .Name x _ => if plainName x = true then (match sc.names.lookup x with
      | some .local => (ix? N x).map fun i _ => gName i
      | some .cell => if okc x = true then (ix? N x).map fun i _ => gName i else none
      | _ => none) else none
  | n + 1, .Tuple es _ _ => if es.all notStar = true then (tGs K f N sc okc n es).map fun t W => cTupG K es.length (t W) else none
  | n + 1, .Subscript o i _ => if notSlice i = true then (match f o, f i with
      | some to, some ti => some fun W => gSub (to W) (ti W) oSet
      | _, _ => none) else none
  | _, _ => none
def tGs (K : PySem.W.Frag) (f : Expr → OE) (N : List Str) (sc : Scope) (okc : Str → Bool) : Nat → List Expr → Option (WX → TGs)
  | 0, _ => none
  | _ + 1, [] => some fun _ => gNil
  | n + 1, e :: es => if notStar e = true then (match tG K f N sc okc n e, tGs K f N sc okc n es with
      | some t, some u => some fun W => gCons (t W) (u W)
      | _, _ => none) else none
end
section
variable {X : Cx}
theorem r_set (hu : X.A.units + 1 < cLine) : PSet X oSet := by
  intro pins s σ H o i v ov iv u Q I ro ri rv h
  unfold oSet at h
  split at h
  · rename_i p
    have dput : ∀ H', DPut H p i v H' → Q H' → wpAny (model X.prog X.w) X.A (setItem ov iv u) (fun _ s' => ∃ H', Inv X pins σ H' s' ∧ Q H') X.xe s := fun H' g q => by
      cases ro
      exact d_setItem hu I g ri rv fun s' I' => ⟨H', I', q⟩
    split at h
    · rename_i xs e
      split at h
      · split at h
        · rename_i j ej
          exact set_list pins s σ H _ _ v ov iv u Q I ro ri rv ⟨_, _, _, j, rfl, rfl, e, ej, h⟩
        · exact h.elim
      · exact h.elim
    · rename_i kvs e
      split at h
      · rename_i k ek
        refine dput _ ?_ h.2
        rw [keyOf_kV ek]
        exact DPut.k e h.1
      · obtain ⟨H', g, q⟩ := h
        exact dput H' g q
    · obtain ⟨H', g, q⟩ := h
      exact dput H' g q
    · exact h.elim
  · exact h.elim
theorem assign_star {es : List Expr} {e : Expr} {env : Env} (h : notStar e = true) : assignEach (e :: es) env = (false, assign e env) :: assignEach es env := by
  cases e <;> first | rfl | exact absurd h Bool.false_ne_true
theorem assign_len : ∀ {es : List Expr} {env : Env}, (assignEach es env).length = es.length
  | [], _ => rfl
  | e :: es, env => by
    cases e <;> exact congrArg Nat.succ assign_len
theorem assign_none : ∀ {es : List Expr} {env : Env}, es.all notStar = true → (assignEach es env).findIdx? (·.1) = none
  | [], _, _ => rfl
  | e :: es, env, h => by
    rw [List.all_cons, Bool.and_eq_true] at h
    rw [assign_star h.1, List.findIdx?_cons]
    simp [assign_none h.2]
/-- expressions are read rightly at X -/
def SE (X : Cx) (W : WX) (f : Expr → OE) : Prop := ∀ e t, f e = some t → PE X e (t W)
def ST (X : Cx) (W : WX) (f : Expr → Option (WX → TT)) : Prop := ∀ e t, f e = some t → PT X e (t W)
theorem tArgs_ok {f : Expr → OE} {W : WX} (h : SE X W f) : ∀ {es : List Expr} {t : WX → TA}, tArgs f es = some t → PA X es (t W) ∧ es.all notStar = true ∧ (es = [] → t W = tNil)
  | [], t, e => by cases e; exact ⟨pa_nil, rfl, fun _ => rfl⟩
  | e :: es, t, q => by
    unfold tArgs at q
    split at q
    · rename_i hs
      split at q
      · rename_i te tr e1 e2
        cases q
        obtain ⟨p1, p2, p3⟩ := tArgs_ok h e2
        exact ⟨pa_cons (h _ _ e1) p1 (star_of hs), by rw [List.all_cons, hs, p2]; rfl, fun z => nomatch z⟩
      · cases q
    · cases q
theorem tKws_ok {f : Expr → OE} {W : WX} (h : SE X W f) : ∀ {es : List Keyword} {t : WX → TA}, tKws f es = some t → PK X es (t W) ∧ (es = [] → t W = tNil)
  | [], t, e => by cases e; exact ⟨pk_nil, fun _ => rfl⟩
  | ⟨nm, v, p⟩ :: es, t, q => by
    unfold tKws at q
    split at q
    · rename_i te tr e1 e2
      cases q
      obtain ⟨p1, p2⟩ := tKws_ok h e2
      exact ⟨pk_cons (h _ _ e1) p1, fun z => nomatch z⟩
    · cases q
theorem tBool_ok {f : Expr → OE} {W : WX} (h : SE X W f) (b : Bool) {pos : Pos} : ∀ {es : List Expr} {t : WX → TE}, tBool X.K f b es = some t → PE X (.BoolOp (if b then .And else .Or) es pos) (t W)
  | [], t, e => by cases e
  | [e], t, q => pe_one (h _ _ q)
  | e :: e2 :: es, t, q => by
    unfold tBool at q
    split at q
    · rename_i ta tb e1 e2
      cases q
      have hb := tBool_ok h b (pos := pos) e2
      cases b with
      | true => exact pe_and' (h _ _ e1) hb
      | false => exact pe_or' (h _ _ e1) hb
    · cases q
theorem tBoolT_ok {f : Expr → Option (WX → TT)} {W : WX} (h : ST X W f) (b : Bool) {pos : Pos} : ∀ {es : List Expr} {t : WX → TT}, tBoolT f b es = some t → PW X (.BoolOp (if b then .And else .Or) es pos) (t W)
  | [], t, e => by cases e
  | [e], t, q => by
    cases b with
    | true => exact pw_and1 (h _ _ q)
    | false => exact pw_or1 (h _ _ q)
  | e :: e2 :: es, t, q => by
    unfold tBoolT at q
    split at q
    · rename_i ta tb e1 e2
      cases q
      have hb := tBoolT_ok h b (pos := pos) e2
      cases b with
      | true => exact pw_and (h _ _ e1) hb
      | false => exact pw_or (h _ _ e1) hb
    · cases q
theorem tPairs_ok {f : Expr → OE} {W : WX} (h : SE X W f) {pos : Pos} : ∀ {ks : List (Option Expr)} {vs : List Expr} {trs : List (WX → TE × TE)}, tPairsL f ks vs = some trs → PPs X pos ks vs (trs.map fun t => t W) ∧ ks.all (·.isSome) = true ∧ ks.length = vs.length
  | [], [], trs, q => by cases q; exact ⟨pps_nil, rfl, rfl⟩
  | some k :: ks, v :: vs, trs, q => by
    unfold tPairsL at q
    split at q
    · rename_i tk tv r e1 e2 e3
      cases q
      obtain ⟨p1, p2, p3⟩ := tPairs_ok h (pos := pos) e3
      exact ⟨pps_cons (h _ _ e1) (h _ _ e2) p1, by rw [List.all_cons, p2]; rfl, by rw [List.length_cons, List.length_cons, p3]⟩
    · cases q
  | none :: _, _, _, q => by simp [tPairsL] at q
  | some _ :: _, [], _, q => by simp [tPairsL] at q
  | [], _ :: _, _, q => by simp [tPairsL] at q
theorem tPartO_ok {f : Expr → OE} {W : WX} (h : SE X W f) : ∀ {o : Option Expr} {t : WX → TO}, tPartO f o = some t → PO X o (t W)
  | none, t, q => by cases q; exact po_none
  | some e, t, q => by
    simp only [tPartO] at q
    split at q
    · rename_i te e1; cases q; exact po_part' (h _ _ e1)
    · cases q
end
section
variable {g : G} {lev : Nat} {X : Cx} {N : List Str} {sc : Scope} {W : WX} {f : Expr → OE} {okc : Str → Bool}
theorem pg_nm (c : COk g lev X N sc W) {x : Str} {pos : Pos} {k : NameKind} {i : Nat} (hk : sc.names.lookup x = some k) (hkk : k = .local ∨ k = .cell) (hf : X.fn x = true ∨ k = .local) (hi : ix? N x = some i) : PG X (.Name x pos) (gName i) := by
  refine pg_name c.nd (by rw [c.hN]; exact ix_get hi) ?_ ?_
  · unfold L2.Loc
    rw [c.hsc, hk]
    rcases hkk with rfl | rfl <;> simp
  · rw [c.hsc, hk]
    rcases hf with z | rfl
    · exact .inl z
    · exact .inr rfl
mutual
theorem tG_ok (c : COk g lev X N sc W) (h : SE X W f) (ho : ∀ x, okc x = true → X.fn x = true) : ∀ (n : Nat) (e : Expr) (t : WX → TG), tG g.K f N sc okc n e = some t → PG X e (t W)
  | 0, e, t, q => by simp [tG] at q
  | n + 1, e, t, q => by
    cases e with
    | Name x pos =>
      simp only [tG] at q
      split at q
      · split at q
        · rename_i hk
          obtain ⟨i, hi, rfl⟩ := Option.map_eq_some_iff.mp q
          exact pg_nm c hk (.inl rfl) (.inr rfl) hi
        · rename_i hk
          split at q
          · rename_i ok
            obtain ⟨i, hi, rfl⟩ := Option.map_eq_some_iff.mp q
            exact pg_nm c hk (.inr rfl) (.inl (ho _ ok)) hi
          · cases q
        · cases q
      · cases q
    | Tuple es kk pos =>
      simp only [tG] at q
      split at q
      · rename_i hs
        obtain ⟨u, hu, rfl⟩ := Option.map_eq_some_iff.mp q
        have z := tGs_ok c h ho n es _ hu
        refine ⟨fun pins s σ H v w Q I r hw => (pg_tup c.calm z assign_len (assign_none hs)).run pins s σ H v w Q I r ?_⟩
        simp only [cTupG] at hw
        split at hw
        · split at hw
          · rename_i e; exact ⟨_, _, rfl, by rw [c.hK]; exact look_tup e, hw.1, hw.2⟩
          · exact hw.elim
        · exact hw.elim
      · cases q
    | Subscript o i pos =>
      simp only [tG] at q
      split at q
      · rename_i hs
        split at q
        · rename_i e1 e2
          cases q
          refine pg_sub (h _ _ e1) (h _ _ e2) (r_set c.hu1) ?_
          intro v
          cases i <;> first | rfl | exact absurd hs Bool.false_ne_true
        · cases q
      · cases q
    | _ => simp [tG] at q
theorem tGs_ok (c : COk g lev X N sc W) (h : SE X W f) (ho : ∀ x, okc x = true → X.fn x = true) : ∀ (n : Nat) (es : List Expr) (t : WX → TGs), tGs g.K f N sc okc n es = some t → PGs X es (t W)
  | 0, e, t, q => by simp [tGs] at q
  | n + 1, [], t, q => by
    simp only [tGs] at q
    cases q
    exact pgs_nil
  | n + 1, e :: es, t, q => by
    simp only [tGs] at q
    split at q
    · rename_i hs
      split at q
      · rename_i e1 e2
        cases q
        exact pgs_cons (tG_ok c h ho n e _ e1) (tGs_ok c h ho n es _ e2) (by rw [assign_star hs]; rfl)
      · cases q
    · cases q
end
end
end WR

set_option Elab.async false
set_option linter.all false
set_option maxRecDepth 100000
set_option maxHeartbeats 4000000
namespace WR
open PySem PySem.Spec PyProof.Rows L2

/-! ## 18. expressions, tests, comprehensions: the whole translation -/
def isTup : Expr → Bool
  | .Tuple _ _ _ => true
  | _ => false
theorem isTup_ex {e : Expr} (h : isTup e = true) : ∃ a b c, e = .Tuple a b c := by
  cases e <;> first | exact ⟨_, _, _, rfl⟩ | exact absurd h Bool.false_ne_true
def tI1 (g : G) (f : Expr → OE) (sc : Scope) (tg : Expr) : Expr → Option (WX → TI)
  | .Call (.Name x _) es [] _ =>
    if sc.names.lookup x = some .globalImplicit ∧ x ∈ g.blt then
      (if x = "range" then (match es, tArgs f es with
        | [_], some t => some fun W => cRng1 (t W)
        | [_, _], some t => some fun W => cRng2 (t W)
        | [_, _, _], some t => some fun W => cRng3 (t W)
        | _, _ => none)
      else if x = "enumerate" ∧ isTup tg = true then (match es, tArgs f es with
        | [_], some t => some fun W => cEnum g.K (t W)
        | _, _ => none)
      else if x = "zip" ∧ isTup tg = true then (match es, tArgs f es with
        | [_, _], some t => some fun W => cZip g.K (t W)
        | _, _ => none)
      else if x = "reversed" then (match es, tArgs f es with
        | [_], some t => some fun W => cRev g.K (t W)
        | _, _ => none)
      else none)
    else none
  | .Call (.Attribute e m apos) [] [] cpos =>
    if baseOk e = true ∧ (apos.endLine == cpos.line) = true then (match f e with
      | some t => if m = "keys" then some fun W => cDview 0 (frzE (t W)) else if m = "values" then some fun W => cDview 1 (frzE (t W)) else if m = "items" ∧ isTup tg = true then some fun W => cDview 2 (frzE (t W)) else none
      | none => none)
    else none
  | _ => none
def tI (g : G) (f : Expr → OE) (sc : Scope) (tg iter : Expr) : Option (WX → TI) :=
  if notSet iter = true then (match tI1 g f sc tg iter with
    | some t => some t
    | none => (f iter).map fun t W => cIter g.K (frzE (t W)))
  else none
def ownOf (N : List Str) (scope : Scope) : List (Str × Nat) := scope.names.filterMap fun y => match y.2 with
  | .local | .cell => (ix? N y.1).map fun i => (y.1, i)
  | _ => none
def tIfs (f : Expr → Option (WX → TT)) : List Expr → Option (WX → TT)
  | [] => some fun _ => tYes
  | [e] => f e
  | _ => none
def okBlk (scope : Scope) (x : Str) : Bool := scope.names.lookup x == some .cell
/-- a comprehension, the dict that it may walk locked -/
def cLcL (wi : TI) (g : TG) (tt : TT) (te : TE) (vs : List Nat) : TE := fun σ H Q => cLc wi g tt te vs σ H Q ∨ tLockE (cLc wi g tt te vs) σ H Q
def cDcL (wi : TI) (g : TG) (tt : TT) (tk tv : TE) (vs : List Nat) : TE := fun σ H Q => cDc wi g tt tk tv vs σ H Q ∨ tLockE (cDc wi g tt tk tv vs) σ H Q
def tArts (f : Expr → OE) : List Expr → Option (List (WX → TE))
  | [] => some []
  | e :: es => match f e, tArts f es with
      | some te, some t => some (te :: t)
      | _, _ => none
def plainTest : Expr → Bool
  | .Name _ _ | .Call _ _ _ _ | .Attribute _ _ _ | .Subscript _ _ _ | .Constant _ _ _ | .BinOp _ _ _ _ => true
  | _ => false
mutual
def tE (g : G) : Nat → List Str → Scope → Expr → OE
  | 0, _, _, _ => none
  | n + 1, N, sc, e => match e with
    | .Constant c _ _ => (match c with
      | .int i => some fun _ => tC (.int i)
      | .bool b => some fun _ => tC (.bl b)
      | .none => some fun _ => tC .non
      | .str s => some fun _ => tC (.str s)
      | _ => none)
    | .Name x _ => (tName g N sc x).map fun t _ => t
    | .BinOp a op b _ => (match opR g.K op, tE g n N sc a, tE g n N sc b with
      | some r, some ta, some tb => some fun W => tOp r (ta W) (tb W)
      | _, _, _ => none)
    | .Compare a [op] [b] _ => if notSet b = true then (match cmpR g op, tE g n N sc a, tE g n N sc b with
      | some r, some ta, some tb => some fun W => tOp r (ta W) (tb W)
      | _, _, _ => none) else none
    | .Compare a [op, op'] [b, c] _ => if notSet c = true then (match cmpR g op, cmpR g op', tE g n N sc a, tE g n N sc b, tE g n N sc c with
      | some r, some r', some ta, some tb, some tc => some fun W => cChain r r' (ta W) (tb W) (tc W)
      | _, _, _, _, _ => none) else none
    | .BoolOp .And es _ => tBool g.K (tE g n N sc) true es
    | .BoolOp .Or es _ => tBool g.K (tE g n N sc) false es
    | .UnaryOp .Not a _ => (tE g n N sc a).map fun t W => cNot g.K (t W)
    | .UnaryOp .USub a _ => (tE g n N sc a).map fun t W => cUn (t W)
    | .IfExp c a b _ => (match tT g n N sc c, tE g n N sc a, tE g n N sc b with
      | some tc, some ta, some tb => some fun W => tIf (tc W) (ta W) (tb W)
      | _, _, _ => none)
    | .Call (.Name x _) es kws _ => (match tListV g (tE g n N sc) sc x es kws with
      | some t => some t
      | none => tCallName g (tE g n N sc) sc x es kws)
    | .Call (.Attribute o m apos) es kws pos => if baseOk o = true ∧ (apos.endLine == pos.line) = true ∧ es.length + kws.length < 29 then
        (match kwNames kws, tE g n N sc o, tArgs (tE g n N sc) es, tKws (tE g n N sc) kws with
        | some ks, some ta, some t, some tk => some fun W => cMeth g.K m es.length ks.length (g.mts.filter fun i => decide (i.name = m) && decide (i.n = es.length) && decide (i.ks = ks)) ((bms g.K).filter fun b => decide (b.name = m)) (ta W) (t W) (tk W) W
        | _, _, _, _ => none) else none
    | .List es _ => (tArgs (tE g n N sc) es).map fun t W => tLst (t W)
    | .Tuple es _ _ => (tArgs (tE g n N sc) es).map fun t W => tTup (t W)
    | .Dict ks vs _ => tDict (tE g n N sc) ks vs
    | .Subscript a (.Slice lo hi none _) _ => (match tE g n N sc a, tPartO (tE g n N sc) lo, tPartO (tE g n N sc) hi with
      | some ta, some tl, some th => some fun W => tSl (oSl g.K) (ta W) (tl W) (th W)
      | _, _, _ => none)
    | .Subscript a b _ => if notSlice b = true then (match tE g n N sc a, tE g n N sc b with
      | some ta, some tb => some fun W => tOp (oIx g.K) (ta W) (tb W)
      | _, _ => none) else none
    | .Attribute o a _ => if baseOk o = true then (match g.ats.lookup a, tE g n N sc o with
      | some cs, some to => some fun W => cAttr cs a (to W)
      | _, _ => none) else none
    | .ListComp elt [⟨tg, iter, ifs, 0⟩] scope _ =>
      if blkC N sc scope (ownOf N scope) = true then
        (match tI g (tE g n N sc) sc tg iter, tG g.K (tE g n N (relS scope sc)) N (relS scope sc) (okBlk scope) 12 tg, tIfs (tT g n N (relS scope sc)) ifs, tE g n N (relS scope sc) elt with
        | some wi, some gt, some tt, some te => some fun W => cLcL (wi W) (gt wNone) (tt wNone) (te wNone) ((ownOf N scope).map (·.2))
        | _, _, _, _ => none)
      else none
    | .DictComp kx vx [⟨tg, iter, ifs, 0⟩] scope _ =>
      if blkC N sc scope (ownOf N scope) = true then
        (match tI g (tE g n N sc) sc tg iter, tG g.K (tE g n N (relS scope sc)) N (relS scope sc) (okBlk scope) 12 tg, tIfs (tT g n N (relS scope sc)) ifs, tE g n N (relS scope sc) kx, tE g n N (relS scope sc) vx with
        | some wi, some gt, some tt, some tk, some tv => some fun W => cDcL (wi W) (gt wNone) (tt wNone) (tk wNone) (tv wNone) ((ownOf N scope).map (·.2))
        | _, _, _, _, _ => none)
      else none
    | .FormattedValue e cv none _ => if cv = -1 then (tE g n N sc e).map fun t W => cFmt (t W) else none
    | .JoinedStr (e1 :: e2 :: es) _ => (tArts (tE g n N sc) (e1 :: e2 :: es)).map fun ts W σ H Q => cJs (ts.map fun t => t W) Str.empty σ H fun out H1 => Q (.str out) H1
    | .JoinedStr [e1] _ => tE g n N sc e1
    | _ => none
def tT (g : G) : Nat → List Str → Scope → Expr → Option (WX → TT)
  | 0, _, _, _ => none
  | n + 1, N, sc, e => match e with
    | .Compare a [op] [b] _ => if notSet b = true then (match cmpR g op, tE g n N sc a, tE g n N sc b with
      | some r, some ta, some tb => some fun W => cTest (tOp r (ta W) (tb W))
      | _, _, _ => none) else none
    | .Compare a [op, op'] [b, c] _ => if notSet c = true then (match cmpR g op, cmpR g op', tE g n N sc a, tE g n N sc b, tE g n N sc c with
      | some r, some r', some ta, some tb, some tc => some fun W => cTest (cChain r r' (ta W) (tb W) (tc W))
      | _, _, _, _, _ => none) else none
    | .BoolOp .And es _ => tBoolT (tT g n N sc) true es
    | .BoolOp .Or es _ => tBoolT (tT g n N sc) false es
    | .UnaryOp .Not a _ => (tT g n N sc a).map fun t W => tNot (t W)
    | e => if plainTest e = true then (tE g n N sc e).map fun t W => cTru g.K (t W) else none
end
section
variable {g : G} {lev : Nat} {X : Cx} {N : List Str} {sc : Scope} {W : WX} {f : Expr → OE}
theorem tI1_ok (c : COk g lev X N sc W) (h : SE X W f) {tg iter : Expr} {t : WX → TI} (q : tI1 g f sc tg iter = some t) : PI X tg iter (t W) := by
  unfold tI1 at q
  split at q
  · rename_i x p es pos
    split at q
    · rename_i hx
      have hg : Gl X x := by unfold Gl Env.kindOf; rw [c.hsc]; exact hx.1
      have hm := c.gok.blt x hx.2
      split at q
      · rename_i e
        subst e
        split at q
        · rename_i e1; cases q
          obtain ⟨p1, p2, p3⟩ := tArgs_ok h e1
          simp only [List.all_cons, List.all_nil, Bool.and_true] at p2
          exact pi_rng1' hg hm p2 p1
        · rename_i e1; cases q
          obtain ⟨p1, p2, p3⟩ := tArgs_ok h e1
          simp only [List.all_cons, List.all_nil, Bool.and_true, Bool.and_eq_true] at p2
          exact pi_rng2' hg hm p2.1 p2.2 p1
        · rename_i e1; cases q
          obtain ⟨p1, p2, p3⟩ := tArgs_ok h e1
          simp only [List.all_cons, List.all_nil, Bool.and_true, Bool.and_eq_true] at p2
          exact pi_rng3' hg hm p2.1 p2.2.1 p2.2.2 p1
        · cases q
      · split at q
        · rename_i e
          obtain ⟨rfl, ht⟩ := e
          obtain ⟨a, b, d, rfl⟩ := isTup_ex ht
          split at q
          · rename_i e1; cases q
            obtain ⟨p1, p2, p3⟩ := tArgs_ok h e1
            simp only [List.all_cons, List.all_nil, Bool.and_true] at p2
            rw [← c.hK]
            exact pi_enum' hg hm p2 p1
          · cases q
        · split at q
          · rename_i e
            obtain ⟨rfl, ht⟩ := e
            obtain ⟨a, b, d, rfl⟩ := isTup_ex ht
            split at q
            · rename_i e1; cases q
              obtain ⟨p1, p2, p3⟩ := tArgs_ok h e1
              simp only [List.all_cons, List.all_nil, Bool.and_true, Bool.and_eq_true] at p2
              rw [← c.hK]
              exact pi_zip' hg hm p2.1 p2.2 p1
            · cases q
          · split at q
            · rename_i e
              subst e
              split at q
              · rename_i e1; cases q
                obtain ⟨p1, p2, p3⟩ := tArgs_ok h e1
                simp only [List.all_cons, List.all_nil, Bool.and_true] at p2
                rw [← c.hK]
                exact pi_rev' hg hm p2 p1
              · cases q
            · cases q
    · cases q
  · split at q
    · rename_i hb
      split at q
      · rename_i e1
        split at q
        · rename_i em; cases q; exact pi_view' (pe_frz (h _ _ e1)) hb.1 hb.2 (.inl ⟨em, rfl⟩)
        · split at q
          · rename_i em; cases q; exact pi_view' (pe_frz (h _ _ e1)) hb.1 hb.2 (.inr (.inl ⟨em, rfl⟩))
          · split at q
            · rename_i em; cases q; exact pi_view' (pe_frz (h _ _ e1)) hb.1 hb.2 (.inr (.inr ⟨em.1, rfl, isTup_ex em.2⟩))
            · cases q
      · cases q
    · cases q
  · cases q
theorem notSet_f {iter : Expr} {env : Env} {x : Value} (h : notSet iter = true) : foldedSetIterable iter env x = pure x := by
  cases iter <;> first | rfl | exact absurd h Bool.false_ne_true
theorem tI_ok (c : COk g lev X N sc W) (h : SE X W f) {tg iter : Expr} {t : WX → TI} (q : tI g f sc tg iter = some t) : PI X tg iter (t W) ∧ notSet iter = true := by
  unfold tI at q
  split at q
  · rename_i hs
    refine ⟨?_, hs⟩
    split at q
    · rename_i e; cases q; exact tI1_ok c h e
    · obtain ⟨u, hu, rfl⟩ := Option.map_eq_some_iff.mp q
      rw [← c.hK]
      exact pi_dyn (pe_frz (h _ _ hu))
  · cases q
theorem tIfs_ok {f : Expr → Option (WX → TT)} (h : ST X W f) : ∀ {es : List Expr} {t : WX → TT}, tIfs f es = some t → PTs X es (t W)
  | [], t, q => by cases q; exact pts_nil
  | [e], t, q => pts_one (h _ _ q)
  | _ :: _ :: _, t, q => by simp [tIfs] at q
theorem cok_blk (c : COk g lev X N sc W) {scope : Scope} {s : Shared} {H : Hp} {C : Addr} {cl : List (Str × Addr)} {fp : List Addr} : COk g lev (X.blk s H scope (compEnvC scope cl C X.env) fp) N (relS scope sc) wNone where
  gok := c.gok
  hK := c.hK
  hN := c.hN
  hsc := by
    have : (compEnvC scope cl C X.env).scope = relS scope X.env.scope := rfl
    exact this.trans (by rw [c.hsc])
  nd := c.nd
  calm := c.calm
  tk := takes0
  room := c.room
  gd := c.gd
  room2 := c.room2
theorem opR_ok (c : COk g lev X N sc W) {op : Operator} {r : R2} (h : opR g.K op = some r) : OpR X (binaryOp op) r := by
  unfold opR at h
  rw [← c.hK] at h
  split at h <;> cases h
  · exact r_add
  · exact r_sub
  · exact r_mul
  · exact r_fdiv
  · exact r_mod
  · exact r_pow
  · exact r_shl
  · exact r_bor
theorem cmpR_ok (c : COk g lev X N sc W) {op : CmpOp} {r : R2} (h : cmpR g op = some r) : OpR X (compareOp op) r := by
  have hu := c.hu
  have hu5 : X.A.units + 65 < cLine := by have := c.room.un; omega
  unfold cmpR at h
  split at h <;> cases h
  · exact r_lt
  · exact r_le
  · rw [← c.hK]; exact r_gtK (by omega)
  · rw [← c.hK]; exact r_geK (by omega)
  · exact r_eqG c (by rw [← c.hK]; exact r_eq hu)
  · exact r_neG c (by rw [← c.hK]; exact r_ne hu)
  · rw [← c.hK]; exact r_in hu5
  · rw [← c.hK]; exact r_notin hu5
  · exact r_is
  · exact r_isnot
theorem notSlice_ix {b : Expr} (h : notSlice b = true) : PlainIx b := fun o i => by
  cases b <;> first | rfl | exact absurd h Bool.false_ne_true
end
end WR

set_option Elab.async false
set_option linter.all false
set_option maxRecDepth 100000
set_option maxHeartbeats 4000000
namespace WR
open PySem PySem.Spec PyProof.Rows L2
section
variable {g : G} {lev : Nat} {X : Cx} {N : List Str} {sc : Scope} {W : WX} {f : Expr → OE}
theorem lpd_W {J : It} {g : TG} {tt : TT} {tk tv : TE} {vs : List Nat} {σ : St} {D : Addr} {Q : VK} {H1 : Hp} (h : ∃ n, lpd J g tt tk tv vs σ D Q n 0 H1) :
    ∃ W : Nat → Nat → Hp → Prop, (∃ m, W 0 m H1) ∧ ∀ i m H, W i m H →
      (J.stop i H ∧ Q (.ref D) H) ∨ (J.go i H ∧ ∃ Nx : Hp → Prop, (∀ H', Nx H' → ∃ m', m' < m ∧ W (i + 1) m' H') ∧ ∀ x H', J.yld i H x H' → g x (wipe σ vs) H' fun σ2 H2 => wipe σ2 vs = wipe σ vs ∧ tt σ2 H2 fun b H3 =>
        if b = true then tk σ2 H3 fun y H4 => tv σ2 H4 fun z H5 => ∃ kvs k, y = kV k ∧ H5 D = some (.dK kvs) ∧ kvs.length < sizeLine ∧ Nx (upd H5 D (.dK (putK kvs k z))) else Nx H3) := by
  obtain ⟨n, h⟩ := h
  refine ⟨fun i m H => lpd J g tt tk tv vs σ D Q m i H, ⟨n, h⟩, fun i m H w => ?_⟩
  cases m with
  | zero => exact .inl w
  | succ m =>
    rcases w with w | ⟨go, w⟩
    · exact .inl w
    · exact .inr ⟨go, lpd J g tt tk tv vs σ D Q m (i + 1), fun H' q => ⟨m, Nat.lt_succ_self _, q⟩, w⟩
theorem pe_fmt' {e : Expr} {te : TE} {pos : Pos} (he : PE X e te) : PE X (.FormattedValue e (-1) none pos) (cFmt te) :=
  PE_imp (pe_fmt (PE_up he)) fun σ H Q h => ⟨_, h, fun x H1 q => by
    try dsimp only at q
    split at q
    · exact .inl ⟨_, rfl, q⟩
    · exact .inr ⟨_, rfl, q⟩
    · exact q.elim⟩
theorem tArts_ok {f : Expr → OE} (h : SE X W f) : ∀ {es : List Expr} {ts : List (WX → TE)}, tArts f es = some ts → PJ X es (ts.map fun t => upE (t W))
  | [], ts, e => by cases e; exact .nil
  | e :: es, ts, q => by
    unfold tArts at q
    split at q
    · rename_i te tr e1 e2
      cases q
      exact .cons (PE_up (h _ _ e1)) (tArts_ok h e2)
    · cases q
theorem cJs_up {Wt : WX} : ∀ {ts : List (WX → TE)} {acc : Str} {σ : St} {H : Hp} {Q : Str → Hp → Prop}, cJs (ts.map fun t => t Wt) acc σ H Q → tJs (ts.map fun t => upE (t Wt)) acc σ H Q
  | [], acc, σ, H, Q, h => h
  | t :: ts, acc, σ, H, Q, h => ⟨_, h, fun x H1 q => by
    try dsimp only at q
    split at q
    · exact ⟨_, rfl, q.1, cJs_up q.2⟩
    · exact q.elim⟩
theorem pe_joined' {e1 e2 : Expr} {es : List Expr} {pos : Pos} {ts : List (WX → TE)} (h : PJ X (e1 :: e2 :: es) (ts.map fun t => upE (t W))) : PE X (.JoinedStr (e1 :: e2 :: es) pos) (fun σ H Q => cJs (ts.map fun t => t W) Str.empty σ H fun out H1 => Q (.str out) H1) :=
  PE_imp (pe_joined h) fun σ H Q q => cJs_up q
theorem bltR_ok (c : COk g lev X N sc W) {x : Str} {v : Value} {r : RC} (h : bltR g x = some (v, r)) : CallR X v r ∧ Keeps X v := by
  have hc := c.calm
  have hm := PySem.mem_of_lookup (show (bltTab g).lookup x = some (v, r) from h)
  simp only [bltTab, List.mem_cons, List.not_mem_nil, or_false, Prod.mk.injEq] at hm
  rcases hm with ⟨_, rfl, rfl⟩ | ⟨_, rfl, rfl⟩ | ⟨_, rfl, rfl⟩ | ⟨_, rfl, rfl⟩ | ⟨_, rfl, rfl⟩ | ⟨_, rfl, rfl⟩ | ⟨_, rfl, rfl⟩ | ⟨_, rfl, rfl⟩ | ⟨_, rfl, rfl⟩ | ⟨_, rfl, rfl⟩ | ⟨_, rfl, rfl⟩ | ⟨_, rfl, rfl⟩ | ⟨_, rfl, rfl⟩ | ⟨_, rfl, rfl⟩ | ⟨_, rfl, rfl⟩ | ⟨_, rfl, rfl⟩ | ⟨_, rfl, rfl⟩
  all_goals try rw [← c.hK]
  · exact ⟨b_repr c.gd c.hu (by rw [c.hK]; exact c.gok.sys), keeps_blt⟩
  · exact ⟨b_lenG c (by rw [← c.hK]; exact b_len), keeps_blt⟩
  · exact ⟨b_isi, keeps_blt⟩
  · exact ⟨b_all hc, keeps_blt⟩
  · exact ⟨b_any hc, keeps_blt⟩
  · exact ⟨b_sum hc, keeps_blt⟩
  · exact ⟨b_abs, keeps_blt⟩
  · exact ⟨b_max hc, keeps_blt⟩
  · exact ⟨b_min hc, keeps_blt⟩
  · exact ⟨b_ord, keeps_blt⟩
  · exact ⟨b_int, keeps_ty⟩
  · exact ⟨b_strG c, keeps_ty⟩
  · exact ⟨b_list hc, keeps_ty⟩
  · exact ⟨b_tuple, keeps_ty⟩
  · exact ⟨b_dict hc, keeps_ty⟩
  · exact ⟨b_boolG c, keeps_ty⟩
  · exact ⟨b_sortedX hc c.hu, keeps_blt⟩
theorem pe_blt {x : Str} {p pos : Pos} {es : List Expr} {t : TA} {v : Value} {r : RC} (hc : CallR X v r) (hk : Keeps X v) (hg : Gl X x) (hm : X.mg x = none) (hv : bootBuiltins x = some v) (hx : plainName x = true) (hnil : es = [] → t = tNil) (hst : es.all notStar = true) (ha : PA X es t) :
    PE X (.Call (.Name x p) es [] pos) (tCB r t) := by
  refine ⟨fun pins s σ H Q I h => ?_⟩
  refine wpAny_Call_Name_kw (ld_blt I hg hm hv ?_ (plain_n hx) (plain_d hx))
  refine args_of (tk := tNil) (ks := []) (first := []) (R := fun vs zs H2 => zs = [] ∧ r vs H2 Q) hk hnil hst rfl ha pk_nil I (?_ : t σ H fun vs H2 => tNil σ H2 fun zs H3 => zs = [] ∧ r vs H3 Q) fun vs zs us ws s2 H2 I2 r1 rz q => ?_
  · have e : (fun (vs : List V) (H2 : Hp) => tNil σ H2 fun zs H3 => zs = [] ∧ r vs H3 Q) = fun vs H2 => r vs H2 Q := by
      funext vs H2
      exact propext ⟨fun z => z.2, fun z => ⟨rfl, z⟩⟩
    rw [e]
    exact h
  · obtain ⟨rfl, q⟩ := q
    exact hc pins s2 σ H2 vs us Q I2 r1 q
theorem pe_mk (c : COk g lev X N sc W) {i : MkI} {p pos : Pos} {es : List Expr} {kws : List Keyword} {t tk : TA} (hi : i ∈ g.mks) (hn : i.n = es.length) (hks : kwNames kws = some i.ks) (hg : Gl X i.name) (hx : plainName i.name = true) (hnil : es = [] → t = tNil) (hst : es.all notStar = true) (ha : PA X es t) (hw : PK X kws tk) :
    PE X (.Call (.Name i.name p) es kws pos) (cMk i.cls es.length i.ks.length i.arr i.sp t tk W) := by
  obtain ⟨fa, fd, ps, gf, hm, M, F, kb⟩ := c.gok.mks i hi
  rw [← c.hK] at M F kb
  rw [hn] at kb
  refine ⟨fun pins s σ H Q I h => ?_⟩
  refine wpAny_Call_Name_kw (ld_glob I hg hm ?_ (plain_d hx))
  refine args_of (first := []) (R := fun vs zs H2 => vs.length = es.length ∧ zs.length = i.ks.length ∧ ∀ x dx, H2 x = none → H2 dx = none → dx ≠ x → i.sp (.ref x :: i.arr vs zs) (upd (upd H2 dx (.own x)) x (.ins i.cls dx [])) (fun v H3 => v = .non ∧ Q (.ref x) H3) (fun cls d H' => W cls d σ H')) (keeps_ref M.kp) hnil hst hks ha hw I h fun vs zs us ws s2 H2 I2 r rz q => ?_
  obtain ⟨l1, l2, q⟩ := q
  have hq := q (s2.heap.objs.size + 1) s2.heap.objs.size (I2.hok.fresh (Nat.le_succ _)) (I2.hok.fresh (Nat.le_refl _)) (Nat.ne_of_lt (Nat.lt_succ_self _))
  have I3 := Inv.made (C := i.cls) I2
  have r2 : Vals (V.ref (s2.heap.objs.size + 1) :: vs) (Value.ref (s2.heap.objs.size + 1) :: us) := .cons rfl r
  have r3 := kb.rel r2 rz
  have e1 : (Value.ref (s2.heap.objs.size + 1) :: us).length = es.length + 1 := r2.length.symm.trans (congrArg Nat.succ l1)
  have e2 : ws.length = i.ks.length := rz.length.symm.trans l2
  refine wpAny_call (make_map (f := fa) (kw := i.ks.zip ws) I2.kIn M.makes M.init (beq_iff_eq.mp M.fn) (codeAny_mono (F.run _ X.stack _ _ ⟨Value.ref (s2.heap.objs.size + 1) :: us, i.ks.zip ws⟩ (gf (Value.ref (s2.heap.objs.size + 1) :: us) ws) _ _ _ (c.room.make i.cls us (i.ks.zip ws)) (gd_make c.gd i.cls us (i.ks.zip ws))
    (I3.env0.make i.cls us (i.ks.zip ws)) (kb.to _ (Value.ref (s2.heap.objs.size + 1) :: us) ws I3.kIn e1 e2) r3 hq) fun r s' hq' => ?_))
  cases r with
  | error e => exact c.tk e s' (XE.of_call I3 (fun _ _ _ h => h) hq')
  | ok fl =>
    cases fl with
    | ret u =>
      obtain ⟨v, H', I4, rv, ev, q3⟩ := I3.after hq'
      subst ev
      exact ⟨rv, ⟨V.ref (s2.heap.objs.size + 1), H', I4, rfl, q3⟩⟩
    | next => exact False.elim hq'
    | brk => exact False.elim hq'
    | cont => exact False.elim hq'
theorem tCallName_ok (c : COk g lev X N sc W) (h : SE X W f) {x : Str} {p pos : Pos} {es : List Expr} {kws : List Keyword} {t : WX → TE} (q : tCallName g f sc x es kws = some t) : PE X (.Call (.Name x p) es kws pos) (t W) := by
  unfold tCallName at q
  split at q
  · rename_i hx
    have hg : Gl X x := by unfold Gl Env.kindOf; rw [c.hsc]; exact hx.2
    split at q
    · rename_i ks ta tk e1 e2 e3
      obtain ⟨a1, a2, a3⟩ := tArgs_ok h e2
      obtain ⟨b1, b2⟩ := tKws_ok h e3
      split at q
      · rename_i i ei
        cases q
        have hi := List.mem_of_find?_eq_some ei
        have hp := List.find?_some ei
        simp only [Bool.and_eq_true, decide_eq_true_eq] at hp
        obtain ⟨⟨p1, p2⟩, p3⟩ := hp
        obtain ⟨fa, fd, ps, gf, m1, m2, F, kb⟩ := c.gok.fns i hi
        rw [← c.hK] at m2 F kb
        rw [p1] at m1
        rw [p2, p3] at kb
        exact pe_own F c.room0 c.gd kb c.tk hg m1 m2 hx.1 a3 a2 e1 a1 b1
      · split at q
        · rename_i i ei
          cases q
          have hi := List.mem_of_find?_eq_some ei
          have hp := List.find?_some ei
          simp only [Bool.and_eq_true, decide_eq_true_eq] at hp
          obtain ⟨⟨p1, p2⟩, p3⟩ := hp
          subst p1 p3
          exact pe_mk c hi p2 e1 hg hx.1 a3 a2 a1 b1
        · split at q
          · rename_i hb
            obtain ⟨hb, rfl, hne⟩ := hb
            split at q
            · rename_i v r er
              split at q
              · rename_i hv
                cases q
                have o12 : CallR X v r ∧ Keeps X v := by
                  split at er
                  · rename_i D eD
                    cases er
                    refine ⟨b_isO c ?_, keeps_blt⟩
                    unfold isOwn at eD
                    split at eD
                    · split at eD
                      · exact List.mem_of_find?_eq_some eD
                      · cases eD
                    · cases eD
                  · exact bltR_ok c er
                obtain ⟨o1, o2⟩ := o12
                exact pe_blt o1 o2 hg (c.gok.blt x hb) hv hx.1 a3 a2 a1
              · cases q
            · cases q
          · cases q
    · cases q
  · cases q
theorem tListV_ok (c : COk g lev X N sc W) (h : SE X W f) {x : Str} {p pos : Pos} {es : List Expr} {kws : List Keyword} {t : WX → TE} (q : tListV g f sc x es kws = some t) : PE X (.Call (.Name x p) es kws pos) (t W) := by
  unfold tListV at q
  split at q
  · split at q
    · rename_i hc
      obtain ⟨rfl, rfl, hg, hb, ho, hl⟩ := hc
      have gl : Gl X "list" := by unfold Gl Env.kindOf; rw [c.hsc]; exact hg
      split at q
      · rename_i te e1
        split at q
        · rename_i em
          subst em
          cases q
          exact pe_listVals c.calm (h _ _ e1) gl (c.gok.blt _ hb) PyProof.Rows.Boot.«list» (base_of ho) hl
        · split at q
          · rename_i em
            subst em
            cases q
            exact LiI.pe_listItems c.calm (h _ _ e1) gl (c.gok.blt _ hb) PyProof.Rows.Boot.«list» (base_of ho) hl
          · cases q
      · cases q
    · cases q
  · cases q
theorem cAttr_ok (c : COk g lev X N sc W) {o : Expr} {a : Str} {pos : Pos} {cs : List Addr} {to : TE} (hb : baseOk o = true) (hc : g.ats.lookup a = some cs) (ho : PE X o to) : PE X (.Attribute o a pos) (cAttr cs a to) := by
  refine PE_imp (pe_fld (PE_up ho) (base_of hb)) fun σ H Q h => ⟨_, h, fun x H1 q => ?_⟩
  try dsimp only at q
  split at q
  · rename_i p C fs e
    obtain ⟨hC, q⟩ := q
    obtain ⟨dx, rfl, ea⟩ := insOf_ok e
    obtain ⟨k1, k2⟩ := c.gok.ats _ (lookup_mem hc) C hC
    split at q
    · rename_i v ev
      rw [c.hK]
      exact ⟨_, _, _, _, v, rfl, ea, k1, k2, ev, q⟩
    · exact q.elim
  · exact q.elim
theorem tDict_ok (c : COk g lev X N sc W) (h : SE X W f) {ks : List (Option Expr)} {vs : List Expr} {pos : Pos} {t : WX → TE} (q : tDict f ks vs = some t) : PE X (.Dict ks vs pos) (t W) := by
  unfold tDict at q
  split at q
  · cases q; exact pe_dnewK
  · rename_i hne
    split at q
    · rename_i h15
      split at q
      · rename_i trs e
        cases q
        obtain ⟨p1, p2, p3⟩ := tPairs_ok h (pos := pos) e
        refine pe_disp p1 p2 p3 (fun z => ?_) h15
        subst z
        have : vs = [] := List.length_eq_zero_iff.mp p3.symm
        exact hne rfl this
      · cases q
    · cases q
end
theorem blk_fn {X : Cx} {scope : Scope} {s : Shared} {H : Hp} {cenv : Env} {fp : List Addr} : ∀ x, okBlk scope x = true → (X.blk s H scope cenv fp).fn x = true := fun x h => h

theorem plain_true {e : Expr} {env : Env} {whole : Sem Value} (h : plainTest e = true) : isTrue e env whole = (do let v ← whole; standAt e.pos; holding [v] (truthy v)) := by
  cases e <;> first | rfl | exact absurd h Bool.false_ne_true
theorem pe_orLock {X : Cx} {e : Expr} {t : TE} (h : PE X e t) : PE X e (fun σ H Q => t σ H Q ∨ tLockE t σ H Q) :=
  ⟨fun pins s σ H Q I q => q.elim (fun q => h.run pins s σ H Q I q) fun q => (pe_lock h).run pins s σ H Q I q⟩
/-- THE READING OF EXPRESSIONS IS RIGHT -/
theorem tET_ok (g : G) : ∀ (n : Nat), (∀ N sc e t, tE g n N sc e = some t → ∀ {lev X W}, COk g lev X N sc W → PE X e (t W)) ∧ (∀ N sc e t, tT g n N sc e = some t → ∀ {lev X W}, COk g lev X N sc W → PT X e (t W))
  | 0 => ⟨fun N sc e t q => by simp [tE] at q, fun N sc e t q => by simp [tT] at q⟩
  | n + 1 => by
    obtain ⟨ihE, ihT⟩ := tET_ok g n
    have seE : ∀ {N sc lev X W}, COk g lev X N sc W → SE X W (tE g n N sc) := fun c e t q => ihE _ _ e t q c
    have seT : ∀ {N sc lev X W}, COk g lev X N sc W → ST X W (tT g n N sc) := fun c e t q => ihT _ _ e t q c
    have hE : ∀ N sc e t, tE g (n + 1) N sc e = some t → ∀ {lev X W}, COk g lev X N sc W → PE X e (t W) := by
      intro N sc e t q lev X W c
      unfold tE at q
      split at q
      · split at q
        · cases q; exact pe_int
        · cases q; exact pe_bl
        · cases q; exact pe_non
        · cases q; exact pe_str
        · cases q
      · obtain ⟨u, hu, rfl⟩ := Option.map_eq_some_iff.mp q
        exact tName_ok hu c.b
      · split at q
        · rename_i e1 e2 e3
          cases q
          exact pe_op (opR_ok c e1) (ihE _ _ _ _ e2 c) (ihE _ _ _ _ e3 c)
        · cases q
      · split at q
        · rename_i hs
          split at q
          · rename_i e1 e2 e3
            cases q
            exact pe_cmpR (cmpR_ok c e1) (ihE _ _ _ _ e2 c) (ihE _ _ _ _ e3 c) (notSet_b hs)
          · cases q
        · cases q
      · split at q
        · rename_i hs
          split at q
          · rename_i e1 e2 e3 e4 e5
            cases q
            exact pe_chain' (cmpR_ok c e1) (cmpR_ok c e2) (ihE _ _ _ _ e3 c) (ihE _ _ _ _ e4 c) (ihE _ _ _ _ e5 c) (notSet_l hs)
          · cases q
        · cases q
      · rw [← c.hK] at q
        exact tBool_ok (seE c) true q
      · rw [← c.hK] at q
        exact tBool_ok (seE c) false q
      · obtain ⟨u, hu, rfl⟩ := Option.map_eq_some_iff.mp q
        rw [← c.hK]
        exact pe_not' (ihE _ _ _ _ hu c)
      · obtain ⟨u, hu, rfl⟩ := Option.map_eq_some_iff.mp q
        exact pe_neg' (ihE _ _ _ _ hu c)
      · split at q
        · rename_i e1 e2 e3
          cases q
          exact pe_ifExp (ihT _ _ _ _ e1 c) (ihE _ _ _ _ e2 c) (ihE _ _ _ _ e3 c)
        · cases q
      · split at q
        · rename_i e; cases q; exact tListV_ok c (seE c) e
        · exact tCallName_ok c (seE c) q
      · split at q
        · rename_i hb
          split at q
          · rename_i e1 e2 e3 e4
            cases q
            obtain ⟨a1, a2, a3⟩ := tArgs_ok (seE c) e3
            obtain ⟨b1, b2⟩ := tKws_ok (seE c) e4
            refine pe_methG c hb.1 a2 e1 hb.2.2 hb.2.1 (fun i hi => ?_) (fun b hbm => ?_) a3 b2 (ihE _ _ _ _ e2 c) a1 b1
            · obtain ⟨z1, z2⟩ := List.mem_filter.mp hi
              simp only [Bool.and_eq_true, decide_eq_true_eq] at z2
              exact ⟨z1, z2.1.1, z2.1.2, z2.2⟩
            · obtain ⟨z1, z2⟩ := List.mem_filter.mp hbm
              rw [← c.hK] at z1
              exact ⟨bms_ok c.hu1 b z1, of_decide_eq_true z2⟩
          · cases q
        · cases q
      · obtain ⟨u, hu, rfl⟩ := Option.map_eq_some_iff.mp q
        exact pe_lst (tArgs_ok (seE c) hu).1
      · obtain ⟨u, hu, rfl⟩ := Option.map_eq_some_iff.mp q
        exact pe_tup (tArgs_ok (seE c) hu).1
      · exact tDict_ok c (seE c) q
      · split at q
        · rename_i e1 e2 e3
          cases q
          rw [← c.hK]
          exact pe_slice r_sl (ihE _ _ _ _ e1 c) (tPartO_ok (seE c) e2) (tPartO_ok (seE c) e3)
        · cases q
      · split at q
        · rename_i hs
          split at q
          · rename_i e1 e2
            cases q
            rw [← c.hK]
            exact pe_ix (r_ix c.hu1) (ihE _ _ _ _ e1 c) (ihE _ _ _ _ e2 c) (notSlice_ix hs)
          · cases q
        · cases q
      · split at q
        · rename_i hb
          split at q
          · rename_i e1 e2
            cases q
            exact cAttr_ok c hb e1 (ihE _ _ _ _ e2 c)
          · cases q
        · cases q
      · split at q
        · rename_i hb
          split at q
          · rename_i wi gt tt te e1 e2 e3 e4
            cases q
            obtain ⟨i1, i2⟩ := tI_ok c (seE c) e1
            have ok : BlkOk X.N X.env.scope _ _ := blkOk_by (by rw [c.hN, c.hsc]; exact hb)
            exact pe_orLock (PE_imp (pe_lc c.calm c.nd (PI_up i1) ok (fun s H C cl fp => tG_ok (cok_blk c) (seE (cok_blk c)) blk_fn 12 _ _ e2)
                (fun s H C cl fp => tIfs_ok (seT (cok_blk c)) e3) (fun s H C cl fp => ihE _ _ _ _ e4 (cok_blk c)) (fun x => notSet_f i2)) fun σ H Q h => ⟨_, h, fun J H' q D hD => lpc_W (q D hD)⟩)
          · cases q
        · cases q
      · split at q
        · rename_i hb
          split at q
          · rename_i wi gt tt tk tv e1 e2 e3 e4 e5
            cases q
            obtain ⟨i1, i2⟩ := tI_ok c (seE c) e1
            have ok : BlkOk X.N X.env.scope _ _ := blkOk_by (by rw [c.hN, c.hsc]; exact hb)
            exact pe_orLock (PE_imp (pe_dc c.calm c.nd (PI_up i1) ok (fun s H C cl fp => tG_ok (cok_blk c) (seE (cok_blk c)) blk_fn 12 _ _ e2)
                (fun s H C cl fp => tIfs_ok (seT (cok_blk c)) e3) (fun s H C cl fp => ihE _ _ _ _ e4 (cok_blk c)) (fun s H C cl fp => ihE _ _ _ _ e5 (cok_blk c)) (fun x => notSet_f i2)) fun σ H Q h => ⟨_, h, fun J H' q D hD => lpd_W (q D hD)⟩)
          · cases q
        · cases q
      · split at q
        · rename_i hv
          obtain ⟨u, hu, rfl⟩ := Option.map_eq_some_iff.mp q
          rw [hv]
          exact pe_fmt' (ihE _ _ _ _ hu c)
        · cases q
      · obtain ⟨u, hu, rfl⟩ := Option.map_eq_some_iff.mp q
        exact pe_joined' (tArts_ok (seE c) hu)
      · exact pe_joined1 (ihE _ _ _ _ q c)
      · cases q
    refine ⟨hE, fun N sc e t q lev X W c => ?_⟩
    unfold tT at q
    split at q
    · split at q
      · rename_i hs
        split at q
        · rename_i e1 e2 e3
          cases q
          exact pt_cmp' (cmpR_ok c e1) (ihE _ _ _ _ e2 c) (ihE _ _ _ _ e3 c) (notSet_b hs)
        · cases q
      · cases q
    · split at q
      · rename_i hs
        split at q
        · rename_i e1 e2 e3 e4 e5
          cases q
          exact pt_chain' (cmpR_ok c e1) (cmpR_ok c e2) (ihE _ _ _ _ e3 c) (ihE _ _ _ _ e4 c) (ihE _ _ _ _ e5 c) (notSet_l hs)
        · cases q
      · cases q
    · exact (tBoolT_ok (seT c) true q).pt
    · exact (tBoolT_ok (seT c) false q).pt
    · obtain ⟨u, hu, rfl⟩ := Option.map_eq_some_iff.mp q
      exact pt_not (ihT _ _ _ _ hu c)
    · split at q
      · rename_i hp
        obtain ⟨u, hu, rfl⟩ := Option.map_eq_some_iff.mp q
        rw [← c.hK]
        exact pt_tru' (ihE _ _ _ _ hu c) fun whole => plain_true hp
      · cases q
end WR

set_option Elab.async false
set_option linter.all false
set_option maxRecDepth 100000
set_option maxHeartbeats 4000000
namespace WR
open PySem PySem.Spec PyProof.Rows L2

/-! ## 19. statements -/
def notComp : Expr → Bool
  | .ListComp _ _ _ _ | .SetComp _ _ _ _ | .DictComp _ _ _ _ _ => false
  | _ => true
theorem notComp_sw {e : Expr} {t : Option Expr} {l : Nat} {env : Env} (h : notComp e = true) : swapsWith e t l env = pure false := by
  cases e <;> first | rfl | exact absurd h Bool.false_ne_true
def oIAdd (K : PySem.W.Frag) : R2 := fun x y H Q => match x, y with
  | .int i, .int j => Q (.int (i + j)) H
  | .str a, .str b => a.length + b.length ≤ sizeLine ∧ Q (.str (a ++ b)) H
  | .ref l, .ref b => (match H l, H b with
    | some (.lst xs), some (.lst zs) => xs.length + zs.length ≤ sizeLine ∧ Q (.ref l) (upd H l (.lst (xs ++ zs)))
    | _, _ => False)
  | _, _ => False
def iopR (K : PySem.W.Frag) : Operator → Option R2
  | .Add => some (oIAdd K)
  | .Sub => some oSub
  | _ => none
section
variable {X : Cx}
theorem r_iadd : OpR X (inplaceOp .Add) (oIAdd X.K) := OpR_imp (iop_add.or (iop_add_str.or iop_ext)) fun x y H Q h => by
  unfold oIAdd at h
  split at h
  · exact .inl ⟨_, _, rfl, rfl, h⟩
  · exact .inr (.inl ⟨_, _, rfl, rfl, h.1, h.2⟩)
  · split at h
    · rename_i e f; exact .inr (.inr ⟨_, _, _, _, rfl, rfl, e, f, h.1, h.2⟩)
    · exact h.elim
  · exact h.elim
theorem r_isub : OpR X (inplaceOp .Sub) oSub := OpR_imp iop_sub fun x y H Q h => by
  unfold oSub at h
  split at h
  · exact ⟨_, _, rfl, rfl, h⟩
  · exact h.elim
end
/-- self.f = e -/
def cFldS (cands : List Addr) (f : Str) (ta tv : TE) : TS := fun D σ H => tv σ H fun y H1 => ta σ H1 fun x H2 => match x with
  | .ref a => (match H2 a with
    | some (.ins C dx fs) => C ∈ cands ∧ fs.length < 1000 ∧ D.nx σ (upd H2 a (.ins C dx (putF f y fs)))
    | _ => False)
  | _ => False
/-- self.f += e, whole numbers -/
def cFldAug (cands : List Addr) (f : Str) (sub : Bool) (ta tv : TE) : TS := fun D σ H => ta σ H fun x H1 => match x with
  | .ref a => (match H1 a with
    | some (.ins C dx fs) => C ∈ cands ∧ (match fs.lookup f with
      | some (.int i) => tv σ H1 fun y H2 => (match y with
        | .int j => (match H2 a with
          | some (.ins C' dx' fs') => C' = C ∧ fs'.length < 1000 ∧ D.nx σ (upd H2 a (.ins C dx' (putF f (.int (if sub then i - j else i + j)) fs')))
          | _ => False)
        | _ => False)
      | _ => False)
    | _ => False)
  | _ => False
def cPar (i j : Nat) (ta : TA) : TS := fun D σ H => ta σ H fun vs H1 => match vs with
  | [v, w] => D.nx ((σ.set i (some v)).set j (some w)) H1
  | _ => False
def cAug (i : Nat) (te : TE) (r : R2) : TS := fun D σ H => match σ[i]? with
  | some (some x) => te σ H fun y H1 => r x y H1 fun z H2 => D.nx (σ.set i (some z)) H2
  | _ => False
abbrev bad : WX → TS := fun _ => tNever
/-- what the stores of a, b = x, y are: plain local names on one line are stored from the right -/
def swR (sc : Scope) (ts vs : List Expr) : Option (Option (List Str)) :=
  if (!(ts.length == 2 || ts.length == 3) || vs.length != ts.length) = true then some none else
  if (vs.any fun | .Starred .. => true | _ => false) = true then some none else
  let names := ts.filterMap fun
    | .Name id pos => if (sc.names.lookup id == some .local && pos.line == (ts.head?.map (·.pos.line)).getD 0) = true then some id else none
    | _ => none
  if (names.length != ts.length || names.eraseDups.length != names.length) = true then some none else
  if vs.all (foldedForSure 8) = true then some none else
  if vs.all (constantsAlone 8) = true then none else some (some names)
theorem swR_ok {sc : Scope} {ts vs : List Expr} {r : Option (List Str)} {env : Env} {k k2 : Nat} {p p2 : Pos} (hb : env.blockKind = .function) (hs : env.scope = sc) (h : swR sc ts vs = some r) :
    swappedStores [.Tuple ts k p] (.Tuple vs k2 p2) env = pure r := by
  subst hs
  have hb' : (env.blockKind != ScopeKind.function) = false := by rw [hb]; rfl
  unfold swR at h
  unfold swappedStores
  simp only [hb', Bool.or_false]
  split at h
  · rename_i c; refine (if_pos c).trans ?_; cases h; rfl
  · rename_i c; refine (if_neg c).trans ?_
    split at h
    · rename_i c; refine (if_pos c).trans ?_; cases h; rfl
    · rename_i c; refine (if_neg c).trans ?_
      dsimp only at h
      split at h
      · rename_i c; refine (if_pos c).trans ?_; cases h; rfl
      · rename_i c; refine (if_neg c).trans ?_
        split at h
        · rename_i c; refine (if_pos c).trans ?_; cases h; rfl
        · rename_i c; refine (if_neg c).trans ?_
          split at h
          · cases h
          · rename_i c; refine (if_neg c).trans ?_; cases h; rfl
theorem sw_cond {elt : Expr} {gs : List Comprehension} {scope : Scope} {pos py : Pos} {y : Str} {l : Nat} {env : Env} :
    swapsWith (.ListComp elt gs scope pos) (some (.Name y py)) l env = pure (env.blockKind == .function && env.kindOf y == some .local && py.line == pos.line && !(scope.names.any fun (n, k) => n == y && (k == .local || k == .cell))) := rfl
end WR

set_option Elab.async false
set_option linter.all false
set_option maxRecDepth 100000
set_option maxHeartbeats 4000000
namespace WR
open PySem PySem.Spec PyProof.Rows L2

/-! ## try: body, and clauses except X [as n]: suite; a clause that is never reached may be anything -/
inductive ClR where
  | one (c : Value) (nm : Option Nat) (ts : Addr → Value → Option Addr → TS)
  | dead
def endsN (nm : Option Nat) (D : Ends) : Ends := match nm with
  | some i => { nx := fun σ H => D.nx (σ.set i none) H, rt := D.rt, bk := fun σ H => D.bk (σ.set i none) H, ct := fun σ H => D.ct (σ.set i none) H }
  | none => D
def slotN (nm : Option Nat) (a : Addr) (σ : St) : St := match nm with
  | some i => σ.set i (some (.ref a))
  | none => σ
def wCl (K : PySem.W.Frag) (Wout : WX) (D : Ends) : List ClR → WX
  | [] => Wout
  | .one c nm ts :: r => fun cls d σ H => ∃ b, PySem.W.exmOne K cls c = some b ∧ (b = true → ∀ a, H a = none → ts a cls d (endsN nm D) (slotN nm a σ) H) ∧ (b = false → wCl K Wout D r cls d σ H)
  | .dead :: _ => fun _ _ _ _ => False
inductive ClOk (X : Cx) : List ExceptHandler → List ClR → Prop
  | nil : ClOk X [] []
  | one {x : Str} {c : Value} {ts : Addr → Value → Option Addr → TS} {b₀ : Stmt} {suite : List Stmt} {np pos' : Pos} {hds : List ExceptHandler} {l : List ClR} (hc : Names X x c)
      (hsu : ∀ (a : Addr) (oe : Obj) (cls : Value) (d : Option Addr) (pn : List (Addr × Obj)), Zc cls d oe → (∃ vs, oe.data = .fields vs) → PSs (X.suite a ((a, oe) :: pn)) (b₀ :: suite) (ts a cls d)) (r : ClOk X hds l) :
      ClOk X (.ExceptHandler (some (.Name x np)) none (b₀ :: suite) pos' :: hds) (.one c none ts :: l)
  | as_ {x n : Str} {c : Value} {i : Nat} {ts : Addr → Value → Option Addr → TS} {b₀ : Stmt} {suite : List Stmt} {np pos' : Pos} {hds : List ExceptHandler} {l : List ClR} (hc : Names X x c) (hi : X.N[i]? = some n) (hln : X.env.kindOf n = some .local)
      (hsu : ∀ (a : Addr) (oe : Obj) (cls : Value) (d : Option Addr) (pn : List (Addr × Obj)), Zc cls d oe → (∃ vs, oe.data = .fields vs) → PSs (X.suite a ((a, oe) :: pn)) (b₀ :: suite) (ts a cls d)) (r : ClOk X hds l) :
      ClOk X (.ExceptHandler (some (.Name x np)) (some n) (b₀ :: suite) pos' :: hds) (.one c (some i) ts :: l)
  | dead {hds : List ExceptHandler} {l : List ClR} : ClOk X hds (.dead :: l)
section
variable {X : Cx} {body : List Stmt} {h₀ : ExceptHandler} {hds : List ExceptHandler} {l : List ClR} {pos : Pos} {tb : WX → TS} {Wout : WX}
theorem ps_tryW (hs : X.stack = X.env :: X.outer) (hf : X.env.frame = some X.env.locals) (hN : X.N.Nodup) (tk : Takes X Wout)
    (hb : ∀ (W : WX) (pn : List (Addr × Obj)) (xe : Value → Shared → Prop), Takes (X.tr pn xe) W → PassesOwn (model X.prog X.w) X.A X.env xe → PSs (X.tr pn xe) body (tb W))
    (hh : ClOk X (h₀ :: hds) l) : PS X (.Try body (h₀ :: hds) [] [] pos) (fun D σ H => tb (wCl X.K Wout D l) D σ H) := by
  constructor
  intro pins s σ H D I want
  have ok := I.ok
  have frames : X.A.frames = some (X.env :: X.outer) := ok.frames.trans (congrArg some hs)
  apply wpAny_Try_except
  let look : Value → Shared → Prop := fun e s₁ => wpAny (model X.prog X.w) X.A (noteFrame e X.env) (fun _ s₂ => wpAny (model X.prog X.w) X.A (setFlight e none) (fun _ s₃ =>
    wpAny (model X.prog X.w) X.A (handleBy e X.env (h₀ :: hds)) (SP X pins D) X.xe s₃) X.xe s₂) X.xe s₁
  have caught : Takes (X.tr (X.pn ++ pins) look) (wCl X.K Wout D l) := by
    rintro u s' ⟨a, B, sI, pins', σ', H', cls, d, rfl, J', nb, up, sky, na, os, ag, wish⟩
    have J : Inv X pins σ' H' sI := J'.ofTry ok
    have sky2 : Sky B (X.env :: X.outer) a (Zc cls d) X.env.locals s'.heap := hs ▸ sky
    show wpAny (model X.prog X.w) X.A (noteFrame (.ref a) X.env) _ _ _
    apply Sky.land Zc.steady frames hf sky2
    intro h3 fl3 up3
    have J3 : Inv X pins σ' H' { s' with heap := h3 } := J.landed nb fl3.1 (up.trans up3) os ag
    obtain ⟨oe3, vs3, he3, hz3, hd3⟩ := fl3.there
    have nfr : a ∉ frs (X.env :: X.outer) := fun m => by
      obtain ⟨_, o', e', nf⟩ := fl3.2.2.1.mem m
      rw [he3] at e'
      cases e'
      exact nf _ hd3
    have nL : a ≠ X.env.locals := by
      rintro rfl
      exact nfr (List.mem_filterMap.mpr ⟨X.env, List.mem_cons_self, hf⟩)
    have nF : a ∉ X.fs := fun m => by
      obtain ⟨e, he, q⟩ := List.mem_filterMap.mp m
      exact nfr (List.mem_filterMap.mpr ⟨e, List.mem_cons_of_mem _ he, q⟩)
    have S3 := J3.suite he3 hd3 na nL nF
    have ty : PySem.W.Looks (model X.prog X.w) h3 (typeOf (.ref a)) cls := fun A Q E s k q => wpAny_typeOf_ref (k _ _ he3) (by rw [hz3.1]; exact q)
    have test : ∀ {x : Str} {c : Value} {np : Pos} {Q : Value → Shared → Prop} {E : Value → Shared → Prop}, Names X x c → Q c { s' with heap := h3 } → wpAny (model X.prog X.w) (X.A.mark (some (.ref a))) (eval (.Name x np) X.env) Q E { s' with heap := h3 } := by
      rintro x c np Q E ⟨hg, nd, hm | ⟨hm, hv, hn⟩⟩ q
      · exact ld_glob (X := X.suite a ((a, oe3) :: (X.pn ++ pins))) S3 hg hm q nd
      · exact ld_blt (X := X.suite a ((a, oe3) :: (X.pn ++ pins))) S3 hg hm hv q hn nd
    have go : ∀ {hds' : List ExceptHandler} {l' : List ClR}, ClOk X hds' l' → wCl X.K Wout D l' cls d σ' H' → wpAny (model X.prog X.w) X.A (handleBy (.ref a) X.env hds') (SP X pins D) X.xe { s' with heap := h3 } := by
      intro hds' l' hk
      induction hk with
      | nil =>
        intro out
        apply wpAny_handleBy_nil
        obtain ⟨k1, k2, k3, oe, vs, T, oT, ts', he, hz, hd, h1, hr⟩ := id fl3
        unfold PySem.passOn
        apply wpAny_bind
        apply wpAny_field he hd h1
        rw [if_neg (show ¬ ((Value.ref T == Value.none) = true) from by simp)]
        have on : wpAny (model X.prog X.w) X.A (setFlight (.ref a) X.env.frame) (fun _ s4 => wpAny (model X.prog X.w) X.A (throw (.ref a) : Sem Flow) (SP X pins D) X.xe s4) X.xe { s' with heap := h3 } := by
          rw [hf]
          apply HandSPX.setFlight_upZ fl3
          intro h4 held up4
          apply wpAny_throw
          apply tk
          exact ⟨a, B, sI, pins, σ', H', cls, d, rfl, J, nb, (up.trans up3).trans up4, .inr (.inr (by rw [hs]; exact held)), na, os, ag, out⟩
        first
          | exact wpAny_bind (wpAny_pure (wpAny_bind on))
          | exact wpAny_bind on
      | @one x c ts b₀ suite np pos' hds2 l2 hc hsu r ih =>
        rintro ⟨b, e, yes, no⟩
        have m := PySem.W.exm_one (M := model X.prog X.w) J3.kIn ty e
        apply wpAny_handleBy_cons (codeAny_handlers_test (test hc (m.here _))) (by intro q; cases q)
        cases b with
        | false => exact ih (no rfl)
        | true =>
          apply codeAny_handlers_suite
          apply HandSPX.lands_againZ fl3
          intro h4 fl4 up4
          have J4 : Inv X pins σ' H' { s' with heap := h4 } := J.landed nb fl4.1 ((up.trans up3).trans up4) os ag
          obtain ⟨oe4, vs4, he4, hz4, hd4⟩ := fl4.there
          have S4 := J4.suite he4 hd4 na nL nF
          refine wpAny_mono ((hsu a oe4 cls d (X.pn ++ pins) hz4 ⟨_, hd4⟩).run [] _ _ H' _ S4 (yes rfl a na)) ?_ (fun _ _ z => False.elim z)
          intro f s6 got
          match f, got with
          | .next, ⟨σ6, H6, S6, q6⟩ => exact ⟨_, _, S6.unsuite ok, q6⟩
          | .brk, ⟨σ6, H6, S6, q6⟩ => exact ⟨_, _, S6.unsuite ok, q6⟩
          | .cont, ⟨σ6, H6, S6, q6⟩ => exact ⟨_, _, S6.unsuite ok, q6⟩
          | .ret u, ⟨v6, σ6, H6, S6, r6, q6⟩ => exact ⟨_, _, _, S6.unsuite ok, r6, q6⟩
      | @as_ x n c i ts b₀ suite np pos' hds2 l2 hc hi hln hsu r ih =>
        rintro ⟨b, e, yes, no⟩
        have m := PySem.W.exm_one (M := model X.prog X.w) J3.kIn ty e
        apply wpAny_handleBy_cons (codeAny_handlers_test (test hc (m.here _))) (by intro q; cases q)
        cases b with
        | false => exact ih (no rfl)
        | true =>
          apply codeAny_handlers_suite_as
          apply HandSPX.lands_againZ fl3
          intro h4 fl4 up4
          have J4 : Inv X pins σ' H' { s' with heap := h4 } := J.landed nb fl4.1 ((up.trans up3).trans up4) os ag
          obtain ⟨oe4, vs4, he4, hz4, hd4⟩ := fl4.there
          have S4 := J4.suite he4 hd4 na nL nF
          refine store_ok (X := X.suite a ((a, oe4) :: (X.pn ++ pins))) (v := .ref a) S4 hN hi (.inl hln) rfl (fun s5 S5 => ?_) (.inr hln)
          refine wpAny_mono ((hsu a oe4 cls d (X.pn ++ pins) hz4 ⟨_, hd4⟩).run [] s5 _ H' _ S5 (yes rfl a na)) ?_ (fun _ _ z => False.elim z)
          intro f s6 got
          have off : ∀ {σ6 : St} {H6 : Hp} {Q : Shared → Prop}, Inv (X.suite a ((a, oe4) :: (X.pn ++ pins))) [] σ6 H6 s6 → (∀ s7, Inv X pins (σ6.set i none) H6 s7 → Q s7) →
              wpAny (model X.prog X.w) X.A (do bindName X.env n .none; unbindBehindTheSuite X.env n pos') (fun _ s7 => Q s7) X.xe s6 := fun S6 q => gone_ok (S6.unsuite ok) hN hi hln q
          match f, got with
          | .next, ⟨σ6, H6, S6, q6⟩ => exact off S6 fun s7 J7 => ⟨_, _, J7, q6⟩
          | .brk, ⟨σ6, H6, S6, q6⟩ => exact off S6 fun s7 J7 => ⟨_, _, J7, q6⟩
          | .cont, ⟨σ6, H6, S6, q6⟩ => exact off S6 fun s7 J7 => ⟨_, _, J7, q6⟩
          | .ret u, ⟨v6, σ6, H6, S6, r6, q6⟩ => exact off S6 fun s7 J7 => ⟨_, _, _, J7, r6, q6⟩
      | dead =>
        intro z
        exact False.elim z
    exact go hh wish
  refine wpAny_mono ((hb (wCl X.K Wout D l) (X.pn ++ pins) look caught PassesOwn.looking).run [] s σ H D (I.toTry _) want) ?_ (fun _ _ z => z)
  intro f s1 got
  match f, got with
  | .next, ⟨σ', H', J, q⟩ => exact wpAny_execs_nil ⟨σ', H', J.ofTry ok, q⟩
  | .brk, ⟨σ', H', J, q⟩ => exact ⟨σ', H', J.ofTry ok, q⟩
  | .cont, ⟨σ', H', J, q⟩ => exact ⟨σ', H', J.ofTry ok, q⟩
  | .ret u, ⟨v, σ', H', J, r, q⟩ => exact ⟨v, σ', H', J.ofTry ok, r, q⟩
end
end WR

set_option Elab.async false
set_option linter.all false
set_option maxRecDepth 100000
set_option maxHeartbeats 4000000
namespace WR
open PySem PySem.Spec PyProof.Rows L2

/-! ## what an except suite may say -/
/-- e.f, e the caught exception (at a, of the class cls, its dict at d), slot i -/
def cXf (g : G) (i : Nat) (a : Addr) (cls : Value) (d : Option Addr) (f : Str) : TE := fun σ H Q => σ[i]? = some (some (.ref a)) ∧ ∃ x ∈ g.xcs, x.f = f ∧ cls = .ref x.C ∧ ∃ dd fs v, d = some dd ∧ H dd = some (.xd fs) ∧ fs.lookup f = some v ∧ Q v H
/-- the exception that a suite holds: its name, where it stands, its class, its dict -/
structure XeI where
  en : Str
  a : Addr
  cls : Value
  d : Option Addr
def isXe (xe : Option XeI) (x : Str) : Bool := match xe with
  | some i => decide (i.en = x)
  | none => false
/-- builtins that ask nothing of the handled exception -/
def hBlt (g : G) : List (Str × (Value × RC)) := [("repr", .builtin "repr", bRepr g.K), ("len", .builtin "len", bLen g.K), ("isinstance", .builtin "isinstance", bIsi g.K), ("abs", .builtin "abs", bAbs), ("ord", .builtin "ord", bOrd), ("int", .type "int", bInt), ("tuple", .type "tuple", bTuple g.K)]
def hCmp (g : G) : CmpOp → Option R2
  | .Lt => some oLt
  | .LtE => some oLe
  | .Gt => some oGt
  | .GtE => some oGe
  | .Eq => some (oEq g.K)
  | .NotEq => some (oNe g.K)
  | .In => some (oIn g.K false)
  | .NotIn => some (oIn g.K true)
  | .Is => some oIs
  | .IsNot => some oIsNot
def hBin (g : G) : Operator → Option R2
  | .Add => some (oAdd g.K)
  | .Sub => some oSub
  | .Mult => some oMul
  | .FloorDiv => some oFdiv
  | .Mod => some oMod
  | _ => none
def hCallName (g : G) (f : Expr → OE) (sc : Scope) (x : Str) (es : List Expr) (kws : List Keyword) : OE :=
  if plainName x = true ∧ sc.names.lookup x = some .globalImplicit then
    match kwNames kws, tArgs f es, tKws f kws with
    | some ks, some t, some tk => match g.hfs.find? (fun i => decide (i.name = x) && decide (i.n = es.length) && decide (i.ks = ks)) with
      | some i => some fun W => cCall i.sp es.length ks.length i.arr (t W) (tk W) wNone
      | none => if x ∈ g.blt ∧ kws = [] ∧ es ≠ [] then match (hBlt g).lookup x with
          | some (v, r) => if bootBuiltins x = some v then some fun W => tCB r (t W) else none
          | none => none
        else none
    | _, _, _ => none
  else none
/-- isinstance(e, C) -/
def hIsX (g : G) (f : Expr → OE) (N : List Str) (sc : Scope) (xe : Option XeI) (x : Str) (es : List Expr) (kws : List Keyword) : OE := match xe, es with
  | some i, [.Name z _, ec] => if x = "isinstance" ∧ z = i.en ∧ kws = [] ∧ plainName z = true ∧ sc.names.lookup z = some .local ∧ sc.names.lookup x = some .globalImplicit ∧ x ∈ g.blt ∧ notStar ec = true then (match ix? N z, f ec with
    | some k, some t => some fun W => tCB (rIsX g i.a i.cls i.d) (tCons (cVar k) (tCons (t W) tNil))
    | _, _ => none) else none
  | _, _ => none
mutual
def hE (g : G) (N : List Str) (sc : Scope) (xe : Option XeI) : Nat → Expr → OE
  | 0, _ => none
  | n + 1, e => match e with
    | .Constant c _ _ => (match c with
      | .int i => some fun _ => tC (.int i)
      | .bool b => some fun _ => tC (.bl b)
      | .none => some fun _ => tC .non
      | .str s => some fun _ => tC (.str s)
      | _ => none)
    | .Name x _ => if isXe xe x = true then none else (tName g N sc x).map fun t _ => t
    | .Attribute (.Name x _) f _ => (match xe with
      | some i => if x = i.en ∧ plainName x = true ∧ sc.names.lookup x = some .local then (ix? N x).map fun k _ => cXf g k i.a i.cls i.d f else none
      | none => none)
    | .Tuple es _ _ => (tArgs (hE g N sc xe n) es).map fun t W => tTup (t W)
    | .List es _ => (tArgs (hE g N sc xe n) es).map fun t W => tLst (t W)
    | .Call (.Name x _) es kws _ => (match hIsX g (hE g N sc xe n) N sc xe x es kws with
      | some t => some t
      | none => hCallName g (hE g N sc xe n) sc x es kws)
    | .BinOp a op b _ => (match hBin g op, hE g N sc xe n a, hE g N sc xe n b with
      | some r, some ta, some tb => some fun W => tOp r (ta W) (tb W)
      | _, _, _ => none)
    | .Compare a [op] [b] _ => if notSet b = true then (match hCmp g op, hE g N sc xe n a, hE g N sc xe n b with
      | some r, some ta, some tb => some fun W => tOp r (ta W) (tb W)
      | _, _, _ => none) else none
    | .BoolOp .And es _ => tBool g.K (hE g N sc xe n) true es
    | .BoolOp .Or es _ => tBool g.K (hE g N sc xe n) false es
    | .UnaryOp .Not a _ => (hE g N sc xe n a).map fun t W => cNot g.K (t W)
    | .IfExp c a b _ => (match hT g N sc xe n c, hE g N sc xe n a, hE g N sc xe n b with
      | some tc, some ta, some tb => some fun W => tIf (tc W) (ta W) (tb W)
      | _, _, _ => none)
    | .Subscript a (.Slice _ _ _ _) _ => none
    | .Subscript a b _ => if notSlice b = true then (match hE g N sc xe n a, hE g N sc xe n b with
      | some ta, some tb => some fun W => tOp (oIx g.K) (ta W) (tb W)
      | _, _ => none) else none
    | _ => none
def hT (g : G) (N : List Str) (sc : Scope) (xe : Option XeI) : Nat → Expr → Option (WX → TT)
  | 0, _ => none
  | n + 1, e => match e with
    | .Compare a [op] [b] _ => if notSet b = true then (match hCmp g op, hE g N sc xe n a, hE g N sc xe n b with
      | some r, some ta, some tb => some fun W => cTest (tOp r (ta W) (tb W))
      | _, _, _ => none) else none
    | .BoolOp .And es _ => tBoolT (hT g N sc xe n) true es
    | .BoolOp .Or es _ => tBoolT (hT g N sc xe n) false es
    | .UnaryOp .Not a _ => (hT g N sc xe n a).map fun t W => tNot (t W)
    | e => if plainTest e = true then (hE g N sc xe n e).map fun t W => cTru g.K (t W) else none
end
def sBody (f : Stmt → TS) : List Stmt → TS
  | [] => tNext
  | [s] => f s
  | s :: r => tSeq (f s) (sBody f r)
def hS (g : G) (N : List Str) (sc : Scope) (xe : Option XeI) : Nat → Stmt → TS
  | 0, _ => tNever
  | n + 1, st => match st with
    | .Pass _ => tNext
    | .Expr e _ => if notComp e = true then (match hE g N sc xe n e with
      | some t => tDrop (t wNone)
      | none => tNever) else tNever
    | .Return none _ => tRetN
    | .Return (some e) _ => (match hE g N sc xe n e with
      | some t => tRet (t wNone)
      | none => tNever)
    | .Assign [.Name y _] v _ => if plainName y = true ∧ sc.names.lookup y = some .local ∧ notComp v = true then (match ix? N y, hE g N sc xe n v with
      | some i, some t => tAsg (t wNone) (gName i)
      | _, _ => tNever) else tNever
    | .If c a b _ => (match hT g N sc xe n c with
      | some tc => tIfS (tc wNone) (sBody (hS g N sc xe n) a) (sBody (hS g N sc xe n) b)
      | none => tNever)
    | _ => tNever
/-- where it is read -/
structure HOkc (g : G) (X : Cx) (N : List Str) (sc : Scope) (xe : Option XeI) : Prop extends BOk g X N sc where
  xok : ∀ i, xe = some i → ∀ {x : Str} {k : Nat} {p pos : Pos} {f : Str}, x = i.en → plainName x = true → sc.names.lookup x = some .local → ix? N x = some k → PE X (.Attribute (.Name x p) f pos) (cXf g k i.a i.cls i.d f)
  xis : ∀ i, xe = some i → CallR X (.builtin "isinstance") (rIsX g i.a i.cls i.d)
section
variable {g : G} {X : Cx} {N : List Str} {sc : Scope} {en : Str} {a : Addr} {oe : Obj} {cls : Value} {d : Option Addr} {pn : List (Addr × Obj)}
theorem BOk.suite (c : BOk g X N sc) : BOk g (X.suite a ((a, oe) :: pn)) N sc := ⟨c.gok, c.hK, c.hN, c.hsc, c.nd, c.gd, c.un, c.room.elim fun lev r => ⟨lev, r.1, ⟨r.2.dp, r.2.un⟩⟩⟩
theorem cXf_ok (c : BOk g X N sc) (hz : Zc cls d oe) (hf : ∃ vs, oe.data = .fields vs) {x : Str} {i : Nat} {p pos : Pos} {f : Str} (hx : plainName x = true) (hl : sc.names.lookup x = some .local) (hi : ix? N x = some i) :
    PE (X.suite a ((a, oe) :: pn)) (.Attribute (.Name x p) f pos) (cXf g i a cls d f) := by
  have cs : BOk g (X.suite a ((a, oe) :: pn)) N sc := c.suite
  have hN : (X.suite a ((a, oe) :: pn)).N[i]? = some x := by rw [cs.hN]; exact ix_get hi
  have vis : Vis (X.suite a ((a, oe) :: pn)).env.scope x := by
    unfold Vis
    rw [cs.hsc, hl]
    simp
  have v := cVar_ok (pos := p) hN vis hx
  obtain ⟨lev, gok⟩ := c.gok
  refine ⟨fun pins s σ H Q I h => ?_⟩
  obtain ⟨e0, y, hy, rfl, hc, dd, fs, w, rfl, ed, el, q⟩ := h
  obtain ⟨b, fI, fd, px, m1, m2, m3, m4, _⟩ := gok.xcs y hy
  refine (pe_xf (X := X) (C := y.C) (n := y.f) (by rw [c.hK]; exact m3) (by rw [c.hK]; exact m4) hz hf v).run pins s σ H Q I ?_
  unfold tXf cVar
  rw [e0]
  exact ⟨rfl, hc, dd, fs, w, rfl, ed, el, q⟩
theorem hCmp_ok (c : BOk g X N sc) {op : CmpOp} {r : R2} (h : hCmp g op = some r) : OpR X (compareOp op) r := by
  have hu : X.A.units + 64 < cLine := by have := c.un; omega
  have hu5 : X.A.units + 65 < cLine := by have := c.un; omega
  unfold hCmp at h
  rw [← c.hK] at h
  split at h <;> cases h
  · exact r_lt
  · exact r_le
  · exact r_gt
  · exact r_ge
  · exact r_eq hu
  · exact r_ne hu
  · exact r_in hu5
  · exact r_notin hu5
  · exact r_is
  · exact r_isnot
theorem hBin_ok (c : BOk g X N sc) {op : Operator} {r : R2} (h : hBin g op = some r) : OpR X (binaryOp op) r := by
  unfold hBin at h
  rw [← c.hK] at h
  split at h <;> cases h
  · exact r_add
  · exact r_sub
  · exact r_mul
  · exact r_fdiv
  · exact r_mod
theorem hBlt_ok (c : BOk g X N sc) {x : Str} {v : Value} {r : RC} (h : (hBlt g).lookup x = some (v, r)) : CallR X v r ∧ Keeps X v := by
  have hu : X.A.units + 64 < cLine := by have := c.un; omega
  obtain ⟨lev, gok⟩ := c.gok
  have hm := PySem.mem_of_lookup h
  simp only [hBlt, List.mem_cons, List.not_mem_nil, or_false, Prod.mk.injEq] at hm
  rcases hm with ⟨_, rfl, rfl⟩ | ⟨_, rfl, rfl⟩ | ⟨_, rfl, rfl⟩ | ⟨_, rfl, rfl⟩ | ⟨_, rfl, rfl⟩ | ⟨_, rfl, rfl⟩ | ⟨_, rfl, rfl⟩
  all_goals try rw [← c.hK]
  · exact ⟨b_repr c.gd hu (by rw [c.hK]; exact gok.sys), keeps_blt⟩
  · exact ⟨b_len, keeps_blt⟩
  · exact ⟨b_isi, keeps_blt⟩
  · exact ⟨b_abs, keeps_blt⟩
  · exact ⟨b_ord, keeps_blt⟩
  · exact ⟨b_int, keeps_ty⟩
  · exact ⟨b_tuple, keeps_ty⟩
theorem hCallName_ok (c : BOk g X N sc) {W : WX} {f : Expr → OE} (h : SE X W f) {x : Str} {p pos : Pos} {es : List Expr} {kws : List Keyword} {t : WX → TE} (q : hCallName g f sc x es kws = some t) : PE X (.Call (.Name x p) es kws pos) (t W) := by
  unfold hCallName at q
  split at q
  · rename_i hx
    have hg : Gl X x := by unfold Gl Env.kindOf; rw [c.hsc]; exact hx.2
    split at q
    · rename_i ks ta tk e1 e2 e3
      obtain ⟨a1, a2, a3⟩ := tArgs_ok h e2
      obtain ⟨b1, b2⟩ := tKws_ok h e3
      split at q
      · rename_i i ei
        cases q
        have hi := List.mem_of_find?_eq_some ei
        have hp := List.find?_some ei
        simp only [Bool.and_eq_true, decide_eq_true_eq] at hp
        obtain ⟨⟨p1, p2⟩, p3⟩ := hp
        obtain ⟨lev, gok, room⟩ := c.room
        obtain ⟨fa, fd, ps, gf, m1, m2, F, kb⟩ := gok.hfs i hi
        rw [← c.hK] at m2 F kb
        rw [p1] at m1
        rw [p2, p3] at kb
        exact pe_ownH F room c.gd kb takes0 hg m1 m2 hx.1 a3 a2 e1 a1 b1
      · split at q
        · rename_i hb
          obtain ⟨hb, rfl, hne⟩ := hb
          obtain ⟨lev, gok⟩ := c.gok
          split at q
          · rename_i v r er
            split at q
            · rename_i hv
              cases q
              obtain ⟨o1, o2⟩ := hBlt_ok c er
              exact pe_blt o1 o2 hg (gok.blt x hb) hv hx.1 a3 a2 a1
            · cases q
          · cases q
        · cases q
    · cases q
  · cases q
variable {xe : Option XeI} {W : WX}
theorem hIsX_ok (c : HOkc g X N sc xe) {f : Expr → OE} (h : SE X W f) {x : Str} {p pos : Pos} {es : List Expr} {kws : List Keyword} {t : WX → TE} (q : hIsX g f N sc xe x es kws = some t) : PE X (.Call (.Name x p) es kws pos) (t W) := by
  unfold hIsX at q
  split at q
  · split at q
    · rename_i i z zp ec hc
      obtain ⟨rfl, rfl, rfl, h1, h2, h3, h4, h5⟩ := hc
      split at q
      · rename_i k tc e1 e2
        cases q
        obtain ⟨lev, gok⟩ := c.gok
        have hg : Gl X "isinstance" := by unfold Gl Env.kindOf; rw [c.hsc]; exact h3
        have vis : Vis X.env.scope i.en := by unfold Vis; rw [c.hsc, h2]; simp
        refine pe_blt (c.xis i rfl) keeps_blt hg (gok.blt _ h4) (by rfl) (by decide) (fun z => nomatch z) ?_ (pa_cons (cVar_ok (by rw [c.hN]; exact ix_get e1) vis h1) (pa_cons (h _ _ e2) pa_nil (star_of h5)) (star_of rfl))
        rw [List.all_cons, List.all_cons, h5]; rfl
      · cases q
    · cases q
  · cases q
theorem hET_ok (c : HOkc g X N sc xe) : ∀ (n : Nat), SE X W (hE g N sc xe n) ∧ ST X W (hT g N sc xe n)
  | 0 => ⟨fun e t q => by simp [hE] at q, fun e t q => by simp [hT] at q⟩
  | n + 1 => by
    obtain ⟨ihE, ihT⟩ := hET_ok c n
    have cb := c.toBOk
    refine ⟨fun e t q => ?_, fun e t q => ?_⟩
    · unfold hE at q
      split at q
      · split at q
        · cases q; exact pe_int
        · cases q; exact pe_bl
        · cases q; exact pe_non
        · cases q; exact pe_str
        · cases q
      · split at q
        · cases q
        · obtain ⟨u, hu, rfl⟩ := Option.map_eq_some_iff.mp q
          exact tName_ok hu cb
      · split at q
        · rename_i i
          split at q
          · rename_i hc
            obtain ⟨k, hk, rfl⟩ := Option.map_eq_some_iff.mp q
            exact c.xok i rfl hc.1 hc.2.1 hc.2.2 hk
          · cases q
        · cases q
      · obtain ⟨u, hu, rfl⟩ := Option.map_eq_some_iff.mp q
        exact pe_tup (tArgs_ok ihE hu).1
      · obtain ⟨u, hu, rfl⟩ := Option.map_eq_some_iff.mp q
        exact pe_lst (tArgs_ok ihE hu).1
      · split at q
        · rename_i e; cases q; exact hIsX_ok c ihE e
        · exact hCallName_ok cb ihE q
      · split at q
        · rename_i e1 e2 e3
          cases q
          exact pe_op (hBin_ok cb e1) (ihE _ _ e2) (ihE _ _ e3)
        · cases q
      · split at q
        · rename_i hs
          split at q
          · rename_i e1 e2 e3
            cases q
            exact pe_cmpR (hCmp_ok cb e1) (ihE _ _ e2) (ihE _ _ e3) (notSet_b hs)
          · cases q
        · cases q
      · rw [← cb.hK] at q
        exact tBool_ok ihE true q
      · rw [← cb.hK] at q
        exact tBool_ok ihE false q
      · obtain ⟨u, hu, rfl⟩ := Option.map_eq_some_iff.mp q
        rw [← cb.hK]
        exact pe_not' (ihE _ _ hu)
      · split at q
        · rename_i e1 e2 e3
          cases q
          exact pe_ifExp (ihT _ _ e1) (ihE _ _ e2) (ihE _ _ e3)
        · cases q
      · cases q
      · split at q
        · rename_i hs
          split at q
          · rename_i e1 e2
            cases q
            rw [← cb.hK]
            exact pe_ix (r_ix (by have := cb.un; omega)) (ihE _ _ e1) (ihE _ _ e2) (notSlice_ix hs)
          · cases q
        · cases q
      · cases q
    · unfold hT at q
      split at q
      · split at q
        · rename_i hs
          split at q
          · rename_i e1 e2 e3
            cases q
            exact pt_cmp' (hCmp_ok cb e1) (ihE _ _ e2) (ihE _ _ e3) (notSet_b hs)
          · cases q
        · cases q
      · exact (tBoolT_ok ihT true q).pt
      · exact (tBoolT_ok ihT false q).pt
      · obtain ⟨u, hu, rfl⟩ := Option.map_eq_some_iff.mp q
        exact pt_not (ihT _ _ hu)
      · split at q
        · rename_i hp
          obtain ⟨u, hu, rfl⟩ := Option.map_eq_some_iff.mp q
          rw [← cb.hK]
          exact pt_tru' (ihE _ _ hu) fun whole => plain_true hp
        · cases q
theorem sBody_ok {X : Cx} {f : Stmt → TS} (h : ∀ st, PS X st (f st)) : ∀ (l : List Stmt), PSs X l (sBody f l)
  | [] => pss_nil
  | [s] => pss_one (h s)
  | s :: s2 :: r => show PSs X _ (tSeq (f s) (sBody f (s2 :: r))) from pss_cons (h s) (sBody_ok h (s2 :: r))
theorem hS_ok (c : HOkc g X N sc xe) : ∀ (n : Nat) (st : Stmt), PS X st (hS g N sc xe n st)
  | 0, st => ps_never
  | n + 1, st => by
    have ih := hS_ok c n
    have cb := c.toBOk
    have hE' : ∀ {e : Expr} {t : WX → TE}, hE g N sc xe n e = some t → PE X e (t wNone) := fun q => (hET_ok (W := wNone) c n).1 _ _ q
    unfold hS
    split
    · exact ps_pass
    · split
      · rename_i hn
        split
        · rename_i e1; exact ps_expr (hE' e1) (notComp_sw hn)
        · exact ps_never
      · exact ps_never
    · exact ps_retN
    · split
      · rename_i e1; exact ps_ret (hE' e1)
      · exact ps_never
    · split
      · rename_i y py v ps hc
        obtain ⟨h1, h2, h3⟩ := hc
        split
        · rename_i i t e1 e2
          refine ps_asg (hE' e2) ?_ ?_ rfl rfl
          rotate_left
          · show swapsWith v (some (.Name y py)) ps.line X.env = pure false
            exact notComp_sw h3
          refine pg_name cb.nd (by rw [cb.hN]; exact ix_get e1) ?_ ?_
          · unfold L2.Loc
            rw [cb.hsc, h2]
            simp
          · rw [cb.hsc, h2]
            exact .inr rfl
        · exact ps_never
      · exact ps_never
    · split
      · rename_i e1; exact ps_if ((hET_ok (W := wNone) c n).2 _ _ e1) (sBody_ok ih _) (sBody_ok ih _)
      · exact ps_never
    · exact ps_never
theorem hok_suite (c : BOk g X N sc) (hz : Zc cls d oe) (hf : ∃ vs, oe.data = .fields vs) (en : Str) : HOkc g (X.suite a ((a, oe) :: pn)) N sc (some ⟨en, a, cls, d⟩) where
  toBOk := c.suite
  xok := by
    intro i hi x k p pos f h1 h2 h3 h4
    cases hi
    exact cXf_ok c hz hf h2 h3 h4
  xis := fun i hi => by
    cases hi
    exact call_isX c.hK hz hf
theorem hok_suite0 (c : BOk g X N sc) : HOkc g (X.suite a ((a, oe) :: pn)) N sc none where
  toBOk := c.suite
  xok := fun i hi => nomatch hi
  xis := fun i hi => nomatch hi
end
/-- the clauses, told -/
def clsVal (g : G) (sc : Scope) (x : Str) : Option Value := if plainName x = true ∧ sc.names.lookup x = some .globalImplicit then (match g.cons.lookup x with
  | some (.ref C) => some (.ref C)
  | _ => none) else none
def tCl (g : G) (N : List Str) (sc : Scope) : List ExceptHandler → List ClR
  | [] => []
  | .ExceptHandler (some (.Name x _)) none (b :: suite) _ :: r => (match clsVal g sc x with
    | some c => .one c none (fun a cls d => sBody (hS g N sc none 20) (b :: suite)) :: tCl g N sc r
    | none => [.dead])
  | .ExceptHandler (some (.Name x _)) (some n) (b :: suite) _ :: r => (match clsVal g sc x, ix? N n with
    | some c, some i => if sc.names.lookup n = some .local then .one c (some i) (fun a cls d => sBody (hS g N sc (some ⟨n, a, cls, d⟩) 20) (b :: suite)) :: tCl g N sc r else [.dead]
    | _, _ => [.dead])
  | _ => [.dead]
theorem clsVal_ok {g : G} {X : Cx} {N : List Str} {sc : Scope} (c : BOk g X N sc) {x : Str} {v : Value} (h : clsVal g sc x = some v) : Names X x v := by
  obtain ⟨lev, gok⟩ := c.gok
  unfold clsVal at h
  split at h
  · rename_i hc
    split at h
    · rename_i C e
      cases h
      obtain ⟨u, h1, h2⟩ := gok.cons _ (lookup_mem e)
      obtain rfl : u = Value.ref C := h2
      refine ⟨?_, plain_d hc.1, .inl h1⟩
      unfold Gl Env.kindOf
      rw [c.hsc]
      exact hc.2
    · cases h
  · cases h
theorem tCl_ok {g : G} {X : Cx} {N : List Str} {sc : Scope} (c : BOk g X N sc) : ∀ (l : List ExceptHandler), ClOk X l (tCl g N sc l) := by
  intro l
  fun_induction tCl g N sc l with
  | case1 => exact .nil
  | case2 x np b suite pos r v e ih => exact .one (clsVal_ok c e) (fun a oe cls d pn hz hf => sBody_ok (fun st => hS_ok (hok_suite0 c) 20 st) _) ih
  | case3 => exact .dead
  | case4 x np n b suite pos r v i e2 e1 hl ih =>
    refine .as_ (clsVal_ok c e1) (by rw [c.hN]; exact ix_get e2) ?_ (fun a oe cls d pn hz hf => sBody_ok (fun st => hS_ok (hok_suite c hz hf n) 20 st) _) ih
    unfold Env.kindOf
    rw [c.hsc]
    exact hl
  | case5 => exact .dead
  | case6 => exact .dead
  | case7 => exact .dead
end WR

set_option Elab.async false
set_option linter.all false
set_option maxRecDepth 100000
set_option maxHeartbeats 4000000
namespace WR
open PySem PySem.Spec PyProof.Rows L2

def isName : Expr → Bool
  | .Name _ _ => true
  | _ => false
def tupPair : Expr → Expr → Bool
  | .Tuple _ _ _, .Tuple _ _ _ => true
  | .List _ _, .Tuple _ _ _ => true
  | _, _ => false
theorem tupPair_ok {t v : Expr} {env : Env} (h : tupPair t v = false) : swappedStores [t] v env = pure none := by
  cases t <;> first
    | rfl
    | (cases v <;> first | rfl | exact absurd h.symm Bool.false_ne_true)
def cPar3 (i j l : Nat) (ta : TA) : TS := fun D σ H => ta σ H fun vs H1 => match vs with
  | [u, v, w] => D.nx (((σ.set i (some u)).set j (some v)).set l (some w)) H1
  | _ => False
def anyOwn (scope : Scope) (y : Str) : Bool := scope.names.any fun (n, k) => n == y && (k == .local || k == .cell)
/-- target = value, generally -/
def tAsgG (g : G) (f : Expr → OE) (N : List Str) (sc : Scope) (tg v : Expr) : Option (WX → TS) :=
  if tupPair tg v = false ∧ notStar tg = true ∧ (notComp v = true ∨ isName tg = false) then (match tG g.K f N sc (fun _ => true) 12 tg, f v with
    | some gt, some tv => some fun W => tAsg (tv W) (gt W)
    | _, _ => none) else none
def tParS (g : G) (f : Expr → OE) (N : List Str) (sc : Scope) : Expr → Expr → Option (WX → TS)
  | .Tuple ts _ _, .Tuple vs _ _ => (match swR sc ts vs, tArgs f vs with
    | some (some _), some t => (match ts, vs with
      | [.Name x _, .Name y _], [_, _] => if sc.names.lookup x = some .local ∧ sc.names.lookup y = some .local ∧ x ≠ y ∧ swR sc ts vs = some (some [x, y]) then (match ix? N x, ix? N y with
          | some i, some j => some fun W => cPar i j (t W)
          | _, _ => none) else none
      | [.Name x _, .Name y _, .Name z _], [_, _, _] => if sc.names.lookup x = some .local ∧ sc.names.lookup y = some .local ∧ sc.names.lookup z = some .local ∧ x ≠ y ∧ x ≠ z ∧ y ≠ z ∧ swR sc ts vs = some (some [x, y, z]) then (match ix? N x, ix? N y, ix? N z with
          | some i, some j, some l => some fun W => cPar3 i j l (t W)
          | _, _, _ => none) else none
      | _, _ => none)
    | some none, some t => (match tGs g.K f N sc (fun _ => true) 12 ts with
      | some gs => if ts.all notStar = true then some fun W => tAsg (tTup (t W)) (cTupG g.K ts.length (gs W)) else none
      | none => none)
    | _, _ => none)
  | _, _ => none
/-- name = [.. for ..] -/
def tSetLc (g : G) (n : Nat) (N : List Str) (sc : Scope) : Expr → Expr → Option (WX → TS)
  | .Name y py, .ListComp elt [⟨tg, iter, ifs, 0⟩] scope pos =>
    if plainName y = true ∧ sc.names.lookup y = some .local ∧ (py.line == pos.line) = true ∧ anyOwn scope y = false ∧ blkC N sc scope (ownOf N scope) = true then
      (match ix? N y, tI g (tE g n N sc) sc tg iter, tG g.K (tE g n N (relS scope sc)) N (relS scope sc) (okBlk scope) 12 tg, tIfs (tT g n N (relS scope sc)) ifs, tE g n N (relS scope sc) elt with
      | some i, some wi, some gt, some tt, some te => some fun W D σ H => tAsg (cLc (wi W) (gt wNone) (tt wNone) (te wNone) ((ownOf N scope).map (·.2))) (gName i) D σ H ∨ tLock (tAsg (cLc (wi W) (gt wNone) (tt wNone) (te wNone) ((ownOf N scope).map (·.2))) (gName i)) D σ H
      | _, _, _, _, _ => none)
    else none
  | .Name y py, .ListComp elt gs scope pos =>
    if sc.names.lookup y ≠ some .local ∨ (py.line == pos.line) = false ∨ anyOwn scope y = true then (match tG g.K (tE g n N sc) N sc (fun _ => true) 12 (.Name y py), tE g n N sc (.ListComp elt gs scope pos) with
      | some gt, some tv => some fun W => tAsg (tv W) (gt W)
      | _, _ => none) else none
  | _, _ => none
def tAssign (g : G) (n : Nat) (N : List Str) (sc : Scope) (tg v : Expr) : Option (WX → TS) := match tg with
  | .Attribute o a _ => if baseOk o = true then (match g.ats.lookup a, tE g n N sc o, tE g n N sc v with
    | some cs, some to, some tv => some fun W => cFldS cs a (to W) (tv W)
    | _, _, _ => none) else none
  | _ => match tSetLc g n N sc tg v with
    | some t => some t
    | none => match tParS g (tE g n N sc) N sc tg v with
      | some t => some t
      | none => tAsgG g (tE g n N sc) N sc tg v
def orBad (o : Option (WX → TS)) : WX → TS := match o with
  | some t => t
  | none => bad
def tBody (f : Stmt → WX → TS) : List Stmt → WX → TS
  | [] => fun _ => tNext
  | [s] => f s
  | s :: r => fun W => tSeq (f s W) (tBody f r W)
def tRaise (g : G) (f : Expr → OE) (sc : Scope) : Expr → Option (WX → TS)
  | .Call (.Name x _) [e] [] _ => if plainName x = true ∧ sc.names.lookup x = some .globalImplicit ∧ notStar e = true then (match g.xcs.find? (fun i => decide (i.name = x)), f e with
    | some i, some te => some fun W _ σ H => tMkX i.C i.f (te W) σ H fun cls d H' => W cls d σ H'
    | _, _ => none) else none
  | _ => none
def tS (g : G) : Nat → List Str → Scope → Stmt → WX → TS
  | 0, _, _, _ => fun _ => tNever
  | n + 1, N, sc, st => fun W => match st with
    | .Pass _ => tNext
    | .Break _ => tBreak
    | .Continue _ => tCont
    | .Expr e _ => if notComp e = true then orBad ((tE g n N sc e).map fun t W => tDrop (t W)) W else tNever
    | .Return none _ => tRetN
    | .Return (some e) _ => orBad ((tE g n N sc e).map fun t W => tRet (t W)) W
    | .Assign [tg] v _ => orBad (tAssign g n N sc tg v) W
    | .AugAssign (.Name x _) op v _ => orBad (match sc.names.lookup x, ix? N x, iopR g.K op, tE g n N sc v with
      | some .local, some i, some r, some tv => some fun W => cAug i (tv W) r
      | some .cell, some i, some r, some tv => some fun W => cAug i (tv W) r
      | _, _, _, _ => none) W
    | .AugAssign (.Attribute o a _) .Add v _ => orBad (match g.ats.lookup a, tE g n N sc o, tE g n N sc v with
      | some cs, some to, some tv => some fun W => cFldAug cs a false (to W) (tv W)
      | _, _, _ => none) W
    | .AugAssign (.Attribute o a _) .Sub v _ => orBad (match g.ats.lookup a, tE g n N sc o, tE g n N sc v with
      | some cs, some to, some tv => some fun W => cFldAug cs a true (to W) (tv W)
      | _, _, _ => none) W
    | .If c a b _ => (match tT g n N sc c with
      | some tc => tIfS (tc W) (tBody (tS g n N sc) a W) (tBody (tS g n N sc) b W)
      | none => tNever)
    | .While c a [] _ => (match tT g n N sc c with
      | some tc => cWhile (tc W) (tBody (tS g n N sc) a W)
      | none => tNever)
    | .For tg iter body [] _ => (match tI g (tE g n N sc) sc tg iter, tG g.K (tE g n N sc) N sc (fun _ => true) 12 tg with
      | some wi, some gt => fun D σ H => cFor (wi W) (gt W) (tBody (tS g n N sc) body W) D σ H ∨ tLock (cFor (wi W) (gt W) (tBody (tS g n N sc) body W)) D σ H
      | _, _ => tNever)
    | .Raise (some e) none _ => orBad (tRaise g (tE g n N sc) sc e) W
    | .Try body (h0 :: hs) [] [] _ => fun D σ H => tBody (tS g n N sc) body (wCl g.K W D (tCl g N sc (h0 :: hs))) D σ H
    | _ => tNever

/-- where a statement is read -/
structure KOk (g : G) (lev : Nat) (X : Cx) (N : List Str) (sc : Scope) (W : WX) : Prop extends COk g lev X N sc W where
  hp : PassesOwn (model X.prog X.w) X.A X.env X.xe
  stk : X.stack = X.env :: X.outer
  fr : X.env.frame = some X.env.locals
  hfn : ∀ x, X.fn x = true
  kind : X.env.scope.kind = .function
section
variable {g : G} {lev : Nat} {X : Cx} {N : List Str} {sc : Scope} {W : WX} {f : Expr → OE}
theorem ps_bad {st : Stmt} : PS X st tNever := ps_never
theorem orBad_ok {st : Stmt} {o : Option (WX → TS)} (h : ∀ t, o = some t → PS X st (t W)) : PS X st (orBad o W) := by
  unfold orBad
  split
  · exact h _ rfl
  · exact ps_never
theorem KOk.tr (c : KOk g lev X N sc W) {W' : WX} {pn : List (Addr × Obj)} {xe : Value → Shared → Prop} (tk : Takes (X.tr pn xe) W') (hp : PassesOwn (model X.prog X.w) X.A X.env xe) : KOk g lev (X.tr pn xe) N sc W' where
  gok := c.gok
  hK := c.hK
  hN := c.hN
  hsc := c.hsc
  nd := c.nd
  calm := c.calm
  tk := tk
  room := c.room
  gd := c.gd
  room2 := c.room2
  hp := hp
  stk := c.stk
  fr := c.fr
  hfn := c.hfn
  kind := c.kind
theorem tRaise_ok (c : KOk g lev X N sc W) (h : SE X W f) {e : Expr} {pos : Pos} {t : WX → TS} (q : tRaise g f sc e = some t) : PS X (.Raise (some e) none pos) (t W) := by
  unfold tRaise at q
  split at q
  · split at q
    · rename_i hc
      obtain ⟨h1, h2, h3⟩ := hc
      split at q
      · rename_i i te ei ee
        cases q
        have hi := List.mem_of_find?_eq_some ei
        have hn := List.find?_some ei
        simp only [decide_eq_true_eq] at hn
        obtain ⟨b, fI, fd, px, m1, m2, m3, m4, m5, m6, m7, m8⟩ := c.gok.xcs i hi
        rw [← c.hK] at m2 m3 m4 m5 m6 m7 m8
        rw [hn] at m1
        refine ps_raise c.calm c.tk (pmk_x m2 m4 m5 m6 m7 c.room2 m8 ?_ h1 m1 h3 (h _ _ ee))
        unfold Gl Env.kindOf
        rw [c.hsc]
        exact h2
      · cases q
    · cases q
  · cases q
theorem KOk.bk (c : KOk g lev X N sc W) : X.env.blockKind = .function := by unfold Env.blockKind; rw [c.kind]; rfl
theorem tAsgG_ok (c : KOk g lev X N sc W) (h : SE X W f) {tg v : Expr} {pos : Pos} {t : WX → TS} (q : tAsgG g f N sc tg v = some t) : PS X (.Assign [tg] v pos) (t W) := by
  unfold tAsgG at q
  split at q
  · rename_i hc
    obtain ⟨h1, h2, h3⟩ := hc
    split at q
    · rename_i e1 e2
      cases q
      refine ps_asg (h _ _ e2) (tG_ok c.toCOk h (fun x _ => c.hfn x) 12 _ _ e1) ?_ (tupPair_ok h1) (by rw [assign_star h2]; rfl)
      show swapsWith v (some tg) pos.line X.env = pure false
      rcases h3 with h3 | h3
      · exact notComp_sw h3
      · cases tg <;> first | (exact absurd h3.symm Bool.false_ne_true) | (cases v <;> rfl)
    · cases q
  · cases q
theorem tParS_ok (c : KOk g lev X N sc W) (h : SE X W f) {tg v : Expr} {pos : Pos} {t : WX → TS} (q : tParS g f N sc tg v = some t) : PS X (.Assign [tg] v pos) (t W) := by
  unfold tParS at q
  split at q
  · rename_i ts k p vs k2 p2
    split at q
    · rename_i nm ta e1 e2
      obtain ⟨a1, a2, a3⟩ := tArgs_ok h e2
      split at q
      · split at q
        · rename_i hc
          obtain ⟨l1, l2, ne, hsw⟩ := hc
          split at q
          · rename_i i j i1 i2
            cases q
            have hij : i ≠ j := fun e => ne (by
              have z1 := ix_get i1; have z2 := ix_get i2
              rw [e] at z1; rw [z1] at z2; exact Option.some.inj z2)
            refine PS_imp (ps_par (X := X) (pos := pos) c.calm c.nd (by rw [c.hN]; exact ix_get i1) (by rw [c.hN]; exact ix_get i2) hij (by rw [c.hsc]; exact l1) (by rw [c.hsc]; exact l2) (PA_up a1) (swR_ok c.bk c.hsc hsw) rfl) fun D σ H q => ⟨_, q, fun vs H1 q => ?_⟩
            try dsimp only at q
            split at q
            · exact ⟨_, _, rfl, q⟩
            · exact q.elim
          · cases q
        · cases q
      · split at q
        · rename_i hc
          obtain ⟨l1, l2, l3, ne1, ne2, ne3, hsw⟩ := hc
          split at q
          · rename_i i j l i1 i2 i3
            cases q
            have dif : ∀ {a b : Str} {m n : Nat}, a ≠ b → ix? N a = some m → ix? N b = some n → m ≠ n := fun ne i1 i2 e => ne (by
              have z1 := ix_get i1; have z2 := ix_get i2
              rw [e] at z1; rw [z1] at z2; exact Option.some.inj z2)
            refine PS_imp (ps_par3 (X := X) (pos := pos) c.calm c.nd (by rw [c.hN]; exact ix_get i1) (by rw [c.hN]; exact ix_get i2) (by rw [c.hN]; exact ix_get i3) (dif ne1 i1 i2) (dif ne2 i1 i3) (dif ne3 i2 i3) (by rw [c.hsc]; exact l1) (by rw [c.hsc]; exact l2) (by rw [c.hsc]; exact l3) (PA_up a1) (swR_ok c.bk c.hsc hsw) rfl) fun D σ H q => ⟨_, q, fun vs H1 q => ?_⟩
            try dsimp only at q
            split at q
            · exact ⟨_, _, _, rfl, q⟩
            · exact q.elim
          · cases q
        · cases q
      · cases q
    · rename_i ta e1 e2
      obtain ⟨a1, a2, a3⟩ := tArgs_ok h e2
      split at q
      · rename_i gs e3
        split at q
        · rename_i hs
          cases q
          have z := tGs_ok (okc := fun _ => true) c.toCOk h (fun x _ => c.hfn x) 12 _ _ e3
          refine ps_asg (pe_tup a1) ⟨fun pins s σ H v w Q I r hw => (pg_tup c.calm z assign_len (assign_none hs)).run pins s σ H v w Q I r ?_⟩ rfl (swR_ok c.bk c.hsc e1) rfl
          simp only [cTupG] at hw
          split at hw
          · split at hw
            · rename_i e; exact ⟨_, _, rfl, by rw [c.hK]; exact look_tup e, hw.1, hw.2⟩
            · exact hw.elim
          · exact hw.elim
        · cases q
      · cases q
    · cases q
  · cases q

theorem ps_orLock {st : Stmt} {t : TS} (h : PS X st t) : PS X st (fun D σ H => t D σ H ∨ tLock t D σ H) :=
  ⟨fun pins s σ H D I q => q.elim (fun q => h.run pins s σ H D I q) fun q => (ps_lock h).run pins s σ H D I q⟩
theorem seE (c : COk g lev X N sc W) (n : Nat) : SE X W (tE g n N sc) := fun e t q => (tET_ok g n).1 _ _ e t q c
theorem seT (c : COk g lev X N sc W) (n : Nat) : ST X W (tT g n N sc) := fun e t q => (tET_ok g n).2 _ _ e t q c
theorem sw_off {env : Env} {sc scope : Scope} {y : Str} {lb : Bool} (hs : env.scope = sc) (h : sc.names.lookup y ≠ some .local ∨ lb = false ∨ anyOwn scope y = true) :
    (env.blockKind == .function && env.kindOf y == some .local && lb && !(scope.names.any fun (n, k) => n == y && (k == .local || k == .cell))) = false := by
  rcases h with h | h | h
  · have : (env.kindOf y == some NameKind.local) = false := by
      unfold Env.kindOf; rw [hs]; exact beq_eq_false_iff_ne.mpr h
    rw [this]; simp
  · rw [h]; simp
  · have : (scope.names.any fun (n, k) => n == y && (k == .local || k == .cell)) = true := h
    rw [this]; simp
theorem tSetLc_ok (c : KOk g lev X N sc W) {n : Nat} {tg v : Expr} {pos : Pos} {t : WX → TS} (q : tSetLc g n N sc tg v = some t) : PS X (.Assign [tg] v pos) (t W) := by
  have c0 := c.toCOk
  unfold tSetLc at q
  split at q
  · split at q
    · rename_i hc
      obtain ⟨h0, h1, h2, h3, h4⟩ := hc
      split at q
      · rename_i i wi gt tt te e1 e2 e3 e4 e5
        cases q
        obtain ⟨i1, i2⟩ := tI_ok c0 (seE c0 n) e2
        have ok : BlkOk X.N X.env.scope _ _ := blkOk_by (by rw [c.hN, c.hsc]; exact h4)
        refine ps_orLock (PS_imp (ps_setLc c.calm c.nd (by rw [c.hN]; exact ix_get e1) (by rw [c.hsc]; exact h1) (sw_true c.kind (by rw [c.hsc]; exact h1) h2 h3) (PI_up i1) ok (fun s H C cl fp => tG_ok (cok_blk c0) (seE (cok_blk c0) n) blk_fn 12 _ _ e3)
          (fun s H C cl fp => tIfs_ok (seT (cok_blk c0) n) e4) (fun s H C cl fp => seE (cok_blk c0) n _ _ e5) (fun x => notSet_f i2)) fun D σ H h => ⟨_, h, fun J H' q D hD => lpc_W (q D hD)⟩)
      · cases q
    · cases q
  · split at q
    · rename_i hc
      split at q
      · rename_i e1 e2
        cases q
        refine ps_asg (seE c0 n _ _ e2) (tG_ok c0 (seE c0 n) (fun x _ => c.hfn x) 12 _ _ e1) ?_ rfl rfl
        refine Eq.trans (sw_cond (l := pos.line)) ?_
        refine congrArg (pure : Bool → Sem Bool) ?_
        exact sw_off c.hsc hc
      · cases q
    · cases q
  · cases q
theorem tAssign_ok (c : KOk g lev X N sc W) {n : Nat} {tg v : Expr} {pos : Pos} {t : WX → TS} (q : tAssign g n N sc tg v = some t) : PS X (.Assign [tg] v pos) (t W) := by
  have c0 := c.toCOk
  unfold tAssign at q
  split at q
  · split at q
    · rename_i hb
      split at q
      · rename_i e1 e2 e3
        cases q
        refine PS_imp (ps_fld (PE_up (seE c0 n _ _ e2)) (PE_up (seE c0 n _ _ e3)) ?_) fun D σ H q => ⟨_, q, fun y H1 q => ⟨_, q, fun x H2 q => ?_⟩⟩
        · cases v <;> rfl
        · try dsimp only at q
          split at q
          · split at q
            · rename_i ea
              obtain ⟨k1, k2⟩ := c.gok.ats _ (lookup_mem e1) _ q.1
              rw [c.hK]
              exact ⟨_, _, _, _, rfl, ea, k1, k2, q.2.1, q.2.2⟩
            · exact q.elim
          · exact q.elim
      · cases q
    · cases q
  · split at q
    · rename_i e; cases q; exact tSetLc_ok c e
    · split at q
      · rename_i e; cases q; exact tParS_ok c (seE c0 n) e
      · exact tAsgG_ok c (seE c0 n) q
theorem tBody_ok {f : Stmt → WX → TS} (h : ∀ st, PS X st (f st W)) : ∀ (l : List Stmt), PSs X l (tBody f l W)
  | [] => pss_nil
  | [s] => pss_one (h s)
  | s :: s2 :: r => show PSs X _ (tSeq (f s W) (tBody f (s2 :: r) W)) from pss_cons (h s) (tBody_ok h (s2 :: r))
theorem iopR_ok (c : COk g lev X N sc W) {op : Operator} {r : R2} (h : iopR g.K op = some r) : OpR X (inplaceOp op) r := by
  unfold iopR at h
  rw [← c.hK] at h
  split at h <;> cases h
  · exact r_iadd
  · exact r_isub
theorem aug_ok (c : KOk g lev X N sc W) {n : Nat} {x : Str} {px pos : Pos} {op : Operator} {v : Expr} {k : NameKind} {i : Nat} {r : R2} {tv : WX → TE} (hk : sc.names.lookup x = some k) (hkk : k = .local ∨ k = .cell) (hi : ix? N x = some i) (hr : iopR g.K op = some r) (hv : tE g n N sc v = some tv) :
    PS X (.AugAssign (.Name x px) op v pos) (cAug i (tv W) r) := by
  refine PS_imp (ps_aug (ti := r) c.nd (by rw [c.hN]; exact ix_get hi) ?_ (PE_up (seE c.toCOk n _ _ hv)) (iopR_ok c.toCOk hr) (.inl (c.hfn x))) fun D σ H q => ?_
  · unfold L2.Loc; rw [c.hsc, hk]; rcases hkk with rfl | rfl <;> simp
  · unfold cAug at q
    split at q
    · rename_i x e; exact ⟨x, e, _, q, fun _ _ q => q⟩
    · exact q.elim
theorem fldaug_ok (c : KOk g lev X N sc W) {n : Nat} {o v : Expr} {a : Str} {p pos : Pos} {cs : List Addr} {to tv : WX → TE} (sub : Bool) (h1 : g.ats.lookup a = some cs) (h2 : tE g n N sc o = some to) (h3 : tE g n N sc v = some tv) :
    PS X (.AugAssign (.Attribute o a p) (if sub then .Sub else .Add) v pos) (cFldAug cs a sub (to W) (tv W)) := by
  have c0 := c.toCOk
  have key : ∀ (rd : V → V → Hp → VK → Prop) (hop : InOp X (if sub then .Sub else .Add) rd), (∀ i j H Q, Q (.int (if sub then i - j else i + j)) H → rd (.int i) (.int j) H Q) → PS X (.AugAssign (.Attribute o a p) (if sub then .Sub else .Add) v pos) (cFldAug cs a sub (to W) (tv W)) := fun rd hop hrd => by
    refine PS_imp (ps_fldaug (PE_up (seE c0 n _ _ h2)) (PE_up (seE c0 n _ _ h3)) hop) fun D σ H q => ⟨_, q, fun x H1 q => ?_⟩
    try dsimp only at q
    split at q
    · split at q
      · rename_i ea
        obtain ⟨hC, q⟩ := q
        obtain ⟨k1, k2⟩ := c.gok.ats _ (lookup_mem h1) _ hC
        rw [c.hK]
        split at q
        · rename_i el
          refine ⟨_, _, _, _, _, rfl, ea, k1, k2, el, _, q, fun y H2 q => ?_⟩
          try dsimp only at q
          split at q
          · split at q
            · rename_i eb
              obtain ⟨rfl, hl, q⟩ := q
              exact hrd _ _ _ _ ⟨_, _, eb, hl, q⟩
            · exact q.elim
          · exact q.elim
        · exact q.elim
      · exact q.elim
    · exact q.elim
  cases sub with
  | true => exact key rSub in_sub fun i j H Q q => ⟨i, j, rfl, rfl, q⟩
  | false => exact key rAdd in_add fun i j H Q q => ⟨i, j, rfl, rfl, q⟩
theorem lpw_W {c : TT} {tb : TS} {D : Ends} {σ : St} {H : Hp} (h : ∃ n, lpw c tb D n σ H) : tWhile (upT c) tb D σ H := by
  obtain ⟨n, h⟩ := h
  refine ⟨fun m σ H => lpw c tb D m σ H, ⟨n, h⟩, fun m σ H w => ?_⟩
  cases m with
  | zero => exact w.elim
  | succ m =>
    refine ⟨_, w, fun b H1 q => ?_⟩
    cases b with
    | true => exact iteT ⟨_, fun σ' H' z => ⟨m, Nat.lt_succ_self _, z⟩, by simpa using q⟩
    | false => exact iteF (by simpa using q)
/-- THE READING OF STATEMENTS IS RIGHT -/
theorem tS_ok : ∀ (n : Nat) {X : Cx} {W : WX} (c : KOk g lev X N sc W) (st : Stmt), PS X st (tS g n N sc st W)
  | 0, X, W, c, st => ps_bad
  | n + 1, X, W, c, st => by
    have c0 := c.toCOk
    have ih := fun st => tS_ok n c st
    unfold tS
    split
    · exact ps_pass
    · exact ps_break
    · exact ps_continue
    · split
      · rename_i hn
        refine orBad_ok fun t q => ?_
        obtain ⟨u, hu, rfl⟩ := Option.map_eq_some_iff.mp q
        exact ps_expr (seE c0 n _ _ hu) (notComp_sw hn)
      · exact ps_bad
    · exact ps_retN
    · refine orBad_ok fun t q => ?_
      obtain ⟨u, hu, rfl⟩ := Option.map_eq_some_iff.mp q
      exact ps_ret (seE c0 n _ _ hu)
    · exact orBad_ok fun t q => tAssign_ok c q
    · refine orBad_ok fun t q => ?_
      split at q
      · rename_i e1 e2 e3 e4; cases q; exact aug_ok c e1 (.inl rfl) e2 e3 e4
      · rename_i e1 e2 e3 e4; cases q; exact aug_ok c e1 (.inr rfl) e2 e3 e4
      · cases q
    · refine orBad_ok fun t q => ?_
      split at q
      · rename_i e1 e2 e3; cases q; exact fldaug_ok c false e1 e2 e3
      · cases q
    · refine orBad_ok fun t q => ?_
      split at q
      · rename_i e1 e2 e3; cases q; exact fldaug_ok c true e1 e2 e3
      · cases q
    · split
      · rename_i e; exact ps_if (seT c0 n _ _ e) (tBody_ok ih _) (tBody_ok ih _)
      · exact ps_bad
    · split
      · rename_i e
        exact PS_imp (ps_while c.hp (PT_up (seT c0 n _ _ e)) (tBody_ok ih _)) fun D σ H q => lpw_W q
      · exact ps_bad
    · split
      · rename_i e1 e2
        obtain ⟨i1, i2⟩ := tI_ok c0 (seE c0 n) e1
        refine ps_orLock (PS_imp (ps_for c.hp c.calm (PI_up i1) (tG_ok c0 (seE c0 n) (fun x _ => c.hfn x) 12 _ _ e2) (tBody_ok ih _) (fun x => notSet_f i2)) fun D σ H q => ⟨_, q, fun J H1 q => lp_W q⟩)
      · exact ps_bad
    · exact orBad_ok fun t q => tRaise_ok c (seE c0 n) q
    · rw [← c.hK]
      exact ps_tryW c.stk c.fr c.nd c.tk (fun W' pn xe tk' hp' => tBody_ok (fun st => tS_ok n (c.tr tk' hp') st) _) (tCl_ok c0.b _)
    · exact ps_bad
end
end WR

set_option Elab.async false
set_option linter.all false
set_option maxRecDepth 100000
set_option maxHeartbeats 4000000
namespace WR
open PySem PySem.Spec PyProof.Rows L2

/-! ## defs keep the reading of their bodies -/
/-- a def of the text: its statement, all its names (parameters first), its parameters -/
structure Df where
  at_ : Str × Option Str
  name : Str
  qual : Str
  st : Stmt
  N : List Str
  P : List Str
  dfl : List He.Dv := []
  kwd : List (Str × He.Dv) := []
  hot : Bool := false   -- read as it runs while an exception is handled
def Df.d (d : Df) : He.DefD := ⟨d.at_, d.name, d.qual, defArgs d.st, defBody d.st, defScope d.st, d.dfl, d.kwd⟩
/-- what a def does: its body's reading, the table g behind it -/
def wpDf (g : G) (m : Nat) (d : Df) : Sp := fun vs H Q E => vs.length = d.P.length ∧
  (if d.hot = true then sBody (hS g d.N (defScope d.st) none m) (defBody d.st) { nx := fun _ H' => Q .non H', rt := Q } (start d.N vs) H
  else tBody (tS g m d.N (defScope d.st)) (defBody d.st) (fun cls dd _ H => E cls dd H) { nx := fun _ H' => Q .non H', rt := Q } (start d.N vs) H)
section
variable {P : Program} {w : World} {mg : Str → Option Value} {base : Heap} {g : G} {lev : Nat}
theorem df_ofH {dvs : List V} {kws : List (Str × V)} {x qual : Str} {d : Df} {f : Addr} {fd : FuncData} (hh : d.hot = true) (F : FunD g.K x qual (defArgs d.st) (defBody d.st) (defScope d.st) dvs kws f fd) (S : FnScope d.N d.P (defScope d.st)) (ok : GOk g P w mg base lev) (m : Nat) :
    FnHW P w g.K mg base (L2.CX P w) (lev + 3) f fd d.P (wpDf g m d) := by
  refine fnHW_of (k := lev + 2) F S (fun vs H Q E h => h.1) fun cdv A outer s H vs Q E hr gd h => ?_
  obtain ⟨_, h⟩ := h
  rw [if_pos hh] at h
  have c : HOkc g (cxW (L2.CX P w) P w g.K mg base d.N qual (defScope d.st) f cdv A outer s H E) d.N (defScope d.st) none := {
    gok := ⟨lev, ok⟩, hK := rfl, hN := rfl, hsc := rfl, nd := S.nd, gd := gd, un := by have := hr.un; show (A.deeper _).units + 200 < cLine; omega, room := ⟨lev, ok, hr.mono (Nat.le_add_right lev 2)⟩, xok := (fun i hi => nomatch hi), xis := (fun i hi => nomatch hi) }
  exact ⟨_, sBody_ok (fun st => hS_ok c m st) _, h⟩
theorem df_of {params : Arguments} {dvs : List V} {kws : List (Str × V)} {x qual : Str} {d : Df} {f : Addr} {fd : FuncData} (F : FunD g.K x qual (defArgs d.st) (defBody d.st) (defScope d.st) dvs kws f fd) (S : FnScope d.N d.P (defScope d.st)) (ok : GOk g P w mg base lev) (m : Nat) :
    FnW P w g.K mg base (L2.CX P w) (lev + 3) f fd d.P (wpDf g m d) := by
  cases hh : d.hot with
  | true => exact (df_ofH hh F S ok m).w
  | false =>
    refine fnW_of (k := lev + 2) F S (fun vs H Q E h => h.1) fun cdv A outer s H vs Q E hr gd h => ?_
    obtain ⟨_, h⟩ := h
    rw [hh, if_neg Bool.false_ne_true] at h
    have c : KOk g lev (cxOf (L2.CX P w) P w g.K mg base d.N qual (defScope d.st) f cdv A outer s H E) d.N (defScope d.st) (fun cls dd _ H => E cls dd H) := {
      gok := ok, hK := rfl, hN := rfl, hsc := rfl, nd := S.nd, calm := rfl, tk := takes_of rfl rfl rfl rfl, room := hr.mono (Nat.le_succ _), gd := gd, room2 := hr.mono (Nat.le_add_left 2 lev), hp := passes_of rfl, stk := rfl, fr := rfl, hfn := fun _ => rfl, kind := S.kind }
    exact ⟨_, tBody_ok (fun st => tS_ok m c st) _, h⟩
end

/-! ## the table at each depth -/
/-- a call pattern: the def's name, how many values are written, the keywords, the order -/
structure Cp where
  name : Str
  n : Nat
  ks : List Str
  arr : List V → List V → List V
structure Cm where
  cls : Addr
  name : Str
  n : Nat
  ks : List Str
  arr : List V → List V → List V
  df : Str
structure Ck where
  name : Str
  cls : Addr
  n : Nat
  ks : List Str
  arr : List V → List V → List V
  df : Str
structure Tb where
  K : PySem.W.Frag
  cps : List Cp
  cons : List (Str × V)
  blt : List Str
  cms : List Cm
  cks : List Ck
  ats : List (Str × List Addr)
  nes : List (Str × Addr)
  xcs : List XcI := []
  tps : List (Str × List V) := []
  hcs : List (Str × Cp) := []   -- what suites call: the key of the def that is read so, the pattern
/-- the table, the defs promising S -/
def gOf (t : Tb) (S : Str → Sp) : G where
  K := t.K
  fns := t.cps.map fun c => ⟨c.name, c.n, c.ks, c.arr, S c.name⟩
  cons := t.cons
  blt := t.blt
  mts := t.cms.map fun c => ⟨c.cls, c.name, c.n, c.ks, c.arr, S c.df⟩
  mks := t.cks.map fun c => ⟨c.name, c.cls, c.n, c.ks, c.arr, S c.df⟩
  ats := t.ats
  nes := t.nes
  xcs := t.xcs
  tps := t.tps
  hfs := t.hcs.map fun c => ⟨c.2.name, c.2.n, c.2.ks, c.2.arr, S c.1⟩
/-- the promises of all defs, n calls deep -/
def spAt (t : Tb) (m : Nat) (ds : List (Str × Df)) : Nat → Str → Sp
  | 0 => fun _ _ _ _ _ => False
  | n + 1 => fun x => match ds.lookup x with
    | some d => wpDf (gOf t (spAt t m ds n)) m d
    | none => fun _ _ _ _ => False
theorem spAt_succ {t : Tb} {m : Nat} {ds : List (Str × Df)} {n : Nat} {x : Str} {d : Df} (h : ds.lookup x = some d) : spAt t m ds (n + 1) x = wpDf (gOf t (spAt t m ds n)) m d := by
  show (match ds.lookup x with | some d => wpDf (gOf t (spAt t m ds n)) m d | none => fun _ _ _ _ => False) = _
  rw [h]

/-- a promise that is never kept is any def's -/
theorem fnW_false {P : Program} {w : World} {K : PySem.W.Frag} {mg : Str → Option Value} {base : Heap} {k : Nat} {f : Addr} {fd : FuncData} {ps : List Str} : FnW P w K mg base (L2.CX P w) k f fd ps (fun _ _ _ _ => False) := FnW.false_

/-- what the top has written: facts that are independent of the promises. fa, fd: where each def stands -/
structure TOk (t : Tb) (ds : List (Str × Df)) (mg : Str → Option Value) (fa : Str → Addr) (fd : Str → FuncData) : Prop where
  fun_ : ∀ p ∈ ds, FnScope p.2.N p.2.P (defScope p.2.st) ∧ ∃ x qual dvs kws, FunD t.K x qual (defArgs p.2.st) (defBody p.2.st) (defScope p.2.st) dvs kws (fa p.1) (fd p.1)
  cps : ∀ c ∈ t.cps, mg c.name = some (.ref (fa c.name)) ∧ PySem.W.keepIn t.K (.ref (fa c.name)) = true ∧ ∃ d gf, ds.lookup c.name = some d ∧ KBn t.K (fd c.name) d.P c.n c.ks gf c.arr
  cons : ∀ p ∈ t.cons, ∃ u, mg p.1 = some u ∧ RelV p.2 u
  blt : ∀ x ∈ t.blt, mg x = none
  cms : ∀ m ∈ t.cms, Cls t.K m.cls ∧ Meth t.K m.cls m.name (fa m.df) ∧ ∃ d gf, ds.lookup m.df = some d ∧ KBn t.K (fd m.df) d.P (m.n + 1) m.ks gf (fun vs zs => match vs with | v :: r => v :: m.arr r zs | [] => [])
  cks : ∀ m ∈ t.cks, mg m.name = some (.ref m.cls) ∧ Mk t.K m.cls (fa m.df) ∧ ∃ d gf, ds.lookup m.df = some d ∧ KBn t.K (fd m.df) d.P (m.n + 1) m.ks gf (fun vs zs => match vs with | v :: r => v :: m.arr r zs | [] => [])
  ats : ∀ p ∈ t.ats, ∀ C ∈ p.2, Cls t.K C ∧ NoAttr t.K C p.1
  nes : ∀ p ∈ t.nes, ownB t.K p.2 = true
  nec : ∀ p ∈ t.nes, Cls t.K p.2
  sys : sysB t.K = true
  xcs : ∀ x ∈ t.xcs, ∃ b fI fd px, mg x.name = some (.ref x.C) ∧ XcC t.K b x.C ∧ XfC t.K x.C ∧ PySem.W.findIn t.K (.ref x.C) x.f = some none ∧ PySem.W.findIn t.K (.ref x.C) "__init__" = some (some (.ref fI)) ∧
    PySem.W.typeIn t.K (.ref fI) = some (.type "function") ∧ (∀ (P : Program) (w : World) (base : Heap), FnOk P w t.K mg base (L2.CX P w) 1 fI fd ["self", px] (spX b t.K x.f)) ∧ Binds t.K fd ["self", px] []
  tps : ∀ p ∈ t.tps, ∃ a, mg p.1 = some (.ref a) ∧ kobj t.K a = some (.tup p.2) ∧ tupB t.K a = true
  hcs : ∀ c ∈ t.hcs, mg c.2.name = some (.ref (fa c.1)) ∧ PySem.W.keepIn t.K (.ref (fa c.1)) = true ∧ ∃ d gf, ds.lookup c.1 = some d ∧ d.hot = true ∧ KBn t.K (fd c.1) d.P c.2.n c.2.ks gf c.2.arr
section
variable {P : Program} {w : World} {t : Tb} {m : Nat} {ds : List (Str × Df)} {mg : Str → Option Value} {base : Heap} {fa : Str → Addr} {fd : Str → FuncData}
theorem spAt_okH (T : TOk t ds mg fa fd) : ∀ (n : Nat) (x : Str) (d : Df), ds.lookup x = some d → FnW P w t.K mg base (L2.CX P w) (3 * n) (fa x) (fd x) d.P (spAt t m ds n x) ∧ (d.hot = true → FnHW P w t.K mg base (L2.CX P w) (3 * n) (fa x) (fd x) d.P (spAt t m ds n x))
  | 0, x, d, h => ⟨fnW_false, fun _ => FnHW.false_⟩
  | n + 1, x, d, h => by
    have G : GOk (gOf t (spAt t m ds n)) P w mg base (3 * n) := by
      refine ⟨fun f hf => ?_, T.cons, T.blt, fun f hf => ?_, fun f hf => ?_, T.ats, T.nes, T.nec, T.sys, fun x hx => ?_, T.tps, fun f hf => ?_⟩
      · obtain ⟨c, hc, rfl⟩ := List.mem_map.mp hf
        obtain ⟨h1, h2, d', gf, h3, h4⟩ := T.cps c hc
        exact ⟨fa c.name, fd c.name, d'.P, gf, h1, h2, (spAt_okH T n _ _ h3).1, h4⟩
      · obtain ⟨c, hc, rfl⟩ := List.mem_map.mp hf
        obtain ⟨h1, h2, d', gf, h3, h4⟩ := T.cms c hc
        exact ⟨fa c.df, fd c.df, d'.P, gf, h1, h2, (spAt_okH T n _ _ h3).1, h4⟩
      · obtain ⟨c, hc, rfl⟩ := List.mem_map.mp hf
        obtain ⟨h1, h2, d', gf, h3, h4⟩ := T.cks c hc
        exact ⟨fa c.df, fd c.df, d'.P, gf, h1, h2, (spAt_okH T n _ _ h3).1, h4⟩
      · obtain ⟨b, fI, fd, px, m1, m2, m3, m4, m5, m6, m7, m8⟩ := T.xcs x hx
        exact ⟨b, fI, fd, px, m1, m2, m3, m4, m5, m6, m7 P w base, m8⟩
      · obtain ⟨c, hc, rfl⟩ := List.mem_map.mp hf
        obtain ⟨h1, h2, d', gf, h3, hh, h4⟩ := T.hcs c hc
        exact ⟨fa c.1, fd c.1, d'.P, gf, h1, h2, (spAt_okH T n _ _ h3).2 hh, h4⟩
    rw [spAt_succ h]
    obtain ⟨S, _, _, _, _, F⟩ := T.fun_ (x, d) (PySem.mem_of_lookup h)
    exact ⟨df_of (params := defArgs d.st) F S G m, fun hh => df_ofH hh F S G m⟩
theorem spAt_ok (T : TOk t ds mg fa fd) (n : Nat) (x : Str) (d : Df) (h : ds.lookup x = some d) : FnW P w t.K mg base (L2.CX P w) (3 * n) (fa x) (fd x) d.P (spAt t m ds n x) := (spAt_okH T n x d h).1
end
theorem wpDf_ok {g : G} {m : Nat} {d : Df} {vs : List V} {H : Hp} {Q : VK} {E : XK} (hh : d.hot = false) (hl : vs.length = d.P.length) (h : tBody (tS g m d.N (defScope d.st)) (defBody d.st) (fun cls dd _ H => E cls dd H) { nx := fun _ H' => Q .non H', rt := Q } (start d.N vs) H) : wpDf g m d vs H Q E := by
  refine ⟨hl, ?_⟩
  rw [hh, if_neg Bool.false_ne_true]
  exact h
theorem wpDf_okH {g : G} {m : Nat} {d : Df} {vs : List V} {H : Hp} {Q : VK} {E : XK} (hh : d.hot = true) (hl : vs.length = d.P.length) (h : sBody (hS g d.N (defScope d.st) none m) (defBody d.st) { nx := fun _ H' => Q .non H', rt := Q } (start d.N vs) H) : wpDf g m d vs H Q E := by
  refine ⟨hl, ?_⟩
  rw [hh, if_pos rfl]
  exact h
end WR

set_option Elab.async false
set_option linter.all false
set_option maxRecDepth 100000
set_option maxHeartbeats 4000000
namespace WR
open PySem PySem.Spec PyProof.Rows L2

/-! ## the text in symbols: no address -/
structure Ym where   -- a method's call pattern
  cls : Str
  name : Str
  n : Nat
  ks : List Str := []
  arr : List V → List V → List V := fun vs _ => vs
/-- an own exception class that is raised: its base (B.__init__), the field, the parameter, its __init__ -/
structure Yx where
  name : Str
  b : WRX.XB
  base : Str
  f : Str
  px : Str
  df : Df
structure Sy where
  ds : List (Str × Df)
  cps : List Cp
  nums : List (Str × Int) := []
  txts : List (Str × Str) := []
  blt : List Str := []
  cms : List Ym := []
  cks : List Ym := []     -- name unused: __init__
  cls : List Str := []
  ats : List (Str × List Str) := []
  nes : List Str := []
  ex : PySem.W.Frag → Bool := fun _ => true
  xcs : List Yx := []
  xcl : List Str := []    -- exception classes that are named
  tps : List (Str × List V) := []   -- tuples of the top
  hcs : List (Str × Cp) := []   -- what suites call
def mkey (c m : Str) : Str := c ++ "." ++ m
def Sy.tb (y : Sy) (K : PySem.W.Frag) : Tb where
  K := K
  cps := y.cps
  cons := y.nums.map (fun p => (p.1, V.int p.2)) ++ y.txts.map (fun p => (p.1, V.str p.2)) ++ (y.cls.map (fun c => (c, V.ref (He.ga K c))) ++ y.xcl.map (fun c => (c, V.ref (He.ga K c))))
  blt := y.blt
  cms := y.cms.map fun m => ⟨He.ga K m.cls, m.name, m.n, m.ks, m.arr, mkey m.cls m.name⟩
  cks := y.cks.map fun m => ⟨m.cls, He.ga K m.cls, m.n, m.ks, m.arr, mkey m.cls "__init__"⟩
  ats := y.ats.map fun p => (p.1, p.2.map (He.ga K))
  nes := y.nes.map fun c => (c, He.ga K c)
  xcs := y.xcs.map fun x => ⟨x.name, He.ga K x.name, x.f⟩
  tps := y.tps
  hcs := y.hcs
def tpB (K : PySem.W.Frag) (p : Str × List V) : Bool := (He.Fa.glo p.1).ok K && (tupB K (He.ga K p.1) && (match kobj K (He.ga K p.1) with
  | some (.tup xs) => decide (xs = p.2)
  | _ => false))
/-- what is asked of the written part beyond the facts -/
def yxB (K : PySem.W.Frag) (x : Yx) : Bool := (He.Fa.glo x.name).ok K && ((He.Fa.glo x.base).ok K && (xcB K x.b (He.ga K x.name) && (xfB K (He.ga K x.name) && (xpB K x.b (He.ga K x.base) && (decide (PySem.W.findIn K (.ref (He.ga K x.name)) x.f = some none) &&
  (decide (PySem.W.findIn K (.ref (He.ga K x.name)) "__init__" = some (some (.ref (He.fAd K x.df.at_)))) && decide (PySem.W.typeIn K (.ref (He.fAd K x.df.at_)) = some (.type "function"))))))))
def Sy.exB (y : Sy) (K : PySem.W.Frag) : Bool := (y.nes.all fun c => ownB K (He.ga K c)) && ((y.ex K && (y.xcs.all (yxB K) && (y.xcl.all (fun c => (He.Fa.glo c).ok K) && y.tps.all (tpB K)))) && sysB K)
def Sy.fa (y : Sy) : List He.Fa :=
  y.cps.map (fun c => .glo c.name) ++ (y.cls.map (fun c => .glo c) ++ (y.blt.map (fun x => .free x) ++ (y.nums.map (fun p => .int p.1 p.2) ++ (y.txts.map (fun p => .str p.1 p.2) ++
  (y.cls.map (fun c => .cls c) ++ (y.cms.map (fun m => .meth m.cls m.name) ++ (y.cks.map (fun m => .mkr m.cls) ++ y.ats.flatMap fun p => p.2.map fun c => .noat c p.1)))))))
def Sy.fn (y : Sy) : List He.DefD := (y.ds.map fun p => p.2.d) ++ y.xcs.map fun x => x.df.d
/-- a call pattern binds as it is told -/
def Kb (d : Df) (n : Nat) (ks : List Str) (arr : List V → List V → List V) : Prop :=
  ∀ K f fd, FunD K d.name d.qual (defArgs d.st) (defBody d.st) (defScope d.st) (d.d.dvs K) (d.d.kws K) f fd → ∃ gf, KBn K fd d.P n ks gf arr
def scB (d : Df) : Bool := decide ((defScope d.st).kind = .function) && (!(defScope d.st).isCoroutine && (!(defScope d.st).isGenerator && (decide d.N.Nodup && (decide (d.N.take d.P.length = d.P) &&
  (d.P.all (fun x => decide ((defScope d.st).names.lookup x = some .local ∨ (defScope d.st).names.lookup x = some .cell)) && (defScope d.st).names.all fun y => decide (y.2 ≠ .free))))))
theorem scB_ok {d : Df} (h : scB d = true) : FnScope d.N d.P (defScope d.st) := by
  unfold scB at h
  simp only [Bool.and_eq_true, Bool.not_eq_true', decide_eq_true_eq, List.all_eq_true] at h
  obtain ⟨h1, h2, h3, h4, h5, h6, h7⟩ := h
  exact ⟨h1, h2, h3, h4, h5, h6, h7⟩
structure XyOk (x : Yx) : Prop where
  dfl : x.df.dfl = []
  P : x.df.P = [("self" : Str), x.px]
  N : x.df.N = [("self" : Str), x.px]
  sc : scB x.df = true
  bd : xBody (defBody x.df.st) = some (x.base, x.f, x.px)
  pl : plainName x.px = true
  pb : plainName x.base = true
  gl : (defScope x.df.st).names.lookup x.base = some .globalImplicit
  bind : ∀ (kV doc pm : Value) (an : Option Addr) (cdv ct : Value) (us : List Value), us.length = x.df.P.length → bindArgs (PySem.W.fnOf x.df.name x.df.qual (defArgs x.df.st) (defBody x.df.st) (defScope x.df.st) .none kV doc pm an cdv ct) ⟨us, []⟩ = pure (x.df.P.zip us)
structure SyOk (y : Sy) : Prop where
  xcs : ∀ x ∈ y.xcs, XyOk x := by intro x h; cases h
  sc : (y.ds.all fun p => scB p.2) = true
  cps : ∀ c ∈ y.cps, ∃ d, y.ds.lookup c.name = some d ∧ d.at_ = (c.name, none) ∧ Kb d c.n c.ks c.arr
  cms : ∀ m ∈ y.cms, m.cls ∈ y.cls ∧ ∃ d, y.ds.lookup (mkey m.cls m.name) = some d ∧ d.at_ = (m.cls, some m.name) ∧ Kb d (m.n + 1) m.ks (fun vs zs => match vs with | v :: r => v :: m.arr r zs | [] => [])
  cks : ∀ m ∈ y.cks, m.cls ∈ y.cls ∧ ∃ d, y.ds.lookup (mkey m.cls "__init__") = some d ∧ d.at_ = (m.cls, some ("__init__" : Str)) ∧ Kb d (m.n + 1) m.ks (fun vs zs => match vs with | v :: r => v :: m.arr r zs | [] => [])
  ats : ∀ p ∈ y.ats, ∀ c ∈ p.2, c ∈ y.cls
  nes : ∀ c ∈ y.nes, c ∈ y.cls
  hcs : ∀ c ∈ y.hcs, (c.2.name ∈ y.cps.map (·.name)) ∧ ∃ d, y.ds.lookup c.1 = some d ∧ d.hot = true ∧ d.at_ = (c.2.name, none) ∧ Kb d c.2.n c.2.ks c.2.arr := by intro c h; cases h

/-! ### binding -/
section
variable {d : Df} {n : Nat} {ks : List Str} {arr arr' : List V → List V → List V}
theorem Kb.congr (h : Kb d n ks arr) (e : ∀ vs zs, arr' vs zs = arr vs zs) : Kb d n ks arr' := fun K f fd F => by
  obtain ⟨gf, k⟩ := h K f fd F
  have : arr' = arr := funext fun vs => funext fun zs => e vs zs
  exact ⟨gf, this ▸ k⟩
/-- every parameter written, no defaults -/
theorem kb_plain (hd : d.dfl = []) (h : ∀ (kV doc pm : Value) (an : Option Addr) (cdv ct : Value) (us : List Value), us.length = d.P.length → bindArgs (PySem.W.fnOf d.name d.qual (defArgs d.st) (defBody d.st) (defScope d.st) .none kV doc pm an cdv ct) ⟨us, []⟩ = pure (d.P.zip us)) :
    Kb d d.P.length [] (fun vs _ => vs) := fun K f fd F => by
  have F' : FunD K d.name d.qual (defArgs d.st) (defBody d.st) (defScope d.st) [] (d.d.kws K) f fd := by
    have : d.d.dvs K = [] := by unfold He.DefD.dvs Df.d; rw [hd]; rfl
    rw [this] at F; exact F
  exact ⟨fun us _ => us, ⟨fun s us ws X l1 l2 => F'.bindsA h s us l1, fun r1 r2 => r1⟩⟩
/-- keyword-only ones written, no defaults -/
theorem kb_kwM (hd : d.dfl = []) (h : ∀ (kV doc pm : Value) (an : Option Addr) (cdv ct u : Value) (us ws : List Value), us.length = n → ws.length = ks.length → bindArgs (PySem.W.fnOf d.name d.qual (defArgs d.st) (defBody d.st) (defScope d.st) .none kV doc pm an cdv ct) ⟨u :: us, ks.zip ws⟩ = pure (d.P.zip (u :: (us ++ ws)))) :
    Kb d (n + 1) ks (fun vs zs => match vs with | v :: r => v :: (fun vs zs => vs ++ zs) r zs | [] => []) := fun K f fd F => by
  have F' : FunD K d.name d.qual (defArgs d.st) (defBody d.st) (defScope d.st) [] (d.d.kws K) f fd := by
    have : d.d.dvs K = [] := by unfold He.DefD.dvs Df.d; rw [hd]; rfl
    rw [this] at F; exact F
  obtain ⟨oc, od, dV, kV, doc, pm, an, cdv, ct, osl, rfl, lk, hcd, hD, hK⟩ := F'.ex
  rcases hD with ⟨_, rfl⟩ | ⟨e, _⟩
  · refine ⟨fun us ws => match us with | u :: r => u :: (r ++ ws) | [] => [], ⟨fun s us ws X l1 l2 => ?_, fun {vs us zs ws} r1 r2 => ?_⟩⟩
    · cases us with
      | nil => cases l1
      | cons u us =>
        refine BindsTo.of_looks fun M => ?_
        rw [h kV doc pm an cdv ct u us ws (by simpa using l1) l2]
        exact PySem.W.Looks.of_pure rfl
    · cases r1 with
      | nil => exact .nil
      | cons a b => exact .cons a (Vals.append b r2)
  · exact absurd rfl e
/-- all positional ones written, the keyword-only ones by their defaults -/
theorem kb_kwD (kws : List (Str × V)) (hd : d.dfl = []) (hv : ∀ K, d.d.kws K = kws) (hk : kws ≠ []) (hn : (n + 1) + kws.length = d.P.length)
    (h : ∀ (D : Addr) (doc pm : Value) (an : Option Addr) (cdv ct : Value) (us zs : List Value), us.length = n + 1 → zs.length = kws.length →
      KwChain D ((kws.map (·.1)).zip zs) (bindArgs (PySem.W.fnOf d.name d.qual (defArgs d.st) (defBody d.st) (defScope d.st) .none (.ref D) doc pm an cdv ct) ⟨us, []⟩) (d.P.zip (us ++ zs))) :
    Kb d (n + 1) [] (fun vs zs => match vs with | v :: r => v :: (fun vs _ => vs ++ kws.map (·.2)) r zs | [] => []) := fun K f fd F => by
  have F' : FunD K d.name d.qual (defArgs d.st) (defBody d.st) (defScope d.st) [] kws f fd := by
    have : d.d.dvs K = [] := by unfold He.DefD.dvs Df.d; rw [hd]; rfl
    rw [this, hv K] at F; exact F
  obtain ⟨ds, r, b⟩ := F'.binds0 (n + 1) hk hn h
  refine ⟨fun us _ => match us with | u :: r => u :: (r ++ ds) | [] => [], ⟨fun s us ws X l1 l2 => ?_, fun {vs us zs ws} r1 r2 => ?_⟩⟩
  · cases ws with
    | cons w ws => cases l2
    | nil =>
      have z := b s us X (by rw [List.length_append, l1, ← r.length, List.length_map, hn])
      cases us with
      | nil => cases l1
      | cons u us => exact z
  · cases r1 with
    | nil => exact .nil
    | cons a z => exact .cons a (Vals.append z r)
/-- every parameter written, by place or by name, in any order: idx tells which of the written ones each parameter takes -/
theorem vals_getD {vs : List V} {us : List Value} (r : Vals vs us) (i : Nat) : RelV (vs.getD i .non) (us.getD i .none) := by
  rw [List.getD_eq_getElem?_getD, List.getD_eq_getElem?_getD]
  cases e : vs[i]? with
  | some v =>
    obtain ⟨u, hu, rv⟩ := r.get e
    rw [hu]; exact rv
  | none =>
    have : us[i]? = none := by
      rw [List.getElem?_eq_none_iff] at e ⊢
      rw [← r.length]; exact e
    rw [this]; rfl
theorem vals_pick {vs : List V} {us : List Value} (r : Vals vs us) : ∀ idx : List Nat, Vals (idx.map fun i => vs.getD i .non) (idx.map fun i => us.getD i .none)
  | [] => .nil
  | i :: idx => .cons (vals_getD r i) (vals_pick r idx)
theorem kb_permM (idx : List Nat) (hd : d.dfl = []) (h : ∀ (kV doc pm : Value) (an : Option Addr) (cdv ct u : Value) (us ws : List Value), us.length = n → ws.length = ks.length → bindArgs (PySem.W.fnOf d.name d.qual (defArgs d.st) (defBody d.st) (defScope d.st) .none kV doc pm an cdv ct) ⟨u :: us, ks.zip ws⟩ = pure (d.P.zip (u :: idx.map fun i => (us ++ ws).getD i .none))) :
    Kb d (n + 1) ks (fun vs zs => match vs with | v :: r => v :: (fun vs zs => idx.map fun i => (vs ++ zs).getD i V.non) r zs | [] => []) := fun K f fd F => by
  have F' : FunD K d.name d.qual (defArgs d.st) (defBody d.st) (defScope d.st) [] (d.d.kws K) f fd := by
    have : d.d.dvs K = [] := by unfold He.DefD.dvs Df.d; rw [hd]; rfl
    rw [this] at F; exact F
  obtain ⟨oc, od, dV, kV, doc, pm, an, cdv, ct, osl, rfl, lk, hcd, hD, hK⟩ := F'.ex
  rcases hD with ⟨_, rfl⟩ | ⟨e, _⟩
  · refine ⟨fun us ws => match us with | u :: r => u :: idx.map (fun i => (r ++ ws).getD i Value.none) | [] => [], ⟨fun s us ws X l1 l2 => ?_, fun {vs us zs ws} r1 r2 => ?_⟩⟩
    · cases us with
      | nil => cases l1
      | cons u us =>
        refine BindsTo.of_looks fun M => ?_
        rw [h kV doc pm an cdv ct u us ws (by simpa using l1) l2]
        exact PySem.W.Looks.of_pure rfl
    · cases r1 with
      | nil => exact .nil
      | cons a b => exact .cons a (vals_pick (Vals.append b r2) idx)
  · exact absurd rfl e
theorem kb_plainM (hd : d.dfl = []) (hp : d.P.length = n + 1) (h : ∀ (kV doc pm : Value) (an : Option Addr) (cdv ct : Value) (us : List Value), us.length = d.P.length → bindArgs (PySem.W.fnOf d.name d.qual (defArgs d.st) (defBody d.st) (defScope d.st) .none kV doc pm an cdv ct) ⟨us, []⟩ = pure (d.P.zip us)) :
    Kb d (n + 1) [] (fun vs zs => match vs with | v :: r => v :: (fun vs _ => vs) r zs | [] => []) := by
  have k := kb_plain hd h
  rw [hp] at k
  exact k.congr fun vs zs => by cases vs <;> rfl
/-- positional defaults: the first j of all are written over -/
theorem kb_dfl (m j : Nat) (dvs : List V) (hv : ∀ K, d.d.dvs K = dvs) (hne : dvs ≠ []) (hn : m + (dvs.length - j) = d.P.length)
    (h : ∀ (T : Addr) (kV doc pm : Value) (an : Option Addr) (cdv ct : Value) (us its : List Value), us.length = m → its.length = dvs.length →
      ∃ k, bindArgs (PySem.W.fnOf d.name d.qual (defArgs d.st) (defBody d.st) (defScope d.st) (.ref T) kV doc pm an cdv ct) ⟨us, []⟩ = seqItems? (.ref T) >>= k ∧ k (some its.toArray) = pure (d.P.zip (us ++ its.drop j))) :
    Kb d m [] (fun vs _ => vs ++ dvs.drop j) := fun K f fd F => by
  rw [hv K] at F
  obtain ⟨ds, r, b⟩ := F.binds1 m j hne hn h
  refine ⟨fun us _ => us ++ ds, ⟨fun s us ws X l1 l2 => ?_, fun r1 r2 => r1.append r⟩⟩
  exact b s us X (by rw [List.length_append, l1, ← r.length, List.length_drop, hn])
end

/-! ### the table of a written part -/
/-- where the def of a key stands -/
def Sy.ad (y : Sy) (K : PySem.W.Frag) (x : Str) : Addr := match y.ds.lookup x with
  | some d => He.fAd K d.at_
  | none => 0
theorem Sy.ad_of {y : Sy} {K : PySem.W.Frag} {x : Str} {d : Df} (h : y.ds.lookup x = some d) : y.ad K x = He.fAd K d.at_ := by
  unfold Sy.ad; rw [h]
section
variable {y : Sy} {K : PySem.W.Frag} {h : Heap} {mg : Str → Option Value}
theorem sy_tok (O : SyOk y) (X : K.In h) (G : h.Ns mainGlobals mg) (c : He.SaysD y.fa y.fn K) (nd : (y.ds.map (·.1)).Nodup) (he : y.exB K = true) : ∃ fd : Str → FuncData, TOk (y.tb K) y.ds mg (y.ad K) fd ∧ ∀ p ∈ y.ds, FunD K p.2.name p.2.qual (defArgs p.2.st) (defBody p.2.st) (defScope p.2.st) (p.2.d.dvs K) (p.2.d.kws K) (y.ad K p.1) (fd p.1) := by
  have hf : ∀ x : Str, ∃ fd : FuncData, ∀ d, y.ds.lookup x = some d → FunD K d.name d.qual (defArgs d.st) (defBody d.st) (defScope d.st) (d.d.dvs K) (d.d.kws K) (y.ad K x) fd := fun x => by
    cases e : y.ds.lookup x with
    | none => exact ⟨default, fun d z => nomatch z⟩
    | some d =>
      obtain ⟨fd, F⟩ := c.defs (d := d.d) (List.mem_append_left _ (List.mem_map.mpr ⟨(x, d), PySem.mem_of_lookup e, rfl⟩))
      refine ⟨fd, fun d' z => ?_⟩
      cases z
      rw [Sy.ad_of e]
      exact F
  have lk : ∀ p ∈ y.ds, y.ds.lookup p.1 = some p.2 := fun p hp => by
    have aux : ∀ l : List (Str × Df), (l.map (·.1)).Nodup → p ∈ l → l.lookup p.1 = some p.2 := by
      intro l
      induction l with
      | nil => intro _ h; cases h
      | cons q r ih =>
        intro hn hm
        rw [List.map_cons, List.nodup_cons] at hn
        obtain ⟨q1, q2⟩ := q
        rcases List.mem_cons.mp hm with e | hm
        · subst e; simp [List.lookup]
        · have ne : p.1 ≠ q1 := fun z => hn.1 (List.mem_map.mpr ⟨p, hm, z⟩)
          have e : (p.1 == q1) = false := by simpa using ne
          simp only [List.lookup, e]
          exact ih hn.2 hm
    exact aux _ nd hp
  refine ⟨fun x => Classical.choose (hf x), ?_, fun p hp => Classical.choose_spec (hf p.1) _ (lk p hp)⟩
  have F : ∀ x d, y.ds.lookup x = some d → FunD K d.name d.qual (defArgs d.st) (defBody d.st) (defScope d.st) (d.d.dvs K) (d.d.kws K) (y.ad K x) (Classical.choose (hf x)) := fun x d e => Classical.choose_spec (hf x) d e
  have exs : y.ex K = true ∧ (y.xcs.all (yxB K)) = true ∧ (y.xcl.all fun c => (He.Fa.glo c).ok K) = true ∧ y.tps.all (tpB K) = true := by
    have z := (Bool.and_eq_true_iff.mp (Bool.and_eq_true_iff.mp he).2).1
    simp only [Bool.and_eq_true] at z
    exact z
  have mem : ∀ f, f ∈ y.fa → f.ok K = true := fun f hm => c.facts hm
  have cglo : ∀ c ∈ y.cls, mg c = some (.ref (He.ga K c)) := fun c hc => He.glo_ok X G (mem _ (by
    unfold Sy.fa; exact List.mem_append_right _ (List.mem_append_left _ (List.mem_map.mpr ⟨c, hc, rfl⟩))))
  have cC : ∀ c ∈ y.cls, Cls K (He.ga K c) := fun c hc => He.cls_ok (mem _ (by
    unfold Sy.fa; exact List.mem_append_right _ (List.mem_append_right _ (List.mem_append_right _ (List.mem_append_right _ (List.mem_append_right _ (List.mem_append_left _ (List.mem_map.mpr ⟨c, hc, rfl⟩)))))))) 
  refine ⟨fun p hp => ⟨scB_ok (List.all_eq_true.mp O.sc p hp), _, _, _, _, F _ _ (lk p hp)⟩, fun c hc => ?_, fun p hp => ?_, fun x hx => ?_, fun m hm => ?_, fun m hm => ?_, fun p hp C hC => ?_, fun p hp => ?_, fun p hp => ?_, (Bool.and_eq_true_iff.mp (Bool.and_eq_true_iff.mp he).2).2, fun x hx => ?_, fun p hp => ?_, fun c hc => ?_⟩
  · obtain ⟨d, e1, e2, e3⟩ := O.cps c hc
    have g1 := He.glo_ok X G (x := c.name) (mem _ (by unfold Sy.fa; exact List.mem_append_left _ (List.mem_map.mpr ⟨c, hc, rfl⟩)))
    have ea : y.ad K c.name = He.ga K c.name := by rw [Sy.ad_of e1, e2]; rfl
    refine ⟨by rw [ea]; exact g1, (F _ _ e1).kp, d, ?_⟩
    obtain ⟨gf, k⟩ := e3 K _ _ (F _ _ e1)
    exact ⟨gf, e1, k⟩
  · rcases List.mem_append.mp hp with hp | hp
    · rcases List.mem_append.mp hp with hp | hp
      · obtain ⟨q, hq, rfl⟩ := List.mem_map.mp hp
        obtain ⟨t, e⟩ := He.int_ok X G (x := q.1) (i := q.2) (mem _ (by
          unfold Sy.fa; exact List.mem_append_right _ (List.mem_append_right _ (List.mem_append_right _ (List.mem_append_left _ (List.mem_map.mpr ⟨q, hq, rfl⟩))))))
        exact ⟨_, e, ⟨t, rfl⟩⟩
      · obtain ⟨q, hq, rfl⟩ := List.mem_map.mp hp
        obtain ⟨t, e⟩ := He.str_ok X G (x := q.1) (z := q.2) (mem _ (by
          unfold Sy.fa; exact List.mem_append_right _ (List.mem_append_right _ (List.mem_append_right _ (List.mem_append_right _ (List.mem_append_left _ (List.mem_map.mpr ⟨q, hq, rfl⟩)))))))
        exact ⟨_, e, ⟨t, rfl⟩⟩
    · rcases List.mem_append.mp hp with hp | hp
      · obtain ⟨q, hq, rfl⟩ := List.mem_map.mp hp
        exact ⟨_, cglo q hq, rfl⟩
      · obtain ⟨q, hq, rfl⟩ := List.mem_map.mp hp
        exact ⟨_, He.glo_ok X G (List.all_eq_true.mp exs.2.2.1 q hq), rfl⟩
  · exact He.free_ok X G (mem _ (by unfold Sy.fa; exact List.mem_append_right _ (List.mem_append_right _ (List.mem_append_left _ (List.mem_map.mpr ⟨x, hx, rfl⟩)))))
  · obtain ⟨q, hq, rfl⟩ := List.mem_map.mp hm
    obtain ⟨hc, d, e1, e2, e3⟩ := O.cms q hq
    have g1 := He.meth_ok (x := q.cls) (m := q.name) (mem _ (by
      unfold Sy.fa; exact List.mem_append_right _ (List.mem_append_right _ (List.mem_append_right _ (List.mem_append_right _ (List.mem_append_right _ (List.mem_append_right _ (List.mem_append_left _ (List.mem_map.mpr ⟨q, hq, rfl⟩)))))))))
    have ea : y.ad K (mkey q.cls q.name) = He.ma K (He.ga K q.cls) q.name := by rw [Sy.ad_of e1, e2]; rfl
    obtain ⟨gf, k⟩ := e3 K _ _ (F _ _ e1)
    refine ⟨cC _ hc, ?_, d, gf, e1, k⟩
    show Meth K _ _ (y.ad K (mkey q.cls q.name))
    rw [ea]; exact g1
  · obtain ⟨q, hq, rfl⟩ := List.mem_map.mp hm
    obtain ⟨hc, d, e1, e2, e3⟩ := O.cks q hq
    have g1 := He.mkr_ok (x := q.cls) (mem _ (by
      unfold Sy.fa; exact List.mem_append_right _ (List.mem_append_right _ (List.mem_append_right _ (List.mem_append_right _ (List.mem_append_right _ (List.mem_append_right _ (List.mem_append_right _ (List.mem_append_left _ (List.mem_map.mpr ⟨q, hq, rfl⟩))))))))))
    have ea : y.ad K (mkey q.cls "__init__") = He.ma K (He.ga K q.cls) "__init__" := by rw [Sy.ad_of e1, e2]; rfl
    obtain ⟨gf, k⟩ := e3 K _ _ (F _ _ e1)
    refine ⟨cglo _ hc, ?_, d, gf, e1, k⟩
    show Mk K _ (y.ad K (mkey q.cls "__init__"))
    rw [ea]; exact g1
  · obtain ⟨q, hq, rfl⟩ := List.mem_map.mp hp
    obtain ⟨c', hc', rfl⟩ := List.mem_map.mp hC
    exact ⟨cC _ (O.ats q hq c' hc'), He.noat_ok (mem _ (by
      unfold Sy.fa; exact List.mem_append_right _ (List.mem_append_right _ (List.mem_append_right _ (List.mem_append_right _ (List.mem_append_right _ (List.mem_append_right _ (List.mem_append_right _ (List.mem_append_right _ (List.mem_flatMap.mpr ⟨q, hq, List.mem_map.mpr ⟨c', hc', rfl⟩⟩)))))))))
      )⟩
  · obtain ⟨q, hq, rfl⟩ := List.mem_map.mp hp
    exact List.all_eq_true.mp (Bool.and_eq_true_iff.mp he).1 q hq
  · obtain ⟨q, hq, rfl⟩ := List.mem_map.mp hp
    exact cC q (O.nes q hq)
  · obtain ⟨q, hq, rfl⟩ := List.mem_map.mp hx
    have B := List.all_eq_true.mp exs.2.1 q hq
    unfold yxB at B
    simp only [Bool.and_eq_true, decide_eq_true_eq] at B
    obtain ⟨b1, b2, b3, b4, b5, b6, b7, b8⟩ := B
    have Y := O.xcs q hq
    obtain ⟨fd, F⟩ := c.defs (d := q.df.d) (List.mem_append_right _ (List.mem_map.mpr ⟨q, hq, rfl⟩))
    have F' : FunD K q.df.name q.df.qual (defArgs q.df.st) (defBody q.df.st) (defScope q.df.st) [] (q.df.d.kws K) (He.fAd K q.df.at_) fd := by
      have : q.df.d.dvs K = [] := by unfold He.DefD.dvs Df.d; rw [Y.dfl]; rfl
      have F0 : FunD K q.df.name q.df.qual (defArgs q.df.st) (defBody q.df.st) (defScope q.df.st) (q.df.d.dvs K) (q.df.d.kws K) (He.fAd K q.df.at_) fd := F
      rw [this] at F0; exact F0
    have S : FnScope ["self", q.px] ["self", q.px] (defScope q.df.st) := by
      have z := scB_ok Y.sc
      rw [Y.N, Y.P] at z
      exact z
    refine ⟨q.b, _, fd, q.px, He.glo_ok X G b1, xcB_ok b3, xfB_ok b4, b6, b7, b8, fun P w base => xinit_ok F' S Y.bd Y.pl Y.pb Y.gl (He.glo_ok X G b2) (xpB_ok b5), ?_⟩
    intro s us _ hl
    have z := F'.bindsA (ps := q.df.P) Y.bind s us (by rw [Y.P]; simpa using hl)
    rw [Y.P] at z
    rw [List.append_nil]
    exact z
  · have B := List.all_eq_true.mp exs.2.2.2 p hp
    unfold tpB at B
    obtain ⟨b1, b3⟩ := Bool.and_eq_true_iff.mp B
    obtain ⟨b4, b2⟩ := Bool.and_eq_true_iff.mp b3
    refine ⟨_, He.glo_ok X G b1, ?_, b4⟩
    split at b2
    · rename_i xs e
      show kobj K _ = _
      rw [e, of_decide_eq_true b2]
    · cases b2
  · obtain ⟨hn, d, e1, hh, e2, e3⟩ := O.hcs c hc
    obtain ⟨c', hc', ec⟩ := List.mem_map.mp hn
    have g1 := He.glo_ok X G (x := c'.name) (mem _ (by unfold Sy.fa; exact List.mem_append_left _ (List.mem_map.mpr ⟨c', hc', rfl⟩)))
    have ea : y.ad K c.1 = He.ga K c.2.name := by rw [Sy.ad_of e1, e2]; rfl
    obtain ⟨gf, k⟩ := e3 K _ _ (F _ _ e1)
    refine ⟨by rw [ea, ← ec]; exact g1, (F _ _ e1).kp, d, gf, e1, hh, k⟩
end

/-- what a law may ask of the written part: of an own class .. -/
def clsB (K : PySem.W.Frag) (C : Addr) : Bool := PySem.W.plainGet K C Str.empty && (PySem.W.hasDictIn K C && (PySem.W.plainOver K C && decide (PySem.W.findIn K (.ref C) "__setattr__" = some (some (.builtin "object.__setattr__")))))
theorem clsB_ok {K : PySem.W.Frag} {C : Addr} (h : clsB K C = true) : Cls K C := by
  unfold clsB at h
  simp only [Bool.and_eq_true, decide_eq_true_eq] at h
  obtain ⟨h1, h2, h3, h4⟩ := h
  exact ⟨h1, h2, h3, h4⟩
def kindsS : List String := ["NoneType", "int", "str", "list", "dict"]
def kindsI : List String := ["bool", "int", "str", "list", "tuple", "dict"]
def ownX (K : PySem.W.Frag) (C : Addr) : Bool := clsB K C && (ownB K C && ((kindsS.all fun t => decide (PySem.W.subIn K (.ref C) (.type t) = some false)) && kindsI.all fun t => decide (PySem.W.kitOne K (.ref C) (.type t) = some false)))
/-- .. of two own classes apart .. -/
def apartX (K : PySem.W.Frag) (C D : Addr) : Bool := decide (PySem.W.kitOne K (.ref C) (.ref D) = some false)
/-- .. of an own exception class: what the clauses and isinstance tell of it -/
def xcX (K : PySem.W.Frag) (r : Addr) (cs is : List (Addr × Bool)) : Bool := (cs.all fun p => decide (PySem.W.exmOne K (.ref r) (.ref p.1) = some p.2)) && ((is.all fun p => decide (PySem.W.kitOne K (.ref r) (.ref p.1) = some p.2)) && excB K r)
theorem xcX_ok {K : PySem.W.Frag} {r : Addr} {cs is : List (Addr × Bool)} (h : xcX K r cs is = true) : (∀ p ∈ cs, PySem.W.exmOne K (.ref r) (.ref p.1) = some p.2) ∧ (∀ p ∈ is, PySem.W.kitOne K (.ref r) (.ref p.1) = some p.2) ∧ excB K r = true := by
  unfold xcX at h
  simp only [Bool.and_eq_true, List.all_eq_true, decide_eq_true_eq] at h
  exact h
/-- an own instance is of no built-in kind -/
theorem isi_own {K : PySem.W.Frag} {C p dx : Addr} {fs : List (Str × V)} {T : String} {H : Hp} {Q : VK} (hx : ownX K C = true) (hp : H p = some (.ins C dx fs)) (hT : T ∈ kindsI) (h : Q (.bl false) H) : bIsi K [.ref p, .ty T] H Q := by
  unfold ownX at hx
  simp only [Bool.and_eq_true, List.all_eq_true, decide_eq_true_eq] at hx
  obtain ⟨h1, h2, h3, h4⟩ := hx
  obtain ⟨k1, k2, k3, k4, k5, k6, k7⟩ := ownB_ok h2
  have tn : tyN K H (.ref p) = none := by simp only [tyN, look, hp]
  unfold bIsi
  simp only [tn]
  exact ⟨_, _, _, _, false, rfl, .ty _, .base (.ins hp (clsB_ok h1) k2 k3 k4 k5), h4 T hT, h⟩
/-! ### the law's end -/
def isLst (o : Obj) : Bool := match o.cls with
  | .type c => c == "list"
  | _ => false
/-- sys.modules and the machine's own table, where they stand -/
def sysE (g : Addr → Option Obj) : PySem.W.Frag := [sysModules, cStatics].filterMap fun a => (g a).map fun o => (a, o)
/-- the written part without its lists (so the script is never an object of it), and sys.modules -/
def frZ (g : Addr → Option Obj) (as : List Addr) : PySem.W.Frag := (He.frT g as ++ sysE g).filter fun q => !isLst q.2
theorem frZ_mem {g : Addr → Option Obj} {as : List Addr} {a : Addr} {o : Obj} (h : (frZ g as).lookup a = some o) : g a = some o ∧ isLst o = false := by
  have m := List.mem_filter.mp (He.lookup_mem h)
  refine ⟨?_, by simpa using m.2⟩
  rcases List.mem_append.mp m.1 with z | z
  · exact He.frG_mem (List.mem_filter.mp z).1
  · unfold sysE at z
    obtain ⟨b, _, e⟩ := List.mem_filterMap.mp z
    cases hb : g b with
    | none => rw [hb] at e; cases e
    | some u => rw [hb] at e; cases e; exact hb
def obsZ (n : Nat) (fa : List He.Fa) (fn : List He.DefD) (ex : PySem.W.Frag → Bool) (g : Addr → Option Obj) : He.AlD × Bool := (He.obsD fa fn (frZ g (He.asD g n)), ex (frZ g (He.asD g n)))
def hkY (y : Sy) : PySem.W.Hook where
  α := He.AlD × Bool
  obs := fun s => obsZ 5 y.fa y.fn y.exB s.heap.get?
  val := fun _ => (He.valD y.fn, true)
  says := fun _ h => ∃ K : PySem.W.Frag, K.In h ∧ He.SaysD y.fa y.fn K ∧ y.exB K = true ∧ ∀ a o, K.lookup a = some o → isLst o = false
  of := fun _ _ e => ⟨_, fun _ _ e => (frZ_mem e).1, congrArg (fun z : He.AlD × Bool => z.1) e, congrArg (fun z : He.AlD × Bool => z.2) e, fun _ _ e => (frZ_mem e).2⟩
  keeps := fun _ _ _ ⟨K, hK, c⟩ k => ⟨K, PySem.W.Frag.In.keeps hK k, c⟩
def obY (y : Sy) (s : PySem.W.SharedT) : He.AlD × Bool := obsZ 5 y.fa y.fn y.exB (HandSHeadRun.getT s)
theorem obY_eq (y : Sy) (s : PySem.W.SharedT) : obY y s = (hkY y).obs s.abs := by
  have e : HandSHeadRun.getT s = s.abs.heap.get? := funext (HandSHeadRun.getT_eq s)
  show obsZ 5 y.fa y.fn y.exB (HandSHeadRun.getT s) = obsZ 5 y.fa y.fn y.exB s.abs.heap.get?
  rw [e]
/-- the promise of law, n calls deep, at scripts of at most 63 numbers -/
def LawY (y : Sy) (m n : Nat) : Prop := ∀ (K : PySem.W.Frag), y.ex K = true → ∀ (H : Hp) (a : Addr) (ns : List Int), ns.length ≤ 63 → Only H → (∃ o, H a = some (.frz o (.lst (ns.map V.int)))) →
  spAt (y.tb K) m y.ds n "law" [.ref a] H (fun v _ => v = .bl true) fun _ _ _ => False
theorem abs_ints : ∀ {us : List Value} {ns : List Int}, Vals (ns.map V.int) us → absVs us = some (ns.map V.int)
  | [], ns, r => by
    cases ns with
    | nil => rfl
    | cons n ns => cases r
  | u :: us, ns, r => by
    cases ns with
    | nil => cases r
    | cons n ns =>
      cases r with
      | cons h t =>
        obtain ⟨tk, rfl⟩ := h
        unfold absVs
        rw [abs_ints t]
        rfl
theorem walkY {l : PySem.W.OpenLaw} {q : Program} {loose : List Str} {XP : (Str → Option Value) → Heap → Prop} {dr : DefRec} (y : Sy) (m n : Nat) (dl : Df) (O : SyOk y) (nd : (y.ds.map (·.1)).Nodup) (hl : y.ds.lookup ("law" : Str) = some dl) (hP : dl.P = [("script" : Str)]) (hdl : dl.dfl = [])
    (hat : dl.at_ = (("law" : Str), none)) (hcl : ∃ c ∈ y.cps, c.name = ("law" : Str))
    (hb : ∀ (kV doc pm : Value) (an : Option Addr) (cdv ct : Value) (us : List Value), us.length = dl.P.length → bindArgs (PySem.W.fnOf dl.name dl.qual (defArgs dl.st) (defBody dl.st) (defScope dl.st) .none kV doc pm an cdv ct) ⟨us, []⟩ = pure (dl.P.zip us))
    (hn : l.most = some 63) (hdf : dr.params.defaults = []) (hnm : dr.name = ("law" : Str)) (hr : Room (3 * n) callerA) (law : LawY y m n) :
    PySem.W.WalkO q loose XP (hkY y).says l.row.toRowW dr [] (fun f vs => PySem.call f vs) := by
  refine Att.attach_call hn hdf fun w s₀ s₁ mg mb fa o pm cd doc a vs ns G Y ho hd hcd hmg hobj hints hlen hg => ?_
  obtain ⟨K, KX, c⟩ := Y
  rw [hnm] at hmg
  obtain ⟨fd, T, F⟩ := sy_tok O KX G.T.g c.1 nd c.2.1
  have Fl := F ("law", dl) (PySem.mem_of_lookup hl)
  have ea : y.ad K "law" = fa := by
    obtain ⟨cc, hc, e⟩ := hcl
    have e1 := (T.cps cc hc).1
    rw [e, hmg] at e1
    cases e1; rfl
  have Fl' : FunD K dl.name dl.qual (defArgs dl.st) (defBody dl.st) (defScope dl.st) [] (dl.d.kws K) (y.ad K "law") (fd "law") := by
    have : dl.d.dvs K = [] := by unfold He.DefD.dvs Df.d; rw [hdl]; rfl
    rw [this] at Fl; exact Fl
  have hF : ∀ base : Heap, K.In base → base.Ns mainGlobals mg → FnW l.prog w K mg base (L2.CX l.prog w) (3 * n) fa (fd "law") ["script"] (spAt (y.tb K) m y.ds n "law") := fun base _ _ => by
    have z := spAt_ok (P := l.prog) (w := w) (base := base) (m := m) T n "law" dl hl
    rw [ea, hP] at z
    exact z
  have hKa : K.lookup a = none := by
    cases q : K.lookup a with
    | none => rfl
    | some o =>
      have z := KX a o q
      rw [hobj] at z
      cases z
      have := c.2.2 a _ q
      unfold isLst at this
      cases this
  refine lawW_call (CX := L2.CX l.prog w) KX G.T.g G.T.b G.T.builtins G.T.nolimit hg hobj hints (Nat.le_trans hlen (by decide)) hr hKa hF (fun s u => ?_) (fun H hO hS => law K (Bool.and_eq_true_iff.mp (Bool.and_eq_true_iff.mp (Bool.and_eq_true_iff.mp c.2.1).2).1).1 H a ns hlen hO hS) fun H e s' z => ?_
  · have b := Fl'.bindsA (ps := dl.P) hb s [u] (by rw [hP]; rfl)
    rw [hP] at b
    exact b
  · obtain ⟨_, _, _, _, _, _, _, _, _, _, _, _, z⟩ := z
    exact z
end WR

set_option Elab.async false
set_option linter.all false
set_option maxRecDepth 100000
set_option maxHeartbeats 4000000
namespace WR
open PySem PySem.Spec PyProof.Rows L2
/-! ## shorthands of the printed readings -/
def mf (g : G) (m : Str) (n : Nat) (ks : List Str) : List MtI := g.mts.filter fun i => decide (i.name = m) && decide (i.n = n) && decide (i.ks = ks)
def bf (K : PySem.W.Frag) (m : Str) : List BM := (bms K).filter fun b => decide (b.name = m)
def mC (g : G) (m : Str) (n nk : Nat) (ks : List Str) (ta : TE) (t tk : TA) (W : WX) : TE := cMeth g.K m n nk (mf g m n ks) (bf g.K m) ta t tk W
def orL (t : TS) : TS := fun D σ H => t D σ H ∨ tLock t D σ H
def joinT (ts : List TE) : TE := fun σ H Q => cJs ts Str.empty σ H fun out H1 => Q (.str out) H1
/-- raise C(e) -/
def tRs (W : WX) (C : Addr) (f : Str) (te : TE) : TS := fun _ σ H => tMkX C f te σ H fun cls d H' => W cls d σ H'
/-- try: tb, the clauses l -/
def tTryW (K : PySem.W.Frag) (W : WX) (l : List ClR) (tb : WX → TS) : TS := fun D σ H => tb (wCl K W D l) D σ H
/-- a method of an own class, one candidate -/
theorem mC_own {g : G} {m : Str} {n nk : Nat} {ks : List Str} {ta : TE} {t tk : TA} {W : WX} {c : MtI} {σ : St} {H : Hp} {Q : VK} (hm : mf g m n ks = [c])
    (h : ta σ H fun x H1 => ∃ p dx fs, x = .ref p ∧ H1 p = some (.ins c.cls dx fs) ∧ fs.lookup m = none ∧ t σ H1 fun vs H2 => tk σ H2 fun zs H3 => vs.length = n ∧ zs.length = nk ∧ c.sp (.ref p :: c.arr vs zs) H3 Q (fun cls d H' => W cls d σ H'))
    (mono : ∀ P P' : V → Hp → Prop, (∀ x H, P x H → P' x H) → ta σ H P → ta σ H P') : mC g m n nk ks ta t tk W σ H Q := by
  unfold mC cMeth
  rw [hm]
  refine mono _ _ (fun x H1 q => ?_) h
  obtain ⟨p, dx, fs, rfl, e, l, q⟩ := q
  simp only [insOf, e, l, List.mem_singleton, exists_eq_left, true_and]
  exact q
/-- two candidates, the first or the second -/
theorem mC_own2 {g : G} {m : Str} {n nk : Nat} {ks : List Str} {ta : TE} {t tk : TA} {W : WX} {c : MtI} {l : List MtI} {σ : St} {H : Hp} {Q : VK} (hm : mf g m n ks = l) (hc : c ∈ l)
    (h : ta σ H fun x H1 => ∃ p dx fs, x = .ref p ∧ H1 p = some (.ins c.cls dx fs) ∧ fs.lookup m = none ∧ t σ H1 fun vs H2 => tk σ H2 fun zs H3 => vs.length = n ∧ zs.length = nk ∧ c.sp (.ref p :: c.arr vs zs) H3 Q (fun cls d H' => W cls d σ H'))
    (mono : ∀ P P' : V → Hp → Prop, (∀ x H, P x H → P' x H) → ta σ H P → ta σ H P') : mC g m n nk ks ta t tk W σ H Q := by
  unfold mC cMeth
  rw [hm]
  refine mono _ _ (fun x H1 q => ?_) h
  obtain ⟨p, dx, fs, rfl, e, l, q⟩ := q
  simp only [insOf, e, l]
  exact ⟨trivial, c, hc, rfl, q⟩
theorem mC_ownL {g : G} {m : Str} {n nk : Nat} {ks : List Str} {ta : TE} {t tk : TA} {W : WX} {c c' : MtI} {σ : St} {H : Hp} {Q : VK} (hm : mf g m n ks = [c, c'])
    (h : ta σ H fun x H1 => ∃ p dx fs, x = .ref p ∧ H1 p = some (.ins c.cls dx fs) ∧ fs.lookup m = none ∧ t σ H1 fun vs H2 => tk σ H2 fun zs H3 => vs.length = n ∧ zs.length = nk ∧ c.sp (.ref p :: c.arr vs zs) H3 Q (fun cls d H' => W cls d σ H'))
    (mono : ∀ P P' : V → Hp → Prop, (∀ x H, P x H → P' x H) → ta σ H P → ta σ H P') : mC g m n nk ks ta t tk W σ H Q := mC_own2 hm List.mem_cons_self h mono
theorem mC_ownR {g : G} {m : Str} {n nk : Nat} {ks : List Str} {ta : TE} {t tk : TA} {W : WX} {c c' : MtI} {σ : St} {H : Hp} {Q : VK} (hm : mf g m n ks = [c', c])
    (h : ta σ H fun x H1 => ∃ p dx fs, x = .ref p ∧ H1 p = some (.ins c.cls dx fs) ∧ fs.lookup m = none ∧ t σ H1 fun vs H2 => tk σ H2 fun zs H3 => vs.length = n ∧ zs.length = nk ∧ c.sp (.ref p :: c.arr vs zs) H3 Q (fun cls d H' => W cls d σ H'))
    (mono : ∀ P P' : V → Hp → Prop, (∀ x H, P x H → P' x H) → ta σ H P → ta σ H P') : mC g m n nk ks ta t tk W σ H Q := mC_own2 hm (List.mem_cons_of_mem _ List.mem_cons_self) h mono
/-- an own method of another call's answer -/
theorem mC_ko {g : G} {m : Str} {n nk : Nat} {ks : List Str} {ta : TE} {t tk : TA} {W : WX} {σ : St} {H : Hp} {Q : VK}
    (h : ∀ N : V → Hp → Prop, (∀ (c : MtI) p dx fs H1, c ∈ mf g m n ks → H1 p = some (.ins c.cls dx fs) → fs.lookup m = none → (t σ H1 fun vs H2 => tk σ H2 fun zs H3 => vs.length = n ∧ zs.length = nk ∧ c.sp (.ref p :: c.arr vs zs) H3 Q (fun cls d H' => W cls d σ H')) → N (.ref p) H1) → ta σ H N) : mC g m n nk ks ta t tk W σ H Q := by
  unfold mC cMeth
  refine h _ fun c p dx fs H1 hc e l q => ?_
  simp only [insOf, e, l]
  exact ⟨trivial, c, hc, rfl, q⟩
/-- a built-in's method -/
theorem mC_blt {g : G} {m : Str} {n : Nat} {ks : List Str} {ta : TE} {t tk : TA} {W : WX} {σ : St} {H : Hp} {Q : VK}
    (h : ta σ H fun x H1 => insOf H1 x = none ∧ ∃ T, tyB g.K H1 x = some T ∧ ∃ b, (bf g.K m).find? (fun b => b.T == T) = some b ∧ t σ H1 fun vs H2 => b.r x vs H2 Q)
    (mono : ∀ P P' : V → Hp → Prop, (∀ x H, P x H → P' x H) → ta σ H P → ta σ H P') : mC g m n 0 ks ta t tk W σ H Q := by
  unfold mC cMeth
  refine mono _ _ (fun x H1 q => ?_) h
  obtain ⟨h1, T, h2, b, h3, q⟩ := q
  simp only [h1, h2, h3, true_and]
  exact q
theorem mono_var {i : Nat} {σ : St} {H : Hp} {P P' : V → Hp → Prop} (h : ∀ x H, P x H → P' x H) (q : cVar i σ H P) : cVar i σ H P' := by
  unfold cVar at q ⊢
  split at q
  · exact h _ _ q
  · exact q.elim
theorem mono_C {v : V} {σ : St} {H : Hp} {P P' : V → Hp → Prop} (h : ∀ x H, P x H → P' x H) (q : tC v σ H P) : tC v σ H P' := h _ _ q
/-- own specials, one candidate -/
theorem spc_one {g : G} {m : Str} {C : Addr} {x : V} {vs : List V} {H : Hp} {Q : VK} {c : MtI} (hm : cands g m vs.length = [c]) (hc : c.cls = C) (h : c.sp (x :: c.arr vs []) H Q (fun _ _ _ => False)) : spc g m C x vs H Q :=
  ⟨c, by rw [hm]; exact List.mem_singleton_self _, hc, h⟩
theorem spc_L {g : G} {m : Str} {C : Addr} {x : V} {vs : List V} {H : Hp} {Q : VK} {c c' : MtI} (hm : cands g m vs.length = [c, c']) (hc : c.cls = C) (h : c.sp (x :: c.arr vs []) H Q (fun _ _ _ => False)) : spc g m C x vs H Q :=
  ⟨c, by rw [hm]; exact List.mem_cons_self, hc, h⟩
theorem spc_R {g : G} {m : Str} {C : Addr} {x : V} {vs : List V} {H : Hp} {Q : VK} {c c' : MtI} (hm : cands g m vs.length = [c', c]) (hc : c.cls = C) (h : c.sp (x :: c.arr vs []) H Q (fun _ _ _ => False)) : spc g m C x vs H Q :=
  ⟨c, by rw [hm]; exact List.mem_cons_of_mem _ List.mem_cons_self, hc, h⟩
end WR

set_option Elab.async false
set_option linter.all false
set_option maxRecDepth 100000
set_option maxHeartbeats 4000000
namespace WR
open PySem PySem.Spec PyProof.Rows L2
/-! ## rules for walking the readings -/
section
variable {K : PySem.W.Frag} {H : Hp} {a : Addr} {xs : List V} {x y : V} {Q : VK} {g : G}
theorem ins_look {u : HO} (h : look K H a = some u) (hu : ∀ C dx fs, u ≠ .ins C dx fs) : insOf H (.ref a) = none := by
  unfold look at h
  cases e : H a with
  | none => simp only [insOf, e]
  | some o =>
    rw [e] at h
    cases o <;> simp only [insOf, e]
    cases h
    exact absurd rfl (hu _ _ _)
theorem ins_lst (h : look K H a = some (.lst xs)) : insOf H (.ref a) = none := ins_look h fun _ _ _ z => nomatch z
theorem ins_tup (h : look K H a = some (.tup xs)) : insOf H (.ref a) = none := ins_look h fun _ _ _ z => nomatch z
theorem ins_dK {kvs : List (Key × V)} (h : look K H a = some (.dK kvs)) : insOf H (.ref a) = none := ins_look h fun _ _ _ z => nomatch z
theorem ins_int {i : Int} : insOf H (.int i) = none := rfl
theorem ins_str {i : Str} : insOf H (.str i) = none := rfl
theorem ins_non : insOf H .non = none := rfl
theorem ins_bl {b : Bool} : insOf H (.bl b) = none := rfl
theorem ins_ins {C dx : Addr} {fs : List (Str × V)} (h : H a = some (.ins C dx fs)) : insOf H (.ref a) = some (a, C, fs) := by simp only [insOf, h]
theorem ty_lst (h : look K H a = some (.lst xs)) : tyN K H (.ref a) = some "list" := by simp only [tyN, h]
theorem ty_tup (h : look K H a = some (.tup xs)) : tyN K H (.ref a) = some "tuple" := by simp only [tyN, h]
theorem ty_dK {kvs : List (Key × V)} (h : look K H a = some (.dK kvs)) : tyN K H (.ref a) = some "dict" := by simp only [tyN, h]
theorem ty_ins {x : V} {n : String} (h : tyN K H x = some n) : insOf H x = none := by
  cases x with
  | ref p =>
    cases e : H p with
    | none => simp only [insOf, e]
    | some o =>
      cases o <;> simp only [insOf, e]
      simp [tyN, look, e] at h
  | _ => rfl
/-! ### len, isinstance, subscripts -/
theorem len_lst (hg : g.K = K) (h : look K H a = some (.lst xs)) : bLenG g [.ref a] H Q = Q (.int xs.length) H := by
  unfold bLenG; simp only [ins_lst h]; unfold bLen; rw [hg]; simp only [h]
theorem len_tup (hg : g.K = K) (h : look K H a = some (.tup xs)) : bLenG g [.ref a] H Q = Q (.int xs.length) H := by
  unfold bLenG; simp only [ins_tup h]; unfold bLen; rw [hg]; simp only [h]
theorem len_dK {kvs : List (Key × V)} (hg : g.K = K) (h : H a = some (.dK kvs)) : bLenG g [.ref a] H Q = Q (.int kvs.length) H := by
  have e : look K H a = some (.dK kvs) := look_of_dK h
  unfold bLenG; simp only [ins_dK e]; unfold bLen; rw [hg]; simp only [e, h]
theorem len_str {s : Str} : bLenG g [.str s] H Q = (s.length ≤ sizeLine ∧ Q (.int s.length) H) := rfl
theorem isi_ty {n T : String} {b : Bool} (h : tyN K H x = some n) (e : kitB n T = some b) : bIsi K [x, .ty T] H Q = Q (.bl b) H := by
  simp only [bIsi, h, e]
theorem ix_lst {i : Int} {v : V} (h : look K H a = some (.lst xs)) (e : atI xs i = some v) : oIx K (.ref a) (.int i) H Q = Q v H := by simp only [oIx, h, e]
theorem ix_tup {i : Int} {v : V} (h : look K H a = some (.tup xs)) (e : atI xs i = some v) : oIx K (.ref a) (.int i) H Q = Q v H := by simp only [oIx, h, e]
theorem ix_dK {kvs : List (Key × V)} {k : Key} {v : V} (h : H a = some (.dK kvs) ∨ ∃ o, H a = some (.frz o (.dK kvs))) : (.some v = valV kvs k) → oIx K (.ref a) (kV k) H Q = Q v H := fun ev => by
  have e : look K H a = some (.dK kvs) := by
    rcases h with h | ⟨o, h⟩
    · exact look_of_dK h
    · unfold look; rw [h]
  simp only [oIx, e, oGet]
  rcases h with h | ⟨o, h⟩ <;> simp only [h] <;> cases k <;> simp only [kV, keyOf, ← ev]
theorem in_dK {kvs : List (Key × V)} {k : Key} {b : Bool} (h : H a = some (.dK kvs) ∨ ∃ o, H a = some (.frz o (.dK kvs))) : oIn K b (kV k) (.ref a) H Q = Q (.bl (b ^^ (valV kvs k).isSome)) H := by
  have e : look K H a = some (.dK kvs) := by
    rcases h with h | ⟨o, h⟩
    · exact look_of_dK h
    · unfold look; rw [h]
  simp only [oIn, e, oGet]
  rcases h with h | ⟨o, h⟩ <;> simp only [h] <;> cases k <;> rfl
theorem eq_scal (hg : g.K = K) (h1 : insOf H x = none) (h2 : scal x y = true) (h : Q (.bl (decide (x = y))) H) : oEqG g x y H Q := by
  refine .inl ?_; unfold oEqG0; simp only [h1]; exact .inl (.inl ⟨h2, h⟩)
theorem ne_scal (hg : g.K = K) (h1 : insOf H x = none) (h2 : scal x y = true) (h : Q (.bl (!decide (x = y))) H) : oNeG g x y H Q := by
  unfold oNeG; simp only [h1]; exact .inl (.inl ⟨h2, h⟩)
theorem atI_nat {α : Type} {xs : List α} {k : Nat} : atI xs (k : Int) = xs[k]? := by
  unfold atI ixN
  by_cases h : k < xs.length
  · simp [h]
  · simp [h]
end
/-! ### loops by an invariant -/
theorem lp_inv {J : It} {g : TG} {tb : TS} {D : Ends} {n : Nat} (P : Nat → St → Hp → Prop)
    (hstop : ∀ σ H, P n σ H → J.stop n H ∧ D.nx σ H)
    (hgo : ∀ i σ H, i < n → P i σ H → ∀ R : St → Hp → Prop, (∀ σ' H', P (i + 1) σ' H' → R σ' H') → J.go i H ∧ ∀ x H', J.yld i H x H' → g x σ H' fun σ2 H2 => tb { D with nx := R, ct := R, bk := D.nx } σ2 H2)
    {σ : St} {H : Hp} (h : P 0 σ H) : ∃ m, lp J g tb D m 0 σ H := by
  have key : ∀ m i σ H, m + i = n → P i σ H → lp J g tb D m i σ H := by
    intro m
    induction m with
    | zero =>
      intro i σ H hm p
      have : i = n := by omega
      subst this
      exact hstop _ _ p
    | succ m ih =>
      intro i σ H hm p
      exact .inr (hgo i σ H (by omega) p _ fun σ' H' q => ih (i + 1) σ' H' (by omega) q)
  exact ⟨n, key n 0 σ H (by omega) h⟩
theorem lpc_inv {J : It} {g : TG} {tt : TT} {te : TE} {vs : List Nat} {σ : St} {D : Addr} {Q : VK} {n : Nat} (P : Nat → Hp → Prop)
    (hstop : ∀ H, P n H → J.stop n H ∧ Q (.ref D) H)
    (hgo : ∀ i H, i < n → P i H → ∀ R : Hp → Prop, (∀ H', P (i + 1) H' → R H') → J.go i H ∧ ∀ x H', J.yld i H x H' → g x (wipe σ vs) H' fun σ2 H2 => wipe σ2 vs = wipe σ vs ∧ tt σ2 H2 fun b H3 =>
      if b = true then te σ2 H3 fun y H4 => ∃ acc, H4 D = some (.lst acc) ∧ acc.length < sizeLine ∧ R (upd H4 D (.lst (acc ++ [y]))) else R H3)
    {H : Hp} (h : P 0 H) : ∃ m, lpc J g tt te vs σ D Q m 0 H := by
  have key : ∀ m i H, m + i = n → P i H → lpc J g tt te vs σ D Q m i H := by
    intro m
    induction m with
    | zero =>
      intro i H hm p
      have : i = n := by omega
      subst this
      exact hstop _ p
    | succ m ih =>
      intro i H hm p
      exact .inr (hgo i H (by omega) p _ fun H' q => ih (i + 1) H' (by omega) q)
  exact ⟨n, key n 0 H (by omega) h⟩
theorem lpd_inv {J : It} {g : TG} {tt : TT} {tk tv : TE} {vs : List Nat} {σ : St} {D : Addr} {Q : VK} {n : Nat} (P : Nat → Hp → Prop)
    (hstop : ∀ H, P n H → J.stop n H ∧ Q (.ref D) H)
    (hgo : ∀ i H, i < n → P i H → ∀ R : Hp → Prop, (∀ H', P (i + 1) H' → R H') → J.go i H ∧ ∀ x H', J.yld i H x H' → g x (wipe σ vs) H' fun σ2 H2 => wipe σ2 vs = wipe σ vs ∧ tt σ2 H2 fun b H3 =>
      if b = true then tk σ2 H3 fun y H4 => tv σ2 H4 fun z H5 => ∃ kvs k, y = kV k ∧ H5 D = some (.dK kvs) ∧ kvs.length < sizeLine ∧ R (upd H5 D (.dK (putK kvs k z))) else R H3)
    {H : Hp} (h : P 0 H) : ∃ m, lpd J g tt tk tv vs σ D Q m 0 H := by
  have key : ∀ m i H, m + i = n → P i H → lpd J g tt tk tv vs σ D Q m i H := by
    intro m
    induction m with
    | zero =>
      intro i H hm p
      have : i = n := by omega
      subst this
      exact hstop _ p
    | succ m ih =>
      intro i H hm p
      exact .inr (hgo i H (by omega) p _ fun H' q => ih (i + 1) H' (by omega) q)
  exact ⟨n, key n 0 H (by omega) h⟩
/-! ### what stays -/
/-- all that was tracked stays as it is -/
abbrev Ex (H H' : Hp) : Prop := ∀ b o, H b = some o → H' b = some o
theorem Ex.refl {H : Hp} : Ex H H := fun _ _ e => e
theorem Ex.trans {H H1 H2 : Hp} (a : Ex H H1) (b : Ex H1 H2) : Ex H H2 := fun c o e => b c o (a c o e)
theorem Ex.new {H H1 : Hp} {p : Addr} {o : HO} (x : Ex H H1) (h : H p = none) : Ex H (upd H1 p o) := fun b u e => by
  rw [upd_ne (ne_of_none e h)]; exact x b u e
theorem Ex.none {H H1 : Hp} {p : Addr} (x : Ex H H1) (h : H1 p = none) : H p = none := by
  cases e : H p with
  | none => rfl
  | some o => rw [x p o e] at h; cases h
/-- .. but what stands at d -/
abbrev Exd (d : Addr) (H H' : Hp) : Prop := ∀ b o, b ≠ d → H b = some o → H' b = some o
/-- what a look sees of lists and tuples stays -/
theorem look_ex {K : PySem.W.Frag} {H H' : Hp} {a : Addr} {u : HO} (x : Ex H H') (hH : H a ≠ none) (h : look K H a = some u) : look K H' a = some u := by
  unfold look at h ⊢
  cases e : H a with
  | none => exact absurd e hH
  | some o => rw [x a o e]; rw [e] at h; exact h
end WR

set_option Elab.async false
set_option linter.all false
set_option maxRecDepth 100000
set_option maxHeartbeats 4000000
namespace WR
open PySem PySem.Spec PyProof.Rows L2
/-! ## sorted texts -/
theorem ltCps_irrefl : ∀ l : List Nat, ltCps l l = false
  | [] => rfl
  | a :: r => by simp [ltCps, ltCps_irrefl r]
theorem ltCps_asymm : ∀ l m : List Nat, ltCps l m = false → ltCps m l = false → l = m
  | [], [], _, _ => rfl
  | [], _ :: _, h, _ => by simp [ltCps] at h
  | _ :: _, [], _, h => by simp [ltCps] at h
  | a :: r, b :: t, h, k => by
    simp only [ltCps, Bool.or_eq_false_iff, decide_eq_false_iff_not, Bool.and_eq_false_iff, beq_eq_false_iff_ne] at h k
    have e : a = b := by omega
    subst e
    have h2 : ltCps r t = false := h.2.resolve_left (fun z => z rfl)
    have k2 : ltCps t r = false := k.2.resolve_left (fun z => z rfl)
    rw [ltCps_asymm r t h2 k2]
theorem ltCps_trans : ∀ l m n : List Nat, ltCps m l = false → ltCps n m = false → ltCps n l = false
  | [], m, n, h, k => by
    cases n with
    | nil => rfl
    | cons c u => rfl
  | a :: r, [], n, h, k => by simp [ltCps] at h
  | a :: r, b :: t, [], h, k => by simp [ltCps] at k
  | a :: r, b :: t, c :: u, h, k => by
    simp only [ltCps, Bool.or_eq_false_iff, decide_eq_false_iff_not, Bool.and_eq_false_iff, beq_eq_false_iff_ne] at h k ⊢
    refine ⟨by omega, ?_⟩
    by_cases e1 : c = a
    · have e2 : b = a := by omega
      have e3 : c = b := by omega
      have h2 : ltCps t r = false := h.2.resolve_left (fun z => z e2)
      have k2 : ltCps u t = false := k.2.resolve_left (fun z => z e3)
      exact .inr (ltCps_trans r t u h2 k2)
    · exact .inl e1
theorem str_ext {a b : Str} (h : a.cps.toList = b.cps.toList) : a = b := by
  obtain ⟨x⟩ := a
  obtain ⟨y⟩ := b
  have : x = y := Array.toList_inj.mp h
  rw [this]
/-- not ahead -/
def leS (a b : Str) : Prop := ltCps b.cps.toList a.cps.toList = false
theorem rising_all : ∀ (r : List Str) (p : Str), risingS p r = true → (∀ x ∈ r, leS p x) ∧ r.Pairwise leS
  | [], p, _ => ⟨fun x h => (nomatch h), List.Pairwise.nil⟩
  | x :: r, p, h => by
    simp only [risingS, Bool.and_eq_true, Bool.not_eq_true'] at h
    obtain ⟨h1, h2⟩ := rising_all r x h.2
    refine ⟨fun y hy => ?_, List.pairwise_cons.mpr ⟨h1, h2⟩⟩
    rcases List.mem_cons.mp hy with rfl | hy
    · exact h.1
    · exact ltCps_trans _ _ _ h.1 (h1 y hy)
theorem sortedS_pw {l : List Str} (h : sortedS l = true) : l.Pairwise leS := by
  cases l with
  | nil => exact List.Pairwise.nil
  | cons x r =>
    obtain ⟨h1, h2⟩ := rising_all r x h
    exact List.pairwise_cons.mpr ⟨h1, h2⟩
theorem pw_uniq : ∀ {l m : List Str}, l.Perm m → l.Pairwise leS → m.Pairwise leS → l = m
  | [], m, p, _, _ => p.nil_eq
  | x :: r, [], p, _, _ => absurd p.symm.nil_eq (by simp)
  | x :: r, y :: t, p, h, k => by
    rw [List.pairwise_cons] at h k
    have e : x = y := by
      have hx : x ∈ y :: t := p.mem_iff.mp (List.mem_cons_self ..)
      have hy : y ∈ x :: r := p.mem_iff.mpr (List.mem_cons_self ..)
      rcases List.mem_cons.mp hx with e | hx
      · exact e
      · rcases List.mem_cons.mp hy with e | hy
        · exact e.symm
        · exact str_ext (ltCps_asymm _ _ (k.1 x hx) (h.1 y hy))
    subst e
    rw [pw_uniq (List.Perm.cons_inv p) h.2 k.2]
/-- two sorted lists of the same texts are one -/
theorem srt_uniq {l m k : List Str} (h1 : l.Perm k) (h2 : sortedS l = true) (h3 : m.Perm k) (h4 : sortedS m = true) : l = m :=
  pw_uniq (h1.trans h3.symm) (sortedS_pw h2) (sortedS_pw h4)
theorem srt_filter {l m k : List Str} {f : Str → Bool} (h1 : l.Perm k) (h2 : sortedS l = true) (h3 : m.Perm (k.filter f)) (h4 : sortedS m = true) : l.filter f = m :=
  pw_uniq ((h1.filter f).trans h3.symm) ((sortedS_pw h2).filter f) (sortedS_pw h4)
/-! ## dicts from names to pairs of numbers -/
abbrev Rws := List (Str × (Int × Int))
def rget (rs : Rws) (n : Str) : Option (Int × Int) := (rs.find? fun r => decide (r.1 = n)).map (·.2)
def rput (rs : Rws) (n : Str) (p : Int × Int) : Rws := if (rs.any fun r => decide (r.1 = n)) = true then rs.map (fun r => if r.1 = n then (r.1, p) else r) else rs ++ [(n, p)]
def rdrop (rs : Rws) (n : Str) : Rws := rs.filter fun r => decide (r.1 ≠ n)
/-- the dict's pairs, each value a tuple of two numbers -/
def RR (H : Hp) : List (Key × V) → Rws → Prop
  | [], [] => True
  | (k, v) :: kvs, (n, c, l) :: rs => k = .inr n ∧ (∃ t, v = .ref t ∧ H t = some (.tup [.int c, .int l])) ∧ RR H kvs rs
  | _, _ => False
/-- tuples stay -/
abbrev Tp (H H' : Hp) : Prop := ∀ t xs, H t = some (.tup xs) → H' t = some (.tup xs)
theorem Ex.tp {H H' : Hp} (x : Ex H H') : Tp H H' := fun t xs e => x t _ e
theorem RR.tp {H H' : Hp} (x : Tp H H') : ∀ {kvs : List (Key × V)} {rs : Rws}, RR H kvs rs → RR H' kvs rs
  | [], [], _ => trivial
  | [], _ :: _, h => h.elim
  | _ :: _, [], h => h.elim
  | (k, v) :: kvs, (n, c, l) :: rs, h => ⟨h.1, by obtain ⟨t, e, q⟩ := h.2.1; exact ⟨t, e, x _ _ q⟩, RR.tp x h.2.2⟩
theorem RR.len {H : Hp} : ∀ {kvs : List (Key × V)} {rs : Rws}, RR H kvs rs → kvs.length = rs.length
  | [], [], _ => rfl
  | [], _ :: _, h => h.elim
  | _ :: _, [], h => h.elim
  | (k, v) :: kvs, (n, c, l) :: rs, h => congrArg Nat.succ (RR.len h.2.2)
theorem RR.keys {H : Hp} : ∀ {kvs : List (Key × V)} {rs : Rws}, RR H kvs rs → keysS kvs = some (rs.map (·.1))
  | [], [], _ => rfl
  | [], _ :: _, h => h.elim
  | _ :: _, [], h => h.elim
  | (k, v) :: kvs, (n, c, l) :: rs, h => by
    obtain ⟨rfl, _, r⟩ := h
    simp only [keysS, RR.keys r, List.map_cons, Option.map_some]
theorem RR.any {H : Hp} (n : Str) : ∀ {kvs : List (Key × V)} {rs : Rws}, RR H kvs rs → (kvs.any fun kv => decide (kv.1 = .inr n)) = (rs.any fun r => decide (r.1 = n))
  | [], [], _ => rfl
  | [], _ :: _, h => h.elim
  | _ :: _, [], h => h.elim
  | (k, v) :: kvs, (m, c, l) :: rs, h => by
    obtain ⟨rfl, _, r⟩ := h
    simp only [List.any_cons, RR.any n r, Sum.inr.injEq]
theorem RR.get {H : Hp} (n : Str) : ∀ {kvs : List (Key × V)} {rs : Rws}, RR H kvs rs → (valV kvs (.inr n) = none ∧ rget rs n = none) ∨ ∃ t c l, valV kvs (.inr n) = some (.ref t) ∧ rget rs n = some (c, l) ∧ H t = some (.tup [.int c, .int l])
  | [], [], _ => .inl ⟨rfl, rfl⟩
  | [], _ :: _, h => h.elim
  | _ :: _, [], h => h.elim
  | (k, v) :: kvs, (m, c, l) :: rs, h => by
    obtain ⟨rfl, ⟨t, rfl, e⟩, r⟩ := h
    by_cases hm : m = n
    · subst hm
      exact .inr ⟨t, c, l, valV_pos rfl, by simp [rget], e⟩
    · have h1 : ¬ ((Sum.inr m : Key) = Sum.inr n) := fun z => hm (Sum.inr.inj z)
      rcases RR.get n r with ⟨a, b⟩ | ⟨t', c', l', a, b, d⟩
      · exact .inl ⟨by rw [valV_neg h1]; exact a, by simp [rget, List.find?_cons, hm] at b ⊢; exact b⟩
      · exact .inr ⟨t', c', l', by rw [valV_neg h1]; exact a, by simp [rget, List.find?_cons, hm] at b ⊢; exact b, d⟩
theorem RR.app {H : Hp} {n : Str} {t : Addr} {c l : Int} (e : H t = some (.tup [.int c, .int l])) : ∀ {kvs : List (Key × V)} {rs : Rws}, RR H kvs rs → RR H (kvs ++ [(.inr n, .ref t)]) (rs ++ [(n, c, l)])
  | [], [], _ => ⟨rfl, ⟨t, rfl, e⟩, trivial⟩
  | [], _ :: _, h => h.elim
  | _ :: _, [], h => h.elim
  | (k, v) :: kvs, (m, c', l') :: rs, h => ⟨h.1, h.2.1, RR.app e h.2.2⟩
theorem RR.map {H : Hp} {n : Str} {t : Addr} {c l : Int} (e : H t = some (.tup [.int c, .int l])) : ∀ {kvs : List (Key × V)} {rs : Rws}, RR H kvs rs → RR H (kvs.map fun kv => if kv.1 = .inr n then (kv.1, V.ref t) else kv) (rs.map fun r => if r.1 = n then (r.1, c, l) else r)
  | [], [], _ => trivial
  | [], _ :: _, h => h.elim
  | _ :: _, [], h => h.elim
  | (k, v) :: kvs, (m, c', l') :: rs, h => by
    obtain ⟨rfl, q, r⟩ := h
    by_cases hm : m = n
    · simp only [List.map_cons, Sum.inr.injEq, hm, if_true]
      exact ⟨rfl, ⟨t, rfl, e⟩, RR.map e r⟩
    · simp only [List.map_cons, Sum.inr.injEq, hm, if_false]
      exact ⟨rfl, q, RR.map e r⟩
theorem RR.put {H : Hp} {n : Str} {t : Addr} {c l : Int} {kvs : List (Key × V)} {rs : Rws} (e : H t = some (.tup [.int c, .int l])) (h : RR H kvs rs) : RR H (putK kvs (.inr n) (.ref t)) (rput rs n (c, l)) := by
  unfold putK rput
  rw [RR.any n h]
  split
  · exact RR.map e h
  · exact RR.app e h
theorem RR.drop {H : Hp} (n : Str) : ∀ {kvs : List (Key × V)} {rs : Rws}, RR H kvs rs → RR H (dropK kvs (.inr n)) (rdrop rs n)
  | [], [], _ => trivial
  | [], _ :: _, h => h.elim
  | _ :: _, [], h => h.elim
  | (k, v) :: kvs, (m, c', l') :: rs, h => by
    obtain ⟨rfl, q, r⟩ := h
    by_cases hm : m = n
    · have e1 : dropK ((Sum.inr m, v) :: kvs) (Sum.inr n : Key) = dropK kvs (.inr n) := dropK_pos (by rw [hm])
      rw [e1]
      simp only [rdrop, List.filter_cons, hm, ne_eq, not_true, decide_false, Bool.false_eq_true, if_false]
      exact RR.drop n r
    · have e1 : dropK ((Sum.inr m, v) :: kvs) (Sum.inr n : Key) = (Sum.inr m, v) :: dropK kvs (.inr n) := dropK_neg (fun z => hm (Sum.inr.inj z))
      rw [e1]
      simp only [rdrop, List.filter_cons, hm, ne_eq, not_false_eq_true, decide_true, if_true]
      exact ⟨rfl, q, RR.drop n r⟩
theorem rput_len (rs : Rws) (n : Str) (p : Int × Int) : (rput rs n p).length ≤ rs.length + 1 := by
  unfold rput; split <;> simp
/-- a dict of such rows at d -/
def RAt (H : Hp) (d : Addr) (rs : Rws) : Prop := ∃ kvs, H d = some (.dK kvs) ∧ RR H kvs rs
theorem RAt.ex {H H' : Hp} {d : Addr} {rs : Rws} (x : Ex H H') (h : RAt H d rs) : RAt H' d rs := by
  obtain ⟨kvs, e, r⟩ := h
  exact ⟨kvs, x _ _ e, r.tp x.tp⟩
/-- one statement: what comes behind is a name -/
theorem seq_ {t u : TS} {D : Ends} {σ : St} {H : Hp} (h : ∀ N : St → Hp → Prop, (∀ σ H, u D σ H → N σ H) → t { D with nx := N } σ H) : tSeq t u D σ H := h _ fun _ _ q => q
theorem lk1 {f m : Str} {v : V} (h : (m == f) = false) : List.lookup m [(f, v)] = none := by
  simp only [List.lookup, h]
/-! ## a dict's looks by a text -/
section
variable {K : PySem.W.Frag} {H : Hp} {a : Addr} {Q : VK}
theorem in_dS {kvs : List (Key × V)} {s : Str} {b : Bool} (h : H a = some (.dK kvs)) : oIn K b (.str s) (.ref a) H Q = Q (.bl (b ^^ (valV kvs (.inr s)).isSome)) H := in_dK (k := .inr s) (.inl h)
theorem ix_dS {kvs : List (Key × V)} {s : Str} {v : V} (h : H a = some (.dK kvs)) (e : valV kvs (.inr s) = some v) : oIx K (.ref a) (.str s) H Q = Q v H := ix_dK (k := .inr s) (.inl h) e.symm
theorem ix_dSf {kvs : List (Key × V)} {s : Str} {v : V} {o : Obj} (h : H a = some (.frz o (.dK kvs))) (e : valV kvs (.inr s) = some v) : oIx K (.ref a) (.str s) H Q = Q v H := ix_dK (k := .inr s) (.inr ⟨o, h⟩) e.symm
theorem set_dS {kvs : List (Key × V)} {s : Str} {v : V} {R : Hp → Prop} (h : H a = some (.dK kvs)) (hl : kvs.length < 1000) (q : R (upd H a (.dK (putK kvs (.inr s) v)))) : oSet (.ref a) (.str s) v H R := by
  simp only [oSet, h, keyOf]
  exact ⟨Nat.lt_trans hl (small1000 (Nat.le_refl _)), q⟩
end
end WR

set_option Elab.async false
set_option linter.all false
set_option maxRecDepth 100000
set_option maxHeartbeats 4000000
/-! helpers of all laws: small numbers, loops, indexes, frames, the digit boxes -/
namespace WR
open PySem PySem.Spec PyProof.Rows L2
theorem kb_non_int : kitB "NoneType" "int" = some false := by kernel_rfl
theorem kb_non_bool : kitB "NoneType" "bool" = some false := by kernel_rfl
theorem kb_non_str : kitB "NoneType" "str" = some false := by kernel_rfl
theorem kb_non_list : kitB "NoneType" "list" = some false := by kernel_rfl
theorem kb_non_dict : kitB "NoneType" "dict" = some false := by kernel_rfl
theorem kb_non_tuple : kitB "NoneType" "tuple" = some false := by kernel_rfl
theorem kb_bool_int : kitB "bool" "int" = some true := by kernel_rfl
theorem kb_bool_bool : kitB "bool" "bool" = some true := by kernel_rfl
theorem kb_bool_str : kitB "bool" "str" = some false := by kernel_rfl
theorem kb_bool_list : kitB "bool" "list" = some false := by kernel_rfl
theorem kb_bool_dict : kitB "bool" "dict" = some false := by kernel_rfl
theorem kb_bool_tuple : kitB "bool" "tuple" = some false := by kernel_rfl
theorem kb_int_int : kitB "int" "int" = some true := by kernel_rfl
theorem kb_int_bool : kitB "int" "bool" = some false := by kernel_rfl
theorem kb_int_str : kitB "int" "str" = some false := by kernel_rfl
theorem kb_int_list : kitB "int" "list" = some false := by kernel_rfl
theorem kb_int_dict : kitB "int" "dict" = some false := by kernel_rfl
theorem kb_int_tuple : kitB "int" "tuple" = some false := by kernel_rfl
theorem kb_str_int : kitB "str" "int" = some false := by kernel_rfl
theorem kb_str_bool : kitB "str" "bool" = some false := by kernel_rfl
theorem kb_str_str : kitB "str" "str" = some true := by kernel_rfl
theorem kb_str_list : kitB "str" "list" = some false := by kernel_rfl
theorem kb_str_dict : kitB "str" "dict" = some false := by kernel_rfl
theorem kb_str_tuple : kitB "str" "tuple" = some false := by kernel_rfl
theorem kb_tuple_int : kitB "tuple" "int" = some false := by kernel_rfl
theorem kb_tuple_bool : kitB "tuple" "bool" = some false := by kernel_rfl
theorem kb_tuple_str : kitB "tuple" "str" = some false := by kernel_rfl
theorem kb_tuple_list : kitB "tuple" "list" = some false := by kernel_rfl
theorem kb_tuple_dict : kitB "tuple" "dict" = some false := by kernel_rfl
theorem kb_tuple_tuple : kitB "tuple" "tuple" = some true := by kernel_rfl
theorem kb_list_int : kitB "list" "int" = some false := by kernel_rfl
theorem kb_list_bool : kitB "list" "bool" = some false := by kernel_rfl
theorem kb_list_str : kitB "list" "str" = some false := by kernel_rfl
theorem kb_list_list : kitB "list" "list" = some true := by kernel_rfl
theorem kb_list_dict : kitB "list" "dict" = some false := by kernel_rfl
theorem kb_list_tuple : kitB "list" "tuple" = some false := by kernel_rfl
theorem kb_dict_int : kitB "dict" "int" = some false := by kernel_rfl
theorem kb_dict_bool : kitB "dict" "bool" = some false := by kernel_rfl
theorem kb_dict_str : kitB "dict" "str" = some false := by kernel_rfl
theorem kb_dict_list : kitB "dict" "list" = some false := by kernel_rfl
theorem kb_dict_dict : kitB "dict" "dict" = some true := by kernel_rfl
theorem kb_dict_tuple : kitB "dict" "tuple" = some false := by kernel_rfl
section
variable {K : PySem.W.Frag} {H H1 H' : Hp} {Q : VK} {E : XK}
theorem log_small {a : Nat} (h : a < 2 ^ 64) : a.log2 < 64 := by
  by_cases z : a = 0
  · subst z; decide
  · exact (Nat.log2_lt z).mpr h
theorem cmul_of {a b : Int} (ha : a.natAbs < 2 ^ 64) (hb : b.natAbs < 2 ^ 64) : CMulW a b := by
  unfold CMulW
  have := log_small ha
  have := log_small hb
  omega
theorem cdiv_of {a b : Int} (h0 : 0 < b) (hb : b.natAbs < 2 ^ 64) : CDivW a b := by
  unfold CDivW
  have := log_small hb
  omega
theorem mod_b {a : Int} {m : Int} (hm : 0 < m) : 0 ≤ a % m ∧ a % m < m := ⟨Int.emod_nonneg _ (by omega), Int.emod_lt_of_pos _ hm⟩
theorem ifS_ {c : TT} {t u : TS} {D : Ends} {σ : L2.St} {H : Hp} (h : ∀ A B : Hp → Prop, (∀ H, t D σ H → A H) → (∀ H, u D σ H → B H) → c σ H fun b H1 => if b = true then A H1 else B H1) : tIfS c t u D σ H := h _ _ (fun _ q => q) fun _ q => q
theorem itr_yld {lo : Int} {N i : Nat} {x : V} {H' : Hp} (h : (Itr lo N).yld i H x H') : H' = H ∧ x = .int (lo + i) := h
theorem itl_yld {l : Addr} {xs : List V} {i : Nat} {x : V} {H' : Hp} (e : H l = some (.lst xs)) (h : (Itl K l).yld i H x H') : H' = H ∧ xs[i]? = some x := ⟨h.1, h.2 xs (.inl (.inl e))⟩
theorem itl_go {l : Addr} {xs : List V} {i : Nat} (e : H l = some (.lst xs)) (hi : i < xs.length) : (Itl K l).go i H := ⟨xs, xs[i], .inl (.inl e), by simp [hi]⟩
theorem itl_stop {l : Addr} {xs : List V} {i : Nat} (e : H l = some (.lst xs)) (hi : xs.length ≤ i) : (Itl K l).stop i H := ⟨xs, .inl (.inl e), hi⟩
theorem tyB_lst {a : Addr} {xs : List V} (h : look K H a = some (.lst xs)) : tyB K H (.ref a) = some "list" := by simp only [tyB, h]
theorem tyB_dK {a : Addr} {kvs : List (Key × V)} (h : H a = some (.dK kvs)) : tyB K H (.ref a) = some "dict" := by
  simp only [tyB, look_of_dK (K := K) h, h]
theorem b_append : (bf K "append").find? (fun b => b.T == "list") = some ⟨"list", "append", "list.append", mAppend⟩ := by kernel_rfl
theorem b_extend : (bf K "extend").find? (fun b => b.T == "list") = some ⟨"list", "extend", "list.extend", mExtend⟩ := by kernel_rfl
theorem b_reverse : (bf K "reverse").find? (fun b => b.T == "list") = some ⟨"list", "reverse", "list.reverse", mReverse⟩ := by kernel_rfl
theorem b_index : (bf K "index").find? (fun b => b.T == "list") = some ⟨"list", "index", "list.index", mIndexL K⟩ := by kernel_rfl
theorem b_clearL : (bf K "clear").find? (fun b => b.T == "list") = some ⟨"list", "clear", "list.clear", mClearL⟩ := by kernel_rfl
theorem b_popL : (bf K "pop").find? (fun b => b.T == "list") = some ⟨"list", "pop", "list.pop", mPopL⟩ := by kernel_rfl
theorem b_get : (bf K "get").find? (fun b => b.T == "dict") = some ⟨"dict", "get", "dict.get", mGetD⟩ := by kernel_rfl
theorem b_pop : (bf K "pop").find? (fun b => b.T == "dict") = some ⟨"dict", "pop", "dict.pop", mPopD⟩ := by kernel_rfl
theorem b_clear : (bf K "clear").find? (fun b => b.T == "dict") = some ⟨"dict", "clear", "dict.clear", mClearD⟩ := by kernel_rfl
theorem b_join : (bf K "join").find? (fun b => b.T == "str") = some ⟨"str", "join", "str.join", mJoin K⟩ := by kernel_rfl
theorem oGet_mono {p : Addr} {y : V} {R R' : Option V → Prop} (h : ∀ o, R o → R' o) (q : oGet H p y R) : oGet H p y R' := by
  unfold oGet at q ⊢
  split at q
  · split at q
    · rename_i e; exact h _ q
    · exact q.elim
  · split at q
    · rename_i e; exact h _ q
    · exact q.elim
  · obtain ⟨k, b, e1, e2, q⟩ := q; exact ⟨k, b, e1, e2, h _ q⟩
  · obtain ⟨k, b, e1, e2, q⟩ := q; exact ⟨k, b, e1, e2, h _ q⟩
  · exact q.elim
theorem oIx_mono {x y : V} {P P' : V → Hp → Prop} (h : ∀ x H, P x H → P' x H) (q : oIx K x y H P) : oIx K x y H P' := by
  unfold oIx at q ⊢
  split at q
  · split at q
    · split at q
      · split at q
        · exact h _ _ q
        · exact q.elim
      · exact q.elim
    · split at q
      · split at q
        · exact h _ _ q
        · exact q.elim
      · exact q.elim
    · exact oGet_mono (fun o z => by
        cases o with
        | none => exact z
        | some v => exact h _ _ z) q
  · split at q
    · refine ⟨q.1, ?_⟩
      have q2 := q.2
      split at q2
      · exact h _ _ q2
      · exact q2.elim
    · exact q.elim
  · exact q.elim
theorem mono_ix {i j : Nat} {σ : L2.St} {P P' : V → Hp → Prop} (h : ∀ x H, P x H → P' x H) (q : tOp (oIx K) (cVar i) (cVar j) σ H P) : tOp (oIx K) (cVar i) (cVar j) σ H P' := by
  simp only [tOp] at q ⊢
  exact mono_var (fun x H1 q1 => mono_var (fun y H2 q2 => oIx_mono h q2) q1) q
theorem mono_ixC {i : Nat} {v : V} {σ : L2.St} {P P' : V → Hp → Prop} (h : ∀ x H, P x H → P' x H) (q : tOp (oIx K) (cVar i) (tC v) σ H P) : tOp (oIx K) (cVar i) (tC v) σ H P' := by
  simp only [tOp, tC] at q ⊢
  exact mono_var (fun x H1 q1 => oIx_mono h q1) q
theorem mono_ixCC {i : Nat} {v w : V} {σ : L2.St} {P P' : V → Hp → Prop} (h : ∀ x H, P x H → P' x H) (q : tOp (oIx K) (tOp (oIx K) (cVar i) (tC v)) (tC w) σ H P) : tOp (oIx K) (tOp (oIx K) (cVar i) (tC v)) (tC w) σ H P' := by
  simp only [tOp, tC] at q ⊢
  exact mono_var (fun x H1 q1 => oIx_mono (fun y H2 q2 => oIx_mono h q2) q1) q
theorem mono_attr {c : List Addr} {f : Str} {i : Nat} {σ : L2.St} {P P' : V → Hp → Prop} (h : ∀ x H, P x H → P' x H) (q : cAttr c f (cVar i) σ H P) : cAttr c f (cVar i) σ H P' := by
  unfold cAttr at q ⊢
  refine mono_var (fun x H1 q1 => ?_) q
  split at q1
  · rename_i a C fs e
    obtain ⟨hc, q1⟩ := q1
    refine ⟨hc, ?_⟩
    split at q1
    · exact h _ _ q1
    · exact q1.elim
  · exact q1.elim
theorem two_ix {bl : Addr} {x y : V} {c : Int} (h : H bl = some (.lst [x, y])) (q : Q (if c % 2 = 1 then y else x) H) : oIx K (.ref bl) (.int (c % 2)) H Q := by
  have m2 := mod_b (a := c) (m := 2) (by decide)
  rcases (by omega : c % 2 = 0 ∨ c % 2 = 1) with e | e
  · rw [e] at q ⊢
    rw [ix_lst (look_of_lst h) (v := x) rfl]
    simpa using q
  · rw [e] at q ⊢
    rw [ix_lst (look_of_lst h) (v := y) rfl]
    simpa using q
/-! ## frames -/
/-- all that is tracked stays, but what stands at the addresses of l -/
def Fr (l : List Addr) (H H' : Hp) : Prop := ∀ a o, a ∉ l → H a = some o → H' a = some o
theorem Fr.refl {l : List Addr} : Fr l H H := fun _ _ _ e => e
theorem Fr.ex {l : List Addr} (x : Ex H H') : Fr l H H' := fun a o _ e => x a o e
theorem Fr.to_ex (x : Fr [] H H') : Ex H H' := fun a o e => x a o (by simp) e
theorem Fr.trans {l : List Addr} (x : Fr l H H1) (z : Fr l H1 H') : Fr l H H' := fun a o n e => z a o n (x a o n e)
theorem Fr.mono {l m : List Addr} (x : Fr l H H') (h : ∀ a ∈ l, a ∈ m) : Fr m H H' := fun a o n e => x a o (fun z => n (h a z)) e
theorem Fr.put {l : List Addr} {a : Addr} {o : HO} (x : Fr l H H1) (h : a ∈ l) : Fr l H (upd H1 a o) := fun b u n e => by
  rw [upd_ne (fun z => n (by rw [z]; exact h))]; exact x b u n e
theorem Fr.new {l : List Addr} {a : Addr} {o : HO} (x : Fr l H H1) (h : H1 a = none) : Fr l H (upd H1 a o) := fun b u n e => by
  rw [upd_ne (fun z => by rw [z] at e; have := x a u (fun m => n (by rw [z]; exact m)) e; rw [h] at this; cases this)]; exact x b u n e
end
end WR

set_option Elab.async false
set_option linter.all false
set_option maxRecDepth 100000
set_option maxHeartbeats 4000000
/-! the digit boxes of the laws -/
namespace WR
open PySem PySem.Spec PyProof.Rows L2
section
variable {K : PySem.W.Frag} {H H1 H' : Hp} {Q : VK} {E : XK}
def takeR (K : PySem.W.Frag) (k1 s1 e1 m1 d1 k2 s2 e2 m2 d2 k3 d3 : Int) : TS :=
  (tSeq (tIfS (cTest (tOp (oGtK K) (tOp (oIx K) (cVar 0) (tC (.int 0))) (tC (.int 0))))
  (tSeq (tAsg (tOp oMod (tOp (oIx K) (cVar 0) (tC (.int 0))) (cVar 1)) (gName 4))
  (tSeq (tAsg (tOp oFdiv (tOp (oIx K) (cVar 0) (tC (.int 0))) (cVar 1)) (gSub (cVar 0) (tC (.int 0)) oSet))
  (tRet (cVar 4))))
  tNext)
  (tSeq (tAsg (tOp (oAdd K) (tOp (oIx K) (cVar 0) (tC (.int 2))) (tC (.int 1))) (gSub (cVar 0) (tC (.int 2)) oSet))
  (tSeq (tAsg (tOp oMod (tOp oPow (tOp (oAdd K) (tOp (oAdd K) (tOp (oIx K) (cVar 0) (tC (.int 1))) (tOp oMul (tC (.int k1)) (tOp (oIx K) (cVar 0) (tC (.int 2))))) (tC (.int s1))) (tC (.int e1))) (tC (.int m1))) (gName 2))
  (tSeq (tAsg (tOp oMod (tOp oPow (tOp (oAdd K) (tOp (oAdd K) (tOp oFdiv (cVar 2) (tC (.int d1))) (tOp oMul (tOp oMul (tC (.int k2)) (tOp (oIx K) (cVar 0) (tC (.int 2)))) (tOp (oIx K) (cVar 0) (tC (.int 2))))) (tC (.int s2))) (tC (.int e2))) (tC (.int m2))) (gName 3))
  (tRet (tOp oMod (tOp (oAdd K) (tOp oFdiv (cVar 2) (tC (.int d2))) (tOp oMul (tC (.int k3)) (tOp oFdiv (cVar 3) (tC (.int d3))))) (cVar 1)))))))
/-- a box that has given at most N drawn digits -/
def Bx (H : Hp) (b : Addr) (N : Nat) : Prop := ∃ a o c : Int, H b = some (.lst [.int a, .int o, .int c]) ∧ 0 ≤ a ∧ 0 ≤ o ∧ o < 2 ^ 31 ∧ 0 ≤ c ∧ c ≤ N
theorem Bx.mono {b : Addr} {N M : Nat} (h : Bx H b N) (l : N ≤ M) : Bx H b M := by
  obtain ⟨a, o, c, e, h1, h2, h3, h4, h5⟩ := h
  exact ⟨a, o, c, e, h1, h2, h3, h4, by omega⟩
theorem Bx.ex {b : Addr} {N : Nat} (x : Ex H H') (h : Bx H b N) : Bx H' b N := by
  obtain ⟨a, o, c, e, h1, h2, h3, h4, h5⟩ := h
  exact ⟨a, o, c, x _ _ e, h1, h2, h3, h4, h5⟩
theorem Bx.fr {b : Addr} {N : Nat} {l : List Addr} (x : Fr l H H') (n : b ∉ l) (h : Bx H b N) : Bx H' b N := by
  obtain ⟨a, o, c, e, h1, h2, h3, h4, h5⟩ := h
  exact ⟨a, o, c, x _ _ n e, h1, h2, h3, h4, h5⟩
theorem mul_lt {a b x y : Int} (h0 : 0 ≤ a) (h1 : a < x) (h2 : 0 ≤ b) (h3 : b < y) : 0 ≤ a * b ∧ a * b < x * y := by
  refine ⟨Int.mul_nonneg h0 h2, ?_⟩
  have e1 : a * b ≤ a * y := Int.mul_le_mul_of_nonneg_left (by omega) h0
  have e2 : a * y < x * y := Int.mul_lt_mul_of_pos_right h1 (by omega)
  omega
theorem take_ok {k1 s1 e1 m1 d1 k2 s2 e2 m2 d2 k3 d3 : Int} {b : Addr} {N : Nat} {many : Int} {D : Ends} (hx : Bx H b N) (hN : N < 100000) (h1 : 1 ≤ many) (h2 : many < 2 ^ 60)
    (c1 : 0 ≤ k1 ∧ k1 < 2 ^ 30) (c2 : 0 ≤ s1 ∧ s1 < 2 ^ 30) (c3 : 0 ≤ e1 ∧ e1 ≤ 10) (c4 : 0 < m1 ∧ m1 < 2 ^ 32) (c5 : 0 < d1 ∧ d1 < 2 ^ 32) (c6 : 0 ≤ k2 ∧ k2 < 2 ^ 28) (c7 : 0 ≤ s2 ∧ s2 < 2 ^ 30) (c8 : 0 ≤ e2 ∧ e2 ≤ 10)
    (c9 : 0 < m2 ∧ m2 < 2 ^ 32) (c10 : 0 < d2 ∧ d2 < 2 ^ 32) (c11 : 0 ≤ k3 ∧ k3 < 2 ^ 32) (c12 : 0 < d3 ∧ d3 < 2 ^ 32)
    (h : ∀ r H', 0 ≤ r → r < many → Bx H' b (N + 1) → Fr [b] H H' → D.rt (.int r) H') : takeR K k1 s1 e1 m1 d1 k2 s2 e2 m2 d2 k3 d3 D [some (.ref b), some (.int many), none, none, none] H := by
  obtain ⟨a, o, c, e, a0, o0, o1, n0, n1⟩ := hx
  unfold takeR
  refine seq_ fun N1 g1 => ifS_ fun A B hA hB => ?_
  simp only [cTest, tSeq, tIfS, tNext, tRet, tRetN, tDrop, tAsg, tC, cVar, tOp, tCB, tCons, tNil, tTup, tLst, tIf, tAnd, tOr, tNot, cTest, cTru, oTru, cAnd, cOr, cNot, cUn, cChain, gName, cTupG, gCons, gNil, gSub, oLt, oLe, oGt, oGe, oGtK, oGeK, oBor, oIs, oIsNot, oSub, oMul, oFdiv, oMod, oPow, cPar, cPar3, cAug, tDNewK, cCall, cAttr, frzE, List.mem_singleton, List.lookup_cons_self, List.getElem?_cons_zero, List.getElem?_cons_succ, List.set_cons_zero, List.set_cons_succ, Option.some.injEq, reduceCtorEq, if_true, if_false, Bool.true_eq_false, Bool.false_eq_true, decide_eq_true_eq, ite_true, ite_false, ↓reduceIte, List.length_cons, List.length_nil, true_and, and_true, exists_eq_left', exists_eq_left, List.cons.injEq]
  rw [ix_lst (look_of_lst e) (v := .int a) rfl]
  try simp only [tSeq, tIfS, tNext, tRet, tRetN, tDrop, tAsg, tC, cVar, tOp, tCB, tCons, tNil, tTup, tLst, tIf, tAnd, tOr, tNot, cTest, cTru, oTru, cAnd, cOr, cNot, cUn, cChain, gName, cTupG, gCons, gNil, gSub, oLt, oLe, oGt, oGe, oGtK, oGeK, oBor, oIs, oIsNot, oSub, oMul, oFdiv, oMod, oPow, cPar, cPar3, cAug, tDNewK, cCall, cAttr, frzE, List.mem_singleton, List.lookup_cons_self, List.getElem?_cons_zero, List.getElem?_cons_succ, List.set_cons_zero, List.set_cons_succ, Option.some.injEq, reduceCtorEq, if_true, if_false, Bool.true_eq_false, Bool.false_eq_true, decide_eq_true_eq, ite_true, ite_false, ↓reduceIte, List.length_cons, List.length_nil, true_and, and_true, exists_eq_left', exists_eq_left, List.cons.injEq]
  by_cases az : 0 < a
  · rw [if_pos az]
    refine hA _ (seq_ fun N2 g2 => ?_)
    try simp only [tSeq, tIfS, tNext, tRet, tRetN, tDrop, tAsg, tC, cVar, tOp, tCB, tCons, tNil, tTup, tLst, tIf, tAnd, tOr, tNot, cTest, cTru, oTru, cAnd, cOr, cNot, cUn, cChain, gName, cTupG, gCons, gNil, gSub, oLt, oLe, oGt, oGe, oGtK, oGeK, oBor, oIs, oIsNot, oSub, oMul, oFdiv, oMod, oPow, cPar, cPar3, cAug, tDNewK, cCall, cAttr, frzE, List.mem_singleton, List.lookup_cons_self, List.getElem?_cons_zero, List.getElem?_cons_succ, List.set_cons_zero, List.set_cons_succ, Option.some.injEq, reduceCtorEq, if_true, if_false, Bool.true_eq_false, Bool.false_eq_true, decide_eq_true_eq, ite_true, ite_false, ↓reduceIte, List.length_cons, List.length_nil, true_and, and_true, exists_eq_left', exists_eq_left, List.cons.injEq]
    rw [ix_lst (look_of_lst e) (v := .int a) rfl]
    try simp only [tSeq, tIfS, tNext, tRet, tRetN, tDrop, tAsg, tC, cVar, tOp, tCB, tCons, tNil, tTup, tLst, tIf, tAnd, tOr, tNot, cTest, cTru, oTru, cAnd, cOr, cNot, cUn, cChain, gName, cTupG, gCons, gNil, gSub, oLt, oLe, oGt, oGe, oGtK, oGeK, oBor, oIs, oIsNot, oSub, oMul, oFdiv, oMod, oPow, cPar, cPar3, cAug, tDNewK, cCall, cAttr, frzE, List.mem_singleton, List.lookup_cons_self, List.getElem?_cons_zero, List.getElem?_cons_succ, List.set_cons_zero, List.set_cons_succ, Option.some.injEq, reduceCtorEq, if_true, if_false, Bool.true_eq_false, Bool.false_eq_true, decide_eq_true_eq, ite_true, ite_false, ↓reduceIte, List.length_cons, List.length_nil, true_and, and_true, exists_eq_left', exists_eq_left, List.cons.injEq]
    refine ⟨by omega, g2 _ _ (seq_ fun N3 g3 => ?_)⟩
    try simp only [tSeq, tIfS, tNext, tRet, tRetN, tDrop, tAsg, tC, cVar, tOp, tCB, tCons, tNil, tTup, tLst, tIf, tAnd, tOr, tNot, cTest, cTru, oTru, cAnd, cOr, cNot, cUn, cChain, gName, cTupG, gCons, gNil, gSub, oLt, oLe, oGt, oGe, oGtK, oGeK, oBor, oIs, oIsNot, oSub, oMul, oFdiv, oMod, oPow, cPar, cPar3, cAug, tDNewK, cCall, cAttr, frzE, List.mem_singleton, List.lookup_cons_self, List.getElem?_cons_zero, List.getElem?_cons_succ, List.set_cons_zero, List.set_cons_succ, Option.some.injEq, reduceCtorEq, if_true, if_false, Bool.true_eq_false, Bool.false_eq_true, decide_eq_true_eq, ite_true, ite_false, ↓reduceIte, List.length_cons, List.length_nil, true_and, and_true, exists_eq_left', exists_eq_left, List.cons.injEq]
    rw [ix_lst (look_of_lst e) (v := .int a) rfl]
    try simp only [tSeq, tIfS, tNext, tRet, tRetN, tDrop, tAsg, tC, cVar, tOp, tCB, tCons, tNil, tTup, tLst, tIf, tAnd, tOr, tNot, cTest, cTru, oTru, cAnd, cOr, cNot, cUn, cChain, gName, cTupG, gCons, gNil, gSub, oLt, oLe, oGt, oGe, oGtK, oGeK, oBor, oIs, oIsNot, oSub, oMul, oFdiv, oMod, oPow, cPar, cPar3, cAug, tDNewK, cCall, cAttr, frzE, List.mem_singleton, List.lookup_cons_self, List.getElem?_cons_zero, List.getElem?_cons_succ, List.set_cons_zero, List.set_cons_succ, Option.some.injEq, reduceCtorEq, if_true, if_false, Bool.true_eq_false, Bool.false_eq_true, decide_eq_true_eq, ite_true, ite_false, ↓reduceIte, List.length_cons, List.length_nil, true_and, and_true, exists_eq_left', exists_eq_left, List.cons.injEq]
    refine ⟨cdiv_of (by omega) (by omega), ?_⟩
    simp only [oSet, e, List.length_cons, List.length_nil]
    rw [show ixN (0 + 1 + 1 + 1) 0 = some 0 from rfl]
    refine g3 _ _ ?_
    try simp only [tSeq, tIfS, tNext, tRet, tRetN, tDrop, tAsg, tC, cVar, tOp, tCB, tCons, tNil, tTup, tLst, tIf, tAnd, tOr, tNot, cTest, cTru, oTru, cAnd, cOr, cNot, cUn, cChain, gName, cTupG, gCons, gNil, gSub, oLt, oLe, oGt, oGe, oGtK, oGeK, oBor, oIs, oIsNot, oSub, oMul, oFdiv, oMod, oPow, cPar, cPar3, cAug, tDNewK, cCall, cAttr, frzE, List.mem_singleton, List.lookup_cons_self, List.getElem?_cons_zero, List.getElem?_cons_succ, List.set_cons_zero, List.set_cons_succ, Option.some.injEq, reduceCtorEq, if_true, if_false, Bool.true_eq_false, Bool.false_eq_true, decide_eq_true_eq, ite_true, ite_false, ↓reduceIte, List.length_cons, List.length_nil, true_and, and_true, exists_eq_left', exists_eq_left, List.cons.injEq]
    have mb := mod_b (a := a) (m := many) (by omega)
    refine h _ _ mb.1 mb.2 ⟨a / many, o, c, by rw [upd_same]; try rfl, Int.ediv_nonneg a0 (by omega), o0, o1, n0, by omega⟩ (Fr.refl.put (by simp))
  · rw [if_neg az]
    refine hB _ (g1 _ _ (seq_ fun N2 g2 => ?_))
    try simp only [tSeq, tIfS, tNext, tRet, tRetN, tDrop, tAsg, tC, cVar, tOp, tCB, tCons, tNil, tTup, tLst, tIf, tAnd, tOr, tNot, cTest, cTru, oTru, cAnd, cOr, cNot, cUn, cChain, gName, cTupG, gCons, gNil, gSub, oLt, oLe, oGt, oGe, oGtK, oGeK, oBor, oIs, oIsNot, oSub, oMul, oFdiv, oMod, oPow, cPar, cPar3, cAug, tDNewK, cCall, cAttr, frzE, List.mem_singleton, List.lookup_cons_self, List.getElem?_cons_zero, List.getElem?_cons_succ, List.set_cons_zero, List.set_cons_succ, Option.some.injEq, reduceCtorEq, if_true, if_false, Bool.true_eq_false, Bool.false_eq_true, decide_eq_true_eq, ite_true, ite_false, ↓reduceIte, List.length_cons, List.length_nil, true_and, and_true, exists_eq_left', exists_eq_left, List.cons.injEq]
    rw [ix_lst (look_of_lst e) (v := .int c) rfl]
    simp only [oAdd, oSet, e, tSeq, tIfS, tNext, tRet, tRetN, tDrop, tAsg, tC, cVar, tOp, tCB, tCons, tNil, tTup, tLst, tIf, tAnd, tOr, tNot, cTest, cTru, oTru, cAnd, cOr, cNot, cUn, cChain, gName, cTupG, gCons, gNil, gSub, oLt, oLe, oGt, oGe, oGtK, oGeK, oBor, oIs, oIsNot, oSub, oMul, oFdiv, oMod, oPow, cPar, cPar3, cAug, tDNewK, cCall, cAttr, frzE, List.mem_singleton, List.lookup_cons_self, List.getElem?_cons_zero, List.getElem?_cons_succ, List.set_cons_zero, List.set_cons_succ, Option.some.injEq, reduceCtorEq, if_true, if_false, Bool.true_eq_false, Bool.false_eq_true, decide_eq_true_eq, ite_true, ite_false, ↓reduceIte, List.length_cons, List.length_nil, true_and, and_true, exists_eq_left', exists_eq_left, List.cons.injEq]
    rw [show ixN (0 + 1 + 1 + 1) 2 = some 2 from rfl]
    refine g2 _ _ (seq_ fun N3 g3 => ?_)
    have ee : (upd H b (.lst ([V.int a, V.int o, V.int c].set 2 (.int (c + 1))))) b = some (.lst [.int a, .int o, .int (c + 1)]) := by rw [upd_same]; try rfl
    have fr : Fr [b] H (upd H b (.lst ([V.int a, V.int o, V.int c].set 2 (.int (c + 1))))) := Fr.refl.put (by simp)
    generalize upd H b (.lst ([V.int a, V.int o, V.int c].set 2 (.int (c + 1)))) = H2 at ee fr ⊢
    obtain ⟨C, hC⟩ : ∃ C, C = c + 1 := ⟨_, rfl⟩
    rw [← hC] at ee
    have q1 := mul_lt (a := k1) (b := C) (x := 2 ^ 30) (y := 2 ^ 17) (by omega) (by omega) (by omega) (by omega)
    have q2 := mul_lt (a := k2) (b := C) (x := 2 ^ 28) (y := 2 ^ 17) (by omega) (by omega) (by omega) (by omega)
    have q3 := mul_lt (a := k2 * C) (b := C) (x := 2 ^ 28 * 2 ^ 17) (y := 2 ^ 17) (by omega) (by omega) (by omega) (by omega)
    try simp only [tSeq, tIfS, tNext, tRet, tRetN, tDrop, tAsg, tC, cVar, tOp, tCB, tCons, tNil, tTup, tLst, tIf, tAnd, tOr, tNot, cTest, cTru, oTru, cAnd, cOr, cNot, cUn, cChain, gName, cTupG, gCons, gNil, gSub, oLt, oLe, oGt, oGe, oGtK, oGeK, oBor, oIs, oIsNot, oSub, oMul, oFdiv, oMod, oPow, cPar, cPar3, cAug, tDNewK, cCall, cAttr, frzE, List.mem_singleton, List.lookup_cons_self, List.getElem?_cons_zero, List.getElem?_cons_succ, List.set_cons_zero, List.set_cons_succ, Option.some.injEq, reduceCtorEq, if_true, if_false, Bool.true_eq_false, Bool.false_eq_true, decide_eq_true_eq, ite_true, ite_false, ↓reduceIte, List.length_cons, List.length_nil, true_and, and_true, exists_eq_left', exists_eq_left, List.cons.injEq]
    rw [ix_lst (look_of_lst ee) (v := .int o) rfl]
    try simp only [tSeq, tIfS, tNext, tRet, tRetN, tDrop, tAsg, tC, cVar, tOp, tCB, tCons, tNil, tTup, tLst, tIf, tAnd, tOr, tNot, cTest, cTru, oTru, cAnd, cOr, cNot, cUn, cChain, gName, cTupG, gCons, gNil, gSub, oLt, oLe, oGt, oGe, oGtK, oGeK, oBor, oIs, oIsNot, oSub, oMul, oFdiv, oMod, oPow, cPar, cPar3, cAug, tDNewK, cCall, cAttr, frzE, List.mem_singleton, List.lookup_cons_self, List.getElem?_cons_zero, List.getElem?_cons_succ, List.set_cons_zero, List.set_cons_succ, Option.some.injEq, reduceCtorEq, if_true, if_false, Bool.true_eq_false, Bool.false_eq_true, decide_eq_true_eq, ite_true, ite_false, ↓reduceIte, List.length_cons, List.length_nil, true_and, and_true, exists_eq_left', exists_eq_left, List.cons.injEq]
    rw [ix_lst (look_of_lst ee) (v := .int C) rfl]
    simp only [oAdd, tSeq, tIfS, tNext, tRet, tRetN, tDrop, tAsg, tC, cVar, tOp, tCB, tCons, tNil, tTup, tLst, tIf, tAnd, tOr, tNot, cTest, cTru, oTru, cAnd, cOr, cNot, cUn, cChain, gName, cTupG, gCons, gNil, gSub, oLt, oLe, oGt, oGe, oGtK, oGeK, oBor, oIs, oIsNot, oSub, oMul, oFdiv, oMod, oPow, cPar, cPar3, cAug, tDNewK, cCall, cAttr, frzE, List.mem_singleton, List.lookup_cons_self, List.getElem?_cons_zero, List.getElem?_cons_succ, List.set_cons_zero, List.set_cons_succ, Option.some.injEq, reduceCtorEq, if_true, if_false, Bool.true_eq_false, Bool.false_eq_true, decide_eq_true_eq, ite_true, ite_false, ↓reduceIte, List.length_cons, List.length_nil, true_and, and_true, exists_eq_left', exists_eq_left, List.cons.injEq]
    refine ⟨cmul_of (by omega) (by omega), ⟨by omega, by omega, by omega⟩, by omega, g3 _ _ (seq_ fun N4 g4 => ?_)⟩
    have mb := mod_b (a := (o + k1 * C + s1) ^ e1.toNat) (m := m1) (by omega)
    generalize (o + k1 * C + s1) ^ e1.toNat % m1 = one at mb ⊢
    try simp only [tSeq, tIfS, tNext, tRet, tRetN, tDrop, tAsg, tC, cVar, tOp, tCB, tCons, tNil, tTup, tLst, tIf, tAnd, tOr, tNot, cTest, cTru, oTru, cAnd, cOr, cNot, cUn, cChain, gName, cTupG, gCons, gNil, gSub, oLt, oLe, oGt, oGe, oGtK, oGeK, oBor, oIs, oIsNot, oSub, oMul, oFdiv, oMod, oPow, cPar, cPar3, cAug, tDNewK, cCall, cAttr, frzE, List.mem_singleton, List.lookup_cons_self, List.getElem?_cons_zero, List.getElem?_cons_succ, List.set_cons_zero, List.set_cons_succ, Option.some.injEq, reduceCtorEq, if_true, if_false, Bool.true_eq_false, Bool.false_eq_true, decide_eq_true_eq, ite_true, ite_false, ↓reduceIte, List.length_cons, List.length_nil, true_and, and_true, exists_eq_left', exists_eq_left, List.cons.injEq]
    have dv : 0 ≤ one / d1 ∧ one / d1 ≤ one := ⟨Int.ediv_nonneg mb.1 (by omega), Int.ediv_le_self _ mb.1⟩
    refine ⟨cdiv_of (by omega) (by omega), ?_⟩
    rw [ix_lst (look_of_lst ee) (v := .int C) rfl]
    try simp only [tSeq, tIfS, tNext, tRet, tRetN, tDrop, tAsg, tC, cVar, tOp, tCB, tCons, tNil, tTup, tLst, tIf, tAnd, tOr, tNot, cTest, cTru, oTru, cAnd, cOr, cNot, cUn, cChain, gName, cTupG, gCons, gNil, gSub, oLt, oLe, oGt, oGe, oGtK, oGeK, oBor, oIs, oIsNot, oSub, oMul, oFdiv, oMod, oPow, cPar, cPar3, cAug, tDNewK, cCall, cAttr, frzE, List.mem_singleton, List.lookup_cons_self, List.getElem?_cons_zero, List.getElem?_cons_succ, List.set_cons_zero, List.set_cons_succ, Option.some.injEq, reduceCtorEq, if_true, if_false, Bool.true_eq_false, Bool.false_eq_true, decide_eq_true_eq, ite_true, ite_false, ↓reduceIte, List.length_cons, List.length_nil, true_and, and_true, exists_eq_left', exists_eq_left, List.cons.injEq]
    refine ⟨cmul_of (by omega) (by omega), ?_⟩
    rw [ix_lst (look_of_lst ee) (v := .int C) rfl]
    simp only [oAdd, tSeq, tIfS, tNext, tRet, tRetN, tDrop, tAsg, tC, cVar, tOp, tCB, tCons, tNil, tTup, tLst, tIf, tAnd, tOr, tNot, cTest, cTru, oTru, cAnd, cOr, cNot, cUn, cChain, gName, cTupG, gCons, gNil, gSub, oLt, oLe, oGt, oGe, oGtK, oGeK, oBor, oIs, oIsNot, oSub, oMul, oFdiv, oMod, oPow, cPar, cPar3, cAug, tDNewK, cCall, cAttr, frzE, List.mem_singleton, List.lookup_cons_self, List.getElem?_cons_zero, List.getElem?_cons_succ, List.set_cons_zero, List.set_cons_succ, Option.some.injEq, reduceCtorEq, if_true, if_false, Bool.true_eq_false, Bool.false_eq_true, decide_eq_true_eq, ite_true, ite_false, ↓reduceIte, List.length_cons, List.length_nil, true_and, and_true, exists_eq_left', exists_eq_left, List.cons.injEq]
    refine ⟨cmul_of (by omega) (by omega), ⟨by omega, by omega, by omega⟩, by omega, g4 _ _ ?_⟩
    have mb2 := mod_b (a := (one / d1 + k2 * C * C + s2) ^ e2.toNat) (m := m2) (by omega)
    generalize (one / d1 + k2 * C * C + s2) ^ e2.toNat % m2 = oth at mb2 ⊢
    simp only [oAdd, tSeq, tIfS, tNext, tRet, tRetN, tDrop, tAsg, tC, cVar, tOp, tCB, tCons, tNil, tTup, tLst, tIf, tAnd, tOr, tNot, cTest, cTru, oTru, cAnd, cOr, cNot, cUn, cChain, gName, cTupG, gCons, gNil, gSub, oLt, oLe, oGt, oGe, oGtK, oGeK, oBor, oIs, oIsNot, oSub, oMul, oFdiv, oMod, oPow, cPar, cPar3, cAug, tDNewK, cCall, cAttr, frzE, List.mem_singleton, List.lookup_cons_self, List.getElem?_cons_zero, List.getElem?_cons_succ, List.set_cons_zero, List.set_cons_succ, Option.some.injEq, reduceCtorEq, if_true, if_false, Bool.true_eq_false, Bool.false_eq_true, decide_eq_true_eq, ite_true, ite_false, ↓reduceIte, List.length_cons, List.length_nil, true_and, and_true, exists_eq_left', exists_eq_left, List.cons.injEq]
    have dv2 : 0 ≤ oth / d3 ∧ oth / d3 ≤ oth := ⟨Int.ediv_nonneg mb2.1 (by omega), Int.ediv_le_self _ mb2.1⟩
    refine ⟨cdiv_of (by omega) (by omega), cdiv_of (by omega) (by omega), cmul_of (by omega) (by omega), by omega, ?_⟩
    have mb3 := mod_b (a := one / d2 + k3 * (oth / d3)) (m := many) (by omega)
    exact h _ _ mb3.1 mb3.2 ⟨a, o, C, ee, a0, o0, o1, by omega, by omega⟩ fr
def cellR (K : PySem.W.Frag) (g : G) (k s : Int) : TS :=
  (tSeq (tIfS (cTest (tOp oLt (cVar 1) (tCB (bLenG g) (tCons (cVar 0) tNil))))
  (tRet (tOp (oIx K) (cVar 0) (cVar 1)))
  tNext)
  (tRet (tOp (oAdd K) (tOp oMul (tC (.int k)) (cVar 1)) (tC (.int s)))))
theorem cell_ok {g : G} {k s : Int} {a : Addr} {ns : List Int} {j : Nat} {D : Ends} (hg : g.K = K) (hl : look K H a = some (.lst (ns.map V.int))) (hk : 0 ≤ k ∧ k < 2 ^ 32) (hj : j < 2 ^ 32) (h : ∀ c, D.rt (.int c) H) :
    cellR K g k s D [some (.ref a), some (.int j)] H := by
  unfold cellR
  refine seq_ fun N1 g1 => ifS_ fun A B hA hB => ?_
  try simp only [tSeq, tIfS, tNext, tRet, tRetN, tDrop, tAsg, tC, cVar, tOp, tCB, tCons, tNil, tTup, tLst, tIf, tAnd, tOr, tNot, cTest, cTru, oTru, cAnd, cOr, cNot, cUn, cChain, gName, cTupG, gCons, gNil, gSub, oLt, oLe, oGt, oGe, oGtK, oGeK, oBor, oIs, oIsNot, oSub, oMul, oFdiv, oMod, oPow, cPar, cPar3, cAug, tDNewK, cCall, cAttr, frzE, List.mem_singleton, List.lookup_cons_self, List.getElem?_cons_zero, List.getElem?_cons_succ, List.set_cons_zero, List.set_cons_succ, Option.some.injEq, reduceCtorEq, if_true, if_false, Bool.true_eq_false, Bool.false_eq_true, decide_eq_true_eq, ite_true, ite_false, ↓reduceIte, List.length_cons, List.length_nil, true_and, and_true, exists_eq_left', exists_eq_left, List.cons.injEq]
  rw [len_lst hg hl]
  simp only [tSeq, tIfS, tNext, tRet, tRetN, tDrop, tAsg, tC, cVar, tOp, tCB, tCons, tNil, tTup, tLst, tIf, tAnd, tOr, tNot, cTest, cTru, oTru, cAnd, cOr, cNot, cUn, cChain, gName, cTupG, gCons, gNil, gSub, oLt, oLe, oGt, oGe, oGtK, oGeK, oBor, oIs, oIsNot, oSub, oMul, oFdiv, oMod, oPow, cPar, cPar3, cAug, tDNewK, cCall, cAttr, frzE, List.mem_singleton, List.lookup_cons_self, List.getElem?_cons_zero, List.getElem?_cons_succ, List.set_cons_zero, List.set_cons_succ, Option.some.injEq, reduceCtorEq, if_true, if_false, Bool.true_eq_false, Bool.false_eq_true, decide_eq_true_eq, ite_true, ite_false, ↓reduceIte, List.length_cons, List.length_nil, true_and, and_true, exists_eq_left', exists_eq_left, List.cons.injEq, List.length_map]
  by_cases c : j < ns.length
  · rw [if_pos (by exact_mod_cast c)]
    refine hA _ ?_
    simp only [tSeq, tIfS, tNext, tRet, tRetN, tDrop, tAsg, tC, cVar, tOp, tCB, tCons, tNil, tTup, tLst, tIf, tAnd, tOr, tNot, cTest, cTru, oTru, cAnd, cOr, cNot, cUn, cChain, gName, cTupG, gCons, gNil, gSub, oLt, oLe, oGt, oGe, oGtK, oGeK, oBor, oIs, oIsNot, oSub, oMul, oFdiv, oMod, oPow, cPar, cPar3, cAug, tDNewK, cCall, cAttr, frzE, List.mem_singleton, List.lookup_cons_self, List.getElem?_cons_zero, List.getElem?_cons_succ, List.set_cons_zero, List.set_cons_succ, Option.some.injEq, reduceCtorEq, if_true, if_false, Bool.true_eq_false, Bool.false_eq_true, decide_eq_true_eq, ite_true, ite_false, ↓reduceIte, List.length_cons, List.length_nil, true_and, and_true, exists_eq_left', exists_eq_left, List.cons.injEq]
    rw [ix_lst hl (v := .int (ns.getD j 0)) (by rw [atI_nat]; simp [c])]
    exact h _
  · rw [if_neg (by exact_mod_cast c)]
    refine hB _ (g1 _ _ ?_)
    simp only [oAdd, tSeq, tIfS, tNext, tRet, tRetN, tDrop, tAsg, tC, cVar, tOp, tCB, tCons, tNil, tTup, tLst, tIf, tAnd, tOr, tNot, cTest, cTru, oTru, cAnd, cOr, cNot, cUn, cChain, gName, cTupG, gCons, gNil, gSub, oLt, oLe, oGt, oGe, oGtK, oGeK, oBor, oIs, oIsNot, oSub, oMul, oFdiv, oMod, oPow, cPar, cPar3, cAug, tDNewK, cCall, cAttr, frzE, List.mem_singleton, List.lookup_cons_self, List.getElem?_cons_zero, List.getElem?_cons_succ, List.set_cons_zero, List.set_cons_succ, Option.some.injEq, reduceCtorEq, if_true, if_false, Bool.true_eq_false, Bool.false_eq_true, decide_eq_true_eq, ite_true, ite_false, ↓reduceIte, List.length_cons, List.length_nil, true_and, and_true, exists_eq_left', exists_eq_left, List.cons.injEq]
    exact ⟨cmul_of (by omega) (by omega), h _⟩
def boxR (M : Int) : TS :=
  (tRet (tLst (tCons (tCB (bMax) (tCons (tC (.int 0)) (tCons (tOp oSub (cVar 0) (tOp oPow (tC (.int 10)) (tC (.int 18)))) tNil))) (tCons (tOp oMod (cVar 0) (tC (.int M))) (tCons (tC (.int 0)) tNil)))))
theorem box_ok {M c : Int} {D : Ends} (hM : 0 < M ∧ M < 2 ^ 31) (h : ∀ b H', H b = none → Ex H H' → Bx H' b 0 → D.rt (.ref b) H') : boxR M D [some (.int c)] H := by
  unfold boxR
  simp only [bMax, tSeq, tIfS, tNext, tRet, tRetN, tDrop, tAsg, tC, cVar, tOp, tCB, tCons, tNil, tTup, tLst, tIf, tAnd, tOr, tNot, cTest, cTru, oTru, cAnd, cOr, cNot, cUn, cChain, gName, cTupG, gCons, gNil, gSub, oLt, oLe, oGt, oGe, oGtK, oGeK, oBor, oIs, oIsNot, oSub, oMul, oFdiv, oMod, oPow, cPar, cPar3, cAug, tDNewK, cCall, cAttr, frzE, List.mem_singleton, List.lookup_cons_self, List.getElem?_cons_zero, List.getElem?_cons_succ, List.set_cons_zero, List.set_cons_succ, Option.some.injEq, reduceCtorEq, if_true, if_false, Bool.true_eq_false, Bool.false_eq_true, decide_eq_true_eq, ite_true, ite_false, ↓reduceIte, List.length_cons, List.length_nil, true_and, and_true, exists_eq_left', exists_eq_left, List.cons.injEq]
  have mb := mod_b (a := c) (m := M) (by omega)
  refine ⟨⟨by omega, by omega, by omega⟩, by omega, by simp only [sizeLine_eq]; omega, fun b hb => h b _ hb (Ex.refl.new hb) ⟨_, _, _, upd_same, ?_, mb.1, by omega, by omega, by omega⟩⟩
  split <;> omega
theorem in_dI {a : Addr} {kvs : List (Key × V)} {i : Int} {b : Bool} (h : H a = some (.dK kvs)) : oIn K b (.int i) (.ref a) H Q = Q (.bl (b ^^ (valV kvs (.inl i)).isSome)) H := in_dK (k := .inl i) (.inl h)
theorem ix_dI {a : Addr} {kvs : List (Key × V)} {i : Int} {v : V} (h : H a = some (.dK kvs)) (e : valV kvs (.inl i) = some v) : oIx K (.ref a) (.int i) H Q = Q v H := ix_dK (k := .inl i) (.inl h) e.symm
theorem set_dI {a : Addr} {kvs : List (Key × V)} {i : Int} {v : V} {R : Hp → Prop} (h : H a = some (.dK kvs)) (hl : kvs.length < 1000) (q : R (upd H a (.dK (putK kvs (.inl i) v)))) : oSet (.ref a) (.int i) v H R := by
  simp only [oSet, h, keyOf]
  exact ⟨by simp only [sizeLine_eq]; omega, q⟩
theorem lk2 {f g m : Str} {v w : V} (h : (m == f) = false) (h2 : (m == g) = false) : List.lookup m [(f, v), (g, w)] = none := by
  simp [List.lookup, h, h2]
end
end WR

set_option Elab.async false
set_option linter.all false
set_option maxRecDepth 100000
set_option maxHeartbeats 4000000
/-! dicts from names to tuples; what is told in order -/
namespace WR
open PySem PySem.Spec PyProof.Rows L2
section
variable {α : Type} {enc : α → List V}
abbrev RwG (α : Type) := List (Str × α)
def gget (rs : RwG α) (n : Str) : Option α := (rs.find? fun r => decide (r.1 = n)).map (·.2)
def gput (rs : RwG α) (n : Str) (p : α) : RwG α := if (rs.any fun r => decide (r.1 = n)) = true then rs.map (fun r => if r.1 = n then (r.1, p) else r) else rs ++ [(n, p)]
/-- the dict's pairs, each value a tuple -/
def RG (enc : α → List V) (H : Hp) : List (Key × V) → RwG α → Prop
  | [], [] => True
  | (k, v) :: kvs, (n, c) :: rs => k = .inr n ∧ (∃ t, v = .ref t ∧ H t = some (.tup (enc c))) ∧ RG enc H kvs rs
  | _, _ => False
theorem RG.tp {H H' : Hp} (x : Tp H H') : ∀ {kvs : List (Key × V)} {rs : RwG α}, RG enc H kvs rs → RG enc H' kvs rs
  | [], [], _ => trivial
  | [], _ :: _, h => h.elim
  | _ :: _, [], h => h.elim
  | (k, v) :: kvs, (n, c) :: rs, h => ⟨h.1, by obtain ⟨t, e, q⟩ := h.2.1; exact ⟨t, e, x _ _ q⟩, RG.tp x h.2.2⟩
theorem RG.len {H : Hp} : ∀ {kvs : List (Key × V)} {rs : RwG α}, RG enc H kvs rs → kvs.length = rs.length
  | [], [], _ => rfl
  | [], _ :: _, h => h.elim
  | _ :: _, [], h => h.elim
  | (k, v) :: kvs, (n, c) :: rs, h => congrArg Nat.succ (RG.len h.2.2)
theorem RG.keys {H : Hp} : ∀ {kvs : List (Key × V)} {rs : RwG α}, RG enc H kvs rs → keysS kvs = some (rs.map (·.1))
  | [], [], _ => rfl
  | [], _ :: _, h => h.elim
  | _ :: _, [], h => h.elim
  | (k, v) :: kvs, (n, c) :: rs, h => by
    obtain ⟨rfl, _, r⟩ := h
    simp only [keysS, RG.keys r, List.map_cons, Option.map_some]
theorem RG.kmap {H : Hp} : ∀ {kvs : List (Key × V)} {rs : RwG α}, RG enc H kvs rs → (kvs.map fun kv => kV kv.1) = rs.map fun r => V.str r.1
  | [], [], _ => rfl
  | [], _ :: _, h => h.elim
  | _ :: _, [], h => h.elim
  | (k, v) :: kvs, (n, c) :: rs, h => by
    obtain ⟨rfl, _, r⟩ := h
    rw [List.map_cons, List.map_cons, RG.kmap r]; rfl
theorem RG.any {H : Hp} (n : Str) : ∀ {kvs : List (Key × V)} {rs : RwG α}, RG enc H kvs rs → (kvs.any fun kv => decide (kv.1 = .inr n)) = (rs.any fun r => decide (r.1 = n))
  | [], [], _ => rfl
  | [], _ :: _, h => h.elim
  | _ :: _, [], h => h.elim
  | (k, v) :: kvs, (m, c) :: rs, h => by
    obtain ⟨rfl, _, r⟩ := h
    simp only [List.any_cons, RG.any n r, Sum.inr.injEq]
theorem RG.get {H : Hp} (n : Str) : ∀ {kvs : List (Key × V)} {rs : RwG α}, RG enc H kvs rs → (valV kvs (.inr n) = none ∧ gget rs n = none) ∨ ∃ t c, valV kvs (.inr n) = some (.ref t) ∧ gget rs n = some c ∧ H t = some (.tup (enc c))
  | [], [], _ => .inl ⟨rfl, rfl⟩
  | [], _ :: _, h => h.elim
  | _ :: _, [], h => h.elim
  | (k, v) :: kvs, (m, c) :: rs, h => by
    obtain ⟨rfl, ⟨t, rfl, e⟩, r⟩ := h
    by_cases hm : m = n
    · subst hm
      exact .inr ⟨t, c, valV_pos rfl, by simp [gget], e⟩
    · have h1 : ¬ ((Sum.inr m : Key) = Sum.inr n) := fun z => hm (Sum.inr.inj z)
      rcases RG.get n r with ⟨a, b⟩ | ⟨t', c', a, b, d⟩
      · exact .inl ⟨by rw [valV_neg h1]; exact a, by simp [gget, List.find?_cons, hm] at b ⊢; exact b⟩
      · exact .inr ⟨t', c', by rw [valV_neg h1]; exact a, by simp [gget, List.find?_cons, hm] at b ⊢; exact b, d⟩
theorem RG.some {H : Hp} {n : Str} {c : α} {kvs : List (Key × V)} {rs : RwG α} (h : RG enc H kvs rs) (e : gget rs n = some c) : ∃ t, valV kvs (.inr n) = Option.some (.ref t) ∧ H t = Option.some (.tup (enc c)) := by
  rcases h.get n with ⟨_, b⟩ | ⟨t, c', a, b, d⟩
  · rw [e] at b; cases b
  · rw [e] at b; cases b; exact ⟨t, a, d⟩
theorem RG.none {H : Hp} {n : Str} {kvs : List (Key × V)} {rs : RwG α} (h : RG enc H kvs rs) (e : gget rs n = Option.none) : valV kvs (.inr n) = Option.none := by
  rcases h.get n with ⟨a, _⟩ | ⟨t, c', a, b, d⟩
  · exact a
  · rw [e] at b; cases b
theorem RG.isSome {H : Hp} {n : Str} {kvs : List (Key × V)} {rs : RwG α} (h : RG enc H kvs rs) : (valV kvs (.inr n)).isSome = (gget rs n).isSome := by
  rcases h.get n with ⟨a, b⟩ | ⟨t, c', a, b, d⟩
  · rw [a, b]; rfl
  · rw [a, b]; rfl
theorem RG.app {H : Hp} {n : Str} {t : Addr} {c : α} (e : H t = Option.some (.tup (enc c))) : ∀ {kvs : List (Key × V)} {rs : RwG α}, RG enc H kvs rs → RG enc H (kvs ++ [(.inr n, .ref t)]) (rs ++ [(n, c)])
  | [], [], _ => ⟨rfl, ⟨t, rfl, e⟩, trivial⟩
  | [], _ :: _, h => h.elim
  | _ :: _, [], h => h.elim
  | (k, v) :: kvs, (m, c') :: rs, h => ⟨h.1, h.2.1, RG.app e h.2.2⟩
theorem RG.map {H : Hp} {n : Str} {t : Addr} {c : α} (e : H t = Option.some (.tup (enc c))) : ∀ {kvs : List (Key × V)} {rs : RwG α}, RG enc H kvs rs → RG enc H (kvs.map fun kv => if kv.1 = .inr n then (kv.1, V.ref t) else kv) (rs.map fun r => if r.1 = n then (r.1, c) else r)
  | [], [], _ => trivial
  | [], _ :: _, h => h.elim
  | _ :: _, [], h => h.elim
  | (k, v) :: kvs, (m, c') :: rs, h => by
    obtain ⟨rfl, q, r⟩ := h
    by_cases hm : m = n
    · simp only [List.map_cons, Sum.inr.injEq, hm, if_true]
      exact ⟨rfl, ⟨t, rfl, e⟩, RG.map e r⟩
    · simp only [List.map_cons, Sum.inr.injEq, hm, if_false]
      exact ⟨rfl, q, RG.map e r⟩
theorem RG.put {H : Hp} {n : Str} {t : Addr} {c : α} {kvs : List (Key × V)} {rs : RwG α} (e : H t = Option.some (.tup (enc c))) (h : RG enc H kvs rs) : RG enc H (putK kvs (.inr n) (.ref t)) (gput rs n c) := by
  unfold putK gput
  rw [RG.any n h]
  split
  · exact RG.map e h
  · exact RG.app e h
theorem gput_len (rs : RwG α) (n : Str) (p : α) : (gput rs n p).length ≤ rs.length + 1 := by
  unfold gput; split <;> simp
theorem gput_snoc {rs : RwG α} {s : Str} {p : α} (h : ∀ r ∈ rs, r.1 ≠ s) : gput rs s p = rs ++ [(s, p)] := by
  unfold gput
  rw [if_neg]
  simp only [List.any_eq_true, decide_eq_true_eq, not_exists, not_and]
  exact h
theorem gget_in {rs : RwG α} {s : Str} {p : α} (h : gget rs s = some p) : (s, p) ∈ rs := by
  unfold gget at h
  cases q : rs.find? fun r => decide (r.1 = s) with
  | none => rw [q] at h; cases h
  | some r =>
    rw [q] at h
    have h1 := List.mem_of_find?_eq_some q
    have h2 := List.find?_some q
    simp only [decide_eq_true_eq] at h2
    cases h
    rw [← h2]; exact h1
theorem gget_mem {rs : RwG α} {s : Str} (h : s ∈ rs.map (·.1)) : ∃ p, gget rs s = some p := by
  obtain ⟨r, hr, e⟩ := List.mem_map.mp h
  unfold gget
  cases q : rs.find? fun r => decide (r.1 = s) with
  | none =>
    have := List.find?_eq_none.mp q r hr
    simp [e] at this
  | some r' => exact ⟨r'.2, rfl⟩
theorem gget_no {rs : RwG α} {s : Str} (h : gget rs s = none) : s ∉ rs.map (·.1) := fun m => by
  obtain ⟨p, e⟩ := gget_mem m
  rw [h] at e; cases e
theorem gget_nd {rs : RwG α} {s : Str} {p : α} (nd : (rs.map (·.1)).Nodup) (h : (s, p) ∈ rs) : gget rs s = some p := by
  induction rs with
  | nil => cases h
  | cons r rs ih =>
    rw [List.map_cons, List.nodup_cons] at nd
    rcases List.mem_cons.mp h with rfl | h
    · simp [gget]
    · have : r.1 ≠ s := fun e => nd.1 (by rw [e]; exact List.mem_map_of_mem (f := (·.1)) h)
      have := ih nd.2 h
      simp [gget, List.find?_cons, *] at this ⊢
      exact this
theorem gput_get {rs : RwG α} {s n : Str} {p : α} : gget (gput rs s p) n = if n = s then some p else gget rs n := by
  by_cases h : (rs.any fun r => decide (r.1 = s)) = true
  · have e : gput rs s p = rs.map (fun r => if r.1 = s then (r.1, p) else r) := by unfold gput; rw [if_pos h]
    rw [e]
    have key : ∀ l : RwG α, gget (l.map (fun r => if r.1 = s then (r.1, p) else r)) n = if n = s then (if (l.any fun r => decide (r.1 = s)) = true then some p else none) else gget l n := by
      intro l
      induction l with
      | nil => by_cases z : n = s <;> simp [gget, z]
      | cons r l ih =>
        by_cases hr : r.1 = s
        · by_cases hn : n = s
          · simp [gget, List.find?_cons, hr, hn]
          · have h2 : ¬ s = n := fun z => hn z.symm
            simp only [gget, List.map_cons, hr, if_true, List.find?_cons, h2, decide_false, hn, if_false] at ih ⊢
            exact ih
        · by_cases hn : n = s
          · have h2 : ¬ r.1 = n := fun z => hr (by rw [z, hn])
            subst hn
            simp only [gget, List.map_cons, hr, if_false, List.find?_cons, decide_false, if_true, List.any_cons, Bool.false_or] at ih ⊢
            exact ih
          · simp only [gget, List.map_cons, hr, if_false, List.find?_cons, hn] at ih ⊢
            by_cases h3 : r.1 = n
            · simp [h3]
            · simp only [h3, decide_false]
              exact ih
    rw [key, h]
    simp
  · have e : gput rs s p = rs ++ [(s, p)] := by unfold gput; rw [if_neg h]
    rw [e]
    have no : ∀ r ∈ rs, r.1 ≠ s := by
      intro r hr z
      exact h (List.any_eq_true.mpr ⟨r, hr, by simpa using z⟩)
    unfold gget
    rw [List.find?_append]
    by_cases hn : n = s
    · subst hn
      rw [List.find?_eq_none.mpr (by intro r hr; simpa using no r hr)]
      simp
    · have h2 : ¬ s = n := fun z => hn z.symm
      simp [List.find?_cons, h2, hn]
theorem gput_keys {rs : RwG α} {s : Str} {p : α} : (gput rs s p).map (·.1) = if (rs.any fun r => decide (r.1 = s)) = true then rs.map (·.1) else rs.map (·.1) ++ [s] := by
  unfold gput
  split
  · rw [List.map_map]
    apply List.map_congr_left
    intro r _
    by_cases h : r.1 = s <;> simp [h]
  · simp
theorem gput_nd {rs : RwG α} {s : Str} {p : α} (nd : (rs.map (·.1)).Nodup) : ((gput rs s p).map (·.1)).Nodup := by
  rw [gput_keys]
  split
  · exact nd
  · rename_i h
    rw [List.nodup_append]
    refine ⟨nd, by simp, ?_⟩
    intro a ha b hb
    rw [List.mem_singleton] at hb
    rintro rfl
    subst hb
    obtain ⟨r, hr, e⟩ := List.mem_map.mp ha
    exact h (List.any_eq_true.mpr ⟨r, hr, by simpa using e⟩)
theorem gput_mem {rs : RwG α} {s : Str} {p : α} {r : Str × α} (h : r ∈ gput rs s p) : r ∈ rs ∨ r = (s, p) := by
  unfold gput at h
  split at h
  · obtain ⟨q, hq, rfl⟩ := List.mem_map.mp h
    by_cases e : q.1 = s
    · right; simp [e]
    · left; simpa [e] using hq
  · rcases List.mem_append.mp h with h | h
    · exact .inl h
    · right; simpa using h
/-- a dict of such rows at d -/
def GAt (enc : α → List V) (H : Hp) (d : Addr) (rs : RwG α) : Prop := ∃ kvs, H d = some (.dK kvs) ∧ RG enc H kvs rs
theorem GAt.ex {H H' : Hp} {d : Addr} {rs : RwG α} (x : Ex H H') (h : GAt enc H d rs) : GAt enc H' d rs := by
  obtain ⟨kvs, e, r⟩ := h
  exact ⟨kvs, x _ _ e, r.tp x.tp⟩
/-- the rows in the order of ys -/
def gordr [Inhabited α] (rs : RwG α) (ys : List Str) : RwG α := ys.map fun s => (s, (gget rs s).getD default)
theorem gordr_keys [Inhabited α] (rs : RwG α) (ys : List Str) : (gordr rs ys).map (·.1) = ys := by
  unfold gordr; rw [List.map_map]; simp [Function.comp_def]
theorem gordr_snoc [Inhabited α] {rs : RwG α} {ys : List Str} {j : Nat} {s : Str} (nd : ys.Nodup) (hj : ys[j]? = some s) : gput (gordr rs (ys.take j)) s ((gget rs s).getD default) = gordr rs (ys.take (j + 1)) := by
  rw [gput_snoc]
  · unfold gordr
    rw [List.take_add_one, hj]
    simp
  · intro r hr e
    have h1 : s ∈ ys.take j := by
      have := List.mem_map_of_mem (f := (·.1)) hr
      rw [gordr_keys] at this
      rw [← e]; exact this
    obtain ⟨i, hi, e1⟩ := List.mem_iff_getElem.mp h1
    have hij : i < j := by have := hi; rw [List.length_take] at this; omega
    have e2 : ys[i]? = some s := by rw [← List.getElem?_take_of_lt hij, List.getElem?_eq_getElem hi, e1]
    have h2 := (List.getElem?_eq_some_iff.mp hj).1
    have h3 := (List.getElem?_eq_some_iff.mp e2).1
    exact absurd (by rw [(List.getElem?_eq_some_iff.mp e2).2, (List.getElem?_eq_some_iff.mp hj).2]) (List.pairwise_iff_getElem.mp nd i j h3 h2 hij)
/-- what a told dict is: the rows in the order of their names -/
def GTold [Inhabited α] (rs ts : RwG α) : Prop := ∃ ys : List Str, ys.Perm (rs.map (·.1)) ∧ sortedS ys = true ∧ ts = gordr rs ys
theorem GTold.uniq [Inhabited α] {rs ts us : RwG α} (h : GTold rs ts) (k : GTold rs us) : ts = us := by
  obtain ⟨ys, h1, h2, rfl⟩ := h
  obtain ⟨zs, k1, k2, rfl⟩ := k
  rw [srt_uniq h1 h2 k1 k2]
theorem GTold.mem [Inhabited α] {rs ts : RwG α} (nd : (rs.map (·.1)).Nodup) (h : GTold rs ts) {r : Str × α} (hr : r ∈ ts) : r ∈ rs := by
  obtain ⟨ys, p1, s1, rfl⟩ := h
  unfold gordr at hr
  obtain ⟨s, hs, rfl⟩ := List.mem_map.mp hr
  obtain ⟨p, e⟩ := gget_mem (p1.mem_iff.mp hs)
  rw [e]; exact gget_in e
theorem GTold.len [Inhabited α] {rs ts : RwG α} (h : GTold rs ts) : ts.length = rs.length := by
  obtain ⟨ys, p1, s1, rfl⟩ := h
  unfold gordr
  rw [List.length_map, p1.length_eq, List.length_map]
end
end WR

set_option Elab.async false
set_option linter.all false
set_option maxRecDepth 100000
set_option maxHeartbeats 0
namespace WR.L
open PySem PySem.Spec PyProof.Rows L2
def top (i : Nat) : Stmt := PySem.Challenge.pw_peersmeet_k25_views_refused.main.body.getD i (.Pass ⟨0, 0, 0, 0⟩)
def d_is_whole : Df := ⟨("is_whole", none), "is_whole", "is_whole", top 14, ["thing", "low", "high"], ["thing", "low", "high"], [], [], false⟩
def d_is_any_whole : Df := ⟨("is_any_whole", none), "is_any_whole", "is_any_whole", top 15, ["thing"], ["thing"], [], [], false⟩
def d_is_name : Df := ⟨("is_name", none), "is_name", "is_name", top 16, ["thing", "sign"], ["thing"], [], [], false⟩
def d_is_place : Df := ⟨("is_place", none), "is_place", "is_place", top 17, ["thing"], ["thing"], [], [], false⟩
def d_need_place : Df := ⟨("need_place", none), "need_place", "need_place", top 18, ["thing"], ["thing"], [], [], false⟩
def d_need_name : Df := ⟨("need_name", none), "need_name", "need_name", top 19, ["thing"], ["thing"], [], [], false⟩
def d_Wrongs___init__ : Df := ⟨("Wrongs", some "__init__"), "__init__", "Wrongs.__init__", inClass (top 22) 0, ["self"], ["self"], [], [], false⟩
def d_Wrongs___len__ : Df := ⟨("Wrongs", some "__len__"), "__len__", "Wrongs.__len__", inClass (top 22) 1, ["self"], ["self"], [], [], false⟩
def d_Wrongs___eq__ : Df := ⟨("Wrongs", some "__eq__"), "__eq__", "Wrongs.__eq__", inClass (top 22) 2, ["self", "other"], ["self", "other"], [], [], false⟩
def d_Wrongs___str__ : Df := ⟨("Wrongs", some "__str__"), "__str__", "Wrongs.__str__", inClass (top 22) 3, ["self", "name", "count", "left"], ["self"], [], [], false⟩
def d_Wrongs___repr__ : Df := ⟨("Wrongs", some "__repr__"), "__repr__", "Wrongs.__repr__", inClass (top 22) 4, ["self"], ["self"], [], [], false⟩
def d_Wrongs_seen : Df := ⟨("Wrongs", some "seen"), "seen", "Wrongs.seen", inClass (top 22) 5, ["self", "name", "count"], ["self", "name"], [], [], false⟩
def d_Wrongs_turn : Df := ⟨("Wrongs", some "turn"), "turn", "Wrongs.turn", inClass (top 22) 6, ["self"], ["self"], [], [], false⟩
def d_Wrongs_passes : Df := ⟨("Wrongs", some "passes"), "passes", "Wrongs.passes", inClass (top 22) 7, ["self", "name"], ["self", "name"], [], [], false⟩
def d_Wrongs_count_of : Df := ⟨("Wrongs", some "count_of"), "count_of", "Wrongs.count_of", inClass (top 22) 8, ["self", "name"], ["self", "name"], [], [], false⟩
def d_Wrongs_told : Df := ⟨("Wrongs", some "told"), "told", "Wrongs.told", inClass (top 22) 9, ["self", "name"], ["self"], [], [], false⟩
def d_Wrongs_copied : Df := ⟨("Wrongs", some "copied"), "copied", "Wrongs.copied", inClass (top 22) 10, ["self", "other"], ["self"], [], [], false⟩
def d_is_number : Df := ⟨("is_number", none), "is_number", "is_number", top 27, ["thing"], ["thing"], [], [], false⟩
def d_is_word : Df := ⟨("is_word", none), "is_word", "is_word", top 28, ["thing"], ["thing"], [], [], false⟩
def d_rank_of : Df := ⟨("rank_of", none), "rank_of", "rank_of", top 29, ["row", "place", "number", "word"], ["row"], [], [], false⟩
def d_later : Df := ⟨("later", none), "later", "later", top 30, ["one", "other"], ["one", "other"], [], [], false⟩
def d_in_order : Df := ⟨("in_order", none), "in_order", "in_order", top 31, ["rows", "name"], ["rows"], [], [], false⟩
def d_View___init__ : Df := ⟨("View", some "__init__"), "__init__", "View.__init__", inClass (top 32) 0, ["self", "own", "place", "number"], ["self", "own", "place", "number"], [], [("number", (.int 1))], false⟩
def d_View___len__ : Df := ⟨("View", some "__len__"), "__len__", "View.__len__", inClass (top 32) 1, ["self"], ["self"], [], [], false⟩
def d_View___eq__ : Df := ⟨("View", some "__eq__"), "__eq__", "View.__eq__", inClass (top 32) 2, ["self", "other"], ["self", "other"], [], [], false⟩
def d_View___str__ : Df := ⟨("View", some "__str__"), "__str__", "View.__str__", inClass (top 32) 3, ["self", "name", "place", "number", "word"], ["self"], [], [], false⟩
def d_View___repr__ : Df := ⟨("View", some "__repr__"), "__repr__", "View.__repr__", inClass (top 32) 4, ["self"], ["self"], [], [], false⟩
def d_View_told : Df := ⟨("View", some "told"), "told", "View.told", inClass (top 32) 5, ["self"], ["self"], [], [], false⟩
def d_View_names : Df := ⟨("View", some "names"), "names", "View.names", inClass (top 32) 6, ["self"], ["self"], [], [], false⟩
def d_View_own : Df := ⟨("View", some "own"), "own", "View.own", inClass (top 32) 7, ["self"], ["self"], [], [], false⟩
def d_View_own_number : Df := ⟨("View", some "own_number"), "own_number", "View.own_number", inClass (top 32) 8, ["self"], ["self"], [], [], false⟩
def d_View_here : Df := ⟨("View", some "here"), "here", "View.here", inClass (top 32) 9, ["self", "found", "name", "place", "number", "word"], ["self"], [], [], false⟩
def d_View_hear : Df := ⟨("View", some "hear"), "hear", "View.hear", inClass (top 32) 10, ["self", "name", "place", "number", "word", "row", "changed"], ["self", "name", "place", "number", "word"], [], [], false⟩
def d_View_put_right : Df := ⟨("View", some "put_right"), "put_right", "View.put_right", inClass (top 32) 11, ["self", "told", "number", "word", "place", "mine", "own_word"], ["self", "told", "number", "word"], [], [], false⟩
def d_View_silence : Df := ⟨("View", some "silence"), "silence", "View.silence", inClass (top 32) 12, ["self", "name", "place", "number", "word"], ["self", "name"], [], [], false⟩
def d_View_leave : Df := ⟨("View", some "leave"), "leave", "View.leave", inClass (top 32) 13, ["self"], ["self"], [], [], false⟩
def d_View_come_back : Df := ⟨("View", some "come_back"), "come_back", "View.come_back", inClass (top 32) 14, ["self"], ["self"], [], [], false⟩
def d_View_join : Df := ⟨("View", some "join"), "join", "View.join", inClass (top 32) 15, ["self", "other", "heard", "name", "place", "number", "word"], ["self", "other"], [], [], false⟩
def d_View_copied : Df := ⟨("View", some "copied"), "copied", "View.copied", inClass (top 32) 16, ["self", "other", "place", "number", "word"], ["self"], [], [], false⟩
def d_talk : Df := ⟨("talk", none), "talk", "talk", top 33, ["one", "other", "view", "many"], ["one", "other"], [], [], false⟩
def d__law_cell_at : Df := ⟨("_law_cell_at", none), "_law_cell_at", "_law_cell_at", top 35, ["script", "k"], ["script", "k"], [], [], false⟩
def d__law_row : Df := ⟨("_law_row", none), "_law_row", "_law_row", top 36, ["cell", "many", "salt", "row", "rest", "k", "mixed"], ["cell", "many", "salt"], [], [], false⟩
def d__law_alike : Df := ⟨("_law_alike", none), "_law_alike", "_law_alike", top 37, ["found", "due", "k", "called"], ["found", "due"], [], [], false⟩
def d__law_names : Df := ⟨("_law_names", none), "_law_names", "_law_names", top 38, ["cell", "many", "row", "letters", "stem", "at", "step", "found", "k", "called", "part"], ["cell", "many"], [], [], false⟩
def d__law_said : Df := ⟨("_law_said", none), "_law_said", "_law_said", top 39, ["way", "eye", "wrongs", "things", "e"], ["way", "eye", "wrongs", "things"], [], [], false⟩
def d__law_done : Df := ⟨("_law_done", none), "_law_done", "_law_done", top 40, ["way", "eye", "wrongs", "things"], ["way", "eye", "wrongs", "things"], [], [], false⟩
def d__law_good : Df := ⟨("_law_good", none), "_law_good", "_law_good", top 41, ["way", "names", "eye"], ["way", "names", "eye"], [], [], false⟩
def d__law_bad : Df := ⟨("_law_bad", none), "_law_bad", "_law_bad", top 42, ["sort_of", "cell", "names", "eye", "odd"], ["sort_of", "cell", "names", "eye"], [], [], false⟩
def d__law_same : Df := ⟨("_law_same", none), "_law_same", "_law_same", top 43, ["found", "thing"], ["found", "thing"], [], [], false⟩
def d__law_asked : Df := ⟨("_law_asked", none), "_law_asked", "_law_asked", top 44, ["way", "names", "eye", "wrongs", "cell", "good", "things", "due", "told", "k", "pair", "sort_of", "thing"], ["way", "names", "eye", "wrongs", "cell"], [], [], false⟩
def d_law : Df := ⟨("law", none), "law", "law", top 45, ["script", "names", "eye", "k", "wrongs", "told", "cell", "twin", "draw"], ["script"], [], [], false⟩
theorem kb1 : Kb d_is_whole 3 [] (fun vs _ => vs) := kb_plain rfl (fun _ _ _ _ _ _ us hl => match us, hl with | [_, _, _], _ => rfl)
theorem kb2 : Kb d_is_any_whole 1 [] (fun vs _ => vs) := kb_plain rfl (fun _ _ _ _ _ _ us hl => match us, hl with | [_], _ => rfl)
theorem kb3 : Kb d_is_name 1 [] (fun vs _ => vs) := kb_plain rfl (fun _ _ _ _ _ _ us hl => match us, hl with | [_], _ => rfl)
theorem kb4 : Kb d_is_place 1 [] (fun vs _ => vs) := kb_plain rfl (fun _ _ _ _ _ _ us hl => match us, hl with | [_], _ => rfl)
theorem kb5 : Kb d_need_place 1 [] (fun vs _ => vs) := kb_plain rfl (fun _ _ _ _ _ _ us hl => match us, hl with | [_], _ => rfl)
theorem kb6 : Kb d_need_name 1 [] (fun vs _ => vs) := kb_plain rfl (fun _ _ _ _ _ _ us hl => match us, hl with | [_], _ => rfl)
theorem kb7 : Kb d_Wrongs___init__ (0 + 1) [] (fun vs zs => match vs with | v :: r => v :: (fun vs _ => vs) r zs | [] => []) := kb_plainM rfl rfl (fun _ _ _ _ _ _ us hl => match us, hl with | [_], _ => rfl)
theorem kb8 : Kb d_Wrongs___len__ (0 + 1) [] (fun vs zs => match vs with | v :: r => v :: (fun vs _ => vs) r zs | [] => []) := kb_plainM rfl rfl (fun _ _ _ _ _ _ us hl => match us, hl with | [_], _ => rfl)
theorem kb9 : Kb d_Wrongs___eq__ (1 + 1) [] (fun vs zs => match vs with | v :: r => v :: (fun vs _ => vs) r zs | [] => []) := kb_plainM rfl rfl (fun _ _ _ _ _ _ us hl => match us, hl with | [_, _], _ => rfl)
theorem kb10 : Kb d_Wrongs___str__ (0 + 1) [] (fun vs zs => match vs with | v :: r => v :: (fun vs _ => vs) r zs | [] => []) := kb_plainM rfl rfl (fun _ _ _ _ _ _ us hl => match us, hl with | [_], _ => rfl)
theorem kb11 : Kb d_Wrongs___repr__ (0 + 1) [] (fun vs zs => match vs with | v :: r => v :: (fun vs _ => vs) r zs | [] => []) := kb_plainM rfl rfl (fun _ _ _ _ _ _ us hl => match us, hl with | [_], _ => rfl)
theorem kb12 : Kb d_Wrongs_seen (0 + 1) ["name"] (fun vs zs => match vs with | v :: r => v :: (fun vs zs => [0].map fun i => (vs ++ zs).getD i V.non) r zs | [] => []) := kb_permM [0] rfl (fun _ _ _ _ _ _ _ us ws h1 h2 => match us, h1, ws, h2 with | [], _, [_], _ => rfl)
theorem kb13 : Kb d_Wrongs_seen (1 + 1) [] (fun vs zs => match vs with | v :: r => v :: (fun vs _ => vs) r zs | [] => []) := kb_plainM rfl rfl (fun _ _ _ _ _ _ us hl => match us, hl with | [_, _], _ => rfl)
theorem kb14 : Kb d_Wrongs_count_of (0 + 1) ["name"] (fun vs zs => match vs with | v :: r => v :: (fun vs zs => [0].map fun i => (vs ++ zs).getD i V.non) r zs | [] => []) := kb_permM [0] rfl (fun _ _ _ _ _ _ _ us ws h1 h2 => match us, h1, ws, h2 with | [], _, [_], _ => rfl)
theorem kb15 : Kb d_Wrongs_count_of (1 + 1) [] (fun vs zs => match vs with | v :: r => v :: (fun vs _ => vs) r zs | [] => []) := kb_plainM rfl rfl (fun _ _ _ _ _ _ us hl => match us, hl with | [_, _], _ => rfl)
theorem kb16 : Kb d_Wrongs_told (0 + 1) [] (fun vs zs => match vs with | v :: r => v :: (fun vs _ => vs) r zs | [] => []) := kb_plainM rfl rfl (fun _ _ _ _ _ _ us hl => match us, hl with | [_], _ => rfl)
theorem kb17 : Kb d_Wrongs_copied (0 + 1) [] (fun vs zs => match vs with | v :: r => v :: (fun vs _ => vs) r zs | [] => []) := kb_plainM rfl rfl (fun _ _ _ _ _ _ us hl => match us, hl with | [_], _ => rfl)
theorem kb18 : Kb d_is_number 1 [] (fun vs _ => vs) := kb_plain rfl (fun _ _ _ _ _ _ us hl => match us, hl with | [_], _ => rfl)
theorem kb19 : Kb d_is_word 1 [] (fun vs _ => vs) := kb_plain rfl (fun _ _ _ _ _ _ us hl => match us, hl with | [_], _ => rfl)
theorem kb20 : Kb d_rank_of 1 [] (fun vs _ => vs) := kb_plain rfl (fun _ _ _ _ _ _ us hl => match us, hl with | [_], _ => rfl)
theorem kb21 : Kb d_later 2 [] (fun vs _ => vs) := kb_plain rfl (fun _ _ _ _ _ _ us hl => match us, hl with | [_, _], _ => rfl)
theorem kb22 : Kb d_in_order 1 [] (fun vs _ => vs) := kb_plain rfl (fun _ _ _ _ _ _ us hl => match us, hl with | [_], _ => rfl)
theorem kb23 : Kb d_View___init__ (0 + 1) ["number", "place", "own"] (fun vs zs => match vs with | v :: r => v :: (fun vs zs => [2, 1, 0].map fun i => (vs ++ zs).getD i V.non) r zs | [] => []) := kb_permM [2, 1, 0] rfl (fun _ _ _ _ _ _ _ us ws h1 h2 => match us, h1, ws, h2 with | [], _, [_, _, _], _ => rfl)
theorem kb24 : Kb d_View___init__ (2 + 1) [] (fun vs zs => match vs with | v :: r => v :: (fun vs _ => vs ++ [V.int 1]) r zs | [] => []) := kb_kwD [("number", V.int 1)] rfl (fun _ => rfl) (by simp) rfl (fun _ _ _ _ _ _ us zs h1 h2 => match us, h1, zs, h2 with | [_, _, _], _, [_], _ => ⟨_, _, _, _, _, _, rfl, rfl, rfl⟩)
theorem kb25 : Kb d_View___init__ (2 + 1) ["number"] (fun vs zs => match vs with | v :: r => v :: (fun vs zs => vs ++ zs) r zs | [] => []) := kb_kwM rfl (fun _ _ _ _ _ _ _ us ws h1 h2 => match us, h1, ws, h2 with | [_, _], _, [_], _ => rfl)
theorem kb26 : Kb d_View___len__ (0 + 1) [] (fun vs zs => match vs with | v :: r => v :: (fun vs _ => vs) r zs | [] => []) := kb_plainM rfl rfl (fun _ _ _ _ _ _ us hl => match us, hl with | [_], _ => rfl)
theorem kb27 : Kb d_View___eq__ (1 + 1) [] (fun vs zs => match vs with | v :: r => v :: (fun vs _ => vs) r zs | [] => []) := kb_plainM rfl rfl (fun _ _ _ _ _ _ us hl => match us, hl with | [_, _], _ => rfl)
theorem kb28 : Kb d_View___str__ (0 + 1) [] (fun vs zs => match vs with | v :: r => v :: (fun vs _ => vs) r zs | [] => []) := kb_plainM rfl rfl (fun _ _ _ _ _ _ us hl => match us, hl with | [_], _ => rfl)
theorem kb29 : Kb d_View___repr__ (0 + 1) [] (fun vs zs => match vs with | v :: r => v :: (fun vs _ => vs) r zs | [] => []) := kb_plainM rfl rfl (fun _ _ _ _ _ _ us hl => match us, hl with | [_], _ => rfl)
theorem kb30 : Kb d_View_told (0 + 1) [] (fun vs zs => match vs with | v :: r => v :: (fun vs _ => vs) r zs | [] => []) := kb_plainM rfl rfl (fun _ _ _ _ _ _ us hl => match us, hl with | [_], _ => rfl)
theorem kb31 : Kb d_View_own (0 + 1) [] (fun vs zs => match vs with | v :: r => v :: (fun vs _ => vs) r zs | [] => []) := kb_plainM rfl rfl (fun _ _ _ _ _ _ us hl => match us, hl with | [_], _ => rfl)
theorem kb32 : Kb d_View_hear (0 + 1) ["word", "number", "place", "name"] (fun vs zs => match vs with | v :: r => v :: (fun vs zs => [3, 2, 1, 0].map fun i => (vs ++ zs).getD i V.non) r zs | [] => []) := kb_permM [3, 2, 1, 0] rfl (fun _ _ _ _ _ _ _ us ws h1 h2 => match us, h1, ws, h2 with | [], _, [_, _, _, _], _ => rfl)
theorem kb33 : Kb d_View_hear (4 + 1) [] (fun vs zs => match vs with | v :: r => v :: (fun vs _ => vs) r zs | [] => []) := kb_plainM rfl rfl (fun _ _ _ _ _ _ us hl => match us, hl with | [_, _, _, _, _], _ => rfl)
theorem kb34 : Kb d_View_put_right (3 + 1) [] (fun vs zs => match vs with | v :: r => v :: (fun vs _ => vs) r zs | [] => []) := kb_plainM rfl rfl (fun _ _ _ _ _ _ us hl => match us, hl with | [_, _, _, _], _ => rfl)
theorem kb35 : Kb d_View_silence (0 + 1) ["name"] (fun vs zs => match vs with | v :: r => v :: (fun vs zs => [0].map fun i => (vs ++ zs).getD i V.non) r zs | [] => []) := kb_permM [0] rfl (fun _ _ _ _ _ _ _ us ws h1 h2 => match us, h1, ws, h2 with | [], _, [_], _ => rfl)
theorem kb36 : Kb d_View_join (1 + 1) [] (fun vs zs => match vs with | v :: r => v :: (fun vs _ => vs) r zs | [] => []) := kb_plainM rfl rfl (fun _ _ _ _ _ _ us hl => match us, hl with | [_, _], _ => rfl)
theorem kb37 : Kb d_View_copied (0 + 1) [] (fun vs zs => match vs with | v :: r => v :: (fun vs _ => vs) r zs | [] => []) := kb_plainM rfl rfl (fun _ _ _ _ _ _ us hl => match us, hl with | [_], _ => rfl)
theorem kb38 : Kb d_talk 2 [] (fun vs _ => vs) := kb_plain rfl (fun _ _ _ _ _ _ us hl => match us, hl with | [_, _], _ => rfl)
theorem kb39 : Kb d__law_cell_at 2 [] (fun vs _ => vs) := kb_plain rfl (fun _ _ _ _ _ _ us hl => match us, hl with | [_, _], _ => rfl)
theorem kb40 : Kb d__law_row 3 [] (fun vs _ => vs) := kb_plain rfl (fun _ _ _ _ _ _ us hl => match us, hl with | [_, _, _], _ => rfl)
theorem kb41 : Kb d__law_alike 2 [] (fun vs _ => vs) := kb_plain rfl (fun _ _ _ _ _ _ us hl => match us, hl with | [_, _], _ => rfl)
theorem kb42 : Kb d__law_names 2 [] (fun vs _ => vs) := kb_plain rfl (fun _ _ _ _ _ _ us hl => match us, hl with | [_, _], _ => rfl)
theorem kb43 : Kb d__law_said 4 [] (fun vs _ => vs) := kb_plain rfl (fun _ _ _ _ _ _ us hl => match us, hl with | [_, _, _, _], _ => rfl)
theorem kb44 : Kb d__law_done 4 [] (fun vs _ => vs) := kb_plain rfl (fun _ _ _ _ _ _ us hl => match us, hl with | [_, _, _, _], _ => rfl)
theorem kb45 : Kb d__law_good 3 [] (fun vs _ => vs) := kb_plain rfl (fun _ _ _ _ _ _ us hl => match us, hl with | [_, _, _], _ => rfl)
theorem kb46 : Kb d__law_bad 4 [] (fun vs _ => vs) := kb_plain rfl (fun _ _ _ _ _ _ us hl => match us, hl with | [_, _, _, _], _ => rfl)
theorem kb47 : Kb d__law_same 2 [] (fun vs _ => vs) := kb_plain rfl (fun _ _ _ _ _ _ us hl => match us, hl with | [_, _], _ => rfl)
theorem kb48 : Kb d__law_asked 5 [] (fun vs _ => vs) := kb_plain rfl (fun _ _ _ _ _ _ us hl => match us, hl with | [_, _, _, _, _], _ => rfl)
theorem kb49 : Kb d_law 1 [] (fun vs _ => vs) := kb_plain rfl (fun _ _ _ _ _ _ us hl => match us, hl with | [_], _ => rfl)
def dx_NoPlace : Df := ⟨("NoPlace", some "__init__"), "__init__", "NoPlace.__init__", inClass (top 6) 0, ["self", "found"], ["self", "found"], [], [], false⟩
def dx_NoName : Df := ⟨("NoName", some "__init__"), "__init__", "NoName.__init__", inClass (top 4) 0, ["self", "found"], ["self", "found"], [], [], false⟩
def dx_NoNumber : Df := ⟨("NoNumber", some "__init__"), "__init__", "NoNumber.__init__", inClass (top 5) 0, ["self", "found"], ["self", "found"], [], [], false⟩
def dx_NoWord : Df := ⟨("NoWord", some "__init__"), "__init__", "NoWord.__init__", inClass (top 7) 0, ["self", "found"], ["self", "found"], [], [], false⟩
def dx_NotThere : Df := ⟨("NotThere", some "__init__"), "__init__", "NotThere.__init__", inClass (top 10) 0, ["self", "found"], ["self", "found"], [], [], false⟩
def dx_NoView : Df := ⟨("NoView", some "__init__"), "__init__", "NoView.__init__", inClass (top 8) 0, ["self", "found"], ["self", "found"], [], [], false⟩
def dx_Twice : Df := ⟨("Twice", some "__init__"), "__init__", "Twice.__init__", inClass (top 9) 0, ["self", "found"], ["self", "found"], [], [], false⟩
def y : Sy where
  ds := ("is_whole", d_is_whole) :: ("is_any_whole", d_is_any_whole) :: ("is_name", d_is_name) :: ("is_place", d_is_place) :: ("need_place", d_need_place) :: ("need_name", d_need_name) :: ("Wrongs.__init__", d_Wrongs___init__) :: ("Wrongs.__len__", d_Wrongs___len__) :: ("Wrongs.__eq__", d_Wrongs___eq__) :: ("Wrongs.__str__", d_Wrongs___str__) :: ("Wrongs.__repr__", d_Wrongs___repr__) :: ("Wrongs.seen", d_Wrongs_seen) :: ("Wrongs.turn", d_Wrongs_turn) :: ("Wrongs.passes", d_Wrongs_passes) :: ("Wrongs.count_of", d_Wrongs_count_of) :: ("Wrongs.told", d_Wrongs_told) :: ("Wrongs.copied", d_Wrongs_copied) :: ("is_number", d_is_number) :: ("is_word", d_is_word) :: ("rank_of", d_rank_of) :: ("later", d_later) :: ("in_order", d_in_order) :: ("View.__init__", d_View___init__) :: ("View.__len__", d_View___len__) :: ("View.__eq__", d_View___eq__) :: ("View.__str__", d_View___str__) :: ("View.__repr__", d_View___repr__) :: ("View.told", d_View_told) :: ("View.names", d_View_names) :: ("View.own", d_View_own) :: ("View.own_number", d_View_own_number) :: ("View.here", d_View_here) :: ("View.hear", d_View_hear) :: ("View.put_right", d_View_put_right) :: ("View.silence", d_View_silence) :: ("View.leave", d_View_leave) :: ("View.come_back", d_View_come_back) :: ("View.join", d_View_join) :: ("View.copied", d_View_copied) :: ("talk", d_talk) :: ("_law_cell_at", d__law_cell_at) :: ("_law_row", d__law_row) :: ("_law_alike", d__law_alike) :: ("_law_names", d__law_names) :: ("_law_said", d__law_said) :: ("_law_done", d__law_done) :: ("_law_good", d__law_good) :: ("_law_bad", d__law_bad) :: ("_law_same", d__law_same) :: ("_law_asked", d__law_asked) :: ("law", d_law) :: []
  cps := ⟨"is_whole", 3, [], fun vs _ => vs⟩ :: ⟨"is_any_whole", 1, [], fun vs _ => vs⟩ :: ⟨"is_name", 1, [], fun vs _ => vs⟩ :: ⟨"is_place", 1, [], fun vs _ => vs⟩ :: ⟨"need_place", 1, [], fun vs _ => vs⟩ :: ⟨"need_name", 1, [], fun vs _ => vs⟩ :: ⟨"is_number", 1, [], fun vs _ => vs⟩ :: ⟨"is_word", 1, [], fun vs _ => vs⟩ :: ⟨"rank_of", 1, [], fun vs _ => vs⟩ :: ⟨"later", 2, [], fun vs _ => vs⟩ :: ⟨"in_order", 1, [], fun vs _ => vs⟩ :: ⟨"talk", 2, [], fun vs _ => vs⟩ :: ⟨"_law_cell_at", 2, [], fun vs _ => vs⟩ :: ⟨"_law_row", 3, [], fun vs _ => vs⟩ :: ⟨"_law_alike", 2, [], fun vs _ => vs⟩ :: ⟨"_law_names", 2, [], fun vs _ => vs⟩ :: ⟨"_law_said", 4, [], fun vs _ => vs⟩ :: ⟨"_law_done", 4, [], fun vs _ => vs⟩ :: ⟨"_law_good", 3, [], fun vs _ => vs⟩ :: ⟨"_law_bad", 4, [], fun vs _ => vs⟩ :: ⟨"_law_same", 2, [], fun vs _ => vs⟩ :: ⟨"_law_asked", 5, [], fun vs _ => vs⟩ :: ⟨"law", 1, [], fun vs _ => vs⟩ :: []
  nums := [("RING", 256), ("TURNS", 5)]
  txts := [("LETTERS", "abcdefghijklmnopqrstuvwxyz"), ("HERE", "here"), ("SILENT", "silent")]
  blt := ["len", "isinstance", "all", "any", "abs", "max", "int", "str", "list", "tuple", "dict", "range", "enumerate", "bool", "sorted"]
  cms := ⟨"Wrongs", "__len__", 0, [], fun vs _ => vs⟩ :: ⟨"Wrongs", "__eq__", 1, [], fun vs _ => vs⟩ :: ⟨"Wrongs", "__str__", 0, [], fun vs _ => vs⟩ :: ⟨"Wrongs", "__repr__", 0, [], fun vs _ => vs⟩ :: ⟨"Wrongs", "seen", 0, ["name"], fun vs zs => [0].map fun i => (vs ++ zs).getD i V.non⟩ :: ⟨"Wrongs", "seen", 1, [], fun vs _ => vs⟩ :: ⟨"Wrongs", "count_of", 0, ["name"], fun vs zs => [0].map fun i => (vs ++ zs).getD i V.non⟩ :: ⟨"Wrongs", "count_of", 1, [], fun vs _ => vs⟩ :: ⟨"Wrongs", "told", 0, [], fun vs _ => vs⟩ :: ⟨"Wrongs", "copied", 0, [], fun vs _ => vs⟩ :: ⟨"View", "__len__", 0, [], fun vs _ => vs⟩ :: ⟨"View", "__eq__", 1, [], fun vs _ => vs⟩ :: ⟨"View", "__str__", 0, [], fun vs _ => vs⟩ :: ⟨"View", "__repr__", 0, [], fun vs _ => vs⟩ :: ⟨"View", "told", 0, [], fun vs _ => vs⟩ :: ⟨"View", "own", 0, [], fun vs _ => vs⟩ :: ⟨"View", "hear", 0, ["word", "number", "place", "name"], fun vs zs => [3, 2, 1, 0].map fun i => (vs ++ zs).getD i V.non⟩ :: ⟨"View", "hear", 4, [], fun vs _ => vs⟩ :: ⟨"View", "put_right", 3, [], fun vs _ => vs⟩ :: ⟨"View", "silence", 0, ["name"], fun vs zs => [0].map fun i => (vs ++ zs).getD i V.non⟩ :: ⟨"View", "join", 1, [], fun vs _ => vs⟩ :: ⟨"View", "copied", 0, [], fun vs _ => vs⟩ :: []
  cks := [⟨"Wrongs", "__init__", 0, [], fun vs _ => vs⟩, ⟨"View", "__init__", 0, ["number", "place", "own"], fun vs zs => [2, 1, 0].map fun i => (vs ++ zs).getD i V.non⟩, ⟨"View", "__init__", 2, [], fun vs _ => vs ++ [V.int 1]⟩, ⟨"View", "__init__", 2, ["number"], fun vs zs => vs ++ zs⟩]
  cls := ["Wrongs", "View"]
  ats := [("wrong_counts", ["Wrongs"]), ("own_name", ["View"]), ("heard_rows", ["View"]), ("__bool__", ["Wrongs", "View"])]
  xcs := [⟨"NoPlace", .val, "PeerError", "found", "found", dx_NoPlace⟩, ⟨"NoName", .val, "PeerError", "found", "found", dx_NoName⟩, ⟨"NoNumber", .val, "PeerError", "found", "found", dx_NoNumber⟩, ⟨"NoWord", .val, "PeerError", "found", "found", dx_NoWord⟩, ⟨"NotThere", .key, "Absent", "found", "found", dx_NotThere⟩, ⟨"NoView", .val, "PeerError", "found", "found", dx_NoView⟩, ⟨"Twice", .val, "PeerError", "found", "found", dx_Twice⟩]
  xcl := ["NoName", "NoPlace", "NoNumber", "NoWord", "NoView", "Twice", "NotThere", "PeerError", "Absent"]
  tps := [("WORDS", [V.str "here", V.str "silent", V.str "gone"])]
  ex := fun K => xcX K (He.ga K "NoPlace") [(He.ga K "NoName", false), (He.ga K "NoPlace", true), (He.ga K "NoNumber", false), (He.ga K "NoWord", false), (He.ga K "NoView", false), (He.ga K "Twice", false), (He.ga K "NotThere", false)] [(He.ga K "PeerError", true), (He.ga K "Absent", false)] && xcX K (He.ga K "NoName") [(He.ga K "NoName", true), (He.ga K "NoPlace", false), (He.ga K "NoNumber", false), (He.ga K "NoWord", false), (He.ga K "NoView", false), (He.ga K "Twice", false), (He.ga K "NotThere", false)] [(He.ga K "PeerError", true), (He.ga K "Absent", false)] && xcX K (He.ga K "NoNumber") [(He.ga K "NoName", false), (He.ga K "NoPlace", false), (He.ga K "NoNumber", true), (He.ga K "NoWord", false), (He.ga K "NoView", false), (He.ga K "Twice", false), (He.ga K "NotThere", false)] [(He.ga K "PeerError", true), (He.ga K "Absent", false)] && xcX K (He.ga K "NoWord") [(He.ga K "NoName", false), (He.ga K "NoPlace", false), (He.ga K "NoNumber", false), (He.ga K "NoWord", true), (He.ga K "NoView", false), (He.ga K "Twice", false), (He.ga K "NotThere", false)] [(He.ga K "PeerError", true), (He.ga K "Absent", false)] && xcX K (He.ga K "NotThere") [(He.ga K "NoName", false), (He.ga K "NoPlace", false), (He.ga K "NoNumber", false), (He.ga K "NoWord", false), (He.ga K "NoView", false), (He.ga K "Twice", false), (He.ga K "NotThere", true)] [(He.ga K "PeerError", false), (He.ga K "Absent", true)] && xcX K (He.ga K "NoView") [(He.ga K "NoName", false), (He.ga K "NoPlace", false), (He.ga K "NoNumber", false), (He.ga K "NoWord", false), (He.ga K "NoView", true), (He.ga K "Twice", false), (He.ga K "NotThere", false)] [(He.ga K "PeerError", true), (He.ga K "Absent", false)] && xcX K (He.ga K "Twice") [(He.ga K "NoName", false), (He.ga K "NoPlace", false), (He.ga K "NoNumber", false), (He.ga K "NoWord", false), (He.ga K "NoView", false), (He.ga K "Twice", true), (He.ga K "NotThere", false)] [(He.ga K "PeerError", true), (He.ga K "Absent", false)] && ownX K (He.ga K "Wrongs") && ownX K (He.ga K "View") && apartX K (He.ga K "Wrongs") (He.ga K "View") && apartX K (He.ga K "View") (He.ga K "Wrongs")
  nes := ["Wrongs", "View"]
abbrev gg (K : PySem.W.Frag) (S : Str → Sp) : G := gOf (y.tb K) S
def r_is_whole (K : PySem.W.Frag) (S : Str → Sp) (W : WX) : TS :=
  (tRet (cAnd K (tCB (bIsi K) (tCons (cVar 0) (tCons (tC (.ty "int")) tNil))) (cAnd K (cNot K (tCB (bIsi K) (tCons (cVar 0) (tCons (tC (.ty "bool")) tNil)))) (cChain oLe oLe (cVar 1) (cVar 0) (cVar 2)))))
theorem e_is_whole (K : PySem.W.Frag) (S : Str → Sp) (W : WX) : tBody (tS (gg K S) 40 d_is_whole.N (defScope d_is_whole.st)) (defBody d_is_whole.st) W = r_is_whole K S W := by kernel_rfl
def r_is_any_whole (K : PySem.W.Frag) (S : Str → Sp) (W : WX) : TS :=
  (tRet (cAnd K (tCB (bIsi K) (tCons (cVar 0) (tCons (tC (.ty "int")) tNil))) (cNot K (tCB (bIsi K) (tCons (cVar 0) (tCons (tC (.ty "bool")) tNil))))))
theorem e_is_any_whole (K : PySem.W.Frag) (S : Str → Sp) (W : WX) : tBody (tS (gg K S) 40 d_is_any_whole.N (defScope d_is_any_whole.st)) (defBody d_is_any_whole.st) W = r_is_any_whole K S W := by kernel_rfl
def r_is_name (K : PySem.W.Frag) (S : Str → Sp) (W : WX) : TS :=
  (tRet (cAnd K (tCB (bIsi K) (tCons (cVar 0) (tCons (tC (.ty "str")) tNil))) (cAnd K (cChain oLe oLe (tC (.int 1)) (tCB (bLenG (gg K S)) (tCons (cVar 0) tNil)) (tC (.int 8))) (tCB (bAll K) (tCons (cLcL (cIter K (frzE (cVar 0))) (gName 1) tYes (tOp (oIn K false) (cVar 1) (tC (.str "abcdefghijklmnopqrstuvwxyz"))) [1]) tNil)))))
theorem e_is_name (K : PySem.W.Frag) (S : Str → Sp) (W : WX) : tBody (tS (gg K S) 40 d_is_name.N (defScope d_is_name.st)) (defBody d_is_name.st) W = r_is_name K S W := by kernel_rfl
def r_is_place (K : PySem.W.Frag) (S : Str → Sp) (W : WX) : TS :=
  (tRet (cCall (S "is_whole") 3 0 (fun vs _ => vs) (tCons (cVar 0) (tCons (tC (.int 0)) (tCons (tOp oSub (tC (.int 256)) (tC (.int 1))) tNil))) tNil W))
theorem e_is_place (K : PySem.W.Frag) (S : Str → Sp) (W : WX) : tBody (tS (gg K S) 40 d_is_place.N (defScope d_is_place.st)) (defBody d_is_place.st) W = r_is_place K S W := by kernel_rfl
def r_need_place (K : PySem.W.Frag) (S : Str → Sp) (W : WX) : TS :=
  (tIfS (tNot (cTru K (cCall (S "is_place") 1 0 (fun vs _ => vs) (tCons (cVar 0) tNil) tNil W)))
  (tRs W (He.ga K "NoPlace") "found" (cVar 0))
  tNext)
theorem e_need_place (K : PySem.W.Frag) (S : Str → Sp) (W : WX) : tBody (tS (gg K S) 40 d_need_place.N (defScope d_need_place.st)) (defBody d_need_place.st) W = r_need_place K S W := by kernel_rfl
def r_need_name (K : PySem.W.Frag) (S : Str → Sp) (W : WX) : TS :=
  (tIfS (tNot (cTru K (cCall (S "is_name") 1 0 (fun vs _ => vs) (tCons (cVar 0) tNil) tNil W)))
  (tRs W (He.ga K "NoName") "found" (cVar 0))
  tNext)
theorem e_need_name (K : PySem.W.Frag) (S : Str → Sp) (W : WX) : tBody (tS (gg K S) 40 d_need_name.N (defScope d_need_name.st)) (defBody d_need_name.st) W = r_need_name K S W := by kernel_rfl
def r_Wrongs___init__ (K : PySem.W.Frag) (S : Str → Sp) (W : WX) : TS :=
  (cFldS [He.ga K "Wrongs"] "wrong_counts" (cVar 0) tDNewK)
theorem e_Wrongs___init__ (K : PySem.W.Frag) (S : Str → Sp) (W : WX) : tBody (tS (gg K S) 40 d_Wrongs___init__.N (defScope d_Wrongs___init__.st)) (defBody d_Wrongs___init__.st) W = r_Wrongs___init__ K S W := by kernel_rfl
def r_Wrongs___len__ (K : PySem.W.Frag) (S : Str → Sp) (W : WX) : TS :=
  (tRet (tCB (bLenG (gg K S)) (tCons (cAttr [He.ga K "Wrongs"] "wrong_counts" (cVar 0)) tNil)))
theorem e_Wrongs___len__ (K : PySem.W.Frag) (S : Str → Sp) (W : WX) : tBody (tS (gg K S) 40 d_Wrongs___len__.N (defScope d_Wrongs___len__.st)) (defBody d_Wrongs___len__.st) W = r_Wrongs___len__ K S W := by kernel_rfl
def r_Wrongs___eq__ (K : PySem.W.Frag) (S : Str → Sp) (W : WX) : TS :=
  (tRet (cAnd K (tCB (bIsO (gg K S) (He.ga K "Wrongs")) (tCons (cVar 1) (tCons (tC (.ref (He.ga K "Wrongs"))) tNil))) (tOp (oEqG (gg K S)) (mC (gg K S) "told" 0 0 [] (cVar 0) tNil tNil W) (mC (gg K S) "told" 0 0 [] (cVar 1) tNil tNil W))))
theorem e_Wrongs___eq__ (K : PySem.W.Frag) (S : Str → Sp) (W : WX) : tBody (tS (gg K S) 40 d_Wrongs___eq__.N (defScope d_Wrongs___eq__.st)) (defBody d_Wrongs___eq__.st) W = r_Wrongs___eq__ K S W := by kernel_rfl
def r_Wrongs___str__ (K : PySem.W.Frag) (S : Str → Sp) (W : WX) : TS :=
  (tRet (mC (gg K S) "join" 1 0 [] (tC (.str "; ")) (tCons (cLcL (cDview 2 (frzE (mC (gg K S) "told" 0 0 [] (cVar 0) tNil tNil W))) (cTupG K 2 (gCons (gName 1) (gCons (cTupG K 2 (gCons (gName 2) (gCons (gName 3) gNil))) gNil))) tYes (joinT [(cFmt (cVar 1)), (tC (.str " ")), (cFmt (cVar 2)), (tC (.str " ")), (cFmt (cVar 3))]) [1, 2, 3]) tNil) tNil W))
theorem e_Wrongs___str__ (K : PySem.W.Frag) (S : Str → Sp) (W : WX) : tBody (tS (gg K S) 40 d_Wrongs___str__.N (defScope d_Wrongs___str__.st)) (defBody d_Wrongs___str__.st) W = r_Wrongs___str__ K S W := by kernel_rfl
def r_Wrongs_seen (K : PySem.W.Frag) (S : Str → Sp) (W : WX) : TS :=
  (tSeq (tDrop (cCall (S "need_name") 1 0 (fun vs _ => vs) (tCons (cVar 1) tNil) tNil W))
  (tSeq (tAsg (tOp (oAdd K) (mC (gg K S) "count_of" 1 0 [] (cVar 0) (tCons (cVar 1) tNil) tNil W) (tC (.int 1))) (gName 2))
  (tSeq (tAsg (tTup (tCons (cVar 2) (tCons (tC (.int 5)) tNil))) (gSub (cAttr [He.ga K "Wrongs"] "wrong_counts" (cVar 0)) (cVar 1) oSet))
  (tRet (cVar 2)))))
theorem e_Wrongs_seen (K : PySem.W.Frag) (S : Str → Sp) (W : WX) : tBody (tS (gg K S) 40 d_Wrongs_seen.N (defScope d_Wrongs_seen.st)) (defBody d_Wrongs_seen.st) W = r_Wrongs_seen K S W := by kernel_rfl
def r_Wrongs_count_of (K : PySem.W.Frag) (S : Str → Sp) (W : WX) : TS :=
  (tSeq (tDrop (cCall (S "need_name") 1 0 (fun vs _ => vs) (tCons (cVar 1) tNil) tNil W))
  (tRet (tIf (cTest (tOp (oIn K false) (cVar 1) (cAttr [He.ga K "Wrongs"] "wrong_counts" (cVar 0)))) (tOp (oIx K) (tOp (oIx K) (cAttr [He.ga K "Wrongs"] "wrong_counts" (cVar 0)) (cVar 1)) (tC (.int 0))) (tC (.int 0)))))
theorem e_Wrongs_count_of (K : PySem.W.Frag) (S : Str → Sp) (W : WX) : tBody (tS (gg K S) 40 d_Wrongs_count_of.N (defScope d_Wrongs_count_of.st)) (defBody d_Wrongs_count_of.st) W = r_Wrongs_count_of K S W := by kernel_rfl
def r_Wrongs_told (K : PySem.W.Frag) (S : Str → Sp) (W : WX) : TS :=
  (tRet (cDcL (cIter K (frzE (tCB (bSortedX K) (tCons (cAttr [He.ga K "Wrongs"] "wrong_counts" (cVar 0)) tNil)))) (gName 1) tYes (cVar 1) (tOp (oIx K) (cAttr [He.ga K "Wrongs"] "wrong_counts" (cVar 0)) (cVar 1)) [1]))
theorem e_Wrongs_told (K : PySem.W.Frag) (S : Str → Sp) (W : WX) : tBody (tS (gg K S) 40 d_Wrongs_told.N (defScope d_Wrongs_told.st)) (defBody d_Wrongs_told.st) W = r_Wrongs_told K S W := by kernel_rfl
def r_Wrongs_copied (K : PySem.W.Frag) (S : Str → Sp) (W : WX) : TS :=
  (tSeq (tAsg (cMk (He.ga K "Wrongs") 0 0 (fun vs _ => vs) (S "Wrongs.__init__") tNil tNil W) (gName 1))
  (tSeq (cFldS [He.ga K "Wrongs"] "wrong_counts" (cVar 1) (tCB (bDict K) (tCons (cAttr [He.ga K "Wrongs"] "wrong_counts" (cVar 0)) tNil)))
  (tRet (cVar 1))))
theorem e_Wrongs_copied (K : PySem.W.Frag) (S : Str → Sp) (W : WX) : tBody (tS (gg K S) 40 d_Wrongs_copied.N (defScope d_Wrongs_copied.st)) (defBody d_Wrongs_copied.st) W = r_Wrongs_copied K S W := by kernel_rfl
def r_is_number (K : PySem.W.Frag) (S : Str → Sp) (W : WX) : TS :=
  (tRet (cAnd K (cCall (S "is_any_whole") 1 0 (fun vs _ => vs) (tCons (cVar 0) tNil) tNil W) (tOp (oGeK K) (cVar 0) (tC (.int 1)))))
theorem e_is_number (K : PySem.W.Frag) (S : Str → Sp) (W : WX) : tBody (tS (gg K S) 40 d_is_number.N (defScope d_is_number.st)) (defBody d_is_number.st) W = r_is_number K S W := by kernel_rfl
def r_is_word (K : PySem.W.Frag) (S : Str → Sp) (W : WX) : TS :=
  (tRet (cAnd K (tCB (bIsi K) (tCons (cVar 0) (tCons (tC (.ty "str")) tNil))) (tOp (oIn K false) (cVar 0) (cKT K [V.str "here", V.str "silent", V.str "gone"]))))
theorem e_is_word (K : PySem.W.Frag) (S : Str → Sp) (W : WX) : tBody (tS (gg K S) 40 d_is_word.N (defScope d_is_word.st)) (defBody d_is_word.st) W = r_is_word K S W := by kernel_rfl
def r_rank_of (K : PySem.W.Frag) (S : Str → Sp) (W : WX) : TS :=
  (tSeq (tAsg (cVar 0) (cTupG K 3 (gCons (gName 1) (gCons (gName 2) (gCons (gName 3) gNil)))))
  (tRet (tTup (tCons (cVar 2) (tCons (mC (gg K S) "index" 1 0 [] (cKT K [V.str "here", V.str "silent", V.str "gone"]) (tCons (cVar 3) tNil) tNil W) (tCons (cVar 1) tNil))))))
theorem e_rank_of (K : PySem.W.Frag) (S : Str → Sp) (W : WX) : tBody (tS (gg K S) 40 d_rank_of.N (defScope d_rank_of.st)) (defBody d_rank_of.st) W = r_rank_of K S W := by kernel_rfl
def r_later (K : PySem.W.Frag) (S : Str → Sp) (W : WX) : TS :=
  (tRet (tIf (cTest (tOp (oGeK K) (cCall (S "rank_of") 1 0 (fun vs _ => vs) (tCons (cVar 0) tNil) tNil W) (cCall (S "rank_of") 1 0 (fun vs _ => vs) (tCons (cVar 1) tNil) tNil W))) (cVar 0) (cVar 1)))
theorem e_later (K : PySem.W.Frag) (S : Str → Sp) (W : WX) : tBody (tS (gg K S) 40 d_later.N (defScope d_later.st)) (defBody d_later.st) W = r_later K S W := by kernel_rfl
def r_in_order (K : PySem.W.Frag) (S : Str → Sp) (W : WX) : TS :=
  (tRet (cDcL (cIter K (frzE (tCB (bSortedX K) (tCons (cVar 0) tNil)))) (gName 1) tYes (cVar 1) (tOp (oIx K) (cVar 0) (cVar 1)) [1]))
theorem e_in_order (K : PySem.W.Frag) (S : Str → Sp) (W : WX) : tBody (tS (gg K S) 40 d_in_order.N (defScope d_in_order.st)) (defBody d_in_order.st) W = r_in_order K S W := by kernel_rfl
def r_View___init__ (K : PySem.W.Frag) (S : Str → Sp) (W : WX) : TS :=
  (tSeq (tDrop (cCall (S "need_name") 1 0 (fun vs _ => vs) (tCons (cVar 1) tNil) tNil W))
  (tSeq (tDrop (cCall (S "need_place") 1 0 (fun vs _ => vs) (tCons (cVar 2) tNil) tNil W))
  (tSeq (tIfS (tNot (cTru K (cCall (S "is_number") 1 0 (fun vs _ => vs) (tCons (cVar 3) tNil) tNil W)))
  (tRs W (He.ga K "NoNumber") "found" (cVar 3))
  tNext)
  (tSeq (cFldS [He.ga K "View"] "own_name" (cVar 0) (cVar 1))
  (cFldS [He.ga K "View"] "heard_rows" (cVar 0) (tDisp [((cVar 1), (tTup (tCons (cVar 2) (tCons (cVar 3) (tCons (tC (.str "here")) tNil)))))]))))))
theorem e_View___init__ (K : PySem.W.Frag) (S : Str → Sp) (W : WX) : tBody (tS (gg K S) 40 d_View___init__.N (defScope d_View___init__.st)) (defBody d_View___init__.st) W = r_View___init__ K S W := by kernel_rfl
def r_View___len__ (K : PySem.W.Frag) (S : Str → Sp) (W : WX) : TS :=
  (tRet (tCB (bLenG (gg K S)) (tCons (cAttr [He.ga K "View"] "heard_rows" (cVar 0)) tNil)))
theorem e_View___len__ (K : PySem.W.Frag) (S : Str → Sp) (W : WX) : tBody (tS (gg K S) 40 d_View___len__.N (defScope d_View___len__.st)) (defBody d_View___len__.st) W = r_View___len__ K S W := by kernel_rfl
def r_View___eq__ (K : PySem.W.Frag) (S : Str → Sp) (W : WX) : TS :=
  (tRet (cAnd K (tCB (bIsO (gg K S) (He.ga K "View")) (tCons (cVar 1) (tCons (tC (.ref (He.ga K "View"))) tNil))) (tOp (oEqG (gg K S)) (mC (gg K S) "told" 0 0 [] (cVar 0) tNil tNil W) (mC (gg K S) "told" 0 0 [] (cVar 1) tNil tNil W))))
theorem e_View___eq__ (K : PySem.W.Frag) (S : Str → Sp) (W : WX) : tBody (tS (gg K S) 40 d_View___eq__.N (defScope d_View___eq__.st)) (defBody d_View___eq__.st) W = r_View___eq__ K S W := by kernel_rfl
def r_View___str__ (K : PySem.W.Frag) (S : Str → Sp) (W : WX) : TS :=
  (tRet (mC (gg K S) "join" 1 0 [] (tC (.str "; ")) (tCons (cLcL (cDview 2 (frzE (mC (gg K S) "told" 0 0 [] (cVar 0) tNil tNil W))) (cTupG K 2 (gCons (gName 1) (gCons (cTupG K 3 (gCons (gName 2) (gCons (gName 3) (gCons (gName 4) gNil)))) gNil))) tYes (joinT [(cFmt (cVar 1)), (tC (.str " ")), (cFmt (cVar 2)), (tC (.str " ")), (cFmt (cVar 3)), (tC (.str " ")), (cFmt (cVar 4))]) [1, 2, 3, 4]) tNil) tNil W))
theorem e_View___str__ (K : PySem.W.Frag) (S : Str → Sp) (W : WX) : tBody (tS (gg K S) 40 d_View___str__.N (defScope d_View___str__.st)) (defBody d_View___str__.st) W = r_View___str__ K S W := by kernel_rfl
def r_View_told (K : PySem.W.Frag) (S : Str → Sp) (W : WX) : TS :=
  (tRet (cCall (S "in_order") 1 0 (fun vs _ => vs) (tCons (cAttr [He.ga K "View"] "heard_rows" (cVar 0)) tNil) tNil W))
theorem e_View_told (K : PySem.W.Frag) (S : Str → Sp) (W : WX) : tBody (tS (gg K S) 40 d_View_told.N (defScope d_View_told.st)) (defBody d_View_told.st) W = r_View_told K S W := by kernel_rfl
def r_View_names (K : PySem.W.Frag) (S : Str → Sp) (W : WX) : TS :=
  (tRet (tCB (bSortedX K) (tCons (cAttr [He.ga K "View"] "heard_rows" (cVar 0)) tNil)))
theorem e_View_names (K : PySem.W.Frag) (S : Str → Sp) (W : WX) : tBody (tS (gg K S) 40 d_View_names.N (defScope d_View_names.st)) (defBody d_View_names.st) W = r_View_names K S W := by kernel_rfl
def r_View_own (K : PySem.W.Frag) (S : Str → Sp) (W : WX) : TS :=
  (tRet (cAttr [He.ga K "View"] "own_name" (cVar 0)))
theorem e_View_own (K : PySem.W.Frag) (S : Str → Sp) (W : WX) : tBody (tS (gg K S) 40 d_View_own.N (defScope d_View_own.st)) (defBody d_View_own.st) W = r_View_own K S W := by kernel_rfl
def r_View_here (K : PySem.W.Frag) (S : Str → Sp) (W : WX) : TS :=
  (tSeq (orL (tAsg (cLc (cDview 2 (frzE (cAttr [He.ga K "View"] "heard_rows" (cVar 0)))) (cTupG K 2 (gCons (gName 2) (gCons (cTupG K 3 (gCons (gName 3) (gCons (gName 4) (gCons (gName 5) gNil)))) gNil))) (cTest (tOp (oEqG (gg K S)) (cVar 5) (tC (.str "here")))) (tTup (tCons (cVar 3) (tCons (cVar 2) tNil))) [2, 3, 4, 5]) (gName 1)))
  (tRet (cLcL (cIter K (frzE (tCB (bSortedX K) (tCons (cVar 1) tNil)))) (cTupG K 2 (gCons (gName 3) (gCons (gName 2) gNil))) tYes (tTup (tCons (cVar 2) (tCons (cVar 3) tNil))) [3, 2])))
theorem e_View_here (K : PySem.W.Frag) (S : Str → Sp) (W : WX) : tBody (tS (gg K S) 40 d_View_here.N (defScope d_View_here.st)) (defBody d_View_here.st) W = r_View_here K S W := by kernel_rfl
def r_View_hear (K : PySem.W.Frag) (S : Str → Sp) (W : WX) : TS :=
  (tSeq (tDrop (cCall (S "need_name") 1 0 (fun vs _ => vs) (tCons (cVar 1) tNil) tNil W))
  (tSeq (tDrop (cCall (S "need_place") 1 0 (fun vs _ => vs) (tCons (cVar 2) tNil) tNil W))
  (tSeq (tIfS (tNot (cTru K (cCall (S "is_number") 1 0 (fun vs _ => vs) (tCons (cVar 3) tNil) tNil W)))
  (tRs W (He.ga K "NoNumber") "found" (cVar 3))
  tNext)
  (tSeq (tIfS (tNot (cTru K (cCall (S "is_word") 1 0 (fun vs _ => vs) (tCons (cVar 4) tNil) tNil W)))
  (tRs W (He.ga K "NoWord") "found" (cVar 4))
  tNext)
  (tSeq (tAsg (tTup (tCons (cVar 2) (tCons (cVar 3) (tCons (cVar 4) tNil)))) (gName 5))
  (tSeq (tIfS (cTest (tOp (oEqG (gg K S)) (cVar 1) (cAttr [He.ga K "View"] "own_name" (cVar 0))))
  (tAsg (mC (gg K S) "put_right" 3 0 [] (cVar 0) (tCons (cVar 2) (tCons (cVar 3) (tCons (cVar 4) tNil))) tNil W) (gName 5))
  (tIfS (cTest (tOp (oIn K false) (cVar 1) (cAttr [He.ga K "View"] "heard_rows" (cVar 0))))
  (tAsg (cCall (S "later") 2 0 (fun vs _ => vs) (tCons (cVar 5) (tCons (tOp (oIx K) (cAttr [He.ga K "View"] "heard_rows" (cVar 0)) (cVar 1)) tNil)) tNil W) (gName 5))
  tNext))
  (tSeq (tAsg (cOr K (tOp (oIn K true) (cVar 1) (cAttr [He.ga K "View"] "heard_rows" (cVar 0))) (tOp (oNeG (gg K S)) (tOp (oIx K) (cAttr [He.ga K "View"] "heard_rows" (cVar 0)) (cVar 1)) (cVar 5))) (gName 6))
  (tSeq (tAsg (cVar 5) (gSub (cAttr [He.ga K "View"] "heard_rows" (cVar 0)) (cVar 1) oSet))
  (tRet (cVar 6))))))))))
theorem e_View_hear (K : PySem.W.Frag) (S : Str → Sp) (W : WX) : tBody (tS (gg K S) 40 d_View_hear.N (defScope d_View_hear.st)) (defBody d_View_hear.st) W = r_View_hear K S W := by kernel_rfl
def r_View_put_right (K : PySem.W.Frag) (S : Str → Sp) (W : WX) : TS :=
  (tSeq (tAsg (tOp (oIx K) (cAttr [He.ga K "View"] "heard_rows" (cVar 0)) (cAttr [He.ga K "View"] "own_name" (cVar 0))) (cTupG K 3 (gCons (gName 4) (gCons (gName 5) (gCons (gName 6) gNil)))))
  (tSeq (tIfS (tAnd (cTest (tOp (oNeG (gg K S)) (cVar 1) (cVar 4))) (cTest (tOp (oGeK K) (cVar 2) (cVar 5))))
  (tRet (tTup (tCons (cVar 4) (tCons (tOp (oAdd K) (cVar 2) (tC (.int 1))) (tCons (cVar 6) tNil)))))
  tNext)
  (tSeq (tIfS (cTest (tOp (oNeG (gg K S)) (cVar 6) (tC (.str "here"))))
  (tRet (cCall (S "later") 2 0 (fun vs _ => vs) (tCons (tTup (tCons (cVar 4) (tCons (cVar 2) (tCons (cVar 3) tNil)))) (tCons (tTup (tCons (cVar 4) (tCons (cVar 5) (tCons (cVar 6) tNil)))) tNil)) tNil W))
  tNext)
  (tSeq (tIfS (cTest (tOp (oEqG (gg K S)) (cVar 3) (tC (.str "here"))))
  (tRet (tTup (tCons (cVar 4) (tCons (tCB (bMax) (tCons (cVar 5) (tCons (cVar 2) tNil))) (tCons (tC (.str "here")) tNil)))))
  tNext)
  (tRet (tTup (tCons (cVar 4) (tCons (tIf (cTest (tOp (oGeK K) (cVar 2) (cVar 5))) (tOp (oAdd K) (cVar 2) (tC (.int 1))) (cVar 5)) (tCons (tC (.str "here")) tNil)))))))))
theorem e_View_put_right (K : PySem.W.Frag) (S : Str → Sp) (W : WX) : tBody (tS (gg K S) 40 d_View_put_right.N (defScope d_View_put_right.st)) (defBody d_View_put_right.st) W = r_View_put_right K S W := by kernel_rfl
def r_View_silence (K : PySem.W.Frag) (S : Str → Sp) (W : WX) : TS :=
  (tSeq (tIfS (tOr (tNot (cTru K (cCall (S "is_name") 1 0 (fun vs _ => vs) (tCons (cVar 1) tNil) tNil W))) (tOr (cTest (tOp (oEqG (gg K S)) (cVar 1) (cAttr [He.ga K "View"] "own_name" (cVar 0)))) (cTest (tOp (oIn K true) (cVar 1) (cAttr [He.ga K "View"] "heard_rows" (cVar 0))))))
  (tRs W (He.ga K "NotThere") "found" (cVar 1))
  tNext)
  (tSeq (tAsg (tOp (oIx K) (cAttr [He.ga K "View"] "heard_rows" (cVar 0)) (cVar 1)) (cTupG K 3 (gCons (gName 2) (gCons (gName 3) (gCons (gName 4) gNil)))))
  (tIfS (cTest (tOp (oEqG (gg K S)) (cVar 4) (tC (.str "here"))))
  (tAsg (tTup (tCons (cVar 2) (tCons (cVar 3) (tCons (tC (.str "silent")) tNil)))) (gSub (cAttr [He.ga K "View"] "heard_rows" (cVar 0)) (cVar 1) oSet))
  tNext)))
theorem e_View_silence (K : PySem.W.Frag) (S : Str → Sp) (W : WX) : tBody (tS (gg K S) 40 d_View_silence.N (defScope d_View_silence.st)) (defBody d_View_silence.st) W = r_View_silence K S W := by kernel_rfl
def r_View_join (K : PySem.W.Frag) (S : Str → Sp) (W : WX) : TS :=
  (tSeq (tIfS (tNot (cTru K (tCB (bIsO (gg K S) (He.ga K "View")) (tCons (cVar 1) (tCons (tC (.ref (He.ga K "View"))) tNil)))))
  (tRs W (He.ga K "NoView") "found" (cVar 1))
  tNext)
  (tSeq (orL (tAsg (cLc (cDview 2 (frzE (mC (gg K S) "told" 0 0 [] (cVar 1) tNil tNil W))) (cTupG K 2 (gCons (gName 3) (gCons (cTupG K 3 (gCons (gName 4) (gCons (gName 5) (gCons (gName 6) gNil)))) gNil))) tYes (mC (gg K S) "hear" 4 0 [] (cVar 0) (tCons (cVar 3) (tCons (cVar 4) (tCons (cVar 5) (tCons (cVar 6) tNil)))) tNil wNone) [3, 4, 5, 6]) (gName 2)))
  (tRet (tCB (bAny K) (tCons (cVar 2) tNil)))))
theorem e_View_join (K : PySem.W.Frag) (S : Str → Sp) (W : WX) : tBody (tS (gg K S) 40 d_View_join.N (defScope d_View_join.st)) (defBody d_View_join.st) W = r_View_join K S W := by kernel_rfl
def r_View_copied (K : PySem.W.Frag) (S : Str → Sp) (W : WX) : TS :=
  (tSeq (tAsg (tOp (oIx K) (cAttr [He.ga K "View"] "heard_rows" (cVar 0)) (cAttr [He.ga K "View"] "own_name" (cVar 0))) (cTupG K 3 (gCons (gName 2) (gCons (gName 3) (gCons (gName 4) gNil)))))
  (tSeq (tAsg (cMk (He.ga K "View") 2 1 (fun vs zs => vs ++ zs) (S "View.__init__") (tCons (cAttr [He.ga K "View"] "own_name" (cVar 0)) (tCons (cVar 2) tNil)) (tCons (cVar 3) tNil) W) (gName 1))
  (tSeq (cFldS [He.ga K "View"] "heard_rows" (cVar 1) (tCB (bDict K) (tCons (cAttr [He.ga K "View"] "heard_rows" (cVar 0)) tNil)))
  (tRet (cVar 1)))))
theorem e_View_copied (K : PySem.W.Frag) (S : Str → Sp) (W : WX) : tBody (tS (gg K S) 40 d_View_copied.N (defScope d_View_copied.st)) (defBody d_View_copied.st) W = r_View_copied K S W := by kernel_rfl
def r_talk (K : PySem.W.Frag) (S : Str → Sp) (W : WX) : TS :=
  (tSeq (orL (cFor (cIter K (frzE (tTup (tCons (cVar 0) (tCons (cVar 1) tNil))))) (gName 2)
  (tIfS (tNot (cTru K (tCB (bIsO (gg K S) (He.ga K "View")) (tCons (cVar 2) (tCons (tC (.ref (He.ga K "View"))) tNil)))))
  (tRs W (He.ga K "NoView") "found" (cVar 2))
  tNext)))
  (tSeq (tIfS (cTest (tOp (oEqG (gg K S)) (mC (gg K S) "own" 0 0 [] (cVar 0) tNil tNil W) (mC (gg K S) "own" 0 0 [] (cVar 1) tNil tNil W)))
  (tRs W (He.ga K "Twice") "found" (mC (gg K S) "own" 0 0 [] (cVar 0) tNil tNil W))
  tNext)
  (tSeq (tAsg (tC (.int 0)) (gName 3))
  (tSeq (cWhile (cTru K (tOp oBor (mC (gg K S) "join" 1 0 [] (cVar 0) (tCons (cVar 1) tNil) tNil W) (mC (gg K S) "join" 1 0 [] (cVar 1) (tCons (cVar 0) tNil) tNil W)))
  (cAug 3 (tC (.int 1)) (oIAdd K)))
  (tRet (cVar 3))))))
theorem e_talk (K : PySem.W.Frag) (S : Str → Sp) (W : WX) : tBody (tS (gg K S) 40 d_talk.N (defScope d_talk.st)) (defBody d_talk.st) W = r_talk K S W := by kernel_rfl
def r__law_cell_at (K : PySem.W.Frag) (S : Str → Sp) (W : WX) : TS :=
  (tSeq (tIfS (cTest (tOp oLt (cVar 1) (tCB (bLenG (gg K S)) (tCons (cVar 0) tNil))))
  (tRet (tOp (oIx K) (cVar 0) (cVar 1)))
  tNext)
  (tRet (tC (.int 0))))
theorem e__law_cell_at (K : PySem.W.Frag) (S : Str → Sp) (W : WX) : tBody (tS (gg K S) 40 d__law_cell_at.N (defScope d__law_cell_at.st)) (defBody d__law_cell_at.st) W = r__law_cell_at K S W := by kernel_rfl
def r__law_row (K : PySem.W.Frag) (S : Str → Sp) (W : WX) : TS :=
  (tSeq (tAsg (tLst tNil) (gName 3))
  (tSeq (tAsg (tC (.int 0)) (gName 4))
  (tSeq (tIfS (cTest (tOp (oGeK K) (tCB (bAbs) (tCons (cVar 0) tNil)) (tOp oPow (tC (.int 10)) (tC (.int 18)))))
  (tAsg (tCB (bAbs) (tCons (cVar 0) tNil)) (gName 4))
  tNext)
  (tSeq (orL (cFor (cRng1 (tCons (cVar 1) tNil)) (gName 5)
  (tIfS (cTest (tOp (oGtK K) (cVar 4) (tC (.int 0))))
  (tSeq (tDrop (mC (gg K S) "append" 1 0 [] (cVar 3) (tCons (tOp oMod (cVar 4) (tC (.int 1000003))) tNil) tNil W))
  (tAsg (tOp oFdiv (cVar 4) (tC (.int 1000003))) (gName 4)))
  (tSeq (tAsg (tOp (oAdd K) (tOp (oAdd K) (tOp oMul (tOp (oAdd K) (tOp oMod (cVar 0) (tC (.int 2147483629))) (tC (.int 1))) (tOp (oAdd K) (cVar 2) (tOp oMul (tC (.int 48271)) (cVar 5)))) (tOp oMul (tC (.int 69621)) (cVar 5))) (cVar 2)) (gName 6))
  (tSeq (tAsg (tOp oMod (tOp oPow (tOp oMod (cVar 6) (tC (.int 2147483647))) (tC (.int 5))) (tC (.int 2147483647))) (gName 6))
  (tDrop (mC (gg K S) "append" 1 0 [] (cVar 3) (tCons (tOp oFdiv (tOp oMod (tOp oPow (tOp (oAdd K) (cVar 6) (cVar 5)) (tC (.int 5))) (tC (.int 2147483629))) (tC (.int 16))) tNil) tNil W)))))))
  (tRet (cVar 3))))))
theorem e__law_row (K : PySem.W.Frag) (S : Str → Sp) (W : WX) : tBody (tS (gg K S) 40 d__law_row.N (defScope d__law_row.st)) (defBody d__law_row.st) W = r__law_row K S W := by kernel_rfl
def r__law_alike (K : PySem.W.Frag) (S : Str → Sp) (W : WX) : TS :=
  (tSeq (tIfS (cTest (tOp oIs (cVar 1) (tC .non)))
  (tRet (tOp oIs (cVar 0) (tC .non)))
  tNext)
  (tSeq (tIfS (cTru K (tCB (bIsi K) (tCons (cVar 1) (tCons (tC (.ty "bool")) tNil))))
  (tRet (cAnd K (tCB (bIsi K) (tCons (cVar 0) (tCons (tC (.ty "bool")) tNil))) (tOp (oEqG (gg K S)) (cVar 0) (cVar 1))))
  tNext)
  (tSeq (tIfS (cTru K (tCB (bIsi K) (tCons (cVar 1) (tCons (tC (.ty "int")) tNil))))
  (tRet (cAnd K (tCB (bIsi K) (tCons (cVar 0) (tCons (tC (.ty "int")) tNil))) (cAnd K (cNot K (tCB (bIsi K) (tCons (cVar 0) (tCons (tC (.ty "bool")) tNil)))) (tOp (oEqG (gg K S)) (cVar 0) (cVar 1)))))
  tNext)
  (tSeq (tIfS (cTru K (tCB (bIsi K) (tCons (cVar 1) (tCons (tC (.ty "str")) tNil))))
  (tRet (cAnd K (tCB (bIsi K) (tCons (cVar 0) (tCons (tC (.ty "str")) tNil))) (tOp (oEqG (gg K S)) (cVar 0) (cVar 1))))
  tNext)
  (tSeq (tIfS (cTru K (tCB (bIsi K) (tCons (cVar 1) (tCons (tC (.ty "dict")) tNil))))
  (tSeq (tIfS (tOr (tNot (cTru K (tCB (bIsi K) (tCons (cVar 0) (tCons (tC (.ty "dict")) tNil))))) (cTest (tOp (oNeG (gg K S)) (tCB (bList K) (tCons (cVar 0) tNil)) (tCB (bList K) (tCons (cVar 1) tNil)))))
  (tRet (tC (.bl false)))
  tNext)
  (tRet (tCB (bAll K) (tCons (cLcL (cIter K (frzE (cVar 1))) (gName 3) tYes (cCall (S "_law_alike") 2 0 (fun vs _ => vs) (tCons (tOp (oIx K) (cVar 0) (cVar 3)) (tCons (tOp (oIx K) (cVar 1) (cVar 3)) tNil)) tNil wNone) [3]) tNil))))
  tNext)
  (tSeq (tIfS (cTru K (tCB (bIsi K) (tCons (cVar 1) (tCons (tC (.ty "tuple")) tNil))))
  (tIfS (tNot (cTru K (tCB (bIsi K) (tCons (cVar 0) (tCons (tC (.ty "tuple")) tNil)))))
  (tRet (tC (.bl false)))
  tNext)
  (tIfS (tNot (cTru K (tCB (bIsi K) (tCons (cVar 0) (tCons (tC (.ty "list")) tNil)))))
  (tRet (tC (.bl false)))
  tNext))
  (tSeq (tIfS (cTest (tOp (oNeG (gg K S)) (tCB (bLenG (gg K S)) (tCons (cVar 0) tNil)) (tCB (bLenG (gg K S)) (tCons (cVar 1) tNil))))
  (tRet (tC (.bl false)))
  tNext)
  (tRet (tCB (bAll K) (tCons (cLcL (cRng1 (tCons (tCB (bLenG (gg K S)) (tCons (cVar 1) tNil)) tNil)) (gName 2) tYes (cCall (S "_law_alike") 2 0 (fun vs _ => vs) (tCons (tOp (oIx K) (cVar 0) (cVar 2)) (tCons (tOp (oIx K) (cVar 1) (cVar 2)) tNil)) tNil wNone) [2]) tNil))))))))))
theorem e__law_alike (K : PySem.W.Frag) (S : Str → Sp) (W : WX) : tBody (tS (gg K S) 40 d__law_alike.N (defScope d__law_alike.st)) (defBody d__law_alike.st) W = r__law_alike K S W := by kernel_rfl
def r__law_names (K : PySem.W.Frag) (S : Str → Sp) (W : WX) : TS :=
  (tSeq (tAsg (cCall (S "_law_row") 3 0 (fun vs _ => vs) (tCons (cVar 0) (tCons (tC (.int 24)) (tCons (tC (.int 7)) tNil))) tNil W) (gName 2))
  (tSeq (tAsg (tC (.str "abcdefghijklmnopqrstuvwxyz")) (gName 3))
  (tSeq (tAsg (mC (gg K S) "join" 1 0 [] (tC (.str "")) (tCons (cLcL (cIter K (frzE (tSl (oSl K) (cVar 2) (cPart (tC (.int 2))) (cPart (tC (.int 9)))))) (gName 10) tYes (tOp (oIx K) (cVar 3) (tOp oMod (cVar 10) (tC (.int 26)))) [10]) tNil) tNil W) (gName 4))
  (tSeq (tAsg (tOp oMod (tOp (oIx K) (cVar 2) (tC (.int 9))) (tC (.int 8))) (gName 5))
  (tSeq (tAsg (tOp (oIx K) (tLst (tCons (tC (.int 7)) (tCons (tC (.int 19)) (tCons (tC (.int 3)) (tCons (tC (.int 23)) tNil))))) (tOp oMod (tOp (oIx K) (cVar 2) (tC (.int 10))) (tC (.int 4)))) (gName 6))
  (tSeq (tAsg (tLst tNil) (gName 7))
  (tSeq (orL (cFor (cRng1 (tCons (cVar 1) tNil)) (gName 8)
  (tSeq (tAsg (tOp (oAdd K) (tSl (oSl K) (cVar 4) tNoPart (cPart (cVar 5))) (tOp (oIx K) (cVar 3) (tOp oMod (tOp (oAdd K) (tOp (oIx K) (cVar 2) (tC (.int 11))) (tOp oMul (cVar 6) (cVar 8))) (tC (.int 26))))) (gName 9))
  (tDrop (mC (gg K S) "append" 1 0 [] (cVar 7) (tCons (tOp (oAdd K) (cVar 9) (tSl (oSl K) (cVar 4) (cPart (cVar 5)) (cPart (tOp (oAdd K) (cVar 5) (tOp oMod (tOp (oIx K) (cVar 2) (tOp (oAdd K) (tC (.int 12)) (tOp oMod (cVar 8) (tC (.int 8))))) (tOp oSub (tC (.int 8)) (cVar 5))))))) tNil) tNil W)))))
  (tSeq (tIfS (tAnd (cTest (tOp (oGtK K) (cVar 1) (tC (.int 1)))) (tAnd (cTest (tOp oLt (tCB (bLenG (gg K S)) (tCons (tOp (oIx K) (cVar 7) (tC (.int 0))) tNil)) (tC (.int 8)))) (cTest (tOp (oEqG (gg K S)) (tOp oMod (tOp (oIx K) (cVar 2) (tC (.int 0))) (tC (.int 3))) (tC (.int 0))))))
  (tAsg (tOp (oAdd K) (tOp (oIx K) (cVar 7) (tC (.int 0))) (tOp (oIx K) (cVar 3) (tOp oMod (tOp (oIx K) (cVar 2) (tC (.int 1))) (tC (.int 26))))) (gSub (cVar 7) (tC (.int 1)) oSet))
  tNext)
  (tRet (cVar 7))))))))))
theorem e__law_names (K : PySem.W.Frag) (S : Str → Sp) (W : WX) : tBody (tS (gg K S) 40 d__law_names.N (defScope d__law_names.st)) (defBody d__law_names.st) W = r__law_names K S W := by kernel_rfl
def r__law_said (K : PySem.W.Frag) (S : Str → Sp) (W : WX) : TS :=
  (tTryW K W [.one (.ref (He.ga K "NoName")) (some 4) (fun a cls d => (tRet (tTup (tCons (tC (.str "name")) (tCons (cXf (gg K S) 4 a cls d "found") (tCons (cAnd K (tCB (rIsX (gg K S) a cls d) (tCons (cVar 4) (tCons (tC (.ref (He.ga K "PeerError"))) tNil))) (cNot K (tCB (rIsX (gg K S) a cls d) (tCons (cVar 4) (tCons (tC (.ref (He.ga K "Absent"))) tNil))))) tNil)))))), .one (.ref (He.ga K "NoPlace")) (some 4) (fun a cls d => (tRet (tTup (tCons (tC (.str "place")) (tCons (cXf (gg K S) 4 a cls d "found") (tCons (cAnd K (tCB (rIsX (gg K S) a cls d) (tCons (cVar 4) (tCons (tC (.ref (He.ga K "PeerError"))) tNil))) (cNot K (tCB (rIsX (gg K S) a cls d) (tCons (cVar 4) (tCons (tC (.ref (He.ga K "Absent"))) tNil))))) tNil)))))), .one (.ref (He.ga K "NoNumber")) (some 4) (fun a cls d => (tRet (tTup (tCons (tC (.str "number")) (tCons (cXf (gg K S) 4 a cls d "found") (tCons (cAnd K (tCB (rIsX (gg K S) a cls d) (tCons (cVar 4) (tCons (tC (.ref (He.ga K "PeerError"))) tNil))) (cNot K (tCB (rIsX (gg K S) a cls d) (tCons (cVar 4) (tCons (tC (.ref (He.ga K "Absent"))) tNil))))) tNil)))))), .one (.ref (He.ga K "NoWord")) (some 4) (fun a cls d => (tRet (tTup (tCons (tC (.str "word")) (tCons (cXf (gg K S) 4 a cls d "found") (tCons (cAnd K (tCB (rIsX (gg K S) a cls d) (tCons (cVar 4) (tCons (tC (.ref (He.ga K "PeerError"))) tNil))) (cNot K (tCB (rIsX (gg K S) a cls d) (tCons (cVar 4) (tCons (tC (.ref (He.ga K "Absent"))) tNil))))) tNil)))))), .one (.ref (He.ga K "NoView")) (some 4) (fun a cls d => (tRet (tTup (tCons (tC (.str "view")) (tCons (cXf (gg K S) 4 a cls d "found") (tCons (cAnd K (tCB (rIsX (gg K S) a cls d) (tCons (cVar 4) (tCons (tC (.ref (He.ga K "PeerError"))) tNil))) (cNot K (tCB (rIsX (gg K S) a cls d) (tCons (cVar 4) (tCons (tC (.ref (He.ga K "Absent"))) tNil))))) tNil)))))), .one (.ref (He.ga K "Twice")) (some 4) (fun a cls d => (tRet (tTup (tCons (tC (.str "twice")) (tCons (cXf (gg K S) 4 a cls d "found") (tCons (cAnd K (tCB (rIsX (gg K S) a cls d) (tCons (cVar 4) (tCons (tC (.ref (He.ga K "PeerError"))) tNil))) (cNot K (tCB (rIsX (gg K S) a cls d) (tCons (cVar 4) (tCons (tC (.ref (He.ga K "Absent"))) tNil))))) tNil)))))), .one (.ref (He.ga K "NotThere")) (some 4) (fun a cls d => (tRet (tTup (tCons (tC (.str "there")) (tCons (cXf (gg K S) 4 a cls d "found") (tCons (cAnd K (tCB (rIsX (gg K S) a cls d) (tCons (cVar 4) (tCons (tC (.ref (He.ga K "Absent"))) tNil))) (cNot K (tCB (rIsX (gg K S) a cls d) (tCons (cVar 4) (tCons (tC (.ref (He.ga K "PeerError"))) tNil))))) tNil))))))] fun W =>
  (tRet (tTup (tCons (tC (.str "told")) (tCons (cCall (S "_law_done") 4 0 (fun vs _ => vs) (tCons (cVar 0) (tCons (cVar 1) (tCons (cVar 2) (tCons (cVar 3) tNil)))) tNil W) tNil)))))
theorem e__law_said (K : PySem.W.Frag) (S : Str → Sp) (W : WX) : tBody (tS (gg K S) 40 d__law_said.N (defScope d__law_said.st)) (defBody d__law_said.st) W = r__law_said K S W := by kernel_rfl
def r__law_done (K : PySem.W.Frag) (S : Str → Sp) (W : WX) : TS :=
  (tSeq (tIfS (cTest (tOp (oEqG (gg K S)) (cVar 0) (tC (.int 0))))
  (tRet (cMk (He.ga K "View") 0 3 (fun vs zs => [2, 1, 0].map fun i => (vs ++ zs).getD i V.non) (S "View.__init__") tNil (tCons (tOp (oIx K) (cVar 3) (tC (.int 2))) (tCons (tOp (oIx K) (cVar 3) (tC (.int 1))) (tCons (tOp (oIx K) (cVar 3) (tC (.int 0))) tNil))) W))
  tNext)
  (tSeq (tIfS (cTest (tOp (oEqG (gg K S)) (cVar 0) (tC (.int 1))))
  (tRet (mC (gg K S) "hear" 0 4 ["word", "number", "place", "name"] (mC (gg K S) "copied" 0 0 [] (cVar 1) tNil tNil W) tNil (tCons (tOp (oIx K) (cVar 3) (tC (.int 3))) (tCons (tOp (oIx K) (cVar 3) (tC (.int 2))) (tCons (tOp (oIx K) (cVar 3) (tC (.int 1))) (tCons (tOp (oIx K) (cVar 3) (tC (.int 0))) tNil)))) W))
  tNext)
  (tSeq (tIfS (cTest (tOp (oEqG (gg K S)) (cVar 0) (tC (.int 2))))
  (tRet (mC (gg K S) "silence" 0 1 ["name"] (mC (gg K S) "copied" 0 0 [] (cVar 1) tNil tNil W) tNil (tCons (tOp (oIx K) (cVar 3) (tC (.int 0))) tNil) W))
  tNext)
  (tSeq (tIfS (cTest (tOp (oEqG (gg K S)) (cVar 0) (tC (.int 3))))
  (tRet (mC (gg K S) "join" 1 0 [] (mC (gg K S) "copied" 0 0 [] (cVar 1) tNil tNil W) (tCons (tOp (oIx K) (cVar 3) (tC (.int 0))) tNil) tNil W))
  tNext)
  (tSeq (tIfS (cTest (tOp (oEqG (gg K S)) (cVar 0) (tC (.int 4))))
  (tRet (cCall (S "talk") 2 0 (fun vs _ => vs) (tCons (tOp (oIx K) (cVar 3) (tC (.int 0))) (tCons (tOp (oIx K) (cVar 3) (tC (.int 1))) tNil)) tNil W))
  tNext)
  (tSeq (tIfS (cTest (tOp (oEqG (gg K S)) (cVar 0) (tC (.int 5))))
  (tRet (cCall (S "talk") 2 0 (fun vs _ => vs) (tCons (tOp (oIx K) (cVar 3) (tC (.int 1))) (tCons (tOp (oIx K) (cVar 3) (tC (.int 0))) tNil)) tNil W))
  tNext)
  (tSeq (tIfS (cTest (tOp (oEqG (gg K S)) (cVar 0) (tC (.int 6))))
  (tRet (mC (gg K S) "seen" 0 1 ["name"] (mC (gg K S) "copied" 0 0 [] (cVar 2) tNil tNil W) tNil (tCons (tOp (oIx K) (cVar 3) (tC (.int 0))) tNil) W))
  tNext)
  (tRet (mC (gg K S) "count_of" 0 1 ["name"] (cVar 2) tNil (tCons (tOp (oIx K) (cVar 3) (tC (.int 0))) tNil) W)))))))))
theorem e__law_done (K : PySem.W.Frag) (S : Str → Sp) (W : WX) : tBody (tS (gg K S) 40 d__law_done.N (defScope d__law_done.st)) (defBody d__law_done.st) W = r__law_done K S W := by kernel_rfl
def r__law_good (K : PySem.W.Frag) (S : Str → Sp) (W : WX) : TS :=
  (tSeq (tIfS (cTest (tOp (oEqG (gg K S)) (cVar 0) (tC (.int 0))))
  (tRet (tLst (tCons (tTup (tCons (tC (.str "name")) (tCons (tOp (oIx K) (cVar 1) (tC (.int 1))) tNil))) (tCons (tTup (tCons (tC (.str "place")) (tCons (tC (.int 255)) tNil))) (tCons (tTup (tCons (tC (.str "number")) (tCons (tC (.int 999999)) tNil))) tNil)))))
  tNext)
  (tSeq (tIfS (cTest (tOp (oEqG (gg K S)) (cVar 0) (tC (.int 1))))
  (tRet (tLst (tCons (tTup (tCons (tC (.str "name")) (tCons (tOp (oIx K) (cVar 1) (tC (.int 1))) tNil))) (tCons (tTup (tCons (tC (.str "place")) (tCons (tC (.int 0)) tNil))) (tCons (tTup (tCons (tC (.str "number")) (tCons (tC (.int 1)) tNil))) (tCons (tTup (tCons (tC (.str "word")) (tCons (tC (.str "silent")) tNil))) tNil))))))
  tNext)
  (tSeq (tIfS (cTest (tOp (oEqG (gg K S)) (cVar 0) (tC (.int 2))))
  (tRet (tLst (tCons (tTup (tCons (tC (.str "there")) (tCons (tOp (oIx K) (cVar 1) (tC (.int 1))) tNil))) tNil)))
  tNext)
  (tSeq (tIfS (cTest (tOp (oEqG (gg K S)) (cVar 0) (tC (.int 3))))
  (tRet (tLst (tCons (tTup (tCons (tC (.str "view")) (tCons (cMk (He.ga K "View") 2 0 (fun vs _ => vs ++ [V.int 1]) (S "View.__init__") (tCons (tOp (oIx K) (cVar 1) (tC (.int 2))) (tCons (tC (.int 5)) tNil)) tNil W) tNil))) tNil)))
  tNext)
  (tSeq (tIfS (tOr (cTest (tOp (oEqG (gg K S)) (cVar 0) (tC (.int 4)))) (cTest (tOp (oEqG (gg K S)) (cVar 0) (tC (.int 5)))))
  (tRet (tLst (tCons (tTup (tCons (tC (.str "view")) (tCons (mC (gg K S) "copied" 0 0 [] (cVar 2) tNil tNil W) tNil))) (tCons (tTup (tCons (tC (.str "view")) (tCons (cMk (He.ga K "View") 2 0 (fun vs _ => vs ++ [V.int 1]) (S "View.__init__") (tCons (tOp (oIx K) (cVar 1) (tC (.int 2))) (tCons (tC (.int 5)) tNil)) tNil W) tNil))) tNil))))
  tNext)
  (tRet (tLst (tCons (tTup (tCons (tC (.str "name")) (tCons (tOp (oIx K) (cVar 1) (tC (.int 1))) tNil))) tNil))))))))
theorem e__law_good (K : PySem.W.Frag) (S : Str → Sp) (W : WX) : tBody (tS (gg K S) 40 d__law_good.N (defScope d__law_good.st)) (defBody d__law_good.st) W = r__law_good K S W := by kernel_rfl
def r__law_bad (K : PySem.W.Frag) (S : Str → Sp) (W : WX) : TS :=
  (tSeq (tAsg (tLst (tCons (tC .non) (tCons (tC (.bl true)) (tCons (tLst (tCons (tOp (oIx K) (cVar 2) (tC (.int 0))) tNil)) (tCons (tTup (tCons (tOp (oIx K) (cVar 2) (tC (.int 0))) tNil)) (tCons tDNewK (tCons (tC (.int 0)) (tCons (cMk (He.ga K "Wrongs") 0 0 (fun vs _ => vs) (S "Wrongs.__init__") tNil tNil W) (tCons (tLst (tCons (tLst (tCons (tLst (tCons (tLst (tCons (tLst (tCons (tLst (tCons (tLst (tCons (tLst (tCons (tC (.int 0)) tNil)) tNil)) tNil)) tNil)) tNil)) tNil)) tNil)) tNil)) tNil))))))))) (gName 4))
  (tSeq (tIfS (cTest (tOp (oEqG (gg K S)) (cVar 0) (tC (.str "name"))))
  (tAsg (tOp (oAdd K) (cVar 4) (tLst (tCons (tC (.str "")) (tCons (tC (.str "A")) (tCons (tC (.str "ninechars")) (tCons (tOp (oAdd K) (tOp (oIx K) (cVar 2) (tC (.int 0))) (tC (.str " "))) (tCons (cVar 3) tNil))))))) (gName 4))
  tNext)
  (tSeq (tIfS (cTest (tOp (oEqG (gg K S)) (cVar 0) (tC (.str "place"))))
  (tAsg (tOp (oAdd K) (tSl (oSl K) (cVar 4) tNoPart (cPart (tC (.int 5)))) (tLst (tCons (tOp oSub (tC (.int 0)) (tC (.int 1))) (tCons (tC (.int 256)) (tCons (tC (.str "7")) (tCons (tOp oPow (tC (.int 10)) (tC (.int 29))) (tCons (cVar 3) tNil))))))) (gName 4))
  tNext)
  (tSeq (tIfS (cTest (tOp (oEqG (gg K S)) (cVar 0) (tC (.str "number"))))
  (tAsg (tOp (oAdd K) (tSl (oSl K) (cVar 4) tNoPart (cPart (tC (.int 5)))) (tLst (tCons (tC (.int 0)) (tCons (tOp oSub (tC (.int 0)) (tC (.int 1))) (tCons (tC (.str "1")) (tCons (tOp oSub (tC (.int 1)) (tOp oPow (tC (.int 10)) (tC (.int 29)))) (tCons (cVar 3) tNil))))))) (gName 4))
  tNext)
  (tSeq (tIfS (cTest (tOp (oEqG (gg K S)) (cVar 0) (tC (.str "word"))))
  (tAsg (tOp (oAdd K) (cVar 4) (tLst (tCons (tC (.str "")) (tCons (tC (.str "Here")) (tCons (tC (.str "here ")) (tCons (tC (.str "gon")) (tCons (cVar 3) tNil))))))) (gName 4))
  tNext)
  (tSeq (tIfS (cTest (tOp (oEqG (gg K S)) (cVar 0) (tC (.str "there"))))
  (tAsg (tOp (oAdd K) (cVar 4) (tLst (tCons (tOp (oIx K) (cVar 2) (tC (.int 0))) (tCons (tOp (oIx K) (cVar 2) (tC (.int 4))) (tCons (tC (.str "A")) (tCons (cVar 3) (tCons (tC (.str "")) tNil))))))) (gName 4))
  tNext)
  (tSeq (tIfS (cTest (tOp (oEqG (gg K S)) (cVar 0) (tC (.str "view"))))
  (tAsg (tOp (oAdd K) (cVar 4) (tLst (tCons (tOp (oIx K) (cVar 2) (tC (.int 0))) (tCons (mC (gg K S) "told" 0 0 [] (cVar 3) tNil tNil W) (tCons (tCB (bStrG (gg K S)) (tCons (cVar 3) tNil)) (tCons (tC (.str "")) tNil)))))) (gName 4))
  tNext)
  (tRet (tOp (oIx K) (cVar 4) (tOp oMod (cVar 1) (tCB (bLenG (gg K S)) (tCons (cVar 4) tNil))))))))))))
theorem e__law_bad (K : PySem.W.Frag) (S : Str → Sp) (W : WX) : tBody (tS (gg K S) 40 d__law_bad.N (defScope d__law_bad.st)) (defBody d__law_bad.st) W = r__law_bad K S W := by kernel_rfl
def r__law_same (K : PySem.W.Frag) (S : Str → Sp) (W : WX) : TS :=
  (tSeq (tIfS (cTru K (tCB (bIsO (gg K S) (He.ga K "View")) (tCons (cVar 1) (tCons (tC (.ref (He.ga K "View"))) tNil))))
  (tRet (cAnd K (tCB (bIsO (gg K S) (He.ga K "View")) (tCons (cVar 0) (tCons (tC (.ref (He.ga K "View"))) tNil))) (tOp (oEqG (gg K S)) (cVar 0) (cVar 1))))
  tNext)
  (tSeq (tIfS (cTru K (tCB (bIsO (gg K S) (He.ga K "Wrongs")) (tCons (cVar 1) (tCons (tC (.ref (He.ga K "Wrongs"))) tNil))))
  (tRet (cAnd K (tCB (bIsO (gg K S) (He.ga K "Wrongs")) (tCons (cVar 0) (tCons (tC (.ref (He.ga K "Wrongs"))) tNil))) (tOp (oEqG (gg K S)) (cVar 0) (cVar 1))))
  tNext)
  (tSeq (tIfS (cTru K (tCB (bIsi K) (tCons (cVar 1) (tCons (tC (.ty "list")) tNil))))
  (tDrop (mC (gg K S) "append" 1 0 [] (cVar 1) (tCons (tC (.str "more")) tNil) tNil W))
  tNext)
  (tRet (cCall (S "_law_alike") 2 0 (fun vs _ => vs) (tCons (cVar 0) (tCons (cVar 1) tNil)) tNil W)))))
theorem e__law_same (K : PySem.W.Frag) (S : Str → Sp) (W : WX) : tBody (tS (gg K S) 40 d__law_same.N (defScope d__law_same.st)) (defBody d__law_same.st) W = r__law_same K S W := by kernel_rfl
def r__law_asked (K : PySem.W.Frag) (S : Str → Sp) (W : WX) : TS :=
  (tSeq (tAsg (cCall (S "_law_good") 3 0 (fun vs _ => vs) (tCons (cVar 0) (tCons (cVar 1) (tCons (cVar 2) tNil))) tNil W) (gName 5))
  (tSeq (orL (tAsg (cLc (cIter K (frzE (cVar 5))) (cTupG K 2 (gCons (gName 11) (gCons (gName 12) gNil))) tYes (cVar 12) [11, 12]) (gName 6)))
  (tSeq (tAsg (tC .non) (gName 7))
  (tSeq (orL (cFor (cEnum K (tCons (cVar 5) tNil)) (cTupG K 2 (gCons (gName 9) (gCons (gName 10) gNil)))
  (tIfS (tOr (cTest (tOp (oEqG (gg K S)) (tOp oMod (tOp oFdiv (cVar 4) (tC (.int 32))) (tC (.int 3))) (tC (.int 1)))) (cTest (tOp (oEqG (gg K S)) (tOp oMod (cVar 4) (tC (.int 4))) (cVar 9))))
  (tSeq (tAsg (cCall (S "_law_bad") 4 0 (fun vs _ => vs) (tCons (tOp (oIx K) (cVar 10) (tC (.int 0))) (tCons (tOp oFdiv (cVar 4) (tOp (oAdd K) (tC (.int 7)) (tOp oMul (tC (.int 2)) (cVar 9)))) (tCons (cVar 1) (tCons (cVar 2) tNil)))) tNil W) (gSub (cVar 6) (cVar 9) oSet))
  (tIfS (tOr (cTest (tOp oIs (cVar 7) (tC .non))) (cTest (tOp (oEqG (gg K S)) (cVar 0) (tC (.int 5)))))
  (tAsg (tTup (tCons (tOp (oIx K) (cVar 10) (tC (.int 0))) (tCons (tOp (oIx K) (cVar 6) (cVar 9)) tNil))) (gName 7))
  tNext))
  tNext)))
  (tSeq (tAsg (cCall (S "_law_said") 4 0 (fun vs _ => vs) (tCons (cVar 0) (tCons (cVar 2) (tCons (cVar 3) (tCons (cVar 6) tNil)))) tNil W) (gName 8))
  (tSeq (tIfS (cTest (tOp oIs (cVar 7) (tC .non)))
  (tRet (tOp (oEqG (gg K S)) (tOp (oIx K) (cVar 8) (tC (.int 0))) (tC (.str "told"))))
  tNext)
  (tRet (cAnd K (tOp (oEqG (gg K S)) (tOp (oIx K) (cVar 8) (tC (.int 0))) (tOp (oIx K) (cVar 7) (tC (.int 0)))) (cAnd K (tOp oIs (tOp (oIx K) (cVar 8) (cUn (tC (.int 1)))) (tC (.bl true))) (cCall (S "_law_same") 2 0 (fun vs _ => vs) (tCons (tOp (oIx K) (cVar 8) (tC (.int 1))) (tCons (tOp (oIx K) (cVar 7) (tC (.int 1))) tNil)) tNil W))))))))))
theorem e__law_asked (K : PySem.W.Frag) (S : Str → Sp) (W : WX) : tBody (tS (gg K S) 40 d__law_asked.N (defScope d__law_asked.st)) (defBody d__law_asked.st) W = r__law_asked K S W := by kernel_rfl
def r_law (K : PySem.W.Frag) (S : Str → Sp) (W : WX) : TS :=
  (tSeq (tAsg (cCall (S "_law_names") 2 0 (fun vs _ => vs) (tCons (cCall (S "_law_cell_at") 2 0 (fun vs _ => vs) (tCons (cVar 0) (tCons (tC (.int 0)) tNil)) tNil W) (tCons (tC (.int 5)) tNil)) tNil W) (gName 1))
  (tSeq (tAsg (cMk (He.ga K "View") 2 0 (fun vs _ => vs ++ [V.int 1]) (S "View.__init__") (tCons (tOp (oIx K) (cVar 1) (tC (.int 0))) (tCons (tC (.int 3)) tNil)) tNil W) (gName 2))
  (tSeq (orL (cFor (cRng2 (tCons (tC (.int 1)) (tCons (tC (.int 4)) tNil))) (gName 3)
  (tDrop (mC (gg K S) "hear" 4 0 [] (cVar 2) (tCons (tOp (oIx K) (cVar 1) (cVar 3)) (tCons (cVar 3) (tCons (cVar 3) (tCons (tOp (oIx K) (tLst (tCons (tC (.str "here")) (tCons (tC (.str "silent")) (tCons (tC (.str "gone")) tNil)))) (tOp oMod (tOp oFdiv (cCall (S "_law_cell_at") 2 0 (fun vs _ => vs) (tCons (cVar 0) (tCons (tC (.int 1)) tNil)) tNil W) (tOp (oIx K) (tLst (tCons (tC (.int 1)) (tCons (tC (.int 3)) (tCons (tC (.int 9)) tNil)))) (tOp oSub (cVar 3) (tC (.int 1))))) (tC (.int 3)))) tNil)))) tNil W))))
  (tSeq (tAsg (cMk (He.ga K "Wrongs") 0 0 (fun vs _ => vs) (S "Wrongs.__init__") tNil tNil W) (gName 4))
  (tSeq (tDrop (mC (gg K S) "seen" 1 0 [] (cVar 4) (tCons (tOp (oIx K) (cVar 1) (tC (.int 2))) tNil) tNil W))
  (tSeq (tAsg (tLst (tCons (mC (gg K S) "told" 0 0 [] (cVar 2) tNil tNil W) (tCons (mC (gg K S) "told" 0 0 [] (cVar 4) tNil tNil W) (tCons (tCB (bStrG (gg K S)) (tCons (cVar 2) tNil)) tNil)))) (gName 5))
  (tSeq (orL (cFor (cIter K (frzE (tOp (oAdd K) (tSl (oSl K) (cVar 0) (cPart (tC (.int 2))) (cPart (tC (.int 42)))) (tLst (tCons (cCall (S "_law_cell_at") 2 0 (fun vs _ => vs) (tCons (cVar 0) (tCons (tC (.int 1)) tNil)) tNil W) tNil))))) (gName 6)
  (tSeq (tAsg (cCall (S "_law_row") 3 0 (fun vs _ => vs) (tCons (cVar 6) (tCons (tC (.int 2)) (tCons (tC (.int 43)) tNil))) tNil W) (gName 8))
  (tSeq (tIfS (tNot (cTru K (cCall (S "_law_asked") 5 0 (fun vs _ => vs) (tCons (tOp oMod (tOp (oIx K) (cVar 8) (tC (.int 0))) (tC (.int 8))) (tCons (cVar 1) (tCons (cVar 2) (tCons (cVar 4) (tCons (tOp (oIx K) (cVar 8) (tC (.int 1))) tNil))))) tNil W)))
  (tRet (tC (.bl false)))
  tNext)
  (tIfS (tNot (cTru K (cCall (S "_law_alike") 2 0 (fun vs _ => vs) (tCons (tLst (tCons (mC (gg K S) "told" 0 0 [] (cVar 2) tNil tNil W) (tCons (mC (gg K S) "told" 0 0 [] (cVar 4) tNil tNil W) (tCons (tCB (bStrG (gg K S)) (tCons (cVar 2) tNil)) tNil)))) (tCons (cVar 5) tNil)) tNil W)))
  (tRet (tC (.bl false)))
  tNext)))))
  (tSeq (orL (cFor (cIter K (frzE (tLst (tCons (cVar 2) (tCons (mC (gg K S) "copied" 0 0 [] (cVar 2) tNil tNil W) (tCons (cMk (He.ga K "View") 2 0 (fun vs _ => vs ++ [V.int 1]) (S "View.__init__") (tCons (tOp (oIx K) (cVar 1) (tC (.int 0))) (tCons (tC (.int 9)) tNil)) tNil W) tNil)))))) (gName 7)
  (tIfS (tNot (cTru K (cCall (S "_law_alike") 2 0 (fun vs _ => vs) (tCons (cCall (S "_law_said") 4 0 (fun vs _ => vs) (tCons (tC (.int 4)) (tCons (cVar 2) (tCons (cVar 4) (tCons (tLst (tCons (cVar 2) (tCons (cVar 7) tNil))) tNil)))) tNil W) (tCons (tTup (tCons (tC (.str "twice")) (tCons (tOp (oIx K) (cVar 1) (tC (.int 0))) (tCons (tC (.bl true)) tNil)))) tNil)) tNil W)))
  (tRet (tC (.bl false)))
  tNext)))
  (tRet (cCall (S "_law_alike") 2 0 (fun vs _ => vs) (tCons (tLst (tCons (mC (gg K S) "told" 0 0 [] (cVar 2) tNil tNil W) (tCons (mC (gg K S) "told" 0 0 [] (cVar 4) tNil tNil W) (tCons (tCB (bStrG (gg K S)) (tCons (cVar 2) tNil)) tNil)))) (tCons (cVar 5) tNil)) tNil W))))))))))
theorem e_law (K : PySem.W.Frag) (S : Str → Sp) (W : WX) : tBody (tS (gg K S) 40 d_law.N (defScope d_law.st)) (defBody d_law.st) W = r_law K S W := by kernel_rfl
abbrev SP (K : PySem.W.Frag) (n : Nat) : Str → Sp := spAt (y.tb K) 40 y.ds n
theorem o_is_whole {K : PySem.W.Frag} {n : Nat} {v0 v1 v2 : V} {H : Hp} {Q : VK} {E : XK} (h : r_is_whole K (SP K n) (fun cls dd _ H1 => E cls dd H1) ⟨fun _ H1 => Q .non H1, Q, fun _ _ => False, fun _ _ => False⟩ [some v0, some v1, some v2] H) : SP K (n + 1) "is_whole" [v0, v1, v2] H Q E := by
  unfold SP
  rw [spAt_succ (d := d_is_whole) rfl]
  refine wpDf_ok rfl rfl ?_
  rw [show gOf (y.tb K) (spAt (y.tb K) 40 y.ds n) = gg K (SP K n) from rfl, e_is_whole]
  exact h
theorem o_is_any_whole {K : PySem.W.Frag} {n : Nat} {v0 : V} {H : Hp} {Q : VK} {E : XK} (h : r_is_any_whole K (SP K n) (fun cls dd _ H1 => E cls dd H1) ⟨fun _ H1 => Q .non H1, Q, fun _ _ => False, fun _ _ => False⟩ [some v0] H) : SP K (n + 1) "is_any_whole" [v0] H Q E := by
  unfold SP
  rw [spAt_succ (d := d_is_any_whole) rfl]
  refine wpDf_ok rfl rfl ?_
  rw [show gOf (y.tb K) (spAt (y.tb K) 40 y.ds n) = gg K (SP K n) from rfl, e_is_any_whole]
  exact h
theorem o_is_name {K : PySem.W.Frag} {n : Nat} {v0 : V} {H : Hp} {Q : VK} {E : XK} (h : r_is_name K (SP K n) (fun cls dd _ H1 => E cls dd H1) ⟨fun _ H1 => Q .non H1, Q, fun _ _ => False, fun _ _ => False⟩ [some v0, none] H) : SP K (n + 1) "is_name" [v0] H Q E := by
  unfold SP
  rw [spAt_succ (d := d_is_name) rfl]
  refine wpDf_ok rfl rfl ?_
  rw [show gOf (y.tb K) (spAt (y.tb K) 40 y.ds n) = gg K (SP K n) from rfl, e_is_name]
  exact h
theorem o_is_place {K : PySem.W.Frag} {n : Nat} {v0 : V} {H : Hp} {Q : VK} {E : XK} (h : r_is_place K (SP K n) (fun cls dd _ H1 => E cls dd H1) ⟨fun _ H1 => Q .non H1, Q, fun _ _ => False, fun _ _ => False⟩ [some v0] H) : SP K (n + 1) "is_place" [v0] H Q E := by
  unfold SP
  rw [spAt_succ (d := d_is_place) rfl]
  refine wpDf_ok rfl rfl ?_
  rw [show gOf (y.tb K) (spAt (y.tb K) 40 y.ds n) = gg K (SP K n) from rfl, e_is_place]
  exact h
theorem o_need_place {K : PySem.W.Frag} {n : Nat} {v0 : V} {H : Hp} {Q : VK} {E : XK} (h : r_need_place K (SP K n) (fun cls dd _ H1 => E cls dd H1) ⟨fun _ H1 => Q .non H1, Q, fun _ _ => False, fun _ _ => False⟩ [some v0] H) : SP K (n + 1) "need_place" [v0] H Q E := by
  unfold SP
  rw [spAt_succ (d := d_need_place) rfl]
  refine wpDf_ok rfl rfl ?_
  rw [show gOf (y.tb K) (spAt (y.tb K) 40 y.ds n) = gg K (SP K n) from rfl, e_need_place]
  exact h
theorem o_need_name {K : PySem.W.Frag} {n : Nat} {v0 : V} {H : Hp} {Q : VK} {E : XK} (h : r_need_name K (SP K n) (fun cls dd _ H1 => E cls dd H1) ⟨fun _ H1 => Q .non H1, Q, fun _ _ => False, fun _ _ => False⟩ [some v0] H) : SP K (n + 1) "need_name" [v0] H Q E := by
  unfold SP
  rw [spAt_succ (d := d_need_name) rfl]
  refine wpDf_ok rfl rfl ?_
  rw [show gOf (y.tb K) (spAt (y.tb K) 40 y.ds n) = gg K (SP K n) from rfl, e_need_name]
  exact h
theorem o_Wrongs___init__ {K : PySem.W.Frag} {n : Nat} {v0 : V} {H : Hp} {Q : VK} {E : XK} (h : r_Wrongs___init__ K (SP K n) (fun cls dd _ H1 => E cls dd H1) ⟨fun _ H1 => Q .non H1, Q, fun _ _ => False, fun _ _ => False⟩ [some v0] H) : SP K (n + 1) "Wrongs.__init__" [v0] H Q E := by
  unfold SP
  rw [spAt_succ (d := d_Wrongs___init__) rfl]
  refine wpDf_ok rfl rfl ?_
  rw [show gOf (y.tb K) (spAt (y.tb K) 40 y.ds n) = gg K (SP K n) from rfl, e_Wrongs___init__]
  exact h
theorem o_Wrongs___len__ {K : PySem.W.Frag} {n : Nat} {v0 : V} {H : Hp} {Q : VK} {E : XK} (h : r_Wrongs___len__ K (SP K n) (fun cls dd _ H1 => E cls dd H1) ⟨fun _ H1 => Q .non H1, Q, fun _ _ => False, fun _ _ => False⟩ [some v0] H) : SP K (n + 1) "Wrongs.__len__" [v0] H Q E := by
  unfold SP
  rw [spAt_succ (d := d_Wrongs___len__) rfl]
  refine wpDf_ok rfl rfl ?_
  rw [show gOf (y.tb K) (spAt (y.tb K) 40 y.ds n) = gg K (SP K n) from rfl, e_Wrongs___len__]
  exact h
theorem o_Wrongs___eq__ {K : PySem.W.Frag} {n : Nat} {v0 v1 : V} {H : Hp} {Q : VK} {E : XK} (h : r_Wrongs___eq__ K (SP K n) (fun cls dd _ H1 => E cls dd H1) ⟨fun _ H1 => Q .non H1, Q, fun _ _ => False, fun _ _ => False⟩ [some v0, some v1] H) : SP K (n + 1) "Wrongs.__eq__" [v0, v1] H Q E := by
  unfold SP
  rw [spAt_succ (d := d_Wrongs___eq__) rfl]
  refine wpDf_ok rfl rfl ?_
  rw [show gOf (y.tb K) (spAt (y.tb K) 40 y.ds n) = gg K (SP K n) from rfl, e_Wrongs___eq__]
  exact h
theorem o_Wrongs___str__ {K : PySem.W.Frag} {n : Nat} {v0 : V} {H : Hp} {Q : VK} {E : XK} (h : r_Wrongs___str__ K (SP K n) (fun cls dd _ H1 => E cls dd H1) ⟨fun _ H1 => Q .non H1, Q, fun _ _ => False, fun _ _ => False⟩ [some v0, none, none, none] H) : SP K (n + 1) "Wrongs.__str__" [v0] H Q E := by
  unfold SP
  rw [spAt_succ (d := d_Wrongs___str__) rfl]
  refine wpDf_ok rfl rfl ?_
  rw [show gOf (y.tb K) (spAt (y.tb K) 40 y.ds n) = gg K (SP K n) from rfl, e_Wrongs___str__]
  exact h
theorem o_Wrongs_seen {K : PySem.W.Frag} {n : Nat} {v0 v1 : V} {H : Hp} {Q : VK} {E : XK} (h : r_Wrongs_seen K (SP K n) (fun cls dd _ H1 => E cls dd H1) ⟨fun _ H1 => Q .non H1, Q, fun _ _ => False, fun _ _ => False⟩ [some v0, some v1, none] H) : SP K (n + 1) "Wrongs.seen" [v0, v1] H Q E := by
  unfold SP
  rw [spAt_succ (d := d_Wrongs_seen) rfl]
  refine wpDf_ok rfl rfl ?_
  rw [show gOf (y.tb K) (spAt (y.tb K) 40 y.ds n) = gg K (SP K n) from rfl, e_Wrongs_seen]
  exact h
theorem o_Wrongs_count_of {K : PySem.W.Frag} {n : Nat} {v0 v1 : V} {H : Hp} {Q : VK} {E : XK} (h : r_Wrongs_count_of K (SP K n) (fun cls dd _ H1 => E cls dd H1) ⟨fun _ H1 => Q .non H1, Q, fun _ _ => False, fun _ _ => False⟩ [some v0, some v1] H) : SP K (n + 1) "Wrongs.count_of" [v0, v1] H Q E := by
  unfold SP
  rw [spAt_succ (d := d_Wrongs_count_of) rfl]
  refine wpDf_ok rfl rfl ?_
  rw [show gOf (y.tb K) (spAt (y.tb K) 40 y.ds n) = gg K (SP K n) from rfl, e_Wrongs_count_of]
  exact h
theorem o_Wrongs_told {K : PySem.W.Frag} {n : Nat} {v0 : V} {H : Hp} {Q : VK} {E : XK} (h : r_Wrongs_told K (SP K n) (fun cls dd _ H1 => E cls dd H1) ⟨fun _ H1 => Q .non H1, Q, fun _ _ => False, fun _ _ => False⟩ [some v0, none] H) : SP K (n + 1) "Wrongs.told" [v0] H Q E := by
  unfold SP
  rw [spAt_succ (d := d_Wrongs_told) rfl]
  refine wpDf_ok rfl rfl ?_
  rw [show gOf (y.tb K) (spAt (y.tb K) 40 y.ds n) = gg K (SP K n) from rfl, e_Wrongs_told]
  exact h
theorem o_Wrongs_copied {K : PySem.W.Frag} {n : Nat} {v0 : V} {H : Hp} {Q : VK} {E : XK} (h : r_Wrongs_copied K (SP K n) (fun cls dd _ H1 => E cls dd H1) ⟨fun _ H1 => Q .non H1, Q, fun _ _ => False, fun _ _ => False⟩ [some v0, none] H) : SP K (n + 1) "Wrongs.copied" [v0] H Q E := by
  unfold SP
  rw [spAt_succ (d := d_Wrongs_copied) rfl]
  refine wpDf_ok rfl rfl ?_
  rw [show gOf (y.tb K) (spAt (y.tb K) 40 y.ds n) = gg K (SP K n) from rfl, e_Wrongs_copied]
  exact h
theorem o_is_number {K : PySem.W.Frag} {n : Nat} {v0 : V} {H : Hp} {Q : VK} {E : XK} (h : r_is_number K (SP K n) (fun cls dd _ H1 => E cls dd H1) ⟨fun _ H1 => Q .non H1, Q, fun _ _ => False, fun _ _ => False⟩ [some v0] H) : SP K (n + 1) "is_number" [v0] H Q E := by
  unfold SP
  rw [spAt_succ (d := d_is_number) rfl]
  refine wpDf_ok rfl rfl ?_
  rw [show gOf (y.tb K) (spAt (y.tb K) 40 y.ds n) = gg K (SP K n) from rfl, e_is_number]
  exact h
theorem o_is_word {K : PySem.W.Frag} {n : Nat} {v0 : V} {H : Hp} {Q : VK} {E : XK} (h : r_is_word K (SP K n) (fun cls dd _ H1 => E cls dd H1) ⟨fun _ H1 => Q .non H1, Q, fun _ _ => False, fun _ _ => False⟩ [some v0] H) : SP K (n + 1) "is_word" [v0] H Q E := by
  unfold SP
  rw [spAt_succ (d := d_is_word) rfl]
  refine wpDf_ok rfl rfl ?_
  rw [show gOf (y.tb K) (spAt (y.tb K) 40 y.ds n) = gg K (SP K n) from rfl, e_is_word]
  exact h
theorem o_rank_of {K : PySem.W.Frag} {n : Nat} {v0 : V} {H : Hp} {Q : VK} {E : XK} (h : r_rank_of K (SP K n) (fun cls dd _ H1 => E cls dd H1) ⟨fun _ H1 => Q .non H1, Q, fun _ _ => False, fun _ _ => False⟩ [some v0, none, none, none] H) : SP K (n + 1) "rank_of" [v0] H Q E := by
  unfold SP
  rw [spAt_succ (d := d_rank_of) rfl]
  refine wpDf_ok rfl rfl ?_
  rw [show gOf (y.tb K) (spAt (y.tb K) 40 y.ds n) = gg K (SP K n) from rfl, e_rank_of]
  exact h
theorem o_later {K : PySem.W.Frag} {n : Nat} {v0 v1 : V} {H : Hp} {Q : VK} {E : XK} (h : r_later K (SP K n) (fun cls dd _ H1 => E cls dd H1) ⟨fun _ H1 => Q .non H1, Q, fun _ _ => False, fun _ _ => False⟩ [some v0, some v1] H) : SP K (n + 1) "later" [v0, v1] H Q E := by
  unfold SP
  rw [spAt_succ (d := d_later) rfl]
  refine wpDf_ok rfl rfl ?_
  rw [show gOf (y.tb K) (spAt (y.tb K) 40 y.ds n) = gg K (SP K n) from rfl, e_later]
  exact h
theorem o_in_order {K : PySem.W.Frag} {n : Nat} {v0 : V} {H : Hp} {Q : VK} {E : XK} (h : r_in_order K (SP K n) (fun cls dd _ H1 => E cls dd H1) ⟨fun _ H1 => Q .non H1, Q, fun _ _ => False, fun _ _ => False⟩ [some v0, none] H) : SP K (n + 1) "in_order" [v0] H Q E := by
  unfold SP
  rw [spAt_succ (d := d_in_order) rfl]
  refine wpDf_ok rfl rfl ?_
  rw [show gOf (y.tb K) (spAt (y.tb K) 40 y.ds n) = gg K (SP K n) from rfl, e_in_order]
  exact h
theorem o_View___init__ {K : PySem.W.Frag} {n : Nat} {v0 v1 v2 v3 : V} {H : Hp} {Q : VK} {E : XK} (h : r_View___init__ K (SP K n) (fun cls dd _ H1 => E cls dd H1) ⟨fun _ H1 => Q .non H1, Q, fun _ _ => False, fun _ _ => False⟩ [some v0, some v1, some v2, some v3] H) : SP K (n + 1) "View.__init__" [v0, v1, v2, v3] H Q E := by
  unfold SP
  rw [spAt_succ (d := d_View___init__) rfl]
  refine wpDf_ok rfl rfl ?_
  rw [show gOf (y.tb K) (spAt (y.tb K) 40 y.ds n) = gg K (SP K n) from rfl, e_View___init__]
  exact h
theorem o_View___len__ {K : PySem.W.Frag} {n : Nat} {v0 : V} {H : Hp} {Q : VK} {E : XK} (h : r_View___len__ K (SP K n) (fun cls dd _ H1 => E cls dd H1) ⟨fun _ H1 => Q .non H1, Q, fun _ _ => False, fun _ _ => False⟩ [some v0] H) : SP K (n + 1) "View.__len__" [v0] H Q E := by
  unfold SP
  rw [spAt_succ (d := d_View___len__) rfl]
  refine wpDf_ok rfl rfl ?_
  rw [show gOf (y.tb K) (spAt (y.tb K) 40 y.ds n) = gg K (SP K n) from rfl, e_View___len__]
  exact h
theorem o_View___eq__ {K : PySem.W.Frag} {n : Nat} {v0 v1 : V} {H : Hp} {Q : VK} {E : XK} (h : r_View___eq__ K (SP K n) (fun cls dd _ H1 => E cls dd H1) ⟨fun _ H1 => Q .non H1, Q, fun _ _ => False, fun _ _ => False⟩ [some v0, some v1] H) : SP K (n + 1) "View.__eq__" [v0, v1] H Q E := by
  unfold SP
  rw [spAt_succ (d := d_View___eq__) rfl]
  refine wpDf_ok rfl rfl ?_
  rw [show gOf (y.tb K) (spAt (y.tb K) 40 y.ds n) = gg K (SP K n) from rfl, e_View___eq__]
  exact h
theorem o_View___str__ {K : PySem.W.Frag} {n : Nat} {v0 : V} {H : Hp} {Q : VK} {E : XK} (h : r_View___str__ K (SP K n) (fun cls dd _ H1 => E cls dd H1) ⟨fun _ H1 => Q .non H1, Q, fun _ _ => False, fun _ _ => False⟩ [some v0, none, none, none, none] H) : SP K (n + 1) "View.__str__" [v0] H Q E := by
  unfold SP
  rw [spAt_succ (d := d_View___str__) rfl]
  refine wpDf_ok rfl rfl ?_
  rw [show gOf (y.tb K) (spAt (y.tb K) 40 y.ds n) = gg K (SP K n) from rfl, e_View___str__]
  exact h
theorem o_View_told {K : PySem.W.Frag} {n : Nat} {v0 : V} {H : Hp} {Q : VK} {E : XK} (h : r_View_told K (SP K n) (fun cls dd _ H1 => E cls dd H1) ⟨fun _ H1 => Q .non H1, Q, fun _ _ => False, fun _ _ => False⟩ [some v0] H) : SP K (n + 1) "View.told" [v0] H Q E := by
  unfold SP
  rw [spAt_succ (d := d_View_told) rfl]
  refine wpDf_ok rfl rfl ?_
  rw [show gOf (y.tb K) (spAt (y.tb K) 40 y.ds n) = gg K (SP K n) from rfl, e_View_told]
  exact h
theorem o_View_names {K : PySem.W.Frag} {n : Nat} {v0 : V} {H : Hp} {Q : VK} {E : XK} (h : r_View_names K (SP K n) (fun cls dd _ H1 => E cls dd H1) ⟨fun _ H1 => Q .non H1, Q, fun _ _ => False, fun _ _ => False⟩ [some v0] H) : SP K (n + 1) "View.names" [v0] H Q E := by
  unfold SP
  rw [spAt_succ (d := d_View_names) rfl]
  refine wpDf_ok rfl rfl ?_
  rw [show gOf (y.tb K) (spAt (y.tb K) 40 y.ds n) = gg K (SP K n) from rfl, e_View_names]
  exact h
theorem o_View_own {K : PySem.W.Frag} {n : Nat} {v0 : V} {H : Hp} {Q : VK} {E : XK} (h : r_View_own K (SP K n) (fun cls dd _ H1 => E cls dd H1) ⟨fun _ H1 => Q .non H1, Q, fun _ _ => False, fun _ _ => False⟩ [some v0] H) : SP K (n + 1) "View.own" [v0] H Q E := by
  unfold SP
  rw [spAt_succ (d := d_View_own) rfl]
  refine wpDf_ok rfl rfl ?_
  rw [show gOf (y.tb K) (spAt (y.tb K) 40 y.ds n) = gg K (SP K n) from rfl, e_View_own]
  exact h
theorem o_View_here {K : PySem.W.Frag} {n : Nat} {v0 : V} {H : Hp} {Q : VK} {E : XK} (h : r_View_here K (SP K n) (fun cls dd _ H1 => E cls dd H1) ⟨fun _ H1 => Q .non H1, Q, fun _ _ => False, fun _ _ => False⟩ [some v0, none, none, none, none, none] H) : SP K (n + 1) "View.here" [v0] H Q E := by
  unfold SP
  rw [spAt_succ (d := d_View_here) rfl]
  refine wpDf_ok rfl rfl ?_
  rw [show gOf (y.tb K) (spAt (y.tb K) 40 y.ds n) = gg K (SP K n) from rfl, e_View_here]
  exact h
theorem o_View_hear {K : PySem.W.Frag} {n : Nat} {v0 v1 v2 v3 v4 : V} {H : Hp} {Q : VK} {E : XK} (h : r_View_hear K (SP K n) (fun cls dd _ H1 => E cls dd H1) ⟨fun _ H1 => Q .non H1, Q, fun _ _ => False, fun _ _ => False⟩ [some v0, some v1, some v2, some v3, some v4, none, none] H) : SP K (n + 1) "View.hear" [v0, v1, v2, v3, v4] H Q E := by
  unfold SP
  rw [spAt_succ (d := d_View_hear) rfl]
  refine wpDf_ok rfl rfl ?_
  rw [show gOf (y.tb K) (spAt (y.tb K) 40 y.ds n) = gg K (SP K n) from rfl, e_View_hear]
  exact h
theorem o_View_put_right {K : PySem.W.Frag} {n : Nat} {v0 v1 v2 v3 : V} {H : Hp} {Q : VK} {E : XK} (h : r_View_put_right K (SP K n) (fun cls dd _ H1 => E cls dd H1) ⟨fun _ H1 => Q .non H1, Q, fun _ _ => False, fun _ _ => False⟩ [some v0, some v1, some v2, some v3, none, none, none] H) : SP K (n + 1) "View.put_right" [v0, v1, v2, v3] H Q E := by
  unfold SP
  rw [spAt_succ (d := d_View_put_right) rfl]
  refine wpDf_ok rfl rfl ?_
  rw [show gOf (y.tb K) (spAt (y.tb K) 40 y.ds n) = gg K (SP K n) from rfl, e_View_put_right]
  exact h
theorem o_View_silence {K : PySem.W.Frag} {n : Nat} {v0 v1 : V} {H : Hp} {Q : VK} {E : XK} (h : r_View_silence K (SP K n) (fun cls dd _ H1 => E cls dd H1) ⟨fun _ H1 => Q .non H1, Q, fun _ _ => False, fun _ _ => False⟩ [some v0, some v1, none, none, none] H) : SP K (n + 1) "View.silence" [v0, v1] H Q E := by
  unfold SP
  rw [spAt_succ (d := d_View_silence) rfl]
  refine wpDf_ok rfl rfl ?_
  rw [show gOf (y.tb K) (spAt (y.tb K) 40 y.ds n) = gg K (SP K n) from rfl, e_View_silence]
  exact h
theorem o_View_join {K : PySem.W.Frag} {n : Nat} {v0 v1 : V} {H : Hp} {Q : VK} {E : XK} (h : r_View_join K (SP K n) (fun cls dd _ H1 => E cls dd H1) ⟨fun _ H1 => Q .non H1, Q, fun _ _ => False, fun _ _ => False⟩ [some v0, some v1, none, none, none, none, none] H) : SP K (n + 1) "View.join" [v0, v1] H Q E := by
  unfold SP
  rw [spAt_succ (d := d_View_join) rfl]
  refine wpDf_ok rfl rfl ?_
  rw [show gOf (y.tb K) (spAt (y.tb K) 40 y.ds n) = gg K (SP K n) from rfl, e_View_join]
  exact h
theorem o_View_copied {K : PySem.W.Frag} {n : Nat} {v0 : V} {H : Hp} {Q : VK} {E : XK} (h : r_View_copied K (SP K n) (fun cls dd _ H1 => E cls dd H1) ⟨fun _ H1 => Q .non H1, Q, fun _ _ => False, fun _ _ => False⟩ [some v0, none, none, none, none] H) : SP K (n + 1) "View.copied" [v0] H Q E := by
  unfold SP
  rw [spAt_succ (d := d_View_copied) rfl]
  refine wpDf_ok rfl rfl ?_
  rw [show gOf (y.tb K) (spAt (y.tb K) 40 y.ds n) = gg K (SP K n) from rfl, e_View_copied]
  exact h
theorem o_talk {K : PySem.W.Frag} {n : Nat} {v0 v1 : V} {H : Hp} {Q : VK} {E : XK} (h : r_talk K (SP K n) (fun cls dd _ H1 => E cls dd H1) ⟨fun _ H1 => Q .non H1, Q, fun _ _ => False, fun _ _ => False⟩ [some v0, some v1, none, none] H) : SP K (n + 1) "talk" [v0, v1] H Q E := by
  unfold SP
  rw [spAt_succ (d := d_talk) rfl]
  refine wpDf_ok rfl rfl ?_
  rw [show gOf (y.tb K) (spAt (y.tb K) 40 y.ds n) = gg K (SP K n) from rfl, e_talk]
  exact h
theorem o__law_cell_at {K : PySem.W.Frag} {n : Nat} {v0 v1 : V} {H : Hp} {Q : VK} {E : XK} (h : r__law_cell_at K (SP K n) (fun cls dd _ H1 => E cls dd H1) ⟨fun _ H1 => Q .non H1, Q, fun _ _ => False, fun _ _ => False⟩ [some v0, some v1] H) : SP K (n + 1) "_law_cell_at" [v0, v1] H Q E := by
  unfold SP
  rw [spAt_succ (d := d__law_cell_at) rfl]
  refine wpDf_ok rfl rfl ?_
  rw [show gOf (y.tb K) (spAt (y.tb K) 40 y.ds n) = gg K (SP K n) from rfl, e__law_cell_at]
  exact h
theorem o__law_row {K : PySem.W.Frag} {n : Nat} {v0 v1 v2 : V} {H : Hp} {Q : VK} {E : XK} (h : r__law_row K (SP K n) (fun cls dd _ H1 => E cls dd H1) ⟨fun _ H1 => Q .non H1, Q, fun _ _ => False, fun _ _ => False⟩ [some v0, some v1, some v2, none, none, none, none] H) : SP K (n + 1) "_law_row" [v0, v1, v2] H Q E := by
  unfold SP
  rw [spAt_succ (d := d__law_row) rfl]
  refine wpDf_ok rfl rfl ?_
  rw [show gOf (y.tb K) (spAt (y.tb K) 40 y.ds n) = gg K (SP K n) from rfl, e__law_row]
  exact h
theorem o__law_alike {K : PySem.W.Frag} {n : Nat} {v0 v1 : V} {H : Hp} {Q : VK} {E : XK} (h : r__law_alike K (SP K n) (fun cls dd _ H1 => E cls dd H1) ⟨fun _ H1 => Q .non H1, Q, fun _ _ => False, fun _ _ => False⟩ [some v0, some v1, none, none] H) : SP K (n + 1) "_law_alike" [v0, v1] H Q E := by
  unfold SP
  rw [spAt_succ (d := d__law_alike) rfl]
  refine wpDf_ok rfl rfl ?_
  rw [show gOf (y.tb K) (spAt (y.tb K) 40 y.ds n) = gg K (SP K n) from rfl, e__law_alike]
  exact h
theorem o__law_names {K : PySem.W.Frag} {n : Nat} {v0 v1 : V} {H : Hp} {Q : VK} {E : XK} (h : r__law_names K (SP K n) (fun cls dd _ H1 => E cls dd H1) ⟨fun _ H1 => Q .non H1, Q, fun _ _ => False, fun _ _ => False⟩ [some v0, some v1, none, none, none, none, none, none, none, none, none] H) : SP K (n + 1) "_law_names" [v0, v1] H Q E := by
  unfold SP
  rw [spAt_succ (d := d__law_names) rfl]
  refine wpDf_ok rfl rfl ?_
  rw [show gOf (y.tb K) (spAt (y.tb K) 40 y.ds n) = gg K (SP K n) from rfl, e__law_names]
  exact h
theorem o__law_said {K : PySem.W.Frag} {n : Nat} {v0 v1 v2 v3 : V} {H : Hp} {Q : VK} {E : XK} (h : r__law_said K (SP K n) (fun cls dd _ H1 => E cls dd H1) ⟨fun _ H1 => Q .non H1, Q, fun _ _ => False, fun _ _ => False⟩ [some v0, some v1, some v2, some v3, none] H) : SP K (n + 1) "_law_said" [v0, v1, v2, v3] H Q E := by
  unfold SP
  rw [spAt_succ (d := d__law_said) rfl]
  refine wpDf_ok rfl rfl ?_
  rw [show gOf (y.tb K) (spAt (y.tb K) 40 y.ds n) = gg K (SP K n) from rfl, e__law_said]
  exact h
theorem o__law_done {K : PySem.W.Frag} {n : Nat} {v0 v1 v2 v3 : V} {H : Hp} {Q : VK} {E : XK} (h : r__law_done K (SP K n) (fun cls dd _ H1 => E cls dd H1) ⟨fun _ H1 => Q .non H1, Q, fun _ _ => False, fun _ _ => False⟩ [some v0, some v1, some v2, some v3] H) : SP K (n + 1) "_law_done" [v0, v1, v2, v3] H Q E := by
  unfold SP
  rw [spAt_succ (d := d__law_done) rfl]
  refine wpDf_ok rfl rfl ?_
  rw [show gOf (y.tb K) (spAt (y.tb K) 40 y.ds n) = gg K (SP K n) from rfl, e__law_done]
  exact h
theorem o__law_good {K : PySem.W.Frag} {n : Nat} {v0 v1 v2 : V} {H : Hp} {Q : VK} {E : XK} (h : r__law_good K (SP K n) (fun cls dd _ H1 => E cls dd H1) ⟨fun _ H1 => Q .non H1, Q, fun _ _ => False, fun _ _ => False⟩ [some v0, some v1, some v2] H) : SP K (n + 1) "_law_good" [v0, v1, v2] H Q E := by
  unfold SP
  rw [spAt_succ (d := d__law_good) rfl]
  refine wpDf_ok rfl rfl ?_
  rw [show gOf (y.tb K) (spAt (y.tb K) 40 y.ds n) = gg K (SP K n) from rfl, e__law_good]
  exact h
theorem o__law_bad {K : PySem.W.Frag} {n : Nat} {v0 v1 v2 v3 : V} {H : Hp} {Q : VK} {E : XK} (h : r__law_bad K (SP K n) (fun cls dd _ H1 => E cls dd H1) ⟨fun _ H1 => Q .non H1, Q, fun _ _ => False, fun _ _ => False⟩ [some v0, some v1, some v2, some v3, none] H) : SP K (n + 1) "_law_bad" [v0, v1, v2, v3] H Q E := by
  unfold SP
  rw [spAt_succ (d := d__law_bad) rfl]
  refine wpDf_ok rfl rfl ?_
  rw [show gOf (y.tb K) (spAt (y.tb K) 40 y.ds n) = gg K (SP K n) from rfl, e__law_bad]
  exact h
theorem o__law_same {K : PySem.W.Frag} {n : Nat} {v0 v1 : V} {H : Hp} {Q : VK} {E : XK} (h : r__law_same K (SP K n) (fun cls dd _ H1 => E cls dd H1) ⟨fun _ H1 => Q .non H1, Q, fun _ _ => False, fun _ _ => False⟩ [some v0, some v1] H) : SP K (n + 1) "_law_same" [v0, v1] H Q E := by
  unfold SP
  rw [spAt_succ (d := d__law_same) rfl]
  refine wpDf_ok rfl rfl ?_
  rw [show gOf (y.tb K) (spAt (y.tb K) 40 y.ds n) = gg K (SP K n) from rfl, e__law_same]
  exact h
theorem o__law_asked {K : PySem.W.Frag} {n : Nat} {v0 v1 v2 v3 v4 : V} {H : Hp} {Q : VK} {E : XK} (h : r__law_asked K (SP K n) (fun cls dd _ H1 => E cls dd H1) ⟨fun _ H1 => Q .non H1, Q, fun _ _ => False, fun _ _ => False⟩ [some v0, some v1, some v2, some v3, some v4, none, none, none, none, none, none, none, none] H) : SP K (n + 1) "_law_asked" [v0, v1, v2, v3, v4] H Q E := by
  unfold SP
  rw [spAt_succ (d := d__law_asked) rfl]
  refine wpDf_ok rfl rfl ?_
  rw [show gOf (y.tb K) (spAt (y.tb K) 40 y.ds n) = gg K (SP K n) from rfl, e__law_asked]
  exact h
theorem o_law {K : PySem.W.Frag} {n : Nat} {v0 : V} {H : Hp} {Q : VK} {E : XK} (h : r_law K (SP K n) (fun cls dd _ H1 => E cls dd H1) ⟨fun _ H1 => Q .non H1, Q, fun _ _ => False, fun _ _ => False⟩ [some v0, none, none, none, none, none, none, none, none] H) : SP K (n + 1) "law" [v0] H Q E := by
  unfold SP
  rw [spAt_succ (d := d_law) rfl]
  refine wpDf_ok rfl rfl ?_
  rw [show gOf (y.tb K) (spAt (y.tb K) 40 y.ds n) = gg K (SP K n) from rfl, e_law]
  exact h
theorem c_append_1 (K : PySem.W.Frag) (S : Str → Sp) : mf (gg K S) "append" 1 [] = [] := by kernel_rfl
theorem c_copied_0 (K : PySem.W.Frag) (S : Str → Sp) : mf (gg K S) "copied" 0 [] = [⟨He.ga K "Wrongs", "copied", 0, [], fun vs _ => vs, S "Wrongs.copied"⟩, ⟨He.ga K "View", "copied", 0, [], fun vs _ => vs, S "View.copied"⟩] := by kernel_rfl
theorem c_count_of_0_name (K : PySem.W.Frag) (S : Str → Sp) : mf (gg K S) "count_of" 0 ["name"] = [⟨He.ga K "Wrongs", "count_of", 0, ["name"], fun vs zs => [0].map fun i => (vs ++ zs).getD i V.non, S "Wrongs.count_of"⟩] := by kernel_rfl
theorem c_count_of_1 (K : PySem.W.Frag) (S : Str → Sp) : mf (gg K S) "count_of" 1 [] = [⟨He.ga K "Wrongs", "count_of", 1, [], fun vs _ => vs, S "Wrongs.count_of"⟩] := by kernel_rfl
theorem c_hear_0_word_number_place_name (K : PySem.W.Frag) (S : Str → Sp) : mf (gg K S) "hear" 0 ["word", "number", "place", "name"] = [⟨He.ga K "View", "hear", 0, ["word", "number", "place", "name"], fun vs zs => [3, 2, 1, 0].map fun i => (vs ++ zs).getD i V.non, S "View.hear"⟩] := by kernel_rfl
theorem c_hear_4 (K : PySem.W.Frag) (S : Str → Sp) : mf (gg K S) "hear" 4 [] = [⟨He.ga K "View", "hear", 4, [], fun vs _ => vs, S "View.hear"⟩] := by kernel_rfl
theorem c_index_1 (K : PySem.W.Frag) (S : Str → Sp) : mf (gg K S) "index" 1 [] = [] := by kernel_rfl
theorem c_items_0 (K : PySem.W.Frag) (S : Str → Sp) : mf (gg K S) "items" 0 [] = [] := by kernel_rfl
theorem c_join_1 (K : PySem.W.Frag) (S : Str → Sp) : mf (gg K S) "join" 1 [] = [⟨He.ga K "View", "join", 1, [], fun vs _ => vs, S "View.join"⟩] := by kernel_rfl
theorem c_own_0 (K : PySem.W.Frag) (S : Str → Sp) : mf (gg K S) "own" 0 [] = [⟨He.ga K "View", "own", 0, [], fun vs _ => vs, S "View.own"⟩] := by kernel_rfl
theorem c_put_right_3 (K : PySem.W.Frag) (S : Str → Sp) : mf (gg K S) "put_right" 3 [] = [⟨He.ga K "View", "put_right", 3, [], fun vs _ => vs, S "View.put_right"⟩] := by kernel_rfl
theorem c_seen_0_name (K : PySem.W.Frag) (S : Str → Sp) : mf (gg K S) "seen" 0 ["name"] = [⟨He.ga K "Wrongs", "seen", 0, ["name"], fun vs zs => [0].map fun i => (vs ++ zs).getD i V.non, S "Wrongs.seen"⟩] := by kernel_rfl
theorem c_seen_1 (K : PySem.W.Frag) (S : Str → Sp) : mf (gg K S) "seen" 1 [] = [⟨He.ga K "Wrongs", "seen", 1, [], fun vs _ => vs, S "Wrongs.seen"⟩] := by kernel_rfl
theorem c_silence_0_name (K : PySem.W.Frag) (S : Str → Sp) : mf (gg K S) "silence" 0 ["name"] = [⟨He.ga K "View", "silence", 0, ["name"], fun vs zs => [0].map fun i => (vs ++ zs).getD i V.non, S "View.silence"⟩] := by kernel_rfl
theorem c_told_0 (K : PySem.W.Frag) (S : Str → Sp) : mf (gg K S) "told" 0 [] = [⟨He.ga K "Wrongs", "told", 0, [], fun vs _ => vs, S "Wrongs.told"⟩, ⟨He.ga K "View", "told", 0, [], fun vs _ => vs, S "View.told"⟩] := by kernel_rfl
theorem cs_len (K : PySem.W.Frag) (S : Str → Sp) : cands (gg K S) "__len__" 0 = [⟨He.ga K "Wrongs", "__len__", 0, [], fun vs _ => vs, S "Wrongs.__len__"⟩, ⟨He.ga K "View", "__len__", 0, [], fun vs _ => vs, S "View.__len__"⟩] := by kernel_rfl
theorem cs_eq (K : PySem.W.Frag) (S : Str → Sp) : cands (gg K S) "__eq__" 1 = [⟨He.ga K "Wrongs", "__eq__", 1, [], fun vs _ => vs, S "Wrongs.__eq__"⟩, ⟨He.ga K "View", "__eq__", 1, [], fun vs _ => vs, S "View.__eq__"⟩] := by kernel_rfl
theorem cs_str (K : PySem.W.Frag) (S : Str → Sp) : cands (gg K S) "__str__" 0 = [⟨He.ga K "Wrongs", "__str__", 0, [], fun vs _ => vs, S "Wrongs.__str__"⟩, ⟨He.ga K "View", "__str__", 0, [], fun vs _ => vs, S "View.__str__"⟩] := by kernel_rfl

end WR.L
set_option Elab.async false
set_option linter.all false
set_option maxRecDepth 100000
set_option maxHeartbeats 4000000
namespace WR.L
open PySem PySem.Spec PyProof.Rows L2
section
variable {K : PySem.W.Frag} {n : Nat} {H : Hp} {Q : VK} {E : XK}
theorem s_cell {a : Addr} {ns : List Int} {k : Nat} (hl : look K H a = some (.lst (ns.map V.int))) (h : Q (.int (ns.getD k 0)) H) : SP K (n+1) "_law_cell_at" [.ref a, .int k] H Q E := by
  refine o__law_cell_at ?_
  simp only [r__law_cell_at, tSeq, tIfS, tNext, tRet, tRetN, tDrop, tAsg, tC, cVar, tOp, tCB, tCons, tNil, tTup, tLst, tIf, tAnd, tOr, tNot, cTest, cTru, oTru, cAnd, cOr, cNot, cUn, cChain, gName, cTupG, gCons, gNil, gSub, oLt, oLe, oGt, oGe, oGtK, oGeK, oBor, oIs, oIsNot, oSub, oMul, oFdiv, oMod, oPow, cPar, cPar3, cAug, tDNewK, cCall, cAttr, frzE, List.mem_singleton, List.lookup_cons_self, List.getElem?_cons_zero, List.getElem?_cons_succ, List.set_cons_zero, List.set_cons_succ, Option.some.injEq, reduceCtorEq, if_true, if_false, Bool.true_eq_false, Bool.false_eq_true, decide_eq_true_eq, ite_true, ite_false, ↓reduceIte, List.length_cons, List.length_nil, true_and, and_true, exists_eq_left', exists_eq_left, List.cons.injEq]
  rw [len_lst rfl hl]
  simp only [tSeq, tIfS, tNext, tRet, tRetN, tDrop, tAsg, tC, cVar, tOp, tCB, tCons, tNil, tTup, tLst, tIf, tAnd, tOr, tNot, cTest, cTru, oTru, cAnd, cOr, cNot, cUn, cChain, gName, cTupG, gCons, gNil, gSub, oLt, oLe, oGt, oGe, oGtK, oGeK, oBor, oIs, oIsNot, oSub, oMul, oFdiv, oMod, oPow, cPar, cPar3, cAug, tDNewK, cCall, cAttr, frzE, List.mem_singleton, List.lookup_cons_self, List.getElem?_cons_zero, List.getElem?_cons_succ, List.set_cons_zero, List.set_cons_succ, Option.some.injEq, reduceCtorEq, if_true, if_false, Bool.true_eq_false, Bool.false_eq_true, decide_eq_true_eq, ite_true, ite_false, ↓reduceIte, List.length_cons, List.length_nil, true_and, and_true, exists_eq_left', exists_eq_left, List.cons.injEq, List.length_map]
  by_cases c : k < ns.length
  · rw [if_pos (by exact_mod_cast c), ix_lst hl (v := .int (ns.getD k 0)) (by rw [atI_nat]; simp [c])]
    exact h
  · rw [if_neg (by exact_mod_cast c)]
    simp [c] at h
    have : ns.getD k 0 = 0 := by simp [List.getD, c]
    simpa [this] using h
/-- a name: one to eight letters -/
def lets : List Nat := ("abcdefghijklmnopqrstuvwxyz" : Str).cps.toList
def isNm (s : Str) : Bool := decide (1 ≤ s.length) && (decide (s.length ≤ 8) && s.cps.toList.all fun c => decide (c ∈ lets))
/-- a thing of a known kind -/
def nmV : V → Bool
  | .str s => isNm s
  | _ => false
theorem kb_ss : kitB "str" "str" = some true := kb_str_str
theorem in_letter {c : Nat} {s : Str} {b : Bool} : oIn K b (.str ⟨#[c]⟩) (.str s) H Q = Q (.bl (b ^^ decide (c ∈ s.cps.toList))) H := rfl
/-- a comprehension over a text's signs, each told to be in a text or not -/
theorem lc_signs {i : Nat} {σ : St} {s t : Str} {b : Bool} (hs : s.length ≤ 1000)
    (h : ∀ D H', Ex H H' → H' D = some (.lst (s.cps.toList.map fun c => V.bl (b ^^ decide (c ∈ t.cps.toList)))) → Q (.ref D) H') (hσ : ∀ v, (σ.set i (some v))[i]? = some (some v)) (hw : ∀ v, wipe (σ.set i (some v)) [i] = wipe σ [i]) (hw2 : wipe σ [i] = σ) :
    cLcL (fun σ H R => R (Its s) H) (gName i) tYes (tOp (oIn K b) (cVar i) (tC (.str t))) [i] σ H Q := by
  refine .inl ?_
  intro D hD
  refine lpc_inv (n := s.cps.size) (fun j H' => Ex H H' ∧ H' D = some (.lst ((s.cps.toList.take j).map fun c => V.bl (b ^^ decide (c ∈ t.cps.toList))))) ?_ ?_ ⟨Ex.refl.new hD, by rw [upd_same]; rfl⟩
  · rintro H' ⟨h1, h2⟩
    refine ⟨Nat.le_refl _, h D H' h1 ?_⟩
    rw [h2]
    have e : s.cps.toList.take s.cps.size = s.cps.toList := List.take_of_length_le (by simp)
    rw [e]
  · rintro j H' hj ⟨h1, h2⟩ R hR
    refine ⟨hj, ?_⟩
    rintro x H2 ⟨rfl, c, hc, rfl⟩
    rw [hw2]
    refine ⟨(hw _).trans hw2, ?_⟩
    simp only [tYes, if_true, tOp, cVar, hσ, tC]
    rw [in_letter]
    refine ⟨_, h2, ?_, hR _ ⟨?_, ?_⟩⟩
    · rw [List.length_map, List.length_take]
      have := small1000 hs
      have e : s.cps.toList.length = s.length := by simp [Str.length]
      omega
    · intro a o e
      by_cases hb : a = D
      · subst hb; rw [hD] at e; cases e
      · rw [upd_ne hb]; exact h1 a o e
    · rw [upd_same]
      have e : s.cps.toList[j]? = some c := by simpa using hc
      rw [List.take_add_one, e]
      simp
theorem s_is_name {s : Str} (hs : s.length ≤ 1000) (h : ∀ H', Ex H H' → Q (.bl (isNm s)) H') : SP K (n+1) "is_name" [.str s] H Q E := by
  refine o_is_name ?_
  simp only [r_is_name, tSeq, tIfS, tNext, tRet, tRetN, tDrop, tAsg, tC, cVar, tOp, tCB, tCons, tNil, tTup, tLst, tIf, tAnd, tOr, tNot, cTest, cTru, oTru, cAnd, cOr, cNot, cUn, cChain, gName, cTupG, gCons, gNil, gSub, oLt, oLe, oGt, oGe, oGtK, oGeK, oBor, oIs, oIsNot, oSub, oMul, oFdiv, oMod, oPow, cPar, cPar3, cAug, tDNewK, cCall, cAttr, frzE, List.mem_singleton, List.lookup_cons_self, List.getElem?_cons_zero, List.getElem?_cons_succ, List.set_cons_zero, List.set_cons_succ, Option.some.injEq, reduceCtorEq, if_true, if_false, Bool.true_eq_false, Bool.false_eq_true, decide_eq_true_eq, ite_true, ite_false, ↓reduceIte, List.length_cons, List.length_nil, true_and, and_true, exists_eq_left', exists_eq_left, List.cons.injEq]
  rw [isi_ty (n := "str") rfl kb_ss]
  try simp only [tSeq, tIfS, tNext, tRet, tRetN, tDrop, tAsg, tC, cVar, tOp, tCB, tCons, tNil, tTup, tLst, tIf, tAnd, tOr, tNot, cTest, cTru, oTru, cAnd, cOr, cNot, cUn, cChain, gName, cTupG, gCons, gNil, gSub, oLt, oLe, oGt, oGe, oGtK, oGeK, oBor, oIs, oIsNot, oSub, oMul, oFdiv, oMod, oPow, cPar, cPar3, cAug, tDNewK, cCall, cAttr, frzE, List.mem_singleton, List.lookup_cons_self, List.getElem?_cons_zero, List.getElem?_cons_succ, List.set_cons_zero, List.set_cons_succ, Option.some.injEq, reduceCtorEq, if_true, if_false, Bool.true_eq_false, Bool.false_eq_true, decide_eq_true_eq, ite_true, ite_false, ↓reduceIte, List.length_cons, List.length_nil, true_and, and_true, exists_eq_left', exists_eq_left, List.cons.injEq]
  rw [len_str]
  refine ⟨Nat.le_of_lt (small1000 hs), ?_⟩
  try simp only [tSeq, tIfS, tNext, tRet, tRetN, tDrop, tAsg, tC, cVar, tOp, tCB, tCons, tNil, tTup, tLst, tIf, tAnd, tOr, tNot, cTest, cTru, oTru, cAnd, cOr, cNot, cUn, cChain, gName, cTupG, gCons, gNil, gSub, oLt, oLe, oGt, oGe, oGtK, oGeK, oBor, oIs, oIsNot, oSub, oMul, oFdiv, oMod, oPow, cPar, cPar3, cAug, tDNewK, cCall, cAttr, frzE, List.mem_singleton, List.lookup_cons_self, List.getElem?_cons_zero, List.getElem?_cons_succ, List.set_cons_zero, List.set_cons_succ, Option.some.injEq, reduceCtorEq, if_true, if_false, Bool.true_eq_false, Bool.false_eq_true, decide_eq_true_eq, ite_true, ite_false, ↓reduceIte, List.length_cons, List.length_nil, true_and, and_true, exists_eq_left', exists_eq_left, List.cons.injEq]
  unfold isNm at h
  by_cases h1 : 1 ≤ s.length
  · by_cases h8 : s.length ≤ 8
    · rw [decide_eq_true (by exact_mod_cast h1 : (1 : Int) ≤ (s.length : Int)), decide_eq_true (by exact_mod_cast h8 : (s.length : Int) ≤ 8)]
      try simp only [tSeq, tIfS, tNext, tRet, tRetN, tDrop, tAsg, tC, cVar, tOp, tCB, tCons, tNil, tTup, tLst, tIf, tAnd, tOr, tNot, cTest, cTru, oTru, cAnd, cOr, cNot, cUn, cChain, gName, cTupG, gCons, gNil, gSub, oLt, oLe, oGt, oGe, oGtK, oGeK, oBor, oIs, oIsNot, oSub, oMul, oFdiv, oMod, oPow, cPar, cPar3, cAug, tDNewK, cCall, cAttr, frzE, List.mem_singleton, List.lookup_cons_self, List.getElem?_cons_zero, List.getElem?_cons_succ, List.set_cons_zero, List.set_cons_succ, Option.some.injEq, reduceCtorEq, if_true, if_false, Bool.true_eq_false, Bool.false_eq_true, decide_eq_true_eq, ite_true, ite_false, ↓reduceIte, List.length_cons, List.length_nil, true_and, and_true, exists_eq_left', exists_eq_left, List.cons.injEq]
      refine lc_signs hs (fun D H' e hD => ?_) (fun v => rfl) (fun v => rfl) rfl
      refine ⟨D, s.cps.toList.map fun c => decide (c ∈ lets), rfl, ?_, ?_⟩
      · rw [look_of_lst hD, List.map_map]
        simp only [Bool.false_bne, Function.comp_def]
        rfl
      · have := h H' e
        rw [List.all_map]
        simpa [h1, h8, Function.comp_def] using this
    · rw [decide_eq_true (by exact_mod_cast h1 : (1 : Int) ≤ (s.length : Int)), decide_eq_false (by exact_mod_cast h8 : ¬ (s.length : Int) ≤ 8)]
      try simp only [tSeq, tIfS, tNext, tRet, tRetN, tDrop, tAsg, tC, cVar, tOp, tCB, tCons, tNil, tTup, tLst, tIf, tAnd, tOr, tNot, cTest, cTru, oTru, cAnd, cOr, cNot, cUn, cChain, gName, cTupG, gCons, gNil, gSub, oLt, oLe, oGt, oGe, oGtK, oGeK, oBor, oIs, oIsNot, oSub, oMul, oFdiv, oMod, oPow, cPar, cPar3, cAug, tDNewK, cCall, cAttr, frzE, List.mem_singleton, List.lookup_cons_self, List.getElem?_cons_zero, List.getElem?_cons_succ, List.set_cons_zero, List.set_cons_succ, Option.some.injEq, reduceCtorEq, if_true, if_false, Bool.true_eq_false, Bool.false_eq_true, decide_eq_true_eq, ite_true, ite_false, ↓reduceIte, List.length_cons, List.length_nil, true_and, and_true, exists_eq_left', exists_eq_left, List.cons.injEq]
      simpa [h8] using h H Ex.refl
  · rw [decide_eq_false (by exact_mod_cast h1 : ¬ (1 : Int) ≤ (s.length : Int))]
    try simp only [tSeq, tIfS, tNext, tRet, tRetN, tDrop, tAsg, tC, cVar, tOp, tCB, tCons, tNil, tTup, tLst, tIf, tAnd, tOr, tNot, cTest, cTru, oTru, cAnd, cOr, cNot, cUn, cChain, gName, cTupG, gCons, gNil, gSub, oLt, oLe, oGt, oGe, oGtK, oGeK, oBor, oIs, oIsNot, oSub, oMul, oFdiv, oMod, oPow, cPar, cPar3, cAug, tDNewK, cCall, cAttr, frzE, List.mem_singleton, List.lookup_cons_self, List.getElem?_cons_zero, List.getElem?_cons_succ, List.set_cons_zero, List.set_cons_succ, Option.some.injEq, reduceCtorEq, if_true, if_false, Bool.true_eq_false, Bool.false_eq_true, decide_eq_true_eq, ite_true, ite_false, ↓reduceIte, List.length_cons, List.length_nil, true_and, and_true, exists_eq_left', exists_eq_left, List.cons.injEq]
    simpa [h1] using h H Ex.refl
theorem s_is_name_o {v : V} {m : String} (hv : tyN K H v = some m) (hm : kitB m "str" = some false) (h : Q (.bl false) H) : SP K (n+1) "is_name" [v] H Q E := by
  refine o_is_name ?_
  simp only [r_is_name, tSeq, tIfS, tNext, tRet, tRetN, tDrop, tAsg, tC, cVar, tOp, tCB, tCons, tNil, tTup, tLst, tIf, tAnd, tOr, tNot, cTest, cTru, oTru, cAnd, cOr, cNot, cUn, cChain, gName, cTupG, gCons, gNil, gSub, oLt, oLe, oGt, oGe, oGtK, oGeK, oBor, oIs, oIsNot, oSub, oMul, oFdiv, oMod, oPow, cPar, cPar3, cAug, tDNewK, cCall, cAttr, frzE, List.mem_singleton, List.lookup_cons_self, List.getElem?_cons_zero, List.getElem?_cons_succ, List.set_cons_zero, List.set_cons_succ, Option.some.injEq, reduceCtorEq, if_true, if_false, Bool.true_eq_false, Bool.false_eq_true, decide_eq_true_eq, ite_true, ite_false, ↓reduceIte, List.length_cons, List.length_nil, true_and, and_true, exists_eq_left', exists_eq_left, List.cons.injEq]
  rw [isi_ty hv hm]
  try simp only [tSeq, tIfS, tNext, tRet, tRetN, tDrop, tAsg, tC, cVar, tOp, tCB, tCons, tNil, tTup, tLst, tIf, tAnd, tOr, tNot, cTest, cTru, oTru, cAnd, cOr, cNot, cUn, cChain, gName, cTupG, gCons, gNil, gSub, oLt, oLe, oGt, oGe, oGtK, oGeK, oBor, oIs, oIsNot, oSub, oMul, oFdiv, oMod, oPow, cPar, cPar3, cAug, tDNewK, cCall, cAttr, frzE, List.mem_singleton, List.lookup_cons_self, List.getElem?_cons_zero, List.getElem?_cons_succ, List.set_cons_zero, List.set_cons_succ, Option.some.injEq, reduceCtorEq, if_true, if_false, Bool.true_eq_false, Bool.false_eq_true, decide_eq_true_eq, ite_true, ite_false, ↓reduceIte, List.length_cons, List.length_nil, true_and, and_true, exists_eq_left', exists_eq_left, List.cons.injEq]
  exact h
theorem s_need_name {s : Str} (hs : s.length ≤ 1000) (hn : isNm s = true) (h : ∀ H', Ex H H' → Q .non H') : SP K (n+2) "need_name" [.str s] H Q E := by
  refine o_need_name ?_
  simp only [r_need_name, tSeq, tIfS, tNext, tRet, tRetN, tDrop, tAsg, tC, cVar, tOp, tCB, tCons, tNil, tTup, tLst, tIf, tAnd, tOr, tNot, cTest, cTru, oTru, cAnd, cOr, cNot, cUn, cChain, gName, cTupG, gCons, gNil, gSub, oLt, oLe, oGt, oGe, oGtK, oGeK, oBor, oIs, oIsNot, oSub, oMul, oFdiv, oMod, oPow, cPar, cPar3, cAug, tDNewK, cCall, cAttr, frzE, List.mem_singleton, List.lookup_cons_self, List.getElem?_cons_zero, List.getElem?_cons_succ, List.set_cons_zero, List.set_cons_succ, Option.some.injEq, reduceCtorEq, if_true, if_false, Bool.true_eq_false, Bool.false_eq_true, decide_eq_true_eq, ite_true, ite_false, ↓reduceIte, List.length_cons, List.length_nil, true_and, and_true, exists_eq_left', exists_eq_left, List.cons.injEq]
  refine s_is_name hs fun H' e => ?_
  rw [hn]
  try simp only [tSeq, tIfS, tNext, tRet, tRetN, tDrop, tAsg, tC, cVar, tOp, tCB, tCons, tNil, tTup, tLst, tIf, tAnd, tOr, tNot, cTest, cTru, oTru, cAnd, cOr, cNot, cUn, cChain, gName, cTupG, gCons, gNil, gSub, oLt, oLe, oGt, oGe, oGtK, oGeK, oBor, oIs, oIsNot, oSub, oMul, oFdiv, oMod, oPow, cPar, cPar3, cAug, tDNewK, cCall, cAttr, frzE, List.mem_singleton, List.lookup_cons_self, List.getElem?_cons_zero, List.getElem?_cons_succ, List.set_cons_zero, List.set_cons_succ, Option.some.injEq, reduceCtorEq, if_true, if_false, Bool.true_eq_false, Bool.false_eq_true, decide_eq_true_eq, ite_true, ite_false, ↓reduceIte, List.length_cons, List.length_nil, true_and, and_true, exists_eq_left', exists_eq_left, List.cons.injEq]
  exact h H' e
end
end WR.L

set_option Elab.async false
set_option linter.all false
set_option maxRecDepth 100000
set_option maxHeartbeats 1000000
namespace WR.L
open PySem PySem.Spec PyProof.Rows L2
section
variable {K : PySem.W.Frag} {n : Nat} {H : Hp} {Q : VK} {E : XK}
theorem s_alike_int {i : Int} (h : Q (.bl true) H) : SP K (n+1) "_law_alike" [.int i, .int i] H Q E := by
  refine o__law_alike ?_
  unfold r__law_alike
  refine seq_ fun N1 h1 => ?_
  try simp only [tSeq, tIfS, tNext, tRet, tRetN, tDrop, tAsg, tC, cVar, tOp, tCB, tCons, tNil, tTup, tLst, tIf, tAnd, tOr, tNot, cTest, cTru, oTru, cAnd, cOr, cNot, cUn, cChain, gName, cTupG, gCons, gNil, gSub, oLt, oLe, oGt, oGe, oGtK, oGeK, oBor, oIs, oIsNot, oSub, oMul, oFdiv, oMod, oPow, cPar, cPar3, cAug, tDNewK, cCall, cAttr, frzE, List.mem_singleton, List.lookup_cons_self, List.getElem?_cons_zero, List.getElem?_cons_succ, List.set_cons_zero, List.set_cons_succ, Option.some.injEq, reduceCtorEq, if_true, if_false, Bool.true_eq_false, Bool.false_eq_true, decide_eq_true_eq, ite_true, ite_false, ↓reduceIte, List.length_cons, List.length_nil, true_and, and_true, exists_eq_left', exists_eq_left, List.cons.injEq]
  refine h1 _ _ (seq_ fun N2 h2 => ?_)
  try simp only [tSeq, tIfS, tNext, tRet, tRetN, tDrop, tAsg, tC, cVar, tOp, tCB, tCons, tNil, tTup, tLst, tIf, tAnd, tOr, tNot, cTest, cTru, oTru, cAnd, cOr, cNot, cUn, cChain, gName, cTupG, gCons, gNil, gSub, oLt, oLe, oGt, oGe, oGtK, oGeK, oBor, oIs, oIsNot, oSub, oMul, oFdiv, oMod, oPow, cPar, cPar3, cAug, tDNewK, cCall, cAttr, frzE, List.mem_singleton, List.lookup_cons_self, List.getElem?_cons_zero, List.getElem?_cons_succ, List.set_cons_zero, List.set_cons_succ, Option.some.injEq, reduceCtorEq, if_true, if_false, Bool.true_eq_false, Bool.false_eq_true, decide_eq_true_eq, ite_true, ite_false, ↓reduceIte, List.length_cons, List.length_nil, true_and, and_true, exists_eq_left', exists_eq_left, List.cons.injEq]
  rw [isi_ty (n := "int") rfl kb_int_bool]
  try simp only [tSeq, tIfS, tNext, tRet, tRetN, tDrop, tAsg, tC, cVar, tOp, tCB, tCons, tNil, tTup, tLst, tIf, tAnd, tOr, tNot, cTest, cTru, oTru, cAnd, cOr, cNot, cUn, cChain, gName, cTupG, gCons, gNil, gSub, oLt, oLe, oGt, oGe, oGtK, oGeK, oBor, oIs, oIsNot, oSub, oMul, oFdiv, oMod, oPow, cPar, cPar3, cAug, tDNewK, cCall, cAttr, frzE, List.mem_singleton, List.lookup_cons_self, List.getElem?_cons_zero, List.getElem?_cons_succ, List.set_cons_zero, List.set_cons_succ, Option.some.injEq, reduceCtorEq, if_true, if_false, Bool.true_eq_false, Bool.false_eq_true, decide_eq_true_eq, ite_true, ite_false, ↓reduceIte, List.length_cons, List.length_nil, true_and, and_true, exists_eq_left', exists_eq_left, List.cons.injEq]
  refine h2 _ _ (seq_ fun N3 h3 => ?_)
  try simp only [tSeq, tIfS, tNext, tRet, tRetN, tDrop, tAsg, tC, cVar, tOp, tCB, tCons, tNil, tTup, tLst, tIf, tAnd, tOr, tNot, cTest, cTru, oTru, cAnd, cOr, cNot, cUn, cChain, gName, cTupG, gCons, gNil, gSub, oLt, oLe, oGt, oGe, oGtK, oGeK, oBor, oIs, oIsNot, oSub, oMul, oFdiv, oMod, oPow, cPar, cPar3, cAug, tDNewK, cCall, cAttr, frzE, List.mem_singleton, List.lookup_cons_self, List.getElem?_cons_zero, List.getElem?_cons_succ, List.set_cons_zero, List.set_cons_succ, Option.some.injEq, reduceCtorEq, if_true, if_false, Bool.true_eq_false, Bool.false_eq_true, decide_eq_true_eq, ite_true, ite_false, ↓reduceIte, List.length_cons, List.length_nil, true_and, and_true, exists_eq_left', exists_eq_left, List.cons.injEq]
  rw [isi_ty (n := "int") rfl kb_int_int]
  try simp only [tSeq, tIfS, tNext, tRet, tRetN, tDrop, tAsg, tC, cVar, tOp, tCB, tCons, tNil, tTup, tLst, tIf, tAnd, tOr, tNot, cTest, cTru, oTru, cAnd, cOr, cNot, cUn, cChain, gName, cTupG, gCons, gNil, gSub, oLt, oLe, oGt, oGe, oGtK, oGeK, oBor, oIs, oIsNot, oSub, oMul, oFdiv, oMod, oPow, cPar, cPar3, cAug, tDNewK, cCall, cAttr, frzE, List.mem_singleton, List.lookup_cons_self, List.getElem?_cons_zero, List.getElem?_cons_succ, List.set_cons_zero, List.set_cons_succ, Option.some.injEq, reduceCtorEq, if_true, if_false, Bool.true_eq_false, Bool.false_eq_true, decide_eq_true_eq, ite_true, ite_false, ↓reduceIte, List.length_cons, List.length_nil, true_and, and_true, exists_eq_left', exists_eq_left, List.cons.injEq]
  rw [isi_ty (n := "int") rfl kb_int_int]
  try simp only [tSeq, tIfS, tNext, tRet, tRetN, tDrop, tAsg, tC, cVar, tOp, tCB, tCons, tNil, tTup, tLst, tIf, tAnd, tOr, tNot, cTest, cTru, oTru, cAnd, cOr, cNot, cUn, cChain, gName, cTupG, gCons, gNil, gSub, oLt, oLe, oGt, oGe, oGtK, oGeK, oBor, oIs, oIsNot, oSub, oMul, oFdiv, oMod, oPow, cPar, cPar3, cAug, tDNewK, cCall, cAttr, frzE, List.mem_singleton, List.lookup_cons_self, List.getElem?_cons_zero, List.getElem?_cons_succ, List.set_cons_zero, List.set_cons_succ, Option.some.injEq, reduceCtorEq, if_true, if_false, Bool.true_eq_false, Bool.false_eq_true, decide_eq_true_eq, ite_true, ite_false, ↓reduceIte, List.length_cons, List.length_nil, true_and, and_true, exists_eq_left', exists_eq_left, List.cons.injEq]
  rw [isi_ty (n := "int") rfl kb_int_bool]
  try simp only [tSeq, tIfS, tNext, tRet, tRetN, tDrop, tAsg, tC, cVar, tOp, tCB, tCons, tNil, tTup, tLst, tIf, tAnd, tOr, tNot, cTest, cTru, oTru, cAnd, cOr, cNot, cUn, cChain, gName, cTupG, gCons, gNil, gSub, oLt, oLe, oGt, oGe, oGtK, oGeK, oBor, oIs, oIsNot, oSub, oMul, oFdiv, oMod, oPow, cPar, cPar3, cAug, tDNewK, cCall, cAttr, frzE, List.mem_singleton, List.lookup_cons_self, List.getElem?_cons_zero, List.getElem?_cons_succ, List.set_cons_zero, List.set_cons_succ, Option.some.injEq, reduceCtorEq, if_true, if_false, Bool.true_eq_false, Bool.false_eq_true, decide_eq_true_eq, ite_true, ite_false, ↓reduceIte, List.length_cons, List.length_nil, true_and, and_true, exists_eq_left', exists_eq_left, List.cons.injEq]
  exact eq_scal rfl rfl rfl (by simpa using h)
theorem s_alike_bl {i : Bool} (h : Q (.bl true) H) : SP K (n+1) "_law_alike" [.bl i, .bl i] H Q E := by
  refine o__law_alike ?_
  unfold r__law_alike
  refine seq_ fun N1 h1 => ?_
  try simp only [tSeq, tIfS, tNext, tRet, tRetN, tDrop, tAsg, tC, cVar, tOp, tCB, tCons, tNil, tTup, tLst, tIf, tAnd, tOr, tNot, cTest, cTru, oTru, cAnd, cOr, cNot, cUn, cChain, gName, cTupG, gCons, gNil, gSub, oLt, oLe, oGt, oGe, oGtK, oGeK, oBor, oIs, oIsNot, oSub, oMul, oFdiv, oMod, oPow, cPar, cPar3, cAug, tDNewK, cCall, cAttr, frzE, List.mem_singleton, List.lookup_cons_self, List.getElem?_cons_zero, List.getElem?_cons_succ, List.set_cons_zero, List.set_cons_succ, Option.some.injEq, reduceCtorEq, if_true, if_false, Bool.true_eq_false, Bool.false_eq_true, decide_eq_true_eq, ite_true, ite_false, ↓reduceIte, List.length_cons, List.length_nil, true_and, and_true, exists_eq_left', exists_eq_left, List.cons.injEq]
  refine h1 _ _ (seq_ fun N2 h2 => ?_)
  try simp only [tSeq, tIfS, tNext, tRet, tRetN, tDrop, tAsg, tC, cVar, tOp, tCB, tCons, tNil, tTup, tLst, tIf, tAnd, tOr, tNot, cTest, cTru, oTru, cAnd, cOr, cNot, cUn, cChain, gName, cTupG, gCons, gNil, gSub, oLt, oLe, oGt, oGe, oGtK, oGeK, oBor, oIs, oIsNot, oSub, oMul, oFdiv, oMod, oPow, cPar, cPar3, cAug, tDNewK, cCall, cAttr, frzE, List.mem_singleton, List.lookup_cons_self, List.getElem?_cons_zero, List.getElem?_cons_succ, List.set_cons_zero, List.set_cons_succ, Option.some.injEq, reduceCtorEq, if_true, if_false, Bool.true_eq_false, Bool.false_eq_true, decide_eq_true_eq, ite_true, ite_false, ↓reduceIte, List.length_cons, List.length_nil, true_and, and_true, exists_eq_left', exists_eq_left, List.cons.injEq]
  rw [isi_ty (n := "bool") rfl kb_bool_bool]
  try simp only [tSeq, tIfS, tNext, tRet, tRetN, tDrop, tAsg, tC, cVar, tOp, tCB, tCons, tNil, tTup, tLst, tIf, tAnd, tOr, tNot, cTest, cTru, oTru, cAnd, cOr, cNot, cUn, cChain, gName, cTupG, gCons, gNil, gSub, oLt, oLe, oGt, oGe, oGtK, oGeK, oBor, oIs, oIsNot, oSub, oMul, oFdiv, oMod, oPow, cPar, cPar3, cAug, tDNewK, cCall, cAttr, frzE, List.mem_singleton, List.lookup_cons_self, List.getElem?_cons_zero, List.getElem?_cons_succ, List.set_cons_zero, List.set_cons_succ, Option.some.injEq, reduceCtorEq, if_true, if_false, Bool.true_eq_false, Bool.false_eq_true, decide_eq_true_eq, ite_true, ite_false, ↓reduceIte, List.length_cons, List.length_nil, true_and, and_true, exists_eq_left', exists_eq_left, List.cons.injEq]
  rw [isi_ty (n := "bool") rfl kb_bool_bool]
  try simp only [tSeq, tIfS, tNext, tRet, tRetN, tDrop, tAsg, tC, cVar, tOp, tCB, tCons, tNil, tTup, tLst, tIf, tAnd, tOr, tNot, cTest, cTru, oTru, cAnd, cOr, cNot, cUn, cChain, gName, cTupG, gCons, gNil, gSub, oLt, oLe, oGt, oGe, oGtK, oGeK, oBor, oIs, oIsNot, oSub, oMul, oFdiv, oMod, oPow, cPar, cPar3, cAug, tDNewK, cCall, cAttr, frzE, List.mem_singleton, List.lookup_cons_self, List.getElem?_cons_zero, List.getElem?_cons_succ, List.set_cons_zero, List.set_cons_succ, Option.some.injEq, reduceCtorEq, if_true, if_false, Bool.true_eq_false, Bool.false_eq_true, decide_eq_true_eq, ite_true, ite_false, ↓reduceIte, List.length_cons, List.length_nil, true_and, and_true, exists_eq_left', exists_eq_left, List.cons.injEq]
  exact eq_scal rfl rfl rfl (by simpa using h)
theorem s_alike_str {i : Str} (h : Q (.bl true) H) : SP K (n+1) "_law_alike" [.str i, .str i] H Q E := by
  refine o__law_alike ?_
  unfold r__law_alike
  refine seq_ fun N1 h1 => ?_
  try simp only [tSeq, tIfS, tNext, tRet, tRetN, tDrop, tAsg, tC, cVar, tOp, tCB, tCons, tNil, tTup, tLst, tIf, tAnd, tOr, tNot, cTest, cTru, oTru, cAnd, cOr, cNot, cUn, cChain, gName, cTupG, gCons, gNil, gSub, oLt, oLe, oGt, oGe, oGtK, oGeK, oBor, oIs, oIsNot, oSub, oMul, oFdiv, oMod, oPow, cPar, cPar3, cAug, tDNewK, cCall, cAttr, frzE, List.mem_singleton, List.lookup_cons_self, List.getElem?_cons_zero, List.getElem?_cons_succ, List.set_cons_zero, List.set_cons_succ, Option.some.injEq, reduceCtorEq, if_true, if_false, Bool.true_eq_false, Bool.false_eq_true, decide_eq_true_eq, ite_true, ite_false, ↓reduceIte, List.length_cons, List.length_nil, true_and, and_true, exists_eq_left', exists_eq_left, List.cons.injEq]
  refine h1 _ _ (seq_ fun N2 h2 => ?_)
  try simp only [tSeq, tIfS, tNext, tRet, tRetN, tDrop, tAsg, tC, cVar, tOp, tCB, tCons, tNil, tTup, tLst, tIf, tAnd, tOr, tNot, cTest, cTru, oTru, cAnd, cOr, cNot, cUn, cChain, gName, cTupG, gCons, gNil, gSub, oLt, oLe, oGt, oGe, oGtK, oGeK, oBor, oIs, oIsNot, oSub, oMul, oFdiv, oMod, oPow, cPar, cPar3, cAug, tDNewK, cCall, cAttr, frzE, List.mem_singleton, List.lookup_cons_self, List.getElem?_cons_zero, List.getElem?_cons_succ, List.set_cons_zero, List.set_cons_succ, Option.some.injEq, reduceCtorEq, if_true, if_false, Bool.true_eq_false, Bool.false_eq_true, decide_eq_true_eq, ite_true, ite_false, ↓reduceIte, List.length_cons, List.length_nil, true_and, and_true, exists_eq_left', exists_eq_left, List.cons.injEq]
  rw [isi_ty (n := "str") rfl kb_str_bool]
  try simp only [tSeq, tIfS, tNext, tRet, tRetN, tDrop, tAsg, tC, cVar, tOp, tCB, tCons, tNil, tTup, tLst, tIf, tAnd, tOr, tNot, cTest, cTru, oTru, cAnd, cOr, cNot, cUn, cChain, gName, cTupG, gCons, gNil, gSub, oLt, oLe, oGt, oGe, oGtK, oGeK, oBor, oIs, oIsNot, oSub, oMul, oFdiv, oMod, oPow, cPar, cPar3, cAug, tDNewK, cCall, cAttr, frzE, List.mem_singleton, List.lookup_cons_self, List.getElem?_cons_zero, List.getElem?_cons_succ, List.set_cons_zero, List.set_cons_succ, Option.some.injEq, reduceCtorEq, if_true, if_false, Bool.true_eq_false, Bool.false_eq_true, decide_eq_true_eq, ite_true, ite_false, ↓reduceIte, List.length_cons, List.length_nil, true_and, and_true, exists_eq_left', exists_eq_left, List.cons.injEq]
  refine h2 _ _ (seq_ fun N3 h3 => ?_)
  try simp only [tSeq, tIfS, tNext, tRet, tRetN, tDrop, tAsg, tC, cVar, tOp, tCB, tCons, tNil, tTup, tLst, tIf, tAnd, tOr, tNot, cTest, cTru, oTru, cAnd, cOr, cNot, cUn, cChain, gName, cTupG, gCons, gNil, gSub, oLt, oLe, oGt, oGe, oGtK, oGeK, oBor, oIs, oIsNot, oSub, oMul, oFdiv, oMod, oPow, cPar, cPar3, cAug, tDNewK, cCall, cAttr, frzE, List.mem_singleton, List.lookup_cons_self, List.getElem?_cons_zero, List.getElem?_cons_succ, List.set_cons_zero, List.set_cons_succ, Option.some.injEq, reduceCtorEq, if_true, if_false, Bool.true_eq_false, Bool.false_eq_true, decide_eq_true_eq, ite_true, ite_false, ↓reduceIte, List.length_cons, List.length_nil, true_and, and_true, exists_eq_left', exists_eq_left, List.cons.injEq]
  rw [isi_ty (n := "str") rfl kb_str_int]
  try simp only [tSeq, tIfS, tNext, tRet, tRetN, tDrop, tAsg, tC, cVar, tOp, tCB, tCons, tNil, tTup, tLst, tIf, tAnd, tOr, tNot, cTest, cTru, oTru, cAnd, cOr, cNot, cUn, cChain, gName, cTupG, gCons, gNil, gSub, oLt, oLe, oGt, oGe, oGtK, oGeK, oBor, oIs, oIsNot, oSub, oMul, oFdiv, oMod, oPow, cPar, cPar3, cAug, tDNewK, cCall, cAttr, frzE, List.mem_singleton, List.lookup_cons_self, List.getElem?_cons_zero, List.getElem?_cons_succ, List.set_cons_zero, List.set_cons_succ, Option.some.injEq, reduceCtorEq, if_true, if_false, Bool.true_eq_false, Bool.false_eq_true, decide_eq_true_eq, ite_true, ite_false, ↓reduceIte, List.length_cons, List.length_nil, true_and, and_true, exists_eq_left', exists_eq_left, List.cons.injEq]
  refine h3 _ _ (seq_ fun N4 h4 => ?_)
  try simp only [tSeq, tIfS, tNext, tRet, tRetN, tDrop, tAsg, tC, cVar, tOp, tCB, tCons, tNil, tTup, tLst, tIf, tAnd, tOr, tNot, cTest, cTru, oTru, cAnd, cOr, cNot, cUn, cChain, gName, cTupG, gCons, gNil, gSub, oLt, oLe, oGt, oGe, oGtK, oGeK, oBor, oIs, oIsNot, oSub, oMul, oFdiv, oMod, oPow, cPar, cPar3, cAug, tDNewK, cCall, cAttr, frzE, List.mem_singleton, List.lookup_cons_self, List.getElem?_cons_zero, List.getElem?_cons_succ, List.set_cons_zero, List.set_cons_succ, Option.some.injEq, reduceCtorEq, if_true, if_false, Bool.true_eq_false, Bool.false_eq_true, decide_eq_true_eq, ite_true, ite_false, ↓reduceIte, List.length_cons, List.length_nil, true_and, and_true, exists_eq_left', exists_eq_left, List.cons.injEq]
  rw [isi_ty (n := "str") rfl kb_ss]
  try simp only [tSeq, tIfS, tNext, tRet, tRetN, tDrop, tAsg, tC, cVar, tOp, tCB, tCons, tNil, tTup, tLst, tIf, tAnd, tOr, tNot, cTest, cTru, oTru, cAnd, cOr, cNot, cUn, cChain, gName, cTupG, gCons, gNil, gSub, oLt, oLe, oGt, oGe, oGtK, oGeK, oBor, oIs, oIsNot, oSub, oMul, oFdiv, oMod, oPow, cPar, cPar3, cAug, tDNewK, cCall, cAttr, frzE, List.mem_singleton, List.lookup_cons_self, List.getElem?_cons_zero, List.getElem?_cons_succ, List.set_cons_zero, List.set_cons_succ, Option.some.injEq, reduceCtorEq, if_true, if_false, Bool.true_eq_false, Bool.false_eq_true, decide_eq_true_eq, ite_true, ite_false, ↓reduceIte, List.length_cons, List.length_nil, true_and, and_true, exists_eq_left', exists_eq_left, List.cons.injEq]
  rw [isi_ty (n := "str") rfl kb_ss]
  try simp only [tSeq, tIfS, tNext, tRet, tRetN, tDrop, tAsg, tC, cVar, tOp, tCB, tCons, tNil, tTup, tLst, tIf, tAnd, tOr, tNot, cTest, cTru, oTru, cAnd, cOr, cNot, cUn, cChain, gName, cTupG, gCons, gNil, gSub, oLt, oLe, oGt, oGe, oGtK, oGeK, oBor, oIs, oIsNot, oSub, oMul, oFdiv, oMod, oPow, cPar, cPar3, cAug, tDNewK, cCall, cAttr, frzE, List.mem_singleton, List.lookup_cons_self, List.getElem?_cons_zero, List.getElem?_cons_succ, List.set_cons_zero, List.set_cons_succ, Option.some.injEq, reduceCtorEq, if_true, if_false, Bool.true_eq_false, Bool.false_eq_true, decide_eq_true_eq, ite_true, ite_false, ↓reduceIte, List.length_cons, List.length_nil, true_and, and_true, exists_eq_left', exists_eq_left, List.cons.injEq]
  exact eq_scal rfl rfl rfl (by simpa using h)
/-- two sequences alike item by item -/
theorem lc_alike {N m : Nat} {a b : Addr} {xs ys : List V} {wi : TI} (hwi : ∀ R : It → Hp → Prop, R (Itr 0 N) H → wi [some (.ref a), some (.ref b), none, none] H R)
    (hr : ∀ i x y H' (R : VK), i < N → xs[i]? = some x → ys[i]? = some y → Ex H H' → (∀ H2, Ex H' H2 → R (.bl true) H2) → SP K m "_law_alike" [x, y] H' R (fun _ _ _ => False))
    (hN : N ≤ 1000) (hx : xs.length = N) (hy : ys.length = N)
    (hla : ∀ H', Ex H H' → ∀ (i : Nat) x, xs[i]? = some x → ∀ R : VK, R x H' → oIx K (.ref a) (.int i) H' R) (hlb : ∀ H', Ex H H' → ∀ (i : Nat) x, ys[i]? = some x → ∀ R : VK, R x H' → oIx K (.ref b) (.int i) H' R)
    (h : ∀ D H', Ex H H' → H' D = some (.lst ((List.replicate N true).map V.bl)) → Q (.ref D) H') :
    cLcL wi (gName 2) tYes (cCall (SP K m "_law_alike") 2 0 (fun vs _ => vs) (tCons (tOp (oIx K) (cVar 0) (cVar 2)) (tCons (tOp (oIx K) (cVar 1) (cVar 2)) tNil)) tNil wNone) [2] [some (.ref a), some (.ref b), none, none] H Q := by
  refine .inl (hwi _ ?_)
  intro D hD
  refine lpc_inv (n := N) (fun j H' => Ex H H' ∧ H' D = some (.lst ((List.replicate j true).map V.bl))) ?_ ?_ ⟨Ex.refl.new hD, by rw [upd_same]; rfl⟩
  · rintro H' ⟨h1, h2⟩
    exact ⟨Nat.le_refl _, h D H' h1 h2⟩
  · rintro j H' hj ⟨h1, h2⟩ R hR
    refine ⟨hj, ?_⟩
    rintro x H2 ⟨rfl, rfl⟩
    refine ⟨rfl, ?_⟩
    simp only [tYes, wipe, tSeq, tIfS, tNext, tRet, tRetN, tDrop, tAsg, tC, cVar, tOp, tCB, tCons, tNil, tTup, tLst, tIf, tAnd, tOr, tNot, cTest, cTru, oTru, cAnd, cOr, cNot, cUn, cChain, gName, cTupG, gCons, gNil, gSub, oLt, oLe, oGt, oGe, oGtK, oGeK, oBor, oIs, oIsNot, oSub, oMul, oFdiv, oMod, oPow, cPar, cPar3, cAug, tDNewK, cCall, cAttr, frzE, List.mem_singleton, List.lookup_cons_self, List.getElem?_cons_zero, List.getElem?_cons_succ, List.set_cons_zero, List.set_cons_succ, Option.some.injEq, reduceCtorEq, if_true, if_false, Bool.true_eq_false, Bool.false_eq_true, decide_eq_true_eq, ite_true, ite_false, ↓reduceIte, List.length_cons, List.length_nil, true_and, and_true, exists_eq_left', exists_eq_left, List.cons.injEq]
    have ex : xs[j]? = some xs[j] := by simp
    have ey : ys[j]? = some ys[j] := by simp
    have e0 : (0 + (j : Int)) = (j : Int) := by omega
    rw [e0]
    refine hla H2 h1 j _ ex _ ?_
    try simp only [tSeq, tIfS, tNext, tRet, tRetN, tDrop, tAsg, tC, cVar, tOp, tCB, tCons, tNil, tTup, tLst, tIf, tAnd, tOr, tNot, cTest, cTru, oTru, cAnd, cOr, cNot, cUn, cChain, gName, cTupG, gCons, gNil, gSub, oLt, oLe, oGt, oGe, oGtK, oGeK, oBor, oIs, oIsNot, oSub, oMul, oFdiv, oMod, oPow, cPar, cPar3, cAug, tDNewK, cCall, cAttr, frzE, List.mem_singleton, List.lookup_cons_self, List.getElem?_cons_zero, List.getElem?_cons_succ, List.set_cons_zero, List.set_cons_succ, Option.some.injEq, reduceCtorEq, if_true, if_false, Bool.true_eq_false, Bool.false_eq_true, decide_eq_true_eq, ite_true, ite_false, ↓reduceIte, List.length_cons, List.length_nil, true_and, and_true, exists_eq_left', exists_eq_left, List.cons.injEq]
    refine hlb H2 h1 j _ ey _ ?_
    try simp only [tSeq, tIfS, tNext, tRet, tRetN, tDrop, tAsg, tC, cVar, tOp, tCB, tCons, tNil, tTup, tLst, tIf, tAnd, tOr, tNot, cTest, cTru, oTru, cAnd, cOr, cNot, cUn, cChain, gName, cTupG, gCons, gNil, gSub, oLt, oLe, oGt, oGe, oGtK, oGeK, oBor, oIs, oIsNot, oSub, oMul, oFdiv, oMod, oPow, cPar, cPar3, cAug, tDNewK, cCall, cAttr, frzE, List.mem_singleton, List.lookup_cons_self, List.getElem?_cons_zero, List.getElem?_cons_succ, List.set_cons_zero, List.set_cons_succ, Option.some.injEq, reduceCtorEq, if_true, if_false, Bool.true_eq_false, Bool.false_eq_true, decide_eq_true_eq, ite_true, ite_false, ↓reduceIte, List.length_cons, List.length_nil, true_and, and_true, exists_eq_left', exists_eq_left, List.cons.injEq]
    refine hr j _ _ _ _ hj ex ey h1 fun H3 e3 => ?_
    refine ⟨_, e3 _ _ h2, ?_, hR _ ⟨?_, ?_⟩⟩
    · rw [List.length_map, List.length_replicate]
      exact small1000 (by omega)
    · intro b o eb
      have hb : b ≠ D := ne_of_none eb hD
      rw [upd_ne hb]; exact e3 _ _ (h1 b o eb)
    · rw [upd_same, List.replicate_succ']
      simp
theorem all_true (N : Nat) : (List.replicate N true).all id = true := by simp
/-- what stands behind the looks at the kinds, both being tuples or both lists of N items -/
theorem s_alike_seq {a b : Addr} {xs ys : List V} {N : Nat} (tup : Bool) (ha : look K H a = some (if tup then .tup xs else .lst xs)) (hb : look K H b = some (if tup then .tup ys else .lst ys)) (hN : N ≤ 1000) (hx : xs.length = N) (hy : ys.length = N)
    (hka : H a ≠ none) (hkb : H b ≠ none)
    (hr : ∀ i x y H' (R : VK), i < N → xs[i]? = some x → ys[i]? = some y → Ex H H' → (∀ H2, Ex H' H2 → R (.bl true) H2) → SP K n "_law_alike" [x, y] H' R (fun _ _ _ => False))
    (h : ∀ H', Ex H H' → Q (.bl true) H') : SP K (n+1) "_law_alike" [.ref a, .ref b] H Q E := by
  refine o__law_alike ?_
  unfold r__law_alike
  refine seq_ fun N1 h1 => ?_
  try simp only [tSeq, tIfS, tNext, tRet, tRetN, tDrop, tAsg, tC, cVar, tOp, tCB, tCons, tNil, tTup, tLst, tIf, tAnd, tOr, tNot, cTest, cTru, oTru, cAnd, cOr, cNot, cUn, cChain, gName, cTupG, gCons, gNil, gSub, oLt, oLe, oGt, oGe, oGtK, oGeK, oBor, oIs, oIsNot, oSub, oMul, oFdiv, oMod, oPow, cPar, cPar3, cAug, tDNewK, cCall, cAttr, frzE, List.mem_singleton, List.lookup_cons_self, List.getElem?_cons_zero, List.getElem?_cons_succ, List.set_cons_zero, List.set_cons_succ, Option.some.injEq, reduceCtorEq, if_true, if_false, Bool.true_eq_false, Bool.false_eq_true, decide_eq_true_eq, ite_true, ite_false, ↓reduceIte, List.length_cons, List.length_nil, true_and, and_true, exists_eq_left', exists_eq_left, List.cons.injEq]
  refine h1 _ _ (seq_ fun N2 h2 => ?_)
  cases tup with
  | true =>
    simp only [if_true] at ha hb
    have tb := ty_tup hb
    have ta := ty_tup ha
    try simp only [tSeq, tIfS, tNext, tRet, tRetN, tDrop, tAsg, tC, cVar, tOp, tCB, tCons, tNil, tTup, tLst, tIf, tAnd, tOr, tNot, cTest, cTru, oTru, cAnd, cOr, cNot, cUn, cChain, gName, cTupG, gCons, gNil, gSub, oLt, oLe, oGt, oGe, oGtK, oGeK, oBor, oIs, oIsNot, oSub, oMul, oFdiv, oMod, oPow, cPar, cPar3, cAug, tDNewK, cCall, cAttr, frzE, List.mem_singleton, List.lookup_cons_self, List.getElem?_cons_zero, List.getElem?_cons_succ, List.set_cons_zero, List.set_cons_succ, Option.some.injEq, reduceCtorEq, if_true, if_false, Bool.true_eq_false, Bool.false_eq_true, decide_eq_true_eq, ite_true, ite_false, ↓reduceIte, List.length_cons, List.length_nil, true_and, and_true, exists_eq_left', exists_eq_left, List.cons.injEq]
    rw [isi_ty tb kb_tuple_bool]
    try simp only [tSeq, tIfS, tNext, tRet, tRetN, tDrop, tAsg, tC, cVar, tOp, tCB, tCons, tNil, tTup, tLst, tIf, tAnd, tOr, tNot, cTest, cTru, oTru, cAnd, cOr, cNot, cUn, cChain, gName, cTupG, gCons, gNil, gSub, oLt, oLe, oGt, oGe, oGtK, oGeK, oBor, oIs, oIsNot, oSub, oMul, oFdiv, oMod, oPow, cPar, cPar3, cAug, tDNewK, cCall, cAttr, frzE, List.mem_singleton, List.lookup_cons_self, List.getElem?_cons_zero, List.getElem?_cons_succ, List.set_cons_zero, List.set_cons_succ, Option.some.injEq, reduceCtorEq, if_true, if_false, Bool.true_eq_false, Bool.false_eq_true, decide_eq_true_eq, ite_true, ite_false, ↓reduceIte, List.length_cons, List.length_nil, true_and, and_true, exists_eq_left', exists_eq_left, List.cons.injEq]
    refine h2 _ _ (seq_ fun N3 h3 => ?_)
    try simp only [tSeq, tIfS, tNext, tRet, tRetN, tDrop, tAsg, tC, cVar, tOp, tCB, tCons, tNil, tTup, tLst, tIf, tAnd, tOr, tNot, cTest, cTru, oTru, cAnd, cOr, cNot, cUn, cChain, gName, cTupG, gCons, gNil, gSub, oLt, oLe, oGt, oGe, oGtK, oGeK, oBor, oIs, oIsNot, oSub, oMul, oFdiv, oMod, oPow, cPar, cPar3, cAug, tDNewK, cCall, cAttr, frzE, List.mem_singleton, List.lookup_cons_self, List.getElem?_cons_zero, List.getElem?_cons_succ, List.set_cons_zero, List.set_cons_succ, Option.some.injEq, reduceCtorEq, if_true, if_false, Bool.true_eq_false, Bool.false_eq_true, decide_eq_true_eq, ite_true, ite_false, ↓reduceIte, List.length_cons, List.length_nil, true_and, and_true, exists_eq_left', exists_eq_left, List.cons.injEq]
    rw [isi_ty tb kb_tuple_int]
    try simp only [tSeq, tIfS, tNext, tRet, tRetN, tDrop, tAsg, tC, cVar, tOp, tCB, tCons, tNil, tTup, tLst, tIf, tAnd, tOr, tNot, cTest, cTru, oTru, cAnd, cOr, cNot, cUn, cChain, gName, cTupG, gCons, gNil, gSub, oLt, oLe, oGt, oGe, oGtK, oGeK, oBor, oIs, oIsNot, oSub, oMul, oFdiv, oMod, oPow, cPar, cPar3, cAug, tDNewK, cCall, cAttr, frzE, List.mem_singleton, List.lookup_cons_self, List.getElem?_cons_zero, List.getElem?_cons_succ, List.set_cons_zero, List.set_cons_succ, Option.some.injEq, reduceCtorEq, if_true, if_false, Bool.true_eq_false, Bool.false_eq_true, decide_eq_true_eq, ite_true, ite_false, ↓reduceIte, List.length_cons, List.length_nil, true_and, and_true, exists_eq_left', exists_eq_left, List.cons.injEq]
    refine h3 _ _ (seq_ fun N4 h4 => ?_)
    try simp only [tSeq, tIfS, tNext, tRet, tRetN, tDrop, tAsg, tC, cVar, tOp, tCB, tCons, tNil, tTup, tLst, tIf, tAnd, tOr, tNot, cTest, cTru, oTru, cAnd, cOr, cNot, cUn, cChain, gName, cTupG, gCons, gNil, gSub, oLt, oLe, oGt, oGe, oGtK, oGeK, oBor, oIs, oIsNot, oSub, oMul, oFdiv, oMod, oPow, cPar, cPar3, cAug, tDNewK, cCall, cAttr, frzE, List.mem_singleton, List.lookup_cons_self, List.getElem?_cons_zero, List.getElem?_cons_succ, List.set_cons_zero, List.set_cons_succ, Option.some.injEq, reduceCtorEq, if_true, if_false, Bool.true_eq_false, Bool.false_eq_true, decide_eq_true_eq, ite_true, ite_false, ↓reduceIte, List.length_cons, List.length_nil, true_and, and_true, exists_eq_left', exists_eq_left, List.cons.injEq]
    rw [isi_ty tb kb_tuple_str]
    try simp only [tSeq, tIfS, tNext, tRet, tRetN, tDrop, tAsg, tC, cVar, tOp, tCB, tCons, tNil, tTup, tLst, tIf, tAnd, tOr, tNot, cTest, cTru, oTru, cAnd, cOr, cNot, cUn, cChain, gName, cTupG, gCons, gNil, gSub, oLt, oLe, oGt, oGe, oGtK, oGeK, oBor, oIs, oIsNot, oSub, oMul, oFdiv, oMod, oPow, cPar, cPar3, cAug, tDNewK, cCall, cAttr, frzE, List.mem_singleton, List.lookup_cons_self, List.getElem?_cons_zero, List.getElem?_cons_succ, List.set_cons_zero, List.set_cons_succ, Option.some.injEq, reduceCtorEq, if_true, if_false, Bool.true_eq_false, Bool.false_eq_true, decide_eq_true_eq, ite_true, ite_false, ↓reduceIte, List.length_cons, List.length_nil, true_and, and_true, exists_eq_left', exists_eq_left, List.cons.injEq]
    refine h4 _ _ (seq_ fun N5 h5 => ?_)
    try simp only [tSeq, tIfS, tNext, tRet, tRetN, tDrop, tAsg, tC, cVar, tOp, tCB, tCons, tNil, tTup, tLst, tIf, tAnd, tOr, tNot, cTest, cTru, oTru, cAnd, cOr, cNot, cUn, cChain, gName, cTupG, gCons, gNil, gSub, oLt, oLe, oGt, oGe, oGtK, oGeK, oBor, oIs, oIsNot, oSub, oMul, oFdiv, oMod, oPow, cPar, cPar3, cAug, tDNewK, cCall, cAttr, frzE, List.mem_singleton, List.lookup_cons_self, List.getElem?_cons_zero, List.getElem?_cons_succ, List.set_cons_zero, List.set_cons_succ, Option.some.injEq, reduceCtorEq, if_true, if_false, Bool.true_eq_false, Bool.false_eq_true, decide_eq_true_eq, ite_true, ite_false, ↓reduceIte, List.length_cons, List.length_nil, true_and, and_true, exists_eq_left', exists_eq_left, List.cons.injEq]
    rw [isi_ty tb kb_tuple_dict]
    try simp only [tSeq, tIfS, tNext, tRet, tRetN, tDrop, tAsg, tC, cVar, tOp, tCB, tCons, tNil, tTup, tLst, tIf, tAnd, tOr, tNot, cTest, cTru, oTru, cAnd, cOr, cNot, cUn, cChain, gName, cTupG, gCons, gNil, gSub, oLt, oLe, oGt, oGe, oGtK, oGeK, oBor, oIs, oIsNot, oSub, oMul, oFdiv, oMod, oPow, cPar, cPar3, cAug, tDNewK, cCall, cAttr, frzE, List.mem_singleton, List.lookup_cons_self, List.getElem?_cons_zero, List.getElem?_cons_succ, List.set_cons_zero, List.set_cons_succ, Option.some.injEq, reduceCtorEq, if_true, if_false, Bool.true_eq_false, Bool.false_eq_true, decide_eq_true_eq, ite_true, ite_false, ↓reduceIte, List.length_cons, List.length_nil, true_and, and_true, exists_eq_left', exists_eq_left, List.cons.injEq]
    refine h5 _ _ (seq_ fun N6 h6 => ?_)
    try simp only [tSeq, tIfS, tNext, tRet, tRetN, tDrop, tAsg, tC, cVar, tOp, tCB, tCons, tNil, tTup, tLst, tIf, tAnd, tOr, tNot, cTest, cTru, oTru, cAnd, cOr, cNot, cUn, cChain, gName, cTupG, gCons, gNil, gSub, oLt, oLe, oGt, oGe, oGtK, oGeK, oBor, oIs, oIsNot, oSub, oMul, oFdiv, oMod, oPow, cPar, cPar3, cAug, tDNewK, cCall, cAttr, frzE, List.mem_singleton, List.lookup_cons_self, List.getElem?_cons_zero, List.getElem?_cons_succ, List.set_cons_zero, List.set_cons_succ, Option.some.injEq, reduceCtorEq, if_true, if_false, Bool.true_eq_false, Bool.false_eq_true, decide_eq_true_eq, ite_true, ite_false, ↓reduceIte, List.length_cons, List.length_nil, true_and, and_true, exists_eq_left', exists_eq_left, List.cons.injEq]
    rw [isi_ty tb kb_tuple_tuple]
    try simp only [tSeq, tIfS, tNext, tRet, tRetN, tDrop, tAsg, tC, cVar, tOp, tCB, tCons, tNil, tTup, tLst, tIf, tAnd, tOr, tNot, cTest, cTru, oTru, cAnd, cOr, cNot, cUn, cChain, gName, cTupG, gCons, gNil, gSub, oLt, oLe, oGt, oGe, oGtK, oGeK, oBor, oIs, oIsNot, oSub, oMul, oFdiv, oMod, oPow, cPar, cPar3, cAug, tDNewK, cCall, cAttr, frzE, List.mem_singleton, List.lookup_cons_self, List.getElem?_cons_zero, List.getElem?_cons_succ, List.set_cons_zero, List.set_cons_succ, Option.some.injEq, reduceCtorEq, if_true, if_false, Bool.true_eq_false, Bool.false_eq_true, decide_eq_true_eq, ite_true, ite_false, ↓reduceIte, List.length_cons, List.length_nil, true_and, and_true, exists_eq_left', exists_eq_left, List.cons.injEq]
    rw [isi_ty ta kb_tuple_tuple]
    try simp only [tSeq, tIfS, tNext, tRet, tRetN, tDrop, tAsg, tC, cVar, tOp, tCB, tCons, tNil, tTup, tLst, tIf, tAnd, tOr, tNot, cTest, cTru, oTru, cAnd, cOr, cNot, cUn, cChain, gName, cTupG, gCons, gNil, gSub, oLt, oLe, oGt, oGe, oGtK, oGeK, oBor, oIs, oIsNot, oSub, oMul, oFdiv, oMod, oPow, cPar, cPar3, cAug, tDNewK, cCall, cAttr, frzE, List.mem_singleton, List.lookup_cons_self, List.getElem?_cons_zero, List.getElem?_cons_succ, List.set_cons_zero, List.set_cons_succ, Option.some.injEq, reduceCtorEq, if_true, if_false, Bool.true_eq_false, Bool.false_eq_true, decide_eq_true_eq, ite_true, ite_false, ↓reduceIte, List.length_cons, List.length_nil, true_and, and_true, exists_eq_left', exists_eq_left, List.cons.injEq]
    refine h6 _ _ (seq_ fun N7 h7 => ?_)
    try simp only [tSeq, tIfS, tNext, tRet, tRetN, tDrop, tAsg, tC, cVar, tOp, tCB, tCons, tNil, tTup, tLst, tIf, tAnd, tOr, tNot, cTest, cTru, oTru, cAnd, cOr, cNot, cUn, cChain, gName, cTupG, gCons, gNil, gSub, oLt, oLe, oGt, oGe, oGtK, oGeK, oBor, oIs, oIsNot, oSub, oMul, oFdiv, oMod, oPow, cPar, cPar3, cAug, tDNewK, cCall, cAttr, frzE, List.mem_singleton, List.lookup_cons_self, List.getElem?_cons_zero, List.getElem?_cons_succ, List.set_cons_zero, List.set_cons_succ, Option.some.injEq, reduceCtorEq, if_true, if_false, Bool.true_eq_false, Bool.false_eq_true, decide_eq_true_eq, ite_true, ite_false, ↓reduceIte, List.length_cons, List.length_nil, true_and, and_true, exists_eq_left', exists_eq_left, List.cons.injEq]
    rw [len_tup rfl ha]
    try simp only [tSeq, tIfS, tNext, tRet, tRetN, tDrop, tAsg, tC, cVar, tOp, tCB, tCons, tNil, tTup, tLst, tIf, tAnd, tOr, tNot, cTest, cTru, oTru, cAnd, cOr, cNot, cUn, cChain, gName, cTupG, gCons, gNil, gSub, oLt, oLe, oGt, oGe, oGtK, oGeK, oBor, oIs, oIsNot, oSub, oMul, oFdiv, oMod, oPow, cPar, cPar3, cAug, tDNewK, cCall, cAttr, frzE, List.mem_singleton, List.lookup_cons_self, List.getElem?_cons_zero, List.getElem?_cons_succ, List.set_cons_zero, List.set_cons_succ, Option.some.injEq, reduceCtorEq, if_true, if_false, Bool.true_eq_false, Bool.false_eq_true, decide_eq_true_eq, ite_true, ite_false, ↓reduceIte, List.length_cons, List.length_nil, true_and, and_true, exists_eq_left', exists_eq_left, List.cons.injEq]
    rw [len_tup rfl hb]
    try simp only [tSeq, tIfS, tNext, tRet, tRetN, tDrop, tAsg, tC, cVar, tOp, tCB, tCons, tNil, tTup, tLst, tIf, tAnd, tOr, tNot, cTest, cTru, oTru, cAnd, cOr, cNot, cUn, cChain, gName, cTupG, gCons, gNil, gSub, oLt, oLe, oGt, oGe, oGtK, oGeK, oBor, oIs, oIsNot, oSub, oMul, oFdiv, oMod, oPow, cPar, cPar3, cAug, tDNewK, cCall, cAttr, frzE, List.mem_singleton, List.lookup_cons_self, List.getElem?_cons_zero, List.getElem?_cons_succ, List.set_cons_zero, List.set_cons_succ, Option.some.injEq, reduceCtorEq, if_true, if_false, Bool.true_eq_false, Bool.false_eq_true, decide_eq_true_eq, ite_true, ite_false, ↓reduceIte, List.length_cons, List.length_nil, true_and, and_true, exists_eq_left', exists_eq_left, List.cons.injEq]
    refine ne_scal rfl rfl rfl ?_
    simp only [hx, hy, decide_true, Bool.not_true, tSeq, tIfS, tNext, tRet, tRetN, tDrop, tAsg, tC, cVar, tOp, tCB, tCons, tNil, tTup, tLst, tIf, tAnd, tOr, tNot, cTest, cTru, oTru, cAnd, cOr, cNot, cUn, cChain, gName, cTupG, gCons, gNil, gSub, oLt, oLe, oGt, oGe, oGtK, oGeK, oBor, oIs, oIsNot, oSub, oMul, oFdiv, oMod, oPow, cPar, cPar3, cAug, tDNewK, cCall, cAttr, frzE, List.mem_singleton, List.lookup_cons_self, List.getElem?_cons_zero, List.getElem?_cons_succ, List.set_cons_zero, List.set_cons_succ, Option.some.injEq, reduceCtorEq, if_true, if_false, Bool.true_eq_false, Bool.false_eq_true, decide_eq_true_eq, ite_true, ite_false, ↓reduceIte, List.length_cons, List.length_nil, true_and, and_true, exists_eq_left', exists_eq_left, List.cons.injEq]
    refine h7 _ _ ?_
    simp only [tRet, tCB, tCons]
    refine lc_alike (N := N) (xs := xs) (ys := ys) (fun R hR => ?_) hr hN hx hy (fun H1 e i x ex R q => ?_) (fun H1 e i x ex R q => ?_) fun D H1 e eD => ?_
    · simp only [cRng1, tSeq, tIfS, tNext, tRet, tRetN, tDrop, tAsg, tC, cVar, tOp, tCB, tCons, tNil, tTup, tLst, tIf, tAnd, tOr, tNot, cTest, cTru, oTru, cAnd, cOr, cNot, cUn, cChain, gName, cTupG, gCons, gNil, gSub, oLt, oLe, oGt, oGe, oGtK, oGeK, oBor, oIs, oIsNot, oSub, oMul, oFdiv, oMod, oPow, cPar, cPar3, cAug, tDNewK, cCall, cAttr, frzE, List.mem_singleton, List.lookup_cons_self, List.getElem?_cons_zero, List.getElem?_cons_succ, List.set_cons_zero, List.set_cons_succ, Option.some.injEq, reduceCtorEq, if_true, if_false, Bool.true_eq_false, Bool.false_eq_true, decide_eq_true_eq, ite_true, ite_false, ↓reduceIte, List.length_cons, List.length_nil, true_and, and_true, exists_eq_left', exists_eq_left, List.cons.injEq]
      rw [len_tup rfl hb, hy]
      refine ⟨by omega, ?_⟩
      simpa using hR
    · rw [ix_tup (look_ex e hka ha) (v := x) (by rw [atI_nat]; exact ex)]
      exact q
    · rw [ix_tup (look_ex e hkb hb) (v := x) (by rw [atI_nat]; exact ex)]
      exact q
    · refine ⟨D, List.replicate N true, rfl, look_of_lst eD, ?_⟩
      rw [all_true]
      exact h H1 e
  | false =>
    simp only [Bool.false_eq_true, if_false] at ha hb
    have tb := ty_lst hb
    have ta := ty_lst ha
    try simp only [tSeq, tIfS, tNext, tRet, tRetN, tDrop, tAsg, tC, cVar, tOp, tCB, tCons, tNil, tTup, tLst, tIf, tAnd, tOr, tNot, cTest, cTru, oTru, cAnd, cOr, cNot, cUn, cChain, gName, cTupG, gCons, gNil, gSub, oLt, oLe, oGt, oGe, oGtK, oGeK, oBor, oIs, oIsNot, oSub, oMul, oFdiv, oMod, oPow, cPar, cPar3, cAug, tDNewK, cCall, cAttr, frzE, List.mem_singleton, List.lookup_cons_self, List.getElem?_cons_zero, List.getElem?_cons_succ, List.set_cons_zero, List.set_cons_succ, Option.some.injEq, reduceCtorEq, if_true, if_false, Bool.true_eq_false, Bool.false_eq_true, decide_eq_true_eq, ite_true, ite_false, ↓reduceIte, List.length_cons, List.length_nil, true_and, and_true, exists_eq_left', exists_eq_left, List.cons.injEq]
    rw [isi_ty tb kb_list_bool]
    try simp only [tSeq, tIfS, tNext, tRet, tRetN, tDrop, tAsg, tC, cVar, tOp, tCB, tCons, tNil, tTup, tLst, tIf, tAnd, tOr, tNot, cTest, cTru, oTru, cAnd, cOr, cNot, cUn, cChain, gName, cTupG, gCons, gNil, gSub, oLt, oLe, oGt, oGe, oGtK, oGeK, oBor, oIs, oIsNot, oSub, oMul, oFdiv, oMod, oPow, cPar, cPar3, cAug, tDNewK, cCall, cAttr, frzE, List.mem_singleton, List.lookup_cons_self, List.getElem?_cons_zero, List.getElem?_cons_succ, List.set_cons_zero, List.set_cons_succ, Option.some.injEq, reduceCtorEq, if_true, if_false, Bool.true_eq_false, Bool.false_eq_true, decide_eq_true_eq, ite_true, ite_false, ↓reduceIte, List.length_cons, List.length_nil, true_and, and_true, exists_eq_left', exists_eq_left, List.cons.injEq]
    refine h2 _ _ (seq_ fun N3 h3 => ?_)
    try simp only [tSeq, tIfS, tNext, tRet, tRetN, tDrop, tAsg, tC, cVar, tOp, tCB, tCons, tNil, tTup, tLst, tIf, tAnd, tOr, tNot, cTest, cTru, oTru, cAnd, cOr, cNot, cUn, cChain, gName, cTupG, gCons, gNil, gSub, oLt, oLe, oGt, oGe, oGtK, oGeK, oBor, oIs, oIsNot, oSub, oMul, oFdiv, oMod, oPow, cPar, cPar3, cAug, tDNewK, cCall, cAttr, frzE, List.mem_singleton, List.lookup_cons_self, List.getElem?_cons_zero, List.getElem?_cons_succ, List.set_cons_zero, List.set_cons_succ, Option.some.injEq, reduceCtorEq, if_true, if_false, Bool.true_eq_false, Bool.false_eq_true, decide_eq_true_eq, ite_true, ite_false, ↓reduceIte, List.length_cons, List.length_nil, true_and, and_true, exists_eq_left', exists_eq_left, List.cons.injEq]
    rw [isi_ty tb kb_list_int]
    try simp only [tSeq, tIfS, tNext, tRet, tRetN, tDrop, tAsg, tC, cVar, tOp, tCB, tCons, tNil, tTup, tLst, tIf, tAnd, tOr, tNot, cTest, cTru, oTru, cAnd, cOr, cNot, cUn, cChain, gName, cTupG, gCons, gNil, gSub, oLt, oLe, oGt, oGe, oGtK, oGeK, oBor, oIs, oIsNot, oSub, oMul, oFdiv, oMod, oPow, cPar, cPar3, cAug, tDNewK, cCall, cAttr, frzE, List.mem_singleton, List.lookup_cons_self, List.getElem?_cons_zero, List.getElem?_cons_succ, List.set_cons_zero, List.set_cons_succ, Option.some.injEq, reduceCtorEq, if_true, if_false, Bool.true_eq_false, Bool.false_eq_true, decide_eq_true_eq, ite_true, ite_false, ↓reduceIte, List.length_cons, List.length_nil, true_and, and_true, exists_eq_left', exists_eq_left, List.cons.injEq]
    refine h3 _ _ (seq_ fun N4 h4 => ?_)
    try simp only [tSeq, tIfS, tNext, tRet, tRetN, tDrop, tAsg, tC, cVar, tOp, tCB, tCons, tNil, tTup, tLst, tIf, tAnd, tOr, tNot, cTest, cTru, oTru, cAnd, cOr, cNot, cUn, cChain, gName, cTupG, gCons, gNil, gSub, oLt, oLe, oGt, oGe, oGtK, oGeK, oBor, oIs, oIsNot, oSub, oMul, oFdiv, oMod, oPow, cPar, cPar3, cAug, tDNewK, cCall, cAttr, frzE, List.mem_singleton, List.lookup_cons_self, List.getElem?_cons_zero, List.getElem?_cons_succ, List.set_cons_zero, List.set_cons_succ, Option.some.injEq, reduceCtorEq, if_true, if_false, Bool.true_eq_false, Bool.false_eq_true, decide_eq_true_eq, ite_true, ite_false, ↓reduceIte, List.length_cons, List.length_nil, true_and, and_true, exists_eq_left', exists_eq_left, List.cons.injEq]
    rw [isi_ty tb kb_list_str]
    try simp only [tSeq, tIfS, tNext, tRet, tRetN, tDrop, tAsg, tC, cVar, tOp, tCB, tCons, tNil, tTup, tLst, tIf, tAnd, tOr, tNot, cTest, cTru, oTru, cAnd, cOr, cNot, cUn, cChain, gName, cTupG, gCons, gNil, gSub, oLt, oLe, oGt, oGe, oGtK, oGeK, oBor, oIs, oIsNot, oSub, oMul, oFdiv, oMod, oPow, cPar, cPar3, cAug, tDNewK, cCall, cAttr, frzE, List.mem_singleton, List.lookup_cons_self, List.getElem?_cons_zero, List.getElem?_cons_succ, List.set_cons_zero, List.set_cons_succ, Option.some.injEq, reduceCtorEq, if_true, if_false, Bool.true_eq_false, Bool.false_eq_true, decide_eq_true_eq, ite_true, ite_false, ↓reduceIte, List.length_cons, List.length_nil, true_and, and_true, exists_eq_left', exists_eq_left, List.cons.injEq]
    refine h4 _ _ (seq_ fun N5 h5 => ?_)
    try simp only [tSeq, tIfS, tNext, tRet, tRetN, tDrop, tAsg, tC, cVar, tOp, tCB, tCons, tNil, tTup, tLst, tIf, tAnd, tOr, tNot, cTest, cTru, oTru, cAnd, cOr, cNot, cUn, cChain, gName, cTupG, gCons, gNil, gSub, oLt, oLe, oGt, oGe, oGtK, oGeK, oBor, oIs, oIsNot, oSub, oMul, oFdiv, oMod, oPow, cPar, cPar3, cAug, tDNewK, cCall, cAttr, frzE, List.mem_singleton, List.lookup_cons_self, List.getElem?_cons_zero, List.getElem?_cons_succ, List.set_cons_zero, List.set_cons_succ, Option.some.injEq, reduceCtorEq, if_true, if_false, Bool.true_eq_false, Bool.false_eq_true, decide_eq_true_eq, ite_true, ite_false, ↓reduceIte, List.length_cons, List.length_nil, true_and, and_true, exists_eq_left', exists_eq_left, List.cons.injEq]
    rw [isi_ty tb kb_list_dict]
    try simp only [tSeq, tIfS, tNext, tRet, tRetN, tDrop, tAsg, tC, cVar, tOp, tCB, tCons, tNil, tTup, tLst, tIf, tAnd, tOr, tNot, cTest, cTru, oTru, cAnd, cOr, cNot, cUn, cChain, gName, cTupG, gCons, gNil, gSub, oLt, oLe, oGt, oGe, oGtK, oGeK, oBor, oIs, oIsNot, oSub, oMul, oFdiv, oMod, oPow, cPar, cPar3, cAug, tDNewK, cCall, cAttr, frzE, List.mem_singleton, List.lookup_cons_self, List.getElem?_cons_zero, List.getElem?_cons_succ, List.set_cons_zero, List.set_cons_succ, Option.some.injEq, reduceCtorEq, if_true, if_false, Bool.true_eq_false, Bool.false_eq_true, decide_eq_true_eq, ite_true, ite_false, ↓reduceIte, List.length_cons, List.length_nil, true_and, and_true, exists_eq_left', exists_eq_left, List.cons.injEq]
    refine h5 _ _ (seq_ fun N6 h6 => ?_)
    try simp only [tSeq, tIfS, tNext, tRet, tRetN, tDrop, tAsg, tC, cVar, tOp, tCB, tCons, tNil, tTup, tLst, tIf, tAnd, tOr, tNot, cTest, cTru, oTru, cAnd, cOr, cNot, cUn, cChain, gName, cTupG, gCons, gNil, gSub, oLt, oLe, oGt, oGe, oGtK, oGeK, oBor, oIs, oIsNot, oSub, oMul, oFdiv, oMod, oPow, cPar, cPar3, cAug, tDNewK, cCall, cAttr, frzE, List.mem_singleton, List.lookup_cons_self, List.getElem?_cons_zero, List.getElem?_cons_succ, List.set_cons_zero, List.set_cons_succ, Option.some.injEq, reduceCtorEq, if_true, if_false, Bool.true_eq_false, Bool.false_eq_true, decide_eq_true_eq, ite_true, ite_false, ↓reduceIte, List.length_cons, List.length_nil, true_and, and_true, exists_eq_left', exists_eq_left, List.cons.injEq]
    rw [isi_ty tb kb_list_tuple]
    try simp only [tSeq, tIfS, tNext, tRet, tRetN, tDrop, tAsg, tC, cVar, tOp, tCB, tCons, tNil, tTup, tLst, tIf, tAnd, tOr, tNot, cTest, cTru, oTru, cAnd, cOr, cNot, cUn, cChain, gName, cTupG, gCons, gNil, gSub, oLt, oLe, oGt, oGe, oGtK, oGeK, oBor, oIs, oIsNot, oSub, oMul, oFdiv, oMod, oPow, cPar, cPar3, cAug, tDNewK, cCall, cAttr, frzE, List.mem_singleton, List.lookup_cons_self, List.getElem?_cons_zero, List.getElem?_cons_succ, List.set_cons_zero, List.set_cons_succ, Option.some.injEq, reduceCtorEq, if_true, if_false, Bool.true_eq_false, Bool.false_eq_true, decide_eq_true_eq, ite_true, ite_false, ↓reduceIte, List.length_cons, List.length_nil, true_and, and_true, exists_eq_left', exists_eq_left, List.cons.injEq]
    rw [isi_ty ta kb_list_list]
    try simp only [tSeq, tIfS, tNext, tRet, tRetN, tDrop, tAsg, tC, cVar, tOp, tCB, tCons, tNil, tTup, tLst, tIf, tAnd, tOr, tNot, cTest, cTru, oTru, cAnd, cOr, cNot, cUn, cChain, gName, cTupG, gCons, gNil, gSub, oLt, oLe, oGt, oGe, oGtK, oGeK, oBor, oIs, oIsNot, oSub, oMul, oFdiv, oMod, oPow, cPar, cPar3, cAug, tDNewK, cCall, cAttr, frzE, List.mem_singleton, List.lookup_cons_self, List.getElem?_cons_zero, List.getElem?_cons_succ, List.set_cons_zero, List.set_cons_succ, Option.some.injEq, reduceCtorEq, if_true, if_false, Bool.true_eq_false, Bool.false_eq_true, decide_eq_true_eq, ite_true, ite_false, ↓reduceIte, List.length_cons, List.length_nil, true_and, and_true, exists_eq_left', exists_eq_left, List.cons.injEq]
    refine h6 _ _ (seq_ fun N7 h7 => ?_)
    try simp only [tSeq, tIfS, tNext, tRet, tRetN, tDrop, tAsg, tC, cVar, tOp, tCB, tCons, tNil, tTup, tLst, tIf, tAnd, tOr, tNot, cTest, cTru, oTru, cAnd, cOr, cNot, cUn, cChain, gName, cTupG, gCons, gNil, gSub, oLt, oLe, oGt, oGe, oGtK, oGeK, oBor, oIs, oIsNot, oSub, oMul, oFdiv, oMod, oPow, cPar, cPar3, cAug, tDNewK, cCall, cAttr, frzE, List.mem_singleton, List.lookup_cons_self, List.getElem?_cons_zero, List.getElem?_cons_succ, List.set_cons_zero, List.set_cons_succ, Option.some.injEq, reduceCtorEq, if_true, if_false, Bool.true_eq_false, Bool.false_eq_true, decide_eq_true_eq, ite_true, ite_false, ↓reduceIte, List.length_cons, List.length_nil, true_and, and_true, exists_eq_left', exists_eq_left, List.cons.injEq]
    rw [len_lst rfl ha]
    try simp only [tSeq, tIfS, tNext, tRet, tRetN, tDrop, tAsg, tC, cVar, tOp, tCB, tCons, tNil, tTup, tLst, tIf, tAnd, tOr, tNot, cTest, cTru, oTru, cAnd, cOr, cNot, cUn, cChain, gName, cTupG, gCons, gNil, gSub, oLt, oLe, oGt, oGe, oGtK, oGeK, oBor, oIs, oIsNot, oSub, oMul, oFdiv, oMod, oPow, cPar, cPar3, cAug, tDNewK, cCall, cAttr, frzE, List.mem_singleton, List.lookup_cons_self, List.getElem?_cons_zero, List.getElem?_cons_succ, List.set_cons_zero, List.set_cons_succ, Option.some.injEq, reduceCtorEq, if_true, if_false, Bool.true_eq_false, Bool.false_eq_true, decide_eq_true_eq, ite_true, ite_false, ↓reduceIte, List.length_cons, List.length_nil, true_and, and_true, exists_eq_left', exists_eq_left, List.cons.injEq]
    rw [len_lst rfl hb]
    try simp only [tSeq, tIfS, tNext, tRet, tRetN, tDrop, tAsg, tC, cVar, tOp, tCB, tCons, tNil, tTup, tLst, tIf, tAnd, tOr, tNot, cTest, cTru, oTru, cAnd, cOr, cNot, cUn, cChain, gName, cTupG, gCons, gNil, gSub, oLt, oLe, oGt, oGe, oGtK, oGeK, oBor, oIs, oIsNot, oSub, oMul, oFdiv, oMod, oPow, cPar, cPar3, cAug, tDNewK, cCall, cAttr, frzE, List.mem_singleton, List.lookup_cons_self, List.getElem?_cons_zero, List.getElem?_cons_succ, List.set_cons_zero, List.set_cons_succ, Option.some.injEq, reduceCtorEq, if_true, if_false, Bool.true_eq_false, Bool.false_eq_true, decide_eq_true_eq, ite_true, ite_false, ↓reduceIte, List.length_cons, List.length_nil, true_and, and_true, exists_eq_left', exists_eq_left, List.cons.injEq]
    refine ne_scal rfl rfl rfl ?_
    simp only [hx, hy, decide_true, Bool.not_true, tSeq, tIfS, tNext, tRet, tRetN, tDrop, tAsg, tC, cVar, tOp, tCB, tCons, tNil, tTup, tLst, tIf, tAnd, tOr, tNot, cTest, cTru, oTru, cAnd, cOr, cNot, cUn, cChain, gName, cTupG, gCons, gNil, gSub, oLt, oLe, oGt, oGe, oGtK, oGeK, oBor, oIs, oIsNot, oSub, oMul, oFdiv, oMod, oPow, cPar, cPar3, cAug, tDNewK, cCall, cAttr, frzE, List.mem_singleton, List.lookup_cons_self, List.getElem?_cons_zero, List.getElem?_cons_succ, List.set_cons_zero, List.set_cons_succ, Option.some.injEq, reduceCtorEq, if_true, if_false, Bool.true_eq_false, Bool.false_eq_true, decide_eq_true_eq, ite_true, ite_false, ↓reduceIte, List.length_cons, List.length_nil, true_and, and_true, exists_eq_left', exists_eq_left, List.cons.injEq]
    refine h7 _ _ ?_
    simp only [tRet, tCB, tCons]
    refine lc_alike (N := N) (xs := xs) (ys := ys) (fun R hR => ?_) hr hN hx hy (fun H1 e i x ex R q => ?_) (fun H1 e i x ex R q => ?_) fun D H1 e eD => ?_
    · simp only [cRng1, tSeq, tIfS, tNext, tRet, tRetN, tDrop, tAsg, tC, cVar, tOp, tCB, tCons, tNil, tTup, tLst, tIf, tAnd, tOr, tNot, cTest, cTru, oTru, cAnd, cOr, cNot, cUn, cChain, gName, cTupG, gCons, gNil, gSub, oLt, oLe, oGt, oGe, oGtK, oGeK, oBor, oIs, oIsNot, oSub, oMul, oFdiv, oMod, oPow, cPar, cPar3, cAug, tDNewK, cCall, cAttr, frzE, List.mem_singleton, List.lookup_cons_self, List.getElem?_cons_zero, List.getElem?_cons_succ, List.set_cons_zero, List.set_cons_succ, Option.some.injEq, reduceCtorEq, if_true, if_false, Bool.true_eq_false, Bool.false_eq_true, decide_eq_true_eq, ite_true, ite_false, ↓reduceIte, List.length_cons, List.length_nil, true_and, and_true, exists_eq_left', exists_eq_left, List.cons.injEq]
      rw [len_lst rfl hb, hy]
      refine ⟨by omega, ?_⟩
      simpa using hR
    · rw [ix_lst (look_ex e hka ha) (v := x) (by rw [atI_nat]; exact ex)]
      exact q
    · rw [ix_lst (look_ex e hkb hb) (v := x) (by rw [atI_nat]; exact ex)]
      exact q
    · refine ⟨D, List.replicate N true, rfl, look_of_lst eD, ?_⟩
      rw [all_true]
      exact h H1 e
end
end WR.L

set_option Elab.async false
set_option linter.all false
set_option maxRecDepth 100000
set_option maxHeartbeats 1000000
namespace WR.L
open PySem PySem.Spec PyProof.Rows L2
section
variable {K : PySem.W.Frag} {n : Nat} {H : Hp} {Q : VK} {E : XK}
theorem s_law_row {cell salt : Int} {m : Nat} (hm : m ≤ 100) (hsalt : 0 ≤ salt ∧ salt < 1000) (h : ∀ (ns : List Int) l H', ns.length = m → Ex H H' → H' l = some (.lst (ns.map V.int)) → H l = none → Q (.ref l) H') : SP K (n+1) "_law_row" [.int cell, .int m, .int salt] H Q E := by
  refine o__law_row ?_
  unfold r__law_row
  refine seq_ fun N1 h1 => ?_
  try simp only [tSeq, tIfS, tNext, tRet, tRetN, tDrop, tAsg, tC, cVar, tOp, tCB, tCons, tNil, tTup, tLst, tIf, tAnd, tOr, tNot, cTest, cTru, oTru, cAnd, cOr, cNot, cUn, cChain, gName, cTupG, gCons, gNil, gSub, oLt, oLe, oGt, oGe, oGtK, oGeK, oBor, oIs, oIsNot, oSub, oMul, oFdiv, oMod, oPow, cPar, cPar3, cAug, tDNewK, cCall, cAttr, frzE, List.mem_singleton, List.lookup_cons_self, List.getElem?_cons_zero, List.getElem?_cons_succ, List.set_cons_zero, List.set_cons_succ, Option.some.injEq, reduceCtorEq, if_true, if_false, Bool.true_eq_false, Bool.false_eq_true, decide_eq_true_eq, ite_true, ite_false, ↓reduceIte, List.length_cons, List.length_nil, true_and, and_true, exists_eq_left', exists_eq_left, List.cons.injEq]
  refine ⟨by simp only [sizeLine_eq]; omega, fun l hl => h1 _ _ (seq_ fun N2 h2 => ?_)⟩
  try simp only [tSeq, tIfS, tNext, tRet, tRetN, tDrop, tAsg, tC, cVar, tOp, tCB, tCons, tNil, tTup, tLst, tIf, tAnd, tOr, tNot, cTest, cTru, oTru, cAnd, cOr, cNot, cUn, cChain, gName, cTupG, gCons, gNil, gSub, oLt, oLe, oGt, oGe, oGtK, oGeK, oBor, oIs, oIsNot, oSub, oMul, oFdiv, oMod, oPow, cPar, cPar3, cAug, tDNewK, cCall, cAttr, frzE, List.mem_singleton, List.lookup_cons_self, List.getElem?_cons_zero, List.getElem?_cons_succ, List.set_cons_zero, List.set_cons_succ, Option.some.injEq, reduceCtorEq, if_true, if_false, Bool.true_eq_false, Bool.false_eq_true, decide_eq_true_eq, ite_true, ite_false, ↓reduceIte, List.length_cons, List.length_nil, true_and, and_true, exists_eq_left', exists_eq_left, List.cons.injEq]
  refine h2 _ _ (seq_ fun N3 h3 => ?_)
  have go : ∀ rest : Int, N3 [some (.int cell), some (.int m), some (.int salt), some (.ref l), some (.int rest), none, none] (upd H l (.lst [])) := by
    intro rest
    refine h3 _ _ (seq_ fun N4 h4 => .inl ?_)
    simp only [cFor, cRng1, tSeq, tIfS, tNext, tRet, tRetN, tDrop, tAsg, tC, cVar, tOp, tCB, tCons, tNil, tTup, tLst, tIf, tAnd, tOr, tNot, cTest, cTru, oTru, cAnd, cOr, cNot, cUn, cChain, gName, cTupG, gCons, gNil, gSub, oLt, oLe, oGt, oGe, oGtK, oGeK, oBor, oIs, oIsNot, oSub, oMul, oFdiv, oMod, oPow, cPar, cPar3, cAug, tDNewK, cCall, cAttr, frzE, List.mem_singleton, List.lookup_cons_self, List.getElem?_cons_zero, List.getElem?_cons_succ, List.set_cons_zero, List.set_cons_succ, Option.some.injEq, reduceCtorEq, if_true, if_false, Bool.true_eq_false, Bool.false_eq_true, decide_eq_true_eq, ite_true, ite_false, ↓reduceIte, List.length_cons, List.length_nil, true_and, and_true, exists_eq_left', exists_eq_left, List.cons.injEq]
    refine ⟨⟨by omega, by omega⟩, ?_⟩
    rw [Int.toNat_natCast]
    refine lp_inv (n := m) (fun j σ H' => (∃ r v6, ∃ v5, σ = [some (.int cell), some (.int m), some (.int salt), some (.ref l), some (.int r), v5, v6]) ∧ Ex H H' ∧ ∃ ns : List Int, ns.length = j ∧ H' l = some (.lst (ns.map V.int))) ?_ ?_ ⟨⟨_, _, _, rfl⟩, Ex.refl.new hl, [], rfl, upd_same⟩
    · rintro σ H' ⟨⟨r, v6, v5, rfl⟩, e1, ns, hn, el⟩
      refine ⟨Nat.le_refl _, h4 _ _ ?_⟩
      try simp only [tSeq, tIfS, tNext, tRet, tRetN, tDrop, tAsg, tC, cVar, tOp, tCB, tCons, tNil, tTup, tLst, tIf, tAnd, tOr, tNot, cTest, cTru, oTru, cAnd, cOr, cNot, cUn, cChain, gName, cTupG, gCons, gNil, gSub, oLt, oLe, oGt, oGe, oGtK, oGeK, oBor, oIs, oIsNot, oSub, oMul, oFdiv, oMod, oPow, cPar, cPar3, cAug, tDNewK, cCall, cAttr, frzE, List.mem_singleton, List.lookup_cons_self, List.getElem?_cons_zero, List.getElem?_cons_succ, List.set_cons_zero, List.set_cons_succ, Option.some.injEq, reduceCtorEq, if_true, if_false, Bool.true_eq_false, Bool.false_eq_true, decide_eq_true_eq, ite_true, ite_false, ↓reduceIte, List.length_cons, List.length_nil, true_and, and_true, exists_eq_left', exists_eq_left, List.cons.injEq]
      exact h ns l H' hn e1 el hl
    · rintro j σ H' hj ⟨⟨r, v6, v5, rfl⟩, e1, ns, hn, el⟩ R hR
      refine ⟨hj, ?_⟩
      rintro x H2 ⟨rfl, rfl⟩
      have e0 : (0 + (j : Int)) = (j : Int) := by omega
      rw [e0]
      have app : ∀ (z : Int) (σ : L2.St) (t tk : TA) (W : WX) (Q' : V → Hp → Prop), σ[3]? = some (some (.ref l)) → (∀ P, P [.int z] H2 → t σ H2 P) → (∀ H4, Ex H H4 → H4 l = some (.lst ((ns ++ [z]).map V.int)) → Q' .non H4) →
          mC (gg K (SP K n)) "append" 1 0 [] (cVar 3) t tk W σ H2 Q' := by
        intro z σ t tk W Q' hσ ht hq
        refine mC_blt ?_ fun P P' hh q => mono_var hh q
        simp only [cVar, hσ]
        refine ⟨ins_lst (K := K) (look_of_lst el), "list", tyB_lst (K := K) (look_of_lst el), _, b_append, ht _ ?_⟩
        simp only [mAppend, el]
        refine ⟨by rw [List.length_map]; exact small1000 (by omega), hq _ (fun b o eb => ?_) ?_⟩
        · rw [upd_ne (ne_of_none eb hl)]; exact e1 b o eb
        · rw [upd_same]; simp
      have nx : ∀ (r' : Int) v6' (z : Int) H4, Ex H H4 → H4 l = some (.lst ((ns ++ [z]).map V.int)) → R [some (.int cell), some (.int m), some (.int salt), some (.ref l), some (.int r'), some (.int j), v6'] H4 :=
        fun r' v6' z H4 e4 el4 => hR _ _ ⟨⟨_, _, _, rfl⟩, e4, ns ++ [z], by rw [List.length_append, hn]; rfl, el4⟩
      have m1 := mod_b (a := cell) (m := 2147483629) (by decide)
      refine ifS_ fun A B hA hB => ?_
      try simp only [tSeq, tIfS, tNext, tRet, tRetN, tDrop, tAsg, tC, cVar, tOp, tCB, tCons, tNil, tTup, tLst, tIf, tAnd, tOr, tNot, cTest, cTru, oTru, cAnd, cOr, cNot, cUn, cChain, gName, cTupG, gCons, gNil, gSub, oLt, oLe, oGt, oGe, oGtK, oGeK, oBor, oIs, oIsNot, oSub, oMul, oFdiv, oMod, oPow, cPar, cPar3, cAug, tDNewK, cCall, cAttr, frzE, List.mem_singleton, List.lookup_cons_self, List.getElem?_cons_zero, List.getElem?_cons_succ, List.set_cons_zero, List.set_cons_succ, Option.some.injEq, reduceCtorEq, if_true, if_false, Bool.true_eq_false, Bool.false_eq_true, decide_eq_true_eq, ite_true, ite_false, ↓reduceIte, List.length_cons, List.length_nil, true_and, and_true, exists_eq_left', exists_eq_left, List.cons.injEq]
      by_cases c1 : 0 < r
      · simp only [c1, decide_true, if_true]
        refine hA _ (seq_ fun N5 h5 => ?_)
        simp only [tDrop]
        refine app (r % 1000003) _ _ _ _ _ rfl (fun P hP => ?_) fun H4 e4 el4 => h5 _ _ ?_
        · try simp only [tSeq, tIfS, tNext, tRet, tRetN, tDrop, tAsg, tC, cVar, tOp, tCB, tCons, tNil, tTup, tLst, tIf, tAnd, tOr, tNot, cTest, cTru, oTru, cAnd, cOr, cNot, cUn, cChain, gName, cTupG, gCons, gNil, gSub, oLt, oLe, oGt, oGe, oGtK, oGeK, oBor, oIs, oIsNot, oSub, oMul, oFdiv, oMod, oPow, cPar, cPar3, cAug, tDNewK, cCall, cAttr, frzE, List.mem_singleton, List.lookup_cons_self, List.getElem?_cons_zero, List.getElem?_cons_succ, List.set_cons_zero, List.set_cons_succ, Option.some.injEq, reduceCtorEq, if_true, if_false, Bool.true_eq_false, Bool.false_eq_true, decide_eq_true_eq, ite_true, ite_false, ↓reduceIte, List.length_cons, List.length_nil, true_and, and_true, exists_eq_left', exists_eq_left, List.cons.injEq]
          exact ⟨by decide, hP⟩
        · try simp only [tSeq, tIfS, tNext, tRet, tRetN, tDrop, tAsg, tC, cVar, tOp, tCB, tCons, tNil, tTup, tLst, tIf, tAnd, tOr, tNot, cTest, cTru, oTru, cAnd, cOr, cNot, cUn, cChain, gName, cTupG, gCons, gNil, gSub, oLt, oLe, oGt, oGe, oGtK, oGeK, oBor, oIs, oIsNot, oSub, oMul, oFdiv, oMod, oPow, cPar, cPar3, cAug, tDNewK, cCall, cAttr, frzE, List.mem_singleton, List.lookup_cons_self, List.getElem?_cons_zero, List.getElem?_cons_succ, List.set_cons_zero, List.set_cons_succ, Option.some.injEq, reduceCtorEq, if_true, if_false, Bool.true_eq_false, Bool.false_eq_true, decide_eq_true_eq, ite_true, ite_false, ↓reduceIte, List.length_cons, List.length_nil, true_and, and_true, exists_eq_left', exists_eq_left, List.cons.injEq]
          exact ⟨⟨by decide, by decide⟩, nx _ _ _ _ e4 el4⟩
      · simp only [c1, decide_false, Bool.false_eq_true, if_false]
        refine hB _ (seq_ fun N5 h5 => ?_)
        simp only [oAdd, tSeq, tIfS, tNext, tRet, tRetN, tDrop, tAsg, tC, cVar, tOp, tCB, tCons, tNil, tTup, tLst, tIf, tAnd, tOr, tNot, cTest, cTru, oTru, cAnd, cOr, cNot, cUn, cChain, gName, cTupG, gCons, gNil, gSub, oLt, oLe, oGt, oGe, oGtK, oGeK, oBor, oIs, oIsNot, oSub, oMul, oFdiv, oMod, oPow, cPar, cPar3, cAug, tDNewK, cCall, cAttr, frzE, List.mem_singleton, List.lookup_cons_self, List.getElem?_cons_zero, List.getElem?_cons_succ, List.set_cons_zero, List.set_cons_succ, Option.some.injEq, reduceCtorEq, if_true, if_false, Bool.true_eq_false, Bool.false_eq_true, decide_eq_true_eq, ite_true, ite_false, ↓reduceIte, List.length_cons, List.length_nil, true_and, and_true, exists_eq_left', exists_eq_left, List.cons.injEq]
        refine ⟨by decide, cmul_of (by decide) (by omega), cmul_of (by omega) (by omega), cmul_of (by decide) (by omega), ?_⟩
        refine h5 _ _ (seq_ fun N6 h6 => ?_)
        try simp only [tSeq, tIfS, tNext, tRet, tRetN, tDrop, tAsg, tC, cVar, tOp, tCB, tCons, tNil, tTup, tLst, tIf, tAnd, tOr, tNot, cTest, cTru, oTru, cAnd, cOr, cNot, cUn, cChain, gName, cTupG, gCons, gNil, gSub, oLt, oLe, oGt, oGe, oGtK, oGeK, oBor, oIs, oIsNot, oSub, oMul, oFdiv, oMod, oPow, cPar, cPar3, cAug, tDNewK, cCall, cAttr, frzE, List.mem_singleton, List.lookup_cons_self, List.getElem?_cons_zero, List.getElem?_cons_succ, List.set_cons_zero, List.set_cons_succ, Option.some.injEq, reduceCtorEq, if_true, if_false, Bool.true_eq_false, Bool.false_eq_true, decide_eq_true_eq, ite_true, ite_false, ↓reduceIte, List.length_cons, List.length_nil, true_and, and_true, exists_eq_left', exists_eq_left, List.cons.injEq]
        generalize (cell % 2147483629 + 1) * (salt + 48271 * (j : Int)) + 69621 * (j : Int) + salt = mx
        have m2 := mod_b (a := mx) (m := 2147483647) (by decide)
        refine ⟨by decide, ⟨by decide, by decide, by omega⟩, by decide, ?_⟩
        refine h6 _ _ ?_
        have e5 : ((5 : Int).toNat) = 5 := rfl
        rw [e5]
        generalize (mx % 2147483647) ^ 5 = my
        have m3 := mod_b (a := my) (m := 2147483647) (by decide)
        simp only [tDrop]
        refine app (((my % 2147483647 + j) ^ 5 % 2147483629) / 16) _ _ _ _ _ rfl (fun P hP => ?_) fun H4 e4 el4 => nx _ _ _ _ e4 el4
        simp only [oAdd, tSeq, tIfS, tNext, tRet, tRetN, tDrop, tAsg, tC, cVar, tOp, tCB, tCons, tNil, tTup, tLst, tIf, tAnd, tOr, tNot, cTest, cTru, oTru, cAnd, cOr, cNot, cUn, cChain, gName, cTupG, gCons, gNil, gSub, oLt, oLe, oGt, oGe, oGtK, oGeK, oBor, oIs, oIsNot, oSub, oMul, oFdiv, oMod, oPow, cPar, cPar3, cAug, tDNewK, cCall, cAttr, frzE, List.mem_singleton, List.lookup_cons_self, List.getElem?_cons_zero, List.getElem?_cons_succ, List.set_cons_zero, List.set_cons_succ, Option.some.injEq, reduceCtorEq, if_true, if_false, Bool.true_eq_false, Bool.false_eq_true, decide_eq_true_eq, ite_true, ite_false, ↓reduceIte, List.length_cons, List.length_nil, true_and, and_true, exists_eq_left', exists_eq_left, List.cons.injEq]
        exact ⟨⟨by decide, by decide, by omega⟩, by decide, ⟨by decide, by decide⟩, hP⟩
  refine ifS_ fun A B hA hB => ?_
  simp only [bAbs, tSeq, tIfS, tNext, tRet, tRetN, tDrop, tAsg, tC, cVar, tOp, tCB, tCons, tNil, tTup, tLst, tIf, tAnd, tOr, tNot, cTest, cTru, oTru, cAnd, cOr, cNot, cUn, cChain, gName, cTupG, gCons, gNil, gSub, oLt, oLe, oGt, oGe, oGtK, oGeK, oBor, oIs, oIsNot, oSub, oMul, oFdiv, oMod, oPow, cPar, cPar3, cAug, tDNewK, cCall, cAttr, frzE, List.mem_singleton, List.lookup_cons_self, List.getElem?_cons_zero, List.getElem?_cons_succ, List.set_cons_zero, List.set_cons_succ, Option.some.injEq, reduceCtorEq, if_true, if_false, Bool.true_eq_false, Bool.false_eq_true, decide_eq_true_eq, ite_true, ite_false, ↓reduceIte, List.length_cons, List.length_nil, true_and, and_true, exists_eq_left', exists_eq_left, List.cons.injEq]
  refine ⟨⟨by decide, by decide, by decide⟩, ?_⟩
  by_cases c : (10 : Int) ^ Int.toNat 18 ≤ (if cell < 0 then -cell else cell)
  · rw [if_pos (by simpa using c)]
    exact hA _ (by simp only [bAbs, tSeq, tIfS, tNext, tRet, tRetN, tDrop, tAsg, tC, cVar, tOp, tCB, tCons, tNil, tTup, tLst, tIf, tAnd, tOr, tNot, cTest, cTru, oTru, cAnd, cOr, cNot, cUn, cChain, gName, cTupG, gCons, gNil, gSub, oLt, oLe, oGt, oGe, oGtK, oGeK, oBor, oIs, oIsNot, oSub, oMul, oFdiv, oMod, oPow, cPar, cPar3, cAug, tDNewK, cCall, cAttr, frzE, List.mem_singleton, List.lookup_cons_self, List.getElem?_cons_zero, List.getElem?_cons_succ, List.set_cons_zero, List.set_cons_succ, Option.some.injEq, reduceCtorEq, if_true, if_false, Bool.true_eq_false, Bool.false_eq_true, decide_eq_true_eq, ite_true, ite_false, ↓reduceIte, List.length_cons, List.length_nil, true_and, and_true, exists_eq_left', exists_eq_left, List.cons.injEq]; exact go _)
  · rw [if_neg (by simpa using c)]
    exact hB _ (by try simp only [tSeq, tIfS, tNext, tRet, tRetN, tDrop, tAsg, tC, cVar, tOp, tCB, tCons, tNil, tTup, tLst, tIf, tAnd, tOr, tNot, cTest, cTru, oTru, cAnd, cOr, cNot, cUn, cChain, gName, cTupG, gCons, gNil, gSub, oLt, oLe, oGt, oGe, oGtK, oGeK, oBor, oIs, oIsNot, oSub, oMul, oFdiv, oMod, oPow, cPar, cPar3, cAug, tDNewK, cCall, cAttr, frzE, List.mem_singleton, List.lookup_cons_self, List.getElem?_cons_zero, List.getElem?_cons_succ, List.set_cons_zero, List.set_cons_succ, Option.some.injEq, reduceCtorEq, if_true, if_false, Bool.true_eq_false, Bool.false_eq_true, decide_eq_true_eq, ite_true, ite_false, ↓reduceIte, List.length_cons, List.length_nil, true_and, and_true, exists_eq_left', exists_eq_left, List.cons.injEq]; exact go _)
end
end WR.L

set_option Elab.async false
set_option linter.all false
set_option maxRecDepth 100000
set_option maxHeartbeats 1000000
namespace WR.L
open PySem PySem.Spec PyProof.Rows L2
section
variable {K : PySem.W.Frag} {n : Nat} {H : Hp} {Q : VK} {E : XK}
/-- letters alone -/
def LS (s : Str) : Prop := ∀ c ∈ s.cps.toList, c ∈ lets
theorem app_cps (a b : Str) : (a ++ b).cps.toList = a.cps.toList ++ b.cps.toList := by
  show (a.cps ++ b.cps).toList = _
  simp
theorem len_cps (a : Str) : a.length = a.cps.toList.length := by simp [Str.length]
theorem LS.app {a b : Str} (h : LS a) (k : LS b) : LS (a ++ b) := fun c hc => by
  rw [app_cps, List.mem_append] at hc
  exact hc.elim (h c) (k c)
theorem LS.one {c : Nat} (h : c ∈ lets) : LS ⟨#[c]⟩ := fun d hd => by
  have : d = c := by simpa using hd
  rw [this]; exact h
theorem LS.cut {a : Str} {lo hi : Option Int} (h : LS a) : LS (cutS a lo hi) := fun c hc => by
  unfold cutS at hc
  exact h c (List.mem_of_mem_drop (List.mem_of_mem_take (by simpa using hc)))
theorem LS.nm {s : Str} (h : LS s) (h1 : 1 ≤ s.length) (h2 : s.length ≤ 8) : isNm s = true := by
  unfold isNm
  simp only [h1, h2, decide_true, Bool.true_and, List.all_eq_true, decide_eq_true_eq]
  exact h
theorem cut_len {a : Str} {x y : Nat} (hx : x ≤ y) (hy : y ≤ a.length) : (cutS a (some (x : Int)) (some (y : Int))).length = y - x := by
  rw [len_cps]
  unfold cutS
  rw [HT.sIx_nat, HT.sIx_nat]
  have := len_cps a
  simp only [List.toList_toArray, List.length_take, List.length_drop]
  omega
theorem cut_len0 {a : Str} {y : Nat} (hy : y ≤ a.length) : (cutS a none (some (y : Int))).length = y := by
  rw [len_cps]
  unfold cutS
  rw [HT.sIx_nat, HT.sIx_none]
  have := len_cps a
  simp only [List.toList_toArray, List.length_take, List.length_drop]
  omega
theorem join_one (cs : List Nat) : (Txt.join "" (cs.map fun c => (⟨#[c]⟩ : Str))).cps.toList = cs := by
  show (Builtin.Str.glued "" (cs.map fun c => (⟨#[c]⟩ : Str))).cps.toList = cs
  rw [StrLaws.glued_eq_join]
  induction cs with
  | nil => rfl
  | cons a r ih =>
    cases r with
    | nil => rfl
    | cons b r =>
      show (((⟨#[a]⟩ : Str) ++ "") ++ Str.join "" (List.map (fun c => (⟨#[c]⟩ : Str)) (b :: r))).cps.toList = _
      rw [app_cps, app_cps, ih]
      rfl
/-- a letter by a number -/
theorem letter_at {i : Int} (h : ∀ c ∈ lets, Q (.str ⟨#[c]⟩) H) : oIx K (.str "abcdefghijklmnopqrstuvwxyz") (.int (i % 26)) H Q := by
  have m := mod_b (a := i) (m := 26) (by decide)
  obtain ⟨k, hk⟩ := Int.eq_ofNat_of_zero_le m.1
  have hk2 : k < 26 := by omega
  have hl : lets.length = 26 := by decide +kernel
  simp only [oIx]
  refine ⟨by rw [show (("abcdefghijklmnopqrstuvwxyz" : Str)).length = 26 from by decide +kernel]; exact Nat.le_of_lt (small1000 (by decide)), ?_⟩
  have e : atI (("abcdefghijklmnopqrstuvwxyz" : Str)).cps.toList (i % 26) = some (lets[k]'(by omega)) := by
    rw [hk]
    rw [show ((("abcdefghijklmnopqrstuvwxyz" : Str)).cps.toList) = lets from rfl]
    rw [atI_nat]
    exact List.getElem?_eq_getElem (by omega)
  rw [e]
  exact h _ (List.getElem_mem _)
theorem sum_le {l : List Str} {b : Nat} (h : ∀ s ∈ l, s.length ≤ b) : (l.map (·.length)).sum ≤ l.length * b := by
  induction l with
  | nil => simp
  | cons x r ih =>
    have h1 := h x (List.mem_cons_self ..)
    have h2 := ih fun s hs => h s (List.mem_cons_of_mem _ hs)
    simp only [List.map_cons, List.sum_cons, List.length_cons, Nat.succ_mul]
    omega
/-- the letter that i tells -/
def lt26 (i : Int) : Nat := lets.getD (i % 26).toNat 0
theorem lets_len : lets.length = 26 := by decide +kernel
theorem lets_at : ∀ k : Fin 26, ("abcdefghijklmnopqrstuvwxyz" : Str).cps.toList[k.val]? = some (lets.getD k.val 0) := by decide +kernel
theorem lets_nd : ∀ j k : Fin 26, lets.getD j.val 0 = lets.getD k.val 0 → j = k := by decide +kernel
theorem lt26_mem (i : Int) : lt26 i ∈ lets := by
  have m := mod_b (a := i) (m := 26) (by decide)
  unfold lt26
  have hl : (i % 26).toNat < lets.length := by rw [lets_len]; omega
  rw [show lets.getD (i % 26).toNat 0 = lets[(i % 26).toNat] from by simp [hl]]
  exact List.getElem_mem hl
theorem lt26_inj {i j : Int} (h : lt26 i = lt26 j) : i % 26 = j % 26 := by
  have m := mod_b (a := i) (m := 26) (by decide)
  have m2 := mod_b (a := j) (m := 26) (by decide)
  have := lets_nd ⟨(i % 26).toNat, by omega⟩ ⟨(j % 26).toNat, by omega⟩ h
  have := congrArg Fin.val this
  dsimp only at this
  omega
theorem letter_ix {i : Int} (q : Q (.str ⟨#[lt26 i]⟩) H) : oIx K (.str "abcdefghijklmnopqrstuvwxyz") (.int (i % 26)) H Q := by
  have m := mod_b (a := i) (m := 26) (by decide)
  have hk := lets_at ⟨(i % 26).toNat, by omega⟩
  simp only [oIx]
  refine ⟨by rw [sizeLine_eq]; decide, ?_⟩
  rw [show i % 26 = (((i % 26).toNat : Nat) : Int) from by omega, atI_nat, hk]
  exact q
theorem step_ne {st z : Int} (hs : st = 7 ∨ st = 19 ∨ st = 3 ∨ st = 23) {i j : Nat} (h : i < j) (hj : j < 5) : (z + st * (i : Int)) % 26 ≠ (z + st * (j : Int)) % 26 := by
  rcases hs with rfl | rfl | rfl | rfl <;> omega
theorem s_law_names {cell : Int} (h : ∀ (nms : List Str) l H', nms.length = 5 → (∀ s ∈ nms, isNm s = true) → nms.Nodup → Ex H H' → H' l = some (.lst (nms.map V.str)) → H l = none → Q (.ref l) H') : SP K (n+2) "_law_names" [.int cell, .int 5] H Q E := by
  refine o__law_names ?_
  unfold r__law_names
  refine seq_ fun N1 h1 => ?_
  simp only [tAsg, cCall, tSeq, tIfS, tNext, tRet, tRetN, tDrop, tAsg, tC, cVar, tOp, tCB, tCons, tNil, tTup, tLst, tIf, tAnd, tOr, tNot, cTest, cTru, oTru, cAnd, cOr, cNot, cUn, cChain, gName, cTupG, gCons, gNil, gSub, oLt, oLe, oGt, oGe, oGtK, oGeK, oBor, oIs, oIsNot, oSub, oMul, oFdiv, oMod, oPow, cPar, cPar3, cAug, tDNewK, cCall, cAttr, frzE, List.mem_singleton, List.lookup_cons_self, List.getElem?_cons_zero, List.getElem?_cons_succ, List.set_cons_zero, List.set_cons_succ, Option.some.injEq, reduceCtorEq, if_true, if_false, Bool.true_eq_false, Bool.false_eq_true, decide_eq_true_eq, ite_true, ite_false, ↓reduceIte, List.length_cons, List.length_nil, true_and, and_true, exists_eq_left', exists_eq_left, List.cons.injEq]
  refine s_law_row (m := 24) (by decide) (by decide) fun ns r H1 hns e1 er hrH => h1 _ _ (seq_ fun N2 h2 => ?_)
  try simp only [tSeq, tIfS, tNext, tRet, tRetN, tDrop, tAsg, tC, cVar, tOp, tCB, tCons, tNil, tTup, tLst, tIf, tAnd, tOr, tNot, cTest, cTru, oTru, cAnd, cOr, cNot, cUn, cChain, gName, cTupG, gCons, gNil, gSub, oLt, oLe, oGt, oGe, oGtK, oGeK, oBor, oIs, oIsNot, oSub, oMul, oFdiv, oMod, oPow, cPar, cPar3, cAug, tDNewK, cCall, cAttr, frzE, List.mem_singleton, List.lookup_cons_self, List.getElem?_cons_zero, List.getElem?_cons_succ, List.set_cons_zero, List.set_cons_succ, Option.some.injEq, reduceCtorEq, if_true, if_false, Bool.true_eq_false, Bool.false_eq_true, decide_eq_true_eq, ite_true, ite_false, ↓reduceIte, List.length_cons, List.length_nil, true_and, and_true, exists_eq_left', exists_eq_left, List.cons.injEq]
  refine h2 _ _ (seq_ fun N3 h3 => ?_)
  simp only [tAsg]
  refine mC_blt ?_ fun P P' hh q => mono_C hh q
  refine ⟨rfl, "str", rfl, _, b_join, ?_⟩
  simp only [tCons, tNil]
  refine .inl ?_
  simp only [cLc, cIter, frzE, tSl, cPart, oSl, look_of_lst er, tSeq, tIfS, tNext, tRet, tRetN, tDrop, tAsg, tC, cVar, tOp, tCB, tCons, tNil, tTup, tLst, tIf, tAnd, tOr, tNot, cTest, cTru, oTru, cAnd, cOr, cNot, cUn, cChain, gName, cTupG, gCons, gNil, gSub, oLt, oLe, oGt, oGe, oGtK, oGeK, oBor, oIs, oIsNot, oSub, oMul, oFdiv, oMod, oPow, cPar, cPar3, cAug, tDNewK, cCall, cAttr, frzE, List.mem_singleton, List.lookup_cons_self, List.getElem?_cons_zero, List.getElem?_cons_succ, List.set_cons_zero, List.set_cons_succ, Option.some.injEq, reduceCtorEq, if_true, if_false, Bool.true_eq_false, Bool.false_eq_true, decide_eq_true_eq, ite_true, ite_false, ↓reduceIte, List.length_cons, List.length_nil, true_and, and_true, exists_eq_left', exists_eq_left, List.cons.injEq]
  intro a ha
  simp only [upd_same, look_of_lst upd_same]
  intro D hD
  have nra : r ≠ a := ne_of_none er ha
  have haD : a ≠ D := fun z => by rw [z, upd_same] at hD; cases hD
  have row : ∀ (k : Nat), k < 24 → ∃ z : Int, ns[k]? = some z := fun k hk => ⟨ns[k], by simp [hns, hk]⟩
  have hcut : cutV (ns.map V.int) (some 2) (some 9) = ((ns.drop 2).take 7).map V.int := by
    unfold cutV
    have e2 := HT.sIx_nat (ns.map V.int).length 0 2
    have e9 := HT.sIx_nat (ns.map V.int).length (ns.map V.int).length 9
    rw [show (some (2 : Int)) = some ((2 : Nat) : Int) from rfl, show (some (9 : Int)) = some ((9 : Nat) : Int) from rfl, e2, e9, List.length_map, hns]
    rw [← List.map_drop, ← List.map_take]
    rfl
  rw [hcut] at hD ⊢
  have h7 : ((ns.drop 2).take 7).length = 7 := by
    rw [List.length_take, List.length_drop, hns]
    rfl
  generalize (ns.drop 2).take 7 = ps at hD h7 ⊢
  refine lpc_inv (n := 7) (fun j H' => Ex (upd H1 a (.lst (ps.map V.int))) H' ∧ ∃ cs : List Nat, cs.length = j ∧ (∀ c ∈ cs, c ∈ lets) ∧ H' D = some (.lst ((cs.map fun c => (⟨#[c]⟩ : Str)).map V.str))) ?_ ?_ ⟨Ex.refl.new hD, [], rfl, (fun c hc => nomatch hc), upd_same⟩
  · rintro H2 ⟨e2, cs, hc7, hcl, hD2⟩
    refine ⟨itl_stop (e2 _ _ upd_same) (by rw [List.length_map]; omega), ?_⟩
    have e02 : Ex H H2 := fun b o eb => e2 b o (by rw [upd_ne (ne_of_none (e1 b o eb) ha)]; exact e1 b o eb)
    have er2 := e2 r _ (by rw [upd_ne nra]; exact er)
    refine ⟨cs.map fun c => (⟨#[c]⟩ : Str), .inl (look_of_lst hD2), ?_, h3 _ _ (seq_ fun N4 h4 => ?_)⟩
    · have := sum_le (l := cs.map fun c => (⟨#[c]⟩ : Str)) (b := 1) fun s hs => by
        obtain ⟨c, _, rfl⟩ := List.mem_map.mp hs
        exact Nat.le_refl _
      have e : ("" : Str).length = 0 := rfl
      rw [e]
      rw [List.length_map] at this ⊢
      omega
    have hst := join_one cs
    generalize Txt.join "" (cs.map fun c => (⟨#[c]⟩ : Str)) = stem at hst ⊢
    have lst : LS stem := fun c hc => hcl c (by rw [← hst]; exact hc)
    have len7 : stem.length = 7 := by rw [len_cps, hst, hc7]
    have rowQ : ∀ (k : Nat) (H' : Hp) (Q' : VK), k < 24 → Ex H2 H' → (∀ z : Int, Q' (.int z) H') → oIx K (.ref r) (.int k) H' Q' := fun k H' Q' hk e' q' => by
      obtain ⟨z, hz⟩ := row k hk
      rw [ix_lst (look_of_lst (e' _ _ er2)) (v := .int z) (by rw [atI_nat, List.getElem?_map, hz]; rfl)]
      exact q' z
    simp only [tSeq, tIfS, tNext, tRet, tRetN, tDrop, tAsg, tC, cVar, tOp, tCB, tCons, tNil, tTup, tLst, tIf, tAnd, tOr, tNot, cTest, cTru, oTru, cAnd, cOr, cNot, cUn, cChain, gName, cTupG, gCons, gNil, gSub, oLt, oLe, oGt, oGe, oGtK, oGeK, oBor, oIs, oIsNot, oSub, oMul, oFdiv, oMod, oPow, cPar, cPar3, cAug, tDNewK, cCall, cAttr, frzE, List.mem_singleton, List.lookup_cons_self, List.getElem?_cons_zero, List.getElem?_cons_succ, List.set_cons_zero, List.set_cons_succ, Option.some.injEq, reduceCtorEq, if_true, if_false, Bool.true_eq_false, Bool.false_eq_true, decide_eq_true_eq, ite_true, ite_false, ↓reduceIte, List.length_cons, List.length_nil, true_and, and_true, exists_eq_left', exists_eq_left, List.cons.injEq]
    refine rowQ 9 _ _ (by decide) Ex.refl fun z9 => ⟨by decide, ?_⟩
    have m8 := mod_b (a := z9) (m := 8) (by decide)
    obtain ⟨at_, hat⟩ := Int.eq_ofNat_of_zero_le m8.1
    rw [hat]
    refine h4 _ _ (seq_ fun N5 h5 => ?_)
    simp only [tSeq, tIfS, tNext, tRet, tRetN, tDrop, tAsg, tC, cVar, tOp, tCB, tCons, tNil, tTup, tLst, tIf, tAnd, tOr, tNot, cTest, cTru, oTru, cAnd, cOr, cNot, cUn, cChain, gName, cTupG, gCons, gNil, gSub, oLt, oLe, oGt, oGe, oGtK, oGeK, oBor, oIs, oIsNot, oSub, oMul, oFdiv, oMod, oPow, cPar, cPar3, cAug, tDNewK, cCall, cAttr, frzE, List.mem_singleton, List.lookup_cons_self, List.getElem?_cons_zero, List.getElem?_cons_succ, List.set_cons_zero, List.set_cons_succ, Option.some.injEq, reduceCtorEq, if_true, if_false, Bool.true_eq_false, Bool.false_eq_true, decide_eq_true_eq, ite_true, ite_false, ↓reduceIte, List.length_cons, List.length_nil, true_and, and_true, exists_eq_left', exists_eq_left, List.cons.injEq]
    refine ⟨by simp only [sizeLine_eq]; omega, fun b hb => ?_⟩
    refine rowQ 10 _ _ (by decide) (Ex.refl.new hb) fun z10 => ⟨by decide, ?_⟩
    have m4 := mod_b (a := z10) (m := 4) (by decide)
    obtain ⟨w, hw⟩ := Int.eq_ofNat_of_zero_le m4.1
    rw [hw]
    obtain ⟨step, hstep, hsb⟩ : ∃ st : Int, atI ([.int 7, .int 19, .int 3, .int 23] : List V) (w : Int) = some (.int st) ∧ (st = 7 ∨ st = 19 ∨ st = 3 ∨ st = 23) := by
      rw [atI_nat]
      have hw4 : w < 4 := by omega
      match w, hw4 with
      | 0, _ => exact ⟨7, rfl, by decide⟩
      | 1, _ => exact ⟨19, rfl, by decide⟩
      | 2, _ => exact ⟨3, rfl, by decide⟩
      | 3, _ => exact ⟨23, rfl, by decide⟩
    rw [ix_lst (look_of_lst upd_same) (v := .int step) hstep]
    refine h5 _ _ (seq_ fun N6 h6 => ?_)
    simp only [tSeq, tIfS, tNext, tRet, tRetN, tDrop, tAsg, tC, cVar, tOp, tCB, tCons, tNil, tTup, tLst, tIf, tAnd, tOr, tNot, cTest, cTru, oTru, cAnd, cOr, cNot, cUn, cChain, gName, cTupG, gCons, gNil, gSub, oLt, oLe, oGt, oGe, oGtK, oGeK, oBor, oIs, oIsNot, oSub, oMul, oFdiv, oMod, oPow, cPar, cPar3, cAug, tDNewK, cCall, cAttr, frzE, List.mem_singleton, List.lookup_cons_self, List.getElem?_cons_zero, List.getElem?_cons_succ, List.set_cons_zero, List.set_cons_succ, Option.some.injEq, reduceCtorEq, if_true, if_false, Bool.true_eq_false, Bool.false_eq_true, decide_eq_true_eq, ite_true, ite_false, ↓reduceIte, List.length_cons, List.length_nil, true_and, and_true, exists_eq_left', exists_eq_left, List.cons.injEq]
    refine ⟨by simp only [sizeLine_eq]; omega, fun f hf => h6 _ _ (seq_ fun N7 h7 => .inl ?_)⟩
    have hf2 : H2 f = none := (Ex.refl.new hb).none hf
    have xc : Ex H2 (upd (upd H2 b (.lst [.int 7, .int 19, .int 3, .int 23])) f (.lst [])) := (Ex.refl.new hb).new hf2
    have hfc : (upd (upd H2 b (.lst [.int 7, .int 19, .int 3, .int 23])) f (.lst [])) f = some (.lst []) := upd_same
    generalize upd (upd H2 b (.lst [.int 7, .int 19, .int 3, .int 23])) f (.lst []) = Hc at xc hfc ⊢
    have hat8 : at_ < 8 := by omega
    obtain ⟨z11, hz11⟩ := row 11 (by decide)
    have ix11 : ∀ (H' : Hp) (Q' : VK), Ex H2 H' → Q' (.int z11) H' → oIx K (.ref r) (.int 11) H' Q' := fun H' Q' e' q' => by
      have := ix_lst (Q := Q') (look_of_lst (K := K) (e' _ _ er2)) (i := ((11 : Nat) : Int)) (v := .int z11) (by rw [atI_nat, List.getElem?_map, hz11]; rfl)
      rw [show ((11 : Nat) : Int) = 11 from rfl] at this
      rw [this]; exact q'
    simp only [cFor, cRng1, tSeq, tIfS, tNext, tRet, tRetN, tDrop, tAsg, tC, cVar, tOp, tCB, tCons, tNil, tTup, tLst, tIf, tAnd, tOr, tNot, cTest, cTru, oTru, cAnd, cOr, cNot, cUn, cChain, gName, cTupG, gCons, gNil, gSub, oLt, oLe, oGt, oGe, oGtK, oGeK, oBor, oIs, oIsNot, oSub, oMul, oFdiv, oMod, oPow, cPar, cPar3, cAug, tDNewK, cCall, cAttr, frzE, List.mem_singleton, List.lookup_cons_self, List.getElem?_cons_zero, List.getElem?_cons_succ, List.set_cons_zero, List.set_cons_succ, Option.some.injEq, reduceCtorEq, if_true, if_false, Bool.true_eq_false, Bool.false_eq_true, decide_eq_true_eq, ite_true, ite_false, ↓reduceIte, List.length_cons, List.length_nil, true_and, and_true, exists_eq_left', exists_eq_left, List.cons.injEq]
    refine ⟨by decide, ?_⟩
    have ltr : ∀ (i : Int) (H' : Hp) (Q' : VK), (∀ c ∈ lets, Q' (.str ⟨#[c]⟩) H') → oIx K (.str "abcdefghijklmnopqrstuvwxyz") (.int (i % 26)) H' Q' := fun i H' Q' hq => letter_at hq
    have sz7 : stem.length ≤ sizeLine := by rw [len7]; exact Nat.le_of_lt (small1000 (by decide))
    have szl : (1000 : Nat) < sizeLine := small1000 (Nat.le_refl _)
    refine lp_inv (n := 5) (fun j σ H' => (∃ v8 v9, σ = [some (.int cell), some (.int 5), some (.ref r), some (.str "abcdefghijklmnopqrstuvwxyz"), some (.str stem), some (.int at_), some (.int step), some (.ref f), v8, v9, none]) ∧ Ex H2 H' ∧ ∃ fs : List Str, fs.length = j ∧ (∀ s ∈ fs, LS s ∧ 1 ≤ s.length ∧ s.length ≤ 8) ∧ H' f = some (.lst (fs.map V.str)) ∧ ∀ (k : Nat) (s : Str), fs[k]? = some s → s.cps.toList[at_]? = some (lt26 (z11 + step * (k : Int)))) ?_ ?_ ⟨⟨_, _, rfl⟩, xc, [], rfl, (fun s hs => nomatch hs), hfc, fun k s hs => nomatch hs⟩
    · rintro σ H3 ⟨⟨v8, v9, rfl⟩, e3, fs, hl5, hfs, ef, hch⟩
      refine ⟨Nat.le_refl _, h7 _ _ (seq_ fun N8 h8 => ifS_ fun A B hA hB => ?_)⟩
      have fin : ∀ (H' : Hp) (gs : List Str), gs.length = 5 → (∀ s ∈ gs, LS s ∧ 1 ≤ s.length ∧ s.length ≤ 8) → gs.Nodup → Ex H2 H' ∨ (∀ b o, b ≠ f → H2 b = some o → H' b = some o) → H' f = some (.lst (gs.map V.str)) → N8 [some (.int cell), some (.int 5), some (.ref r), some (.str "abcdefghijklmnopqrstuvwxyz"), some (.str stem), some (.int at_), some (.int step), some (.ref f), v8, v9, none] H' := by
        intro H' gs hg5 hgs hnd hx hf'
        refine h8 _ _ ?_
        simp only [tSeq, tIfS, tNext, tRet, tRetN, tDrop, tAsg, tC, cVar, tOp, tCB, tCons, tNil, tTup, tLst, tIf, tAnd, tOr, tNot, cTest, cTru, oTru, cAnd, cOr, cNot, cUn, cChain, gName, cTupG, gCons, gNil, gSub, oLt, oLe, oGt, oGe, oGtK, oGeK, oBor, oIs, oIsNot, oSub, oMul, oFdiv, oMod, oPow, cPar, cPar3, cAug, tDNewK, cCall, cAttr, frzE, List.mem_singleton, List.lookup_cons_self, List.getElem?_cons_zero, List.getElem?_cons_succ, List.set_cons_zero, List.set_cons_succ, Option.some.injEq, reduceCtorEq, if_true, if_false, Bool.true_eq_false, Bool.false_eq_true, decide_eq_true_eq, ite_true, ite_false, ↓reduceIte, List.length_cons, List.length_nil, true_and, and_true, exists_eq_left', exists_eq_left, List.cons.injEq]
        refine h gs f H' hg5 (fun s hs => LS.nm (hgs s hs).1 (hgs s hs).2.1 (hgs s hs).2.2) hnd (fun b' o eb => ?_) hf' (e02.none hf2)
        rcases hx with hx | hx
        · exact hx b' o (e02 b' o eb)
        · exact hx b' o (ne_of_none (e02 b' o eb) hf2) (e02 b' o eb)
      have ndf : fs.Nodup := by
        refine List.pairwise_iff_getElem.mpr fun i j hi hj hij e => ?_
        have h1 := hch i _ (List.getElem?_eq_getElem hi)
        have h2 := hch j _ (List.getElem?_eq_getElem hj)
        rw [e, h2] at h1
        exact step_ne hsb hij (by omega) (lt26_inj (Option.some.inj h1).symm)
      obtain ⟨s0, hs0⟩ : ∃ s, fs[0]? = some s := ⟨fs[0], by simp [hl5]⟩
      have ix0 : ∀ (Q' : VK), Q' (.str s0) H3 → oIx K (.ref f) (.int 0) H3 Q' := fun Q' q' => by
        rw [ix_lst (look_of_lst ef) (v := .str s0) (by
          have := atI_nat (xs := fs.map V.str) (k := 0)
          rw [show ((0 : Nat) : Int) = 0 from rfl] at this
          rw [this, List.getElem?_map, hs0]; rfl)]
        exact q'
      obtain ⟨l0, l1, l2⟩ := hfs s0 (List.mem_of_getElem? hs0)
      simp only [tAnd, tSeq, tIfS, tNext, tRet, tRetN, tDrop, tAsg, tC, cVar, tOp, tCB, tCons, tNil, tTup, tLst, tIf, tAnd, tOr, tNot, cTest, cTru, oTru, cAnd, cOr, cNot, cUn, cChain, gName, cTupG, gCons, gNil, gSub, oLt, oLe, oGt, oGe, oGtK, oGeK, oBor, oIs, oIsNot, oSub, oMul, oFdiv, oMod, oPow, cPar, cPar3, cAug, tDNewK, cCall, cAttr, frzE, List.mem_singleton, List.lookup_cons_self, List.getElem?_cons_zero, List.getElem?_cons_succ, List.set_cons_zero, List.set_cons_succ, Option.some.injEq, reduceCtorEq, if_true, if_false, Bool.true_eq_false, Bool.false_eq_true, decide_eq_true_eq, ite_true, ite_false, ↓reduceIte, List.length_cons, List.length_nil, true_and, and_true, exists_eq_left', exists_eq_left, List.cons.injEq]
      rw [if_pos (by decide : (1 : Int) < 5)]
      refine ix0 _ ?_
      rw [len_str]
      refine ⟨by omega, ?_⟩
      by_cases c8 : (s0.length : Int) < 8
      · simp only [c8, decide_true, tSeq, tIfS, tNext, tRet, tRetN, tDrop, tAsg, tC, cVar, tOp, tCB, tCons, tNil, tTup, tLst, tIf, tAnd, tOr, tNot, cTest, cTru, oTru, cAnd, cOr, cNot, cUn, cChain, gName, cTupG, gCons, gNil, gSub, oLt, oLe, oGt, oGe, oGtK, oGeK, oBor, oIs, oIsNot, oSub, oMul, oFdiv, oMod, oPow, cPar, cPar3, cAug, tDNewK, cCall, cAttr, frzE, List.mem_singleton, List.lookup_cons_self, List.getElem?_cons_zero, List.getElem?_cons_succ, List.set_cons_zero, List.set_cons_succ, Option.some.injEq, reduceCtorEq, if_true, if_false, Bool.true_eq_false, Bool.false_eq_true, decide_eq_true_eq, ite_true, ite_false, ↓reduceIte, List.length_cons, List.length_nil, true_and, and_true, exists_eq_left', exists_eq_left, List.cons.injEq]
        refine rowQ 0 _ _ (by decide) e3 fun z0 => ⟨by decide, ?_⟩
        refine eq_scal rfl rfl rfl ?_
        by_cases c3 : z0 % 3 = 0
        · simp only [c3, decide_true, tSeq, tIfS, tNext, tRet, tRetN, tDrop, tAsg, tC, cVar, tOp, tCB, tCons, tNil, tTup, tLst, tIf, tAnd, tOr, tNot, cTest, cTru, oTru, cAnd, cOr, cNot, cUn, cChain, gName, cTupG, gCons, gNil, gSub, oLt, oLe, oGt, oGe, oGtK, oGeK, oBor, oIs, oIsNot, oSub, oMul, oFdiv, oMod, oPow, cPar, cPar3, cAug, tDNewK, cCall, cAttr, frzE, List.mem_singleton, List.lookup_cons_self, List.getElem?_cons_zero, List.getElem?_cons_succ, List.set_cons_zero, List.set_cons_succ, Option.some.injEq, reduceCtorEq, if_true, if_false, Bool.true_eq_false, Bool.false_eq_true, decide_eq_true_eq, ite_true, ite_false, ↓reduceIte, List.length_cons, List.length_nil, true_and, and_true, exists_eq_left', exists_eq_left, List.cons.injEq]
          refine hA _ ?_
          simp only [tSeq, tIfS, tNext, tRet, tRetN, tDrop, tAsg, tC, cVar, tOp, tCB, tCons, tNil, tTup, tLst, tIf, tAnd, tOr, tNot, cTest, cTru, oTru, cAnd, cOr, cNot, cUn, cChain, gName, cTupG, gCons, gNil, gSub, oLt, oLe, oGt, oGe, oGtK, oGeK, oBor, oIs, oIsNot, oSub, oMul, oFdiv, oMod, oPow, cPar, cPar3, cAug, tDNewK, cCall, cAttr, frzE, List.mem_singleton, List.lookup_cons_self, List.getElem?_cons_zero, List.getElem?_cons_succ, List.set_cons_zero, List.set_cons_succ, Option.some.injEq, reduceCtorEq, if_true, if_false, Bool.true_eq_false, Bool.false_eq_true, decide_eq_true_eq, ite_true, ite_false, ↓reduceIte, List.length_cons, List.length_nil, true_and, and_true, exists_eq_left', exists_eq_left, List.cons.injEq]
          refine ix0 _ (rowQ 1 _ _ (by decide) e3 fun z1 => ⟨by decide, ltr _ _ _ fun c hc => ?_⟩)
          simp only [oAdd]
          have lc : (⟨#[c]⟩ : Str).length = 1 := rfl
          refine ⟨by rw [lc]; omega, ?_⟩
          have i1 : ixN (fs.map V.str).length 1 = some 1 := by rw [List.length_map, hl5]; rfl
          simp only [oSet, ef, i1]
          refine fin _ (fs.set 1 (s0 ++ ⟨#[c]⟩)) (by rw [List.length_set]; exact hl5) (fun s hs => ?_) ?_ (.inr fun b' o hb' eb => by rw [upd_ne hb']; exact e3 b' o eb) (by rw [upd_same, List.map_set])
          rcases List.mem_or_eq_of_mem_set hs with hs | rfl
          · exact hfs s hs
          · refine ⟨l0.app (LS.one hc), ?_, ?_⟩
            · rw [strLen_append, lc]; omega
            · rw [strLen_append, lc]; omega
          · have c0 := hch 0 s0 hs0
            have at0 : at_ < s0.cps.toList.length := (List.getElem?_eq_some_iff.mp c0).1
            have c1 : (s0 ++ (⟨#[c]⟩ : Str)).cps.toList[at_]? = some (lt26 (z11 + step * ((0 : Nat) : Int))) := by
              rw [app_cps, List.getElem?_append_left at0]; exact c0
            refine List.pairwise_iff_getElem.mpr fun i j hi hj hij e => ?_
            rw [List.length_set] at hi hj
            rw [List.getElem_set, List.getElem_set] at e
            by_cases i1 : 1 = i
            · subst i1
              rw [if_pos rfl, if_neg (by omega)] at e
              have h2 := hch j _ (List.getElem?_eq_getElem hj)
              rw [← e, c1] at h2
              exact step_ne hsb (i := 0) (j := j) (by omega) (by omega) (lt26_inj (Option.some.inj h2))
            · rw [if_neg i1] at e
              by_cases j1 : 1 = j
              · subst j1
                have i0 : i = 0 := by omega
                subst i0
                rw [if_pos rfl] at e
                have e0 : fs[0] = s0 := (List.getElem?_eq_some_iff.mp hs0).2
                rw [e0] at e
                have := congrArg Str.length e
                rw [strLen_append, lc] at this
                omega
              · rw [if_neg j1] at e
                exact List.pairwise_iff_getElem.mp ndf i j hi hj hij e
        · simp only [c3, decide_false, V.int.injEq, tSeq, tIfS, tNext, tRet, tRetN, tDrop, tAsg, tC, cVar, tOp, tCB, tCons, tNil, tTup, tLst, tIf, tAnd, tOr, tNot, cTest, cTru, oTru, cAnd, cOr, cNot, cUn, cChain, gName, cTupG, gCons, gNil, gSub, oLt, oLe, oGt, oGe, oGtK, oGeK, oBor, oIs, oIsNot, oSub, oMul, oFdiv, oMod, oPow, cPar, cPar3, cAug, tDNewK, cCall, cAttr, frzE, List.mem_singleton, List.lookup_cons_self, List.getElem?_cons_zero, List.getElem?_cons_succ, List.set_cons_zero, List.set_cons_succ, Option.some.injEq, reduceCtorEq, if_true, if_false, Bool.true_eq_false, Bool.false_eq_true, decide_eq_true_eq, ite_true, ite_false, ↓reduceIte, List.length_cons, List.length_nil, true_and, and_true, exists_eq_left', exists_eq_left, List.cons.injEq]
          exact hB _ (by simp only [tSeq, tIfS, tNext, tRet, tRetN, tDrop, tAsg, tC, cVar, tOp, tCB, tCons, tNil, tTup, tLst, tIf, tAnd, tOr, tNot, cTest, cTru, oTru, cAnd, cOr, cNot, cUn, cChain, gName, cTupG, gCons, gNil, gSub, oLt, oLe, oGt, oGe, oGtK, oGeK, oBor, oIs, oIsNot, oSub, oMul, oFdiv, oMod, oPow, cPar, cPar3, cAug, tDNewK, cCall, cAttr, frzE, List.mem_singleton, List.lookup_cons_self, List.getElem?_cons_zero, List.getElem?_cons_succ, List.set_cons_zero, List.set_cons_succ, Option.some.injEq, reduceCtorEq, if_true, if_false, Bool.true_eq_false, Bool.false_eq_true, decide_eq_true_eq, ite_true, ite_false, ↓reduceIte, List.length_cons, List.length_nil, true_and, and_true, exists_eq_left', exists_eq_left, List.cons.injEq]; exact fin _ fs hl5 hfs ndf (.inl e3) ef)
      · simp only [c8, decide_false, tSeq, tIfS, tNext, tRet, tRetN, tDrop, tAsg, tC, cVar, tOp, tCB, tCons, tNil, tTup, tLst, tIf, tAnd, tOr, tNot, cTest, cTru, oTru, cAnd, cOr, cNot, cUn, cChain, gName, cTupG, gCons, gNil, gSub, oLt, oLe, oGt, oGe, oGtK, oGeK, oBor, oIs, oIsNot, oSub, oMul, oFdiv, oMod, oPow, cPar, cPar3, cAug, tDNewK, cCall, cAttr, frzE, List.mem_singleton, List.lookup_cons_self, List.getElem?_cons_zero, List.getElem?_cons_succ, List.set_cons_zero, List.set_cons_succ, Option.some.injEq, reduceCtorEq, if_true, if_false, Bool.true_eq_false, Bool.false_eq_true, decide_eq_true_eq, ite_true, ite_false, ↓reduceIte, List.length_cons, List.length_nil, true_and, and_true, exists_eq_left', exists_eq_left, List.cons.injEq]
        exact hB _ (by simp only [tSeq, tIfS, tNext, tRet, tRetN, tDrop, tAsg, tC, cVar, tOp, tCB, tCons, tNil, tTup, tLst, tIf, tAnd, tOr, tNot, cTest, cTru, oTru, cAnd, cOr, cNot, cUn, cChain, gName, cTupG, gCons, gNil, gSub, oLt, oLe, oGt, oGe, oGtK, oGeK, oBor, oIs, oIsNot, oSub, oMul, oFdiv, oMod, oPow, cPar, cPar3, cAug, tDNewK, cCall, cAttr, frzE, List.mem_singleton, List.lookup_cons_self, List.getElem?_cons_zero, List.getElem?_cons_succ, List.set_cons_zero, List.set_cons_succ, Option.some.injEq, reduceCtorEq, if_true, if_false, Bool.true_eq_false, Bool.false_eq_true, decide_eq_true_eq, ite_true, ite_false, ↓reduceIte, List.length_cons, List.length_nil, true_and, and_true, exists_eq_left', exists_eq_left, List.cons.injEq]; exact fin _ fs hl5 hfs ndf (.inl e3) ef)
    · rintro j σ H3 hj ⟨⟨v8, v9, rfl⟩, e3, fs, hlj, hfs, ef, hch⟩ R hR
      refine ⟨hj, ?_⟩
      rintro x H4 ⟨rfl, rfl⟩
      have e0 : (0 + (j : Int)) = (j : Int) := by omega
      rw [e0]
      refine seq_ fun N9 h9 => ?_
      simp only [tSl, tNoPart, cPart, oSl, tSeq, tIfS, tNext, tRet, tRetN, tDrop, tAsg, tC, cVar, tOp, tCB, tCons, tNil, tTup, tLst, tIf, tAnd, tOr, tNot, cTest, cTru, oTru, cAnd, cOr, cNot, cUn, cChain, gName, cTupG, gCons, gNil, gSub, oLt, oLe, oGt, oGe, oGtK, oGeK, oBor, oIs, oIsNot, oSub, oMul, oFdiv, oMod, oPow, cPar, cPar3, cAug, tDNewK, cCall, cAttr, frzE, List.mem_singleton, List.lookup_cons_self, List.getElem?_cons_zero, List.getElem?_cons_succ, List.set_cons_zero, List.set_cons_succ, Option.some.injEq, reduceCtorEq, if_true, if_false, Bool.true_eq_false, Bool.false_eq_true, decide_eq_true_eq, ite_true, ite_false, ↓reduceIte, List.length_cons, List.length_nil, true_and, and_true, exists_eq_left', exists_eq_left, List.cons.injEq]
      refine ⟨sz7, ix11 _ _ e3 ⟨cmul_of (by omega) (by omega), ?_⟩⟩
      simp only [oAdd, tSeq, tIfS, tNext, tRet, tRetN, tDrop, tAsg, tC, cVar, tOp, tCB, tCons, tNil, tTup, tLst, tIf, tAnd, tOr, tNot, cTest, cTru, oTru, cAnd, cOr, cNot, cUn, cChain, gName, cTupG, gCons, gNil, gSub, oLt, oLe, oGt, oGe, oGtK, oGeK, oBor, oIs, oIsNot, oSub, oMul, oFdiv, oMod, oPow, cPar, cPar3, cAug, tDNewK, cCall, cAttr, frzE, List.mem_singleton, List.lookup_cons_self, List.getElem?_cons_zero, List.getElem?_cons_succ, List.set_cons_zero, List.set_cons_succ, Option.some.injEq, reduceCtorEq, if_true, if_false, Bool.true_eq_false, Bool.false_eq_true, decide_eq_true_eq, ite_true, ite_false, ↓reduceIte, List.length_cons, List.length_nil, true_and, and_true, exists_eq_left', exists_eq_left, List.cons.injEq]
      refine ⟨by decide, letter_ix ?_⟩
      have hc := lt26_mem (z11 + step * (j : Int))
      have hcc : lt26 (z11 + step * (j : Int)) = lt26 (z11 + step * (j : Int)) := rfl
      generalize hcd : lt26 (z11 + step * (j : Int)) = c at hc ⊢
      have lc : (⟨#[c]⟩ : Str).length = 1 := rfl
      have lcut := cut_len0 (a := stem) (y := at_) (by omega)
      simp only [oAdd]
      refine ⟨by rw [lc, lcut]; omega, ?_⟩
      refine h9 _ _ ?_
      simp only [tDrop]
      refine mC_blt ?_ fun P P' hh q => mono_var hh q
      simp only [tSeq, tIfS, tNext, tRet, tRetN, tDrop, tAsg, tC, cVar, tOp, tCB, tCons, tNil, tTup, tLst, tIf, tAnd, tOr, tNot, cTest, cTru, oTru, cAnd, cOr, cNot, cUn, cChain, gName, cTupG, gCons, gNil, gSub, oLt, oLe, oGt, oGe, oGtK, oGeK, oBor, oIs, oIsNot, oSub, oMul, oFdiv, oMod, oPow, cPar, cPar3, cAug, tDNewK, cCall, cAttr, frzE, List.mem_singleton, List.lookup_cons_self, List.getElem?_cons_zero, List.getElem?_cons_succ, List.set_cons_zero, List.set_cons_succ, Option.some.injEq, reduceCtorEq, if_true, if_false, Bool.true_eq_false, Bool.false_eq_true, decide_eq_true_eq, ite_true, ite_false, ↓reduceIte, List.length_cons, List.length_nil, true_and, and_true, exists_eq_left', exists_eq_left, List.cons.injEq]
      refine ⟨ins_lst (K := K) (look_of_lst ef), "list", tyB_lst (K := K) (look_of_lst ef), _, b_append, ?_⟩
      simp only [tSl, cPart, oSl, oAdd, tSeq, tIfS, tNext, tRet, tRetN, tDrop, tAsg, tC, cVar, tOp, tCB, tCons, tNil, tTup, tLst, tIf, tAnd, tOr, tNot, cTest, cTru, oTru, cAnd, cOr, cNot, cUn, cChain, gName, cTupG, gCons, gNil, gSub, oLt, oLe, oGt, oGe, oGtK, oGeK, oBor, oIs, oIsNot, oSub, oMul, oFdiv, oMod, oPow, cPar, cPar3, cAug, tDNewK, cCall, cAttr, frzE, List.mem_singleton, List.lookup_cons_self, List.getElem?_cons_zero, List.getElem?_cons_succ, List.set_cons_zero, List.set_cons_succ, Option.some.injEq, reduceCtorEq, if_true, if_false, Bool.true_eq_false, Bool.false_eq_true, decide_eq_true_eq, ite_true, ite_false, ↓reduceIte, List.length_cons, List.length_nil, true_and, and_true, exists_eq_left', exists_eq_left, List.cons.injEq]
      have hj8 : ((j : Int) % 8) = (j : Int) := Int.emod_eq_of_lt (by omega) (by omega)
      rw [hj8]
      refine ⟨by decide, ?_⟩
      rw [show ((12 : Int) + (j : Int)) = ((12 + j : Nat) : Int) from by omega]
      refine rowQ (12 + j) _ _ (by omega) e3 fun zk => ⟨by omega, ?_⟩
      have mk := mod_b (a := zk) (m := 8 - (at_ : Int)) (by omega)
      obtain ⟨w2, hw2⟩ := Int.eq_ofNat_of_zero_le mk.1
      rw [hw2]
      rw [show ((at_ : Int) + (w2 : Int)) = ((at_ + w2 : Nat) : Int) from by omega]
      have lcut2 := cut_len (a := stem) (x := at_) (y := at_ + w2) (by omega) (by omega)
      refine ⟨sz7, by rw [strLen_append, lc, lcut, lcut2]; omega, ?_⟩
      simp only [mAppend, ef]
      refine ⟨by rw [List.length_map]; exact small1000 (by omega), hR _ _ ⟨⟨_, _, rfl⟩, fun b' o eb => ?_, fs ++ [(cutS stem none (some (at_ : Int)) ++ ⟨#[c]⟩) ++ cutS stem (some (at_ : Int)) (some ((at_ + w2 : Nat) : Int))], by rw [List.length_append, hlj]; rfl, fun s hs => ?_, by rw [upd_same]; simp, fun k s hs => ?_⟩⟩
      · rw [upd_ne (ne_of_none eb hf2)]; exact e3 b' o eb
      · rcases List.mem_append.mp hs with hs | hs
        · exact hfs s hs
        · rw [List.mem_singleton.mp hs]
          refine ⟨(lst.cut.app (LS.one hc)).app lst.cut, ?_, ?_⟩
          · rw [strLen_append, strLen_append, lc, lcut, lcut2]; omega
          · rw [strLen_append, strLen_append, lc, lcut, lcut2]; omega
      · by_cases kj : k < fs.length
        · rw [List.getElem?_append_left kj] at hs
          exact hch k s hs
        · have kl := (List.getElem?_eq_some_iff.mp hs).1
          rw [List.length_append, List.length_singleton] at kl
          have kj' : k = fs.length := by omega
          subst kj'
          rw [List.getElem?_append_right (Nat.le_refl _), Nat.sub_self] at hs
          cases hs
          have la : (cutS stem none (some (at_ : Int))).cps.toList.length = at_ := by rw [← len_cps]; exact lcut
          rw [app_cps, app_cps, List.append_assoc, List.getElem?_append_right (by omega), la, Nat.sub_self, hlj, hcd]
          rfl
  · rintro j H2 hj ⟨e2, cs, hcj, hcl, hD2⟩ R hR
    have ea2 := e2 a _ upd_same
    refine ⟨itl_go ea2 (by rw [List.length_map]; omega), ?_⟩
    intro x H3 hy
    obtain ⟨rfl, hx⟩ := itl_yld ea2 hy
    rw [List.getElem?_map] at hx
    cases ey : ps[j]? with
    | none => rw [ey] at hx; cases hx
    | some z =>
      rw [ey] at hx
      obtain rfl : V.int z = x := Option.some.inj hx
      refine ⟨rfl, ?_⟩
      simp only [tYes, wipe, if_true, tSeq, tIfS, tNext, tRet, tRetN, tDrop, tAsg, tC, cVar, tOp, tCB, tCons, tNil, tTup, tLst, tIf, tAnd, tOr, tNot, cTest, cTru, oTru, cAnd, cOr, cNot, cUn, cChain, gName, cTupG, gCons, gNil, gSub, oLt, oLe, oGt, oGe, oGtK, oGeK, oBor, oIs, oIsNot, oSub, oMul, oFdiv, oMod, oPow, cPar, cPar3, cAug, tDNewK, cCall, cAttr, frzE, List.mem_singleton, List.lookup_cons_self, List.getElem?_cons_zero, List.getElem?_cons_succ, List.set_cons_zero, List.set_cons_succ, Option.some.injEq, reduceCtorEq, if_true, if_false, Bool.true_eq_false, Bool.false_eq_true, decide_eq_true_eq, ite_true, ite_false, ↓reduceIte, List.length_cons, List.length_nil, true_and, and_true, exists_eq_left', exists_eq_left, List.cons.injEq]
      refine ⟨by decide, letter_at fun c hc => ?_⟩
      refine ⟨_, hD2, ?_, hR _ ⟨?_, cs ++ [c], by rw [List.length_append, hcj]; rfl, ?_, ?_⟩⟩
      · rw [List.length_map, List.length_map]
        exact small1000 (by omega)
      · intro b' o eb
        have hb : b' ≠ D := fun z => by rw [z, hD] at eb; cases eb
        rw [upd_ne hb]; exact e2 b' o eb
      · intro c' hc'
        rcases List.mem_append.mp hc' with h' | h'
        · exact hcl c' h'
        · rw [List.mem_singleton.mp h']; exact hc
      · rw [upd_same]; simp
end
end WR.L

set_option Elab.async false
set_option linter.all false
set_option maxRecDepth 100000
set_option maxHeartbeats 4000000
namespace WR.L
open PySem PySem.Spec PyProof.Rows L2
/-- what is told of a name: place, number, word -/
abbrev R3 := Int × Int × Str
def enc3 (r : R3) : List V := [.int r.1, .int r.2.1, .str r.2.2]
def wrds : List Str := ["here", "silent", "gone"]
def wi (w : Str) : Nat := wrds.idxOf w
def rk (r : R3) : List V := [.int r.2.1, .int (wi r.2.2 : Int), .int r.1]
def gtR (a b : R3) : Prop := b.2.1 < a.2.1 ∨ (a.2.1 = b.2.1 ∧ (wi b.2.2 < wi a.2.2 ∨ (wi a.2.2 = wi b.2.2 ∧ b.1 < a.1)))
instance (a b : R3) : Decidable (gtR a b) := by unfold gtR; infer_instance
def lat (a b : R3) : R3 := if gtR a b then a else b
theorem gt_rk (a b : R3) : vLex vGt false (rk a) (rk b) = decide (gtR a b) := by
  unfold gtR rk
  simp only [vLex, vGt, V.int.injEq]
  by_cases h1 : a.2.1 = b.2.1
  · rw [if_pos h1]
    by_cases h2 : (wi a.2.2 : Int) = (wi b.2.2 : Int)
    · rw [if_pos h2]
      have h2' : wi a.2.2 = wi b.2.2 := by omega
      by_cases h3 : a.1 = b.1
      · rw [if_pos h3]; simp [h1, h2', h3]
      · rw [if_neg h3]; simp [h1, h2']
    · rw [if_neg h2]
      have h2' : ¬ wi a.2.2 = wi b.2.2 := by omega
      simp [h1, h2']
  · rw [if_neg h1]; simp [h1]
theorem wi_inj {a b : Str} (ha : a ∈ wrds) (hb : b ∈ wrds) (h : wi a = wi b) : a = b := by
  have : ∀ x ∈ wrds, ∀ y ∈ wrds, wi x = wi y → x = y := by decide +kernel
  exact this a ha b hb h
theorem rk_inj {a b : R3} (ha : a.2.2 ∈ wrds) (hb : b.2.2 ∈ wrds) (h : ¬ gtR a b) (h2 : ¬ gtR b a) : a = b := by
  obtain ⟨a1, a2, a3⟩ := a
  obtain ⟨b1, b2, b3⟩ := b
  unfold gtR at h h2
  dsimp only at *
  have e2 : a2 = b2 := by omega
  have e3 : wi a3 = wi b3 := by omega
  have e1 : a1 = b1 := by omega
  rw [e1, e2, wi_inj ha hb e3]
theorem ge_rk {a b : R3} (ha : a.2.2 ∈ wrds) (hb : b.2.2 ∈ wrds) : (if vLex vGe true (rk a) (rk b) = true then a else b) = lat a b := by
  have key : vLex vGe true (rk a) (rk b) = !decide (gtR b a) := by
    unfold gtR rk
    simp only [vLex, vGe, V.int.injEq]
    by_cases h1 : a.2.1 = b.2.1
    · rw [if_pos h1]
      by_cases h2 : (wi a.2.2 : Int) = (wi b.2.2 : Int)
      · rw [if_pos h2]
        have h2' : wi a.2.2 = wi b.2.2 := by omega
        by_cases h3 : a.1 = b.1
        · rw [if_pos h3]; simp [h1, h2', h3]
        · rw [if_neg h3]
          by_cases h4 : b.1 ≤ a.1
          · have h5 : ¬ a.1 < b.1 := by omega
            simp [h1, h2', h4, h5]
          · have h5 : a.1 < b.1 := by omega
            simp [h1, h2', h4, h5]
      · rw [if_neg h2]
        have h2' : ¬ wi b.2.2 = wi a.2.2 := by omega
        by_cases h4 : wi b.2.2 ≤ wi a.2.2
        · have h5 : ¬ wi a.2.2 < wi b.2.2 := by omega
          simp [h1, h2', h4, h5]
        · have h5 : wi a.2.2 < wi b.2.2 := by omega
          simp [h1, h2', h4, h5]
    · rw [if_neg h1]
      have h1' : ¬ b.2.1 = a.2.1 := by omega
      by_cases h4 : b.2.1 ≤ a.2.1
      · have h5 : ¬ a.2.1 < b.2.1 := by omega
        simp [h1', h4, h5]
      · have h5 : a.2.1 < b.2.1 := by omega
        simp [h1', h4, h5]
  rw [key]
  unfold lat
  by_cases h : gtR b a
  · have h2 : ¬ gtR a b := by unfold gtR at h ⊢; omega
    simp [h, h2]
  · by_cases h2 : gtR a b
    · simp [h, h2]
    · simp only [h, h2, decide_false, Bool.not_false, if_true, if_false]
      exact rk_inj ha hb h2 h
section
variable {K : PySem.W.Frag} {n : Nat} {H : Hp} {Q : VK} {E : XK}
theorem tup3_ {t : Addr} {i j k : Nat} {x y z : V} {σ : L2.St} {R : L2.St → Hp → Prop} (h : look K H t = some (.tup [x, y, z])) (q : R (((σ.set i (some x)).set j (some y)).set k (some z)) H) : cTupG K 3 (gCons (gName i) (gCons (gName j) (gCons (gName k) gNil))) (.ref t) σ H R := by
  simp only [cTupG, h]
  refine ⟨rfl, ?_⟩
  exact ⟨_, _, rfl, _, _, rfl, _, _, rfl, rfl, q⟩
theorem wrd_at : ∀ w ∈ wrds, wrds[wi w]? = some w ∧ ∀ m, m < wi w → wrds[m]? ≠ some w := by
  have : ∀ w ∈ wrds, wrds[wi w]? = some w ∧ ∀ m : Fin 3, m.val < wi w → wrds[m.val]? ≠ some w := by decide +kernel
  intro w hw
  refine ⟨(this w hw).1, fun m hm => ?_⟩
  have h3 : wi w < 3 := by
    have : ∀ w ∈ wrds, wi w < 3 := by decide +kernel
    exact this w hw
  exact (this w hw).2 ⟨m, by omega⟩ hm
theorem b_indexT : (bf K "index").find? (fun b => b.T == "tuple") = some ⟨"tuple", "index", "tuple.index", mIndexT K⟩ := by kernel_rfl
theorem mono_KT {vs : List V} {σ : L2.St} {P P' : V → Hp → Prop} (h : ∀ x H, P x H → P' x H) (q : cKT K vs σ H P) : cKT K vs σ H P' := fun a h1 h2 h3 => h _ _ (q a h1 h2 h3)
theorem s_rank_of {t : Addr} {r : R3} (ht : H t = some (.tup (enc3 r))) (hw : r.2.2 ∈ wrds) (h : ∀ q H', Ex H H' → H' q = some (.tup (rk r)) → Q (.ref q) H') : SP K (n+1) "rank_of" [.ref t] H Q E := by
  refine o_rank_of ?_
  unfold r_rank_of
  refine seq_ fun N1 h1 => ?_
  simp only [tAsg, cVar, List.getElem?_cons_zero]
  refine tup3_ (look_of_tup ht) (h1 _ _ ?_)
  simp only [tRet, tTup, tCons, cVar, List.set_cons_zero, List.set_cons_succ, List.getElem?_cons_zero, List.getElem?_cons_succ]
  refine mC_blt ?_ fun P P' hh q => mono_KT hh q
  intro a ha hk hT
  have la : look K H a = some (.tup [.str "here", .str "silent", .str "gone"]) := by unfold look; rw [ha]; exact hk
  refine ⟨ins_tup la, "tuple", by show tyB K H (.ref a) = _; simp only [tyB, la, hT, if_true], _, b_indexT, ?_⟩
  simp only [mIndexT, tSeq, tIfS, tNext, tRet, tRetN, tDrop, tAsg, tC, cVar, tOp, tCB, tCons, tNil, tTup, tLst, tIf, tAnd, tOr, tNot, cTest, cTru, oTru, cAnd, cOr, cNot, cUn, cChain, gName, cTupG, gCons, gNil, gSub, oLt, oLe, oGt, oGe, oGtK, oGeK, oBor, oIs, oIsNot, oSub, oMul, oFdiv, oMod, oPow, cPar, cPar3, cAug, tDNewK, cCall, cAttr, frzE, List.mem_singleton, List.lookup_cons_self, List.getElem?_cons_zero, List.getElem?_cons_succ, List.set_cons_zero, List.set_cons_succ, Option.some.injEq, reduceCtorEq, if_true, if_false, Bool.true_eq_false, Bool.false_eq_true, decide_eq_true_eq, ite_true, ite_false, ↓reduceIte, List.length_cons, List.length_nil, true_and, and_true, exists_eq_left', exists_eq_left, List.cons.injEq]
  refine ⟨wrds, wi r.2.2, la, (wrd_at _ hw).1, (wrd_at _ hw).2, ?_⟩
  refine ⟨by simp only [sizeLine_eq]; omega, fun q hq => h q _ (Ex.refl.new hq) ?_⟩
  rw [upd_same]; rfl
theorem pk (a b : R3) : pAll (rk a) (rk b) = true := rfl
theorem s_later {a b : Addr} {ra rb : R3} (ha : H a = some (.tup (enc3 ra))) (hb : H b = some (.tup (enc3 rb))) (wa : ra.2.2 ∈ wrds) (wb : rb.2.2 ∈ wrds) (h : ∀ c H', Ex H H' → H' c = some (.tup (enc3 (lat ra rb))) → Q (.ref c) H') : SP K (n+2) "later" [.ref a, .ref b] H Q E := by
  refine o_later ?_
  unfold r_later
  simp only [tSeq, tIfS, tNext, tRet, tRetN, tDrop, tAsg, tC, cVar, tOp, tCB, tCons, tNil, tTup, tLst, tIf, tAnd, tOr, tNot, cTest, cTru, oTru, cAnd, cOr, cNot, cUn, cChain, gName, cTupG, gCons, gNil, gSub, oLt, oLe, oGt, oGe, oGtK, oGeK, oBor, oIs, oIsNot, oSub, oMul, oFdiv, oMod, oPow, cPar, cPar3, cAug, tDNewK, cCall, cAttr, frzE, List.mem_singleton, List.lookup_cons_self, List.getElem?_cons_zero, List.getElem?_cons_succ, List.set_cons_zero, List.set_cons_succ, Option.some.injEq, reduceCtorEq, if_true, if_false, Bool.true_eq_false, Bool.false_eq_true, decide_eq_true_eq, ite_true, ite_false, ↓reduceIte, List.length_cons, List.length_nil, true_and, and_true, exists_eq_left', exists_eq_left, List.cons.injEq]
  refine s_rank_of ha wa fun p H1 e1 k1 => ?_
  simp only [tSeq, tIfS, tNext, tRet, tRetN, tDrop, tAsg, tC, cVar, tOp, tCB, tCons, tNil, tTup, tLst, tIf, tAnd, tOr, tNot, cTest, cTru, oTru, cAnd, cOr, cNot, cUn, cChain, gName, cTupG, gCons, gNil, gSub, oLt, oLe, oGt, oGe, oGtK, oGeK, oBor, oIs, oIsNot, oSub, oMul, oFdiv, oMod, oPow, cPar, cPar3, cAug, tDNewK, cCall, cAttr, frzE, List.mem_singleton, List.lookup_cons_self, List.getElem?_cons_zero, List.getElem?_cons_succ, List.set_cons_zero, List.set_cons_succ, Option.some.injEq, reduceCtorEq, if_true, if_false, Bool.true_eq_false, Bool.false_eq_true, decide_eq_true_eq, ite_true, ite_false, ↓reduceIte, List.length_cons, List.length_nil, true_and, and_true, exists_eq_left', exists_eq_left, List.cons.injEq]
  refine s_rank_of (e1 _ _ hb) wb fun q H2 e2 k2 => ?_
  simp only [oGeK, look_of_tup (K := K) (e2 _ _ k1), look_of_tup (K := K) k2]
  refine ⟨pk _ _, ?_⟩
  try simp only [tSeq, tIfS, tNext, tRet, tRetN, tDrop, tAsg, tC, cVar, tOp, tCB, tCons, tNil, tTup, tLst, tIf, tAnd, tOr, tNot, cTest, cTru, oTru, cAnd, cOr, cNot, cUn, cChain, gName, cTupG, gCons, gNil, gSub, oLt, oLe, oGt, oGe, oGtK, oGeK, oBor, oIs, oIsNot, oSub, oMul, oFdiv, oMod, oPow, cPar, cPar3, cAug, tDNewK, cCall, cAttr, frzE, List.mem_singleton, List.lookup_cons_self, List.getElem?_cons_zero, List.getElem?_cons_succ, List.set_cons_zero, List.set_cons_succ, Option.some.injEq, reduceCtorEq, if_true, if_false, Bool.true_eq_false, Bool.false_eq_true, decide_eq_true_eq, ite_true, ite_false, ↓reduceIte, List.length_cons, List.length_nil, true_and, and_true, exists_eq_left', exists_eq_left, List.cons.injEq]
  have e := ge_rk wa wb
  have e12 := e1.trans e2
  by_cases c : vLex vGe true (rk ra) (rk rb) = true
  · rw [if_pos c] at e ⊢
    exact h a H2 e12 (by rw [← e]; exact e12 _ _ ha)
  · rw [if_neg c] at e ⊢
    exact h b H2 e12 (by rw [← e]; exact e12 _ _ hb)
theorem s_is_number {i : Int} (h : Q (.bl (decide (1 ≤ i))) H) : SP K (n+2) "is_number" [.int i] H Q E := by
  refine o_is_number ?_
  unfold r_is_number
  simp only [tSeq, tIfS, tNext, tRet, tRetN, tDrop, tAsg, tC, cVar, tOp, tCB, tCons, tNil, tTup, tLst, tIf, tAnd, tOr, tNot, cTest, cTru, oTru, cAnd, cOr, cNot, cUn, cChain, gName, cTupG, gCons, gNil, gSub, oLt, oLe, oGt, oGe, oGtK, oGeK, oBor, oIs, oIsNot, oSub, oMul, oFdiv, oMod, oPow, cPar, cPar3, cAug, tDNewK, cCall, cAttr, frzE, List.mem_singleton, List.lookup_cons_self, List.getElem?_cons_zero, List.getElem?_cons_succ, List.set_cons_zero, List.set_cons_succ, Option.some.injEq, reduceCtorEq, if_true, if_false, Bool.true_eq_false, Bool.false_eq_true, decide_eq_true_eq, ite_true, ite_false, ↓reduceIte, List.length_cons, List.length_nil, true_and, and_true, exists_eq_left', exists_eq_left, List.cons.injEq]
  refine o_is_any_whole ?_
  unfold r_is_any_whole
  simp only [tSeq, tIfS, tNext, tRet, tRetN, tDrop, tAsg, tC, cVar, tOp, tCB, tCons, tNil, tTup, tLst, tIf, tAnd, tOr, tNot, cTest, cTru, oTru, cAnd, cOr, cNot, cUn, cChain, gName, cTupG, gCons, gNil, gSub, oLt, oLe, oGt, oGe, oGtK, oGeK, oBor, oIs, oIsNot, oSub, oMul, oFdiv, oMod, oPow, cPar, cPar3, cAug, tDNewK, cCall, cAttr, frzE, List.mem_singleton, List.lookup_cons_self, List.getElem?_cons_zero, List.getElem?_cons_succ, List.set_cons_zero, List.set_cons_succ, Option.some.injEq, reduceCtorEq, if_true, if_false, Bool.true_eq_false, Bool.false_eq_true, decide_eq_true_eq, ite_true, ite_false, ↓reduceIte, List.length_cons, List.length_nil, true_and, and_true, exists_eq_left', exists_eq_left, List.cons.injEq]
  rw [isi_ty (n := "int") rfl kb_int_int]
  simp only [tSeq, tIfS, tNext, tRet, tRetN, tDrop, tAsg, tC, cVar, tOp, tCB, tCons, tNil, tTup, tLst, tIf, tAnd, tOr, tNot, cTest, cTru, oTru, cAnd, cOr, cNot, cUn, cChain, gName, cTupG, gCons, gNil, gSub, oLt, oLe, oGt, oGe, oGtK, oGeK, oBor, oIs, oIsNot, oSub, oMul, oFdiv, oMod, oPow, cPar, cPar3, cAug, tDNewK, cCall, cAttr, frzE, List.mem_singleton, List.lookup_cons_self, List.getElem?_cons_zero, List.getElem?_cons_succ, List.set_cons_zero, List.set_cons_succ, Option.some.injEq, reduceCtorEq, if_true, if_false, Bool.true_eq_false, Bool.false_eq_true, decide_eq_true_eq, ite_true, ite_false, ↓reduceIte, List.length_cons, List.length_nil, true_and, and_true, exists_eq_left', exists_eq_left, List.cons.injEq]
  rw [isi_ty (n := "int") rfl kb_int_bool]
  simp only [tSeq, tIfS, tNext, tRet, tRetN, tDrop, tAsg, tC, cVar, tOp, tCB, tCons, tNil, tTup, tLst, tIf, tAnd, tOr, tNot, cTest, cTru, oTru, cAnd, cOr, cNot, cUn, cChain, gName, cTupG, gCons, gNil, gSub, oLt, oLe, oGt, oGe, oGtK, oGeK, oBor, oIs, oIsNot, oSub, oMul, oFdiv, oMod, oPow, cPar, cPar3, cAug, tDNewK, cCall, cAttr, frzE, List.mem_singleton, List.lookup_cons_self, List.getElem?_cons_zero, List.getElem?_cons_succ, List.set_cons_zero, List.set_cons_succ, Option.some.injEq, reduceCtorEq, if_true, if_false, Bool.true_eq_false, Bool.false_eq_true, decide_eq_true_eq, ite_true, ite_false, ↓reduceIte, List.length_cons, List.length_nil, true_and, and_true, exists_eq_left', exists_eq_left, List.cons.injEq, Bool.not_false]
  exact h
theorem s_is_word {w : Str} (h : ∀ H', H' = H → Q (.bl (decide (w ∈ wrds))) H') : SP K (n+1) "is_word" [.str w] H Q E := by
  refine o_is_word ?_
  unfold r_is_word
  simp only [tSeq, tIfS, tNext, tRet, tRetN, tDrop, tAsg, tC, cVar, tOp, tCB, tCons, tNil, tTup, tLst, tIf, tAnd, tOr, tNot, cTest, cTru, oTru, cAnd, cOr, cNot, cUn, cChain, gName, cTupG, gCons, gNil, gSub, oLt, oLe, oGt, oGe, oGtK, oGeK, oBor, oIs, oIsNot, oSub, oMul, oFdiv, oMod, oPow, cPar, cPar3, cAug, tDNewK, cCall, cAttr, frzE, List.mem_singleton, List.lookup_cons_self, List.getElem?_cons_zero, List.getElem?_cons_succ, List.set_cons_zero, List.set_cons_succ, Option.some.injEq, reduceCtorEq, if_true, if_false, Bool.true_eq_false, Bool.false_eq_true, decide_eq_true_eq, ite_true, ite_false, ↓reduceIte, List.length_cons, List.length_nil, true_and, and_true, exists_eq_left', exists_eq_left, List.cons.injEq]
  rw [isi_ty (n := "str") rfl kb_str_str]
  simp only [tSeq, tIfS, tNext, tRet, tRetN, tDrop, tAsg, tC, cVar, tOp, tCB, tCons, tNil, tTup, tLst, tIf, tAnd, tOr, tNot, cTest, cTru, oTru, cAnd, cOr, cNot, cUn, cChain, gName, cTupG, gCons, gNil, gSub, oLt, oLe, oGt, oGe, oGtK, oGeK, oBor, oIs, oIsNot, oSub, oMul, oFdiv, oMod, oPow, cPar, cPar3, cAug, tDNewK, cCall, cAttr, frzE, List.mem_singleton, List.lookup_cons_self, List.getElem?_cons_zero, List.getElem?_cons_succ, List.set_cons_zero, List.set_cons_succ, Option.some.injEq, reduceCtorEq, if_true, if_false, Bool.true_eq_false, Bool.false_eq_true, decide_eq_true_eq, ite_true, ite_false, ↓reduceIte, List.length_cons, List.length_nil, true_and, and_true, exists_eq_left', exists_eq_left, List.cons.injEq]
  intro a ha hk hT
  have la : look K H a = some (.tup [.str "here", .str "silent", .str "gone"]) := by unfold look; rw [ha]; exact hk
  simp only [oIn, la]
  refine ⟨rfl, rfl, ?_⟩
  have := h H rfl
  have e : (false ^^ inV (V.str w) [V.str "here", V.str "silent", V.str "gone"]) = decide (w ∈ wrds) := by
    have bq : ∀ a b : Str, (a == b) = decide (b = a) := fun a b => by
      by_cases h : a = b
      · subst h; simp
      · have h2 : ¬ b = a := fun z => h z.symm
        simp [h, h2]
    simp only [inV, eqV, List.any_cons, List.any_nil, bq, Bool.or_false]
    simp [wrds]
  rw [e]; exact this
theorem s_is_place {i : Int} (h : Q (.bl (decide (0 ≤ i ∧ i ≤ 255))) H) : SP K (n+2) "is_place" [.int i] H Q E := by
  refine o_is_place ?_
  unfold r_is_place
  simp only [tSeq, tIfS, tNext, tRet, tRetN, tDrop, tAsg, tC, cVar, tOp, tCB, tCons, tNil, tTup, tLst, tIf, tAnd, tOr, tNot, cTest, cTru, oTru, cAnd, cOr, cNot, cUn, cChain, gName, cTupG, gCons, gNil, gSub, oLt, oLe, oGt, oGe, oGtK, oGeK, oBor, oIs, oIsNot, oSub, oMul, oFdiv, oMod, oPow, cPar, cPar3, cAug, tDNewK, cCall, cAttr, frzE, List.mem_singleton, List.lookup_cons_self, List.getElem?_cons_zero, List.getElem?_cons_succ, List.set_cons_zero, List.set_cons_succ, Option.some.injEq, reduceCtorEq, if_true, if_false, Bool.true_eq_false, Bool.false_eq_true, decide_eq_true_eq, ite_true, ite_false, ↓reduceIte, List.length_cons, List.length_nil, true_and, and_true, exists_eq_left', exists_eq_left, List.cons.injEq]
  refine o_is_whole ?_
  unfold r_is_whole
  simp only [tSeq, tIfS, tNext, tRet, tRetN, tDrop, tAsg, tC, cVar, tOp, tCB, tCons, tNil, tTup, tLst, tIf, tAnd, tOr, tNot, cTest, cTru, oTru, cAnd, cOr, cNot, cUn, cChain, gName, cTupG, gCons, gNil, gSub, oLt, oLe, oGt, oGe, oGtK, oGeK, oBor, oIs, oIsNot, oSub, oMul, oFdiv, oMod, oPow, cPar, cPar3, cAug, tDNewK, cCall, cAttr, frzE, List.mem_singleton, List.lookup_cons_self, List.getElem?_cons_zero, List.getElem?_cons_succ, List.set_cons_zero, List.set_cons_succ, Option.some.injEq, reduceCtorEq, if_true, if_false, Bool.true_eq_false, Bool.false_eq_true, decide_eq_true_eq, ite_true, ite_false, ↓reduceIte, List.length_cons, List.length_nil, true_and, and_true, exists_eq_left', exists_eq_left, List.cons.injEq]
  rw [isi_ty (n := "int") rfl kb_int_int]
  simp only [tSeq, tIfS, tNext, tRet, tRetN, tDrop, tAsg, tC, cVar, tOp, tCB, tCons, tNil, tTup, tLst, tIf, tAnd, tOr, tNot, cTest, cTru, oTru, cAnd, cOr, cNot, cUn, cChain, gName, cTupG, gCons, gNil, gSub, oLt, oLe, oGt, oGe, oGtK, oGeK, oBor, oIs, oIsNot, oSub, oMul, oFdiv, oMod, oPow, cPar, cPar3, cAug, tDNewK, cCall, cAttr, frzE, List.mem_singleton, List.lookup_cons_self, List.getElem?_cons_zero, List.getElem?_cons_succ, List.set_cons_zero, List.set_cons_succ, Option.some.injEq, reduceCtorEq, if_true, if_false, Bool.true_eq_false, Bool.false_eq_true, decide_eq_true_eq, ite_true, ite_false, ↓reduceIte, List.length_cons, List.length_nil, true_and, and_true, exists_eq_left', exists_eq_left, List.cons.injEq]
  rw [isi_ty (n := "int") rfl kb_int_bool]
  simp only [tSeq, tIfS, tNext, tRet, tRetN, tDrop, tAsg, tC, cVar, tOp, tCB, tCons, tNil, tTup, tLst, tIf, tAnd, tOr, tNot, cTest, cTru, oTru, cAnd, cOr, cNot, cUn, cChain, gName, cTupG, gCons, gNil, gSub, oLt, oLe, oGt, oGe, oGtK, oGeK, oBor, oIs, oIsNot, oSub, oMul, oFdiv, oMod, oPow, cPar, cPar3, cAug, tDNewK, cCall, cAttr, frzE, List.mem_singleton, List.lookup_cons_self, List.getElem?_cons_zero, List.getElem?_cons_succ, List.set_cons_zero, List.set_cons_succ, Option.some.injEq, reduceCtorEq, if_true, if_false, Bool.true_eq_false, Bool.false_eq_true, decide_eq_true_eq, ite_true, ite_false, ↓reduceIte, List.length_cons, List.length_nil, true_and, and_true, exists_eq_left', exists_eq_left, List.cons.injEq]
  by_cases a : 0 ≤ i <;> by_cases b : i ≤ 255 <;> simp [a, b, oTru] at h ⊢ <;> exact h
theorem s_need_place {i : Int} (hi : 0 ≤ i ∧ i ≤ 255) (h : Q .non H) : SP K (n+3) "need_place" [.int i] H Q E := by
  refine o_need_place ?_
  unfold r_need_place
  refine ifS_ fun A B hA hB => ?_
  simp only [tSeq, tIfS, tNext, tRet, tRetN, tDrop, tAsg, tC, cVar, tOp, tCB, tCons, tNil, tTup, tLst, tIf, tAnd, tOr, tNot, cTest, cTru, oTru, cAnd, cOr, cNot, cUn, cChain, gName, cTupG, gCons, gNil, gSub, oLt, oLe, oGt, oGe, oGtK, oGeK, oBor, oIs, oIsNot, oSub, oMul, oFdiv, oMod, oPow, cPar, cPar3, cAug, tDNewK, cCall, cAttr, frzE, List.mem_singleton, List.lookup_cons_self, List.getElem?_cons_zero, List.getElem?_cons_succ, List.set_cons_zero, List.set_cons_succ, Option.some.injEq, reduceCtorEq, if_true, if_false, Bool.true_eq_false, Bool.false_eq_true, decide_eq_true_eq, ite_true, ite_false, ↓reduceIte, List.length_cons, List.length_nil, true_and, and_true, exists_eq_left', exists_eq_left, List.cons.injEq]
  refine s_is_place ?_
  simp only [hi, oTru, decide_true, and_self, Bool.not_true, tSeq, tIfS, tNext, tRet, tRetN, tDrop, tAsg, tC, cVar, tOp, tCB, tCons, tNil, tTup, tLst, tIf, tAnd, tOr, tNot, cTest, cTru, oTru, cAnd, cOr, cNot, cUn, cChain, gName, cTupG, gCons, gNil, gSub, oLt, oLe, oGt, oGe, oGtK, oGeK, oBor, oIs, oIsNot, oSub, oMul, oFdiv, oMod, oPow, cPar, cPar3, cAug, tDNewK, cCall, cAttr, frzE, List.mem_singleton, List.lookup_cons_self, List.getElem?_cons_zero, List.getElem?_cons_succ, List.set_cons_zero, List.set_cons_succ, Option.some.injEq, reduceCtorEq, if_true, if_false, Bool.true_eq_false, Bool.false_eq_true, decide_eq_true_eq, ite_true, ite_false, ↓reduceIte, List.length_cons, List.length_nil, true_and, and_true, exists_eq_left', exists_eq_left, List.cons.injEq]
  exact hB _ h
end
end WR.L

set_option Elab.async false
set_option linter.all false
set_option maxRecDepth 100000
set_option maxHeartbeats 4000000
namespace WR.L
open PySem PySem.Spec PyProof.Rows L2
def prF (ro row : R3) : R3 :=
  if row.1 ≠ ro.1 ∧ ro.2.1 ≤ row.2.1 then (ro.1, row.2.1 + 1, ro.2.2)
  else if ro.2.2 ≠ "here" then lat (ro.1, row.2.1, row.2.2) ro
  else if row.2.2 = "here" then (ro.1, (if row.2.1 > ro.2.1 then row.2.1 else ro.2.1), "here")
  else (ro.1, (if ro.2.1 ≤ row.2.1 then row.2.1 + 1 else ro.2.1), "here")
def heardF (own : Str) (rs : RwG R3) (name : Str) (row : R3) : R3 := if name = own then prF ((gget rs own).getD default) row else match gget rs name with
  | some o => lat row o
  | none => row
def okW (rs : RwG R3) : Prop := ∀ r ∈ rs, r.2.2.2 ∈ wrds
theorem here_w : ("here" : Str) ∈ wrds := by decide +kernel
theorem lat_w {a b : R3} (ha : a.2.2 ∈ wrds) (hb : b.2.2 ∈ wrds) : (lat a b).2.2 ∈ wrds := by
  unfold lat; split <;> assumption
theorem prF_w {ro row : R3} (ho : ro.2.2 ∈ wrds) (hr : row.2.2 ∈ wrds) : (prF ro row).2.2 ∈ wrds := by
  unfold prF
  split
  · exact ho
  · split
    · exact lat_w hr ho
    · split <;> exact here_w
theorem okW.get {rs : RwG R3} (h : okW rs) {s : Str} {o : R3} (e : gget rs s = some o) : o.2.2 ∈ wrds := h _ (gget_in e)
theorem heardF_w {own : Str} {rs : RwG R3} {name : Str} {row : R3} (h : okW rs) (hr : row.2.2 ∈ wrds) {ro : R3} (ho : gget rs own = some ro) : (heardF own rs name row).2.2 ∈ wrds := by
  unfold heardF
  split
  · rw [ho]; exact prF_w (h.get ho) hr
  · split
    · rename_i o e
      exact lat_w hr (h.get e)
    · exact hr
section
variable {K : PySem.W.Frag} {n : Nat} {H : Hp} {Q : VK} {E : XK}
def d3 (r : R3) : PyData := .tuple [.int r.1, .int r.2.1, .str r.2.2]
theorem wrd_ok : ∀ w ∈ wrds, PyData.strOk w = true := by decide +kernel
theorem dp3 {a : Addr} {r : R3} (h : H a = some (.tup (enc3 r))) : Dp K H (.ref a) (d3 r) := .tup (.of h) (.cons (.int _) (.cons (.int _) (.cons (.str _) .nil)))
theorem shaped3 {r : R3} (h : r.2.2 ∈ wrds) : SeqAt.shaped (d3 r) = true := by
  refine Bool.and_eq_true_iff.mpr ⟨?_, decide_eq_true ?_⟩
  · simp only [d3, PyData.canLay0, PyData.canLayAll0, wrd_ok _ h, Bool.and_true]
  · simp [d3, PyData.depth, PyData.depthAll]
theorem eqv3 (a b : R3) : PyData.eqv (d3 a) (d3 b) = decide (a = b) := by
  obtain ⟨a1, a2, a3⟩ := a
  obtain ⟨b1, b2, b3⟩ := b
  simp only [d3, PyData.eqv, PyData.eqvAll, Bool.and_true]
  by_cases h1 : a1 = b1 <;> by_cases h2 : a2 = b2 <;> by_cases h3 : a3 = b3 <;> simp [h1, h2, h3]
theorem ne3 {g : G} {a b : Addr} {ra rb : R3} (hg : g.K = K) (ha : H a = some (.tup (enc3 ra))) (hb : H b = some (.tup (enc3 rb))) (wa : ra.2.2 ∈ wrds) (wb : rb.2.2 ∈ wrds) (q : Q (.bl (!decide (ra = rb))) H) : oNeG g (.ref a) (.ref b) H Q := by
  subst hg
  unfold oNeG
  rw [ins_tup (K := g.K) (look_of_tup ha)]
  refine .inl (.inr ⟨_, _, dp3 ha, dp3 hb, shaped3 wa, shaped3 wb, ?_⟩)
  rw [eqv3]; exact q
def VAt (K : PySem.W.Frag) (H : Hp) (p d : Addr) (own : Str) (rs : RwG R3) : Prop := (∃ dx, H p = some (.ins (He.ga K "View") dx [("own_name", .str own), ("heard_rows", .ref d)])) ∧ GAt enc3 H d rs
theorem VAt.ex {H H' : Hp} {p d : Addr} {own : Str} {rs : RwG R3} (x : Ex H H') (h : VAt K H p d own rs) : VAt K H' p d own rs := by
  obtain ⟨⟨dx, e⟩, r⟩ := h
  exact ⟨⟨dx, x _ _ e⟩, r.ex x⟩
theorem lk_rows {o d : V} : List.lookup ("heard_rows" : Str) [(("own_name" : Str), o), (("heard_rows" : Str), d)] = some d := by rfl
theorem s_put_right {p d : Addr} {own : Str} {rs : RwG R3} {ro : R3} {place number : Int} {word : Str} (W : VAt K H p d own rs) (ho : gget rs own = some ro) (wo : ro.2.2 ∈ wrds) (ww : word ∈ wrds)
    (h : ∀ c H', Ex H H' → H' c = some (.tup (enc3 (prF ro (place, number, word)))) → Q (.ref c) H') : SP K (n+3) "View.put_right" [.ref p, .int place, .int number, .str word] H Q E := by
  obtain ⟨⟨dx, hp⟩, kvs, hd, r⟩ := id W
  obtain ⟨t, hv, ht⟩ := r.some ho
  refine o_View_put_right ?_
  unfold r_View_put_right
  refine seq_ fun N1 h1 => ?_
  simp only [tAsg, tOp, cAttr, cVar, ins_ins hp, lk_rows, List.lookup_cons_self, List.mem_singleton, true_and, List.getElem?_cons_zero, List.getElem?_cons_succ]
  rw [ix_dS hd hv]
  refine tup3_ (look_of_tup ht) (h1 _ _ (seq_ fun N2 h2 => ifS_ fun A B hA hB => ?_))
  simp only [tAnd, cTest, tOp, cVar, List.set_cons_zero, List.set_cons_succ, List.getElem?_cons_zero, List.getElem?_cons_succ]
  have e0 : prF ro (place, number, word) = if place ≠ ro.1 ∧ ro.2.1 ≤ number then (ro.1, number + 1, ro.2.2) else if ro.2.2 ≠ "here" then lat (ro.1, number, word) ro else if word = "here" then (ro.1, (if number > ro.2.1 then number else ro.2.1), "here") else (ro.1, (if ro.2.1 ≤ number then number + 1 else ro.2.1), "here") := rfl
  have rest : ¬ (place ≠ ro.1 ∧ ro.2.1 ≤ number) → B H := by
    intro c
    rw [if_neg c] at e0
    refine hB _ ?_
    simp only [tNext]
    refine h2 _ _ (seq_ fun N3 h3 => ifS_ fun A3 B3 hA3 hB3 => ?_)
    simp only [cTest, tOp, cVar, tC, List.getElem?_cons_zero, List.getElem?_cons_succ]
    refine ne_scal rfl rfl rfl ?_
    by_cases c2 : ro.2.2 = "here"
    · simp only [c2, decide_true, Bool.not_true, Bool.false_eq_true, if_false]
      rw [if_neg (by simp [c2])] at e0
      refine hB3 _ ?_
      simp only [tNext]
      refine h3 _ _ (seq_ fun N4 h4 => ifS_ fun A4 B4 hA4 hB4 => ?_)
      simp only [cTest, tOp, cVar, tC, List.getElem?_cons_zero, List.getElem?_cons_succ]
      refine eq_scal rfl rfl rfl ?_
      by_cases c3 : word = "here"
      · simp only [c3, decide_true, if_true]
        rw [if_pos c3] at e0
        refine hA4 _ ?_
        simp only [bMax, tSeq, tIfS, tNext, tRet, tRetN, tDrop, tAsg, tC, cVar, tOp, tCB, tCons, tNil, tTup, tLst, tIf, tAnd, tOr, tNot, cTest, cTru, oTru, cAnd, cOr, cNot, cUn, cChain, gName, cTupG, gCons, gNil, gSub, oLt, oLe, oGt, oGe, oGtK, oGeK, oBor, oIs, oIsNot, oSub, oMul, oFdiv, oMod, oPow, cPar, cPar3, cAug, tDNewK, cCall, cAttr, frzE, List.mem_singleton, List.lookup_cons_self, List.getElem?_cons_zero, List.getElem?_cons_succ, List.set_cons_zero, List.set_cons_succ, Option.some.injEq, reduceCtorEq, if_true, if_false, Bool.true_eq_false, Bool.false_eq_true, decide_eq_true_eq, ite_true, ite_false, ↓reduceIte, List.length_cons, List.length_nil, true_and, and_true, exists_eq_left', exists_eq_left, List.cons.injEq]
        refine ⟨by simp only [sizeLine_eq]; omega, fun q hq => h q _ (Ex.refl.new hq) ?_⟩
        rw [upd_same, e0]; rfl
      · rw [show decide (V.str word = V.str "here") = false from by simpa using c3]
        simp only [Bool.false_eq_true, if_false]
        rw [if_neg c3] at e0
        refine hB4 _ ?_
        simp only [tNext]
        refine h4 _ _ ?_
        simp only [tSeq, tIfS, tNext, tRet, tRetN, tDrop, tAsg, tC, cVar, tOp, tCB, tCons, tNil, tTup, tLst, tIf, tAnd, tOr, tNot, cTest, cTru, oTru, cAnd, cOr, cNot, cUn, cChain, gName, cTupG, gCons, gNil, gSub, oLt, oLe, oGt, oGe, oGtK, oGeK, oBor, oIs, oIsNot, oSub, oMul, oFdiv, oMod, oPow, cPar, cPar3, cAug, tDNewK, cCall, cAttr, frzE, List.mem_singleton, List.lookup_cons_self, List.getElem?_cons_zero, List.getElem?_cons_succ, List.set_cons_zero, List.set_cons_succ, Option.some.injEq, reduceCtorEq, if_true, if_false, Bool.true_eq_false, Bool.false_eq_true, decide_eq_true_eq, ite_true, ite_false, ↓reduceIte, List.length_cons, List.length_nil, true_and, and_true, exists_eq_left', exists_eq_left, List.cons.injEq]
        by_cases c4 : ro.2.1 ≤ number
        · rw [if_pos (by simpa using c4)]
          simp only [oAdd]
          refine ⟨by simp only [sizeLine_eq]; omega, fun q hq => h q _ (Ex.refl.new hq) ?_⟩
          rw [upd_same, e0, if_pos c4]; rfl
        · rw [if_neg (by simpa using c4)]
          refine ⟨by simp only [sizeLine_eq]; omega, fun q hq => h q _ (Ex.refl.new hq) ?_⟩
          rw [upd_same, e0, if_neg c4]; rfl
    · rw [show (!decide (V.str ro.2.2 = V.str "here")) = true from by simpa using c2]
      simp only [if_true]
      rw [if_pos c2] at e0
      refine hA3 _ ?_
      simp only [tSeq, tIfS, tNext, tRet, tRetN, tDrop, tAsg, tC, cVar, tOp, tCB, tCons, tNil, tTup, tLst, tIf, tAnd, tOr, tNot, cTest, cTru, oTru, cAnd, cOr, cNot, cUn, cChain, gName, cTupG, gCons, gNil, gSub, oLt, oLe, oGt, oGe, oGtK, oGeK, oBor, oIs, oIsNot, oSub, oMul, oFdiv, oMod, oPow, cPar, cPar3, cAug, tDNewK, cCall, cAttr, frzE, List.mem_singleton, List.lookup_cons_self, List.getElem?_cons_zero, List.getElem?_cons_succ, List.set_cons_zero, List.set_cons_succ, Option.some.injEq, reduceCtorEq, if_true, if_false, Bool.true_eq_false, Bool.false_eq_true, decide_eq_true_eq, ite_true, ite_false, ↓reduceIte, List.length_cons, List.length_nil, true_and, and_true, exists_eq_left', exists_eq_left, List.cons.injEq]
      refine ⟨by simp only [sizeLine_eq]; omega, fun q1 hq1 => ?_⟩
      refine ⟨by simp only [sizeLine_eq]; omega, fun q2 hq2 => ?_⟩
      have e1 : Ex H (upd H q1 (.tup [.int ro.1, .int number, .str word])) := Ex.refl.new hq1
      have k1 : (upd H q1 (.tup [.int ro.1, .int number, .str word])) q1 = some (.tup (enc3 (ro.1, number, word))) := upd_same
      generalize upd H q1 (.tup [.int ro.1, .int number, .str word]) = H1 at e1 k1 hq2 ⊢
      have e2 : Ex H1 (upd H1 q2 (.tup [.int ro.1, .int ro.2.1, .str ro.2.2])) := Ex.refl.new hq2
      have k2 : (upd H1 q2 (.tup [.int ro.1, .int ro.2.1, .str ro.2.2])) q2 = some (.tup (enc3 ro)) := upd_same
      refine s_later (e2 _ _ k1) k2 ww wo fun c H3 e3 k3 => h c H3 ((e1.trans e2).trans e3) ?_
      rw [k3, e0]
  refine ne_scal rfl rfl rfl ?_
  by_cases c1 : place = ro.1
  · rw [show (!decide (V.int place = V.int ro.1)) = false from by simpa using c1]
    simp only [Bool.false_eq_true, if_false]
    exact rest fun z => z.1 c1
  · rw [show (!decide (V.int place = V.int ro.1)) = true from by simpa using c1]
    simp only [if_true, oGeK, oGe]
    by_cases c2 : ro.2.1 ≤ number
    · simp only [c2, decide_true, if_true]
      refine hA _ ?_
      simp only [oAdd, tSeq, tIfS, tNext, tRet, tRetN, tDrop, tAsg, tC, cVar, tOp, tCB, tCons, tNil, tTup, tLst, tIf, tAnd, tOr, tNot, cTest, cTru, oTru, cAnd, cOr, cNot, cUn, cChain, gName, cTupG, gCons, gNil, gSub, oLt, oLe, oGt, oGe, oGtK, oGeK, oBor, oIs, oIsNot, oSub, oMul, oFdiv, oMod, oPow, cPar, cPar3, cAug, tDNewK, cCall, cAttr, frzE, List.mem_singleton, List.lookup_cons_self, List.getElem?_cons_zero, List.getElem?_cons_succ, List.set_cons_zero, List.set_cons_succ, Option.some.injEq, reduceCtorEq, if_true, if_false, Bool.true_eq_false, Bool.false_eq_true, decide_eq_true_eq, ite_true, ite_false, ↓reduceIte, List.length_cons, List.length_nil, true_and, and_true, exists_eq_left', exists_eq_left, List.cons.injEq]
      refine ⟨by simp only [sizeLine_eq]; omega, fun q hq => h q _ (Ex.refl.new hq) ?_⟩
      rw [upd_same, e0, if_pos ⟨c1, c2⟩]; rfl
    · simp only [c2, decide_false, Bool.false_eq_true, if_false]
      exact rest fun z => c2 z.2
end
end WR.L

set_option Elab.async false
set_option linter.all false
set_option maxRecDepth 100000
set_option maxHeartbeats 4000000
namespace WR.L
open PySem PySem.Spec PyProof.Rows L2
section
variable {K : PySem.W.Frag} {n : Nat} {H : Hp} {Q : VK} {E : XK}
/-- a row stored -/
theorem gat_put {H : Hp} {d a : Addr} {kvs : List (Key × V)} {rs : RwG R3} {s : Str} {r : R3} (hd : H d = some (.dK kvs)) (g : RG enc3 H kvs rs) (ha : H a = some (.tup (enc3 r))) : GAt enc3 (upd H d (.dK (putK kvs (.inr s) (.ref a)))) d (gput rs s r) := by
  refine ⟨_, upd_same, (RG.put ha g).tp fun t xs e => ?_⟩
  have : t ≠ d := fun z => by rw [z, hd] at e; cases e
  rw [upd_ne this]; exact e
theorem s_hear {p d : Addr} {own name : Str} {rs : RwG R3} {ro : R3} {place number : Int} {word : Str} (W : VAt K H p d own rs) (ow : okW rs) (ho : gget rs own = some ro) (hl : rs.length ≤ 900) (hs : name.length ≤ 1000) (hn : isNm name = true) (hp1 : 0 ≤ place ∧ place ≤ 255) (hnu : 1 ≤ number) (ww : word ∈ wrds)
    (h : ∀ H', VAt K H' p d own (gput rs name (heardF own rs name (place, number, word))) → Exd d H H' → Q (.bl (decide (gget rs name ≠ some (heardF own rs name (place, number, word))))) H') : SP K (n+4) "View.hear" [.ref p, .str name, .int place, .int number, .str word] H Q E := by
  refine o_View_hear ?_
  unfold r_View_hear
  refine seq_ fun N1 h1 => ?_
  simp only [tDrop, cCall, tCons, tNil, cVar, List.getElem?_cons_zero, List.getElem?_cons_succ]
  refine ⟨rfl, (by first | rfl | trivial), s_need_name hs hn fun H1 e1 => h1 _ _ (seq_ fun N2 h2 => ?_)⟩
  simp only [tDrop, cCall, tCons, tNil, cVar, List.getElem?_cons_zero, List.getElem?_cons_succ]
  refine ⟨rfl, (by first | rfl | trivial), s_need_place hp1 (h2 _ _ (seq_ fun N3 h3 => ifS_ fun A3 B3 hA3 hB3 => ?_))⟩
  simp only [tNot, cTru, cCall, tCons, tNil, cVar, List.getElem?_cons_zero, List.getElem?_cons_succ]
  refine ⟨rfl, (by first | rfl | trivial), s_is_number ?_⟩
  simp only [oTru, hnu, decide_true, Bool.not_true, Bool.false_eq_true, if_false]
  refine hB3 _ ?_
  simp only [tNext]
  refine h3 _ _ (seq_ fun N4 h4 => ifS_ fun A4 B4 hA4 hB4 => ?_)
  simp only [tNot, cTru, cCall, tCons, tNil, cVar, List.getElem?_cons_zero, List.getElem?_cons_succ]
  refine ⟨rfl, (by first | rfl | trivial), s_is_word fun H' eH => ?_⟩
  subst eH
  simp only [oTru, ww, decide_true, Bool.not_true, Bool.false_eq_true, if_false]
  refine hB4 _ ?_
  simp only [tNext]
  refine h4 _ _ (seq_ fun N5 h5 => ?_)
  try simp only [tSeq, tIfS, tNext, tRet, tRetN, tDrop, tAsg, tC, cVar, tOp, tCB, tCons, tNil, tTup, tLst, tIf, tAnd, tOr, tNot, cTest, cTru, oTru, cAnd, cOr, cNot, cUn, cChain, gName, cTupG, gCons, gNil, gSub, oLt, oLe, oGt, oGe, oGtK, oGeK, oBor, oIs, oIsNot, oSub, oMul, oFdiv, oMod, oPow, cPar, cPar3, cAug, tDNewK, cCall, cAttr, frzE, List.mem_singleton, List.lookup_cons_self, List.getElem?_cons_zero, List.getElem?_cons_succ, List.set_cons_zero, List.set_cons_succ, Option.some.injEq, reduceCtorEq, if_true, if_false, Bool.true_eq_false, Bool.false_eq_true, decide_eq_true_eq, ite_true, ite_false, ↓reduceIte, List.length_cons, List.length_nil, true_and, and_true, exists_eq_left', exists_eq_left, List.cons.injEq]
  refine ⟨by simp only [sizeLine_eq]; omega, fun a ha => h5 _ _ (seq_ fun N6 h6 => ?_)⟩
  have e2 : Ex H' (upd H' a (.tup [.int place, .int number, .str word])) := Ex.refl.new ha
  have k2 : (upd H' a (.tup [.int place, .int number, .str word])) a = some (.tup (enc3 (place, number, word))) := upd_same
  generalize upd H' a (.tup [.int place, .int number, .str word]) = H2 at e2 k2 ⊢
  have e12 := e1.trans e2
  have W2 := W.ex e12
  have fw := heardF_w (name := name) (row := (place, number, word)) ow ww ho
  have fin : ∀ (c : Addr) (H3 : Hp), Ex H2 H3 → H3 c = some (.tup (enc3 (heardF own rs name (place, number, word)))) → N6 [some (.ref p), some (.str name), some (.int place), some (.int number), some (.str word), some (.ref c), none] H3 := by
    intro c H3 e3 k3
    have W3 := W2.ex e3
    obtain ⟨⟨dx, hp⟩, kvs, hd, r⟩ := id W3
    have e03 := e12.trans e3
    refine h6 _ _ (seq_ fun N7 h7 => ?_)
    simp only [tAsg, cOr, tOp, cAttr, cVar, ins_ins hp, lk_rows, List.lookup_cons_self, List.mem_singleton, true_and, List.getElem?_cons_zero, List.getElem?_cons_succ]
    rw [in_dS hd, r.isSome]
    have last : ∀ b : Bool, b = decide (gget rs name ≠ some (heardF own rs name (place, number, word))) → N7 [some (.ref p), some (.str name), some (.int place), some (.int number), some (.str word), some (.ref c), some (.bl b)] H3 := by
      intro b hb
      refine h7 _ _ (seq_ fun N8 h8 => ?_)
      simp only [tAsg, gSub, cAttr, cVar, ins_ins hp, lk_rows, List.lookup_cons_self, List.mem_singleton, true_and, List.getElem?_cons_zero, List.getElem?_cons_succ]
      have kl : kvs.length ≤ 900 := by rw [r.len]; exact hl
      refine set_dS hd (by omega) (h8 _ _ ?_)
      try simp only [tSeq, tIfS, tNext, tRet, tRetN, tDrop, tAsg, tC, cVar, tOp, tCB, tCons, tNil, tTup, tLst, tIf, tAnd, tOr, tNot, cTest, cTru, oTru, cAnd, cOr, cNot, cUn, cChain, gName, cTupG, gCons, gNil, gSub, oLt, oLe, oGt, oGe, oGtK, oGeK, oBor, oIs, oIsNot, oSub, oMul, oFdiv, oMod, oPow, cPar, cPar3, cAug, tDNewK, cCall, cAttr, frzE, List.mem_singleton, List.lookup_cons_self, List.getElem?_cons_zero, List.getElem?_cons_succ, List.set_cons_zero, List.set_cons_succ, Option.some.injEq, reduceCtorEq, if_true, if_false, Bool.true_eq_false, Bool.false_eq_true, decide_eq_true_eq, ite_true, ite_false, ↓reduceIte, List.length_cons, List.length_nil, true_and, and_true, exists_eq_left', exists_eq_left, List.cons.injEq]
      have ndp : p ≠ d := fun z => by rw [z, hd] at hp; cases hp
      rw [hb]
      refine h _ ⟨⟨dx, by rw [upd_ne ndp]; exact hp⟩, gat_put hd r k3⟩ fun x o nx ex => ?_
      rw [upd_ne nx]; exact e03 _ _ ex
    cases eg : gget rs name with
    | none =>
      simp only [Option.isSome_none, Bool.xor_false, oTru, if_true]
      exact last true (by rw [eg]; simp)
    | some o =>
      simp only [Option.isSome_some, Bool.xor_true, Bool.not_true, oTru]
      obtain ⟨t, hv, ht⟩ := r.some eg
      simp only [ins_ins hp, lk_rows]
      rw [ix_dS hd hv]
      refine ⟨trivial, ne3 rfl ht k3 (ow.get eg) fw ?_⟩
      exact last _ (by rw [eg]; simp)
  refine ifS_ fun A B hA hB => ?_
  obtain ⟨⟨dx, hp⟩, kvs, hd, r⟩ := id W2
  simp only [cTest, tOp, cAttr, cVar, ins_ins hp, List.lookup_cons_self, List.mem_singleton, true_and, List.set_cons_zero, List.set_cons_succ, List.getElem?_cons_zero, List.getElem?_cons_succ]
  refine eq_scal rfl rfl rfl ?_
  by_cases c : name = own
  · subst c
    simp only [decide_true, if_true]
    refine hA _ ?_
    simp only [tAsg]
    refine mC_own (c_put_right_3 K _) ?_ fun P P' hh q => mono_var hh q
    try simp only [tSeq, tIfS, tNext, tRet, tRetN, tDrop, tAsg, tC, cVar, tOp, tCB, tCons, tNil, tTup, tLst, tIf, tAnd, tOr, tNot, cTest, cTru, oTru, cAnd, cOr, cNot, cUn, cChain, gName, cTupG, gCons, gNil, gSub, oLt, oLe, oGt, oGe, oGtK, oGeK, oBor, oIs, oIsNot, oSub, oMul, oFdiv, oMod, oPow, cPar, cPar3, cAug, tDNewK, cCall, cAttr, frzE, List.mem_singleton, List.lookup_cons_self, List.getElem?_cons_zero, List.getElem?_cons_succ, List.set_cons_zero, List.set_cons_succ, Option.some.injEq, reduceCtorEq, if_true, if_false, Bool.true_eq_false, Bool.false_eq_true, decide_eq_true_eq, ite_true, ite_false, ↓reduceIte, List.length_cons, List.length_nil, true_and, and_true, exists_eq_left', exists_eq_left, List.cons.injEq]
    refine ⟨p, dx, _, rfl, hp, lk2 rfl rfl, ?_⟩
    refine s_put_right W2 ho (ow.get ho) ww fun c H3 e3 k3 => fin c H3 e3 ?_
    rw [k3]
    unfold heardF
    rw [if_pos rfl, ho]; rfl
  · rw [show decide (V.str name = V.str own) = false from by simpa using c]
    simp only [Bool.false_eq_true, if_false]
    refine hB _ (ifS_ fun A2 B2 hA2 hB2 => ?_)
    simp only [cTest, tOp, cAttr, cVar, ins_ins hp, lk_rows, List.lookup_cons_self, List.mem_singleton, true_and, List.set_cons_zero, List.set_cons_succ, List.getElem?_cons_zero, List.getElem?_cons_succ]
    rw [in_dS hd, r.isSome]
    cases eg : gget rs name with
    | none =>
      simp only [Option.isSome_none, Bool.xor_false, Bool.false_eq_true, if_false]
      refine hB2 _ ?_
      simp only [tNext]
      refine fin a H2 Ex.refl ?_
      rw [k2]
      unfold heardF
      rw [if_neg c, eg]
    | some o =>
      simp only [Option.isSome_some, Bool.xor_true, Bool.not_false, if_true]
      refine hA2 _ ?_
      obtain ⟨t, hv, ht⟩ := r.some eg
      simp only [tAsg, cCall, tCons, tNil, tOp, cAttr, cVar, ins_ins hp, lk_rows, List.lookup_cons_self, List.mem_singleton, true_and, List.set_cons_zero, List.set_cons_succ, List.getElem?_cons_zero, List.getElem?_cons_succ]
      rw [ix_dS hd hv]
      refine ⟨rfl, (by first | rfl | trivial), s_later k2 ht ww (ow.get eg) fun c2 H3 e3 k3 => fin c2 H3 e3 ?_⟩
      rw [k3]
      unfold heardF
      rw [if_neg c, eg]
end
end WR.L

set_option Elab.async false
set_option linter.all false
set_option maxRecDepth 100000
set_option maxHeartbeats 4000000
namespace WR.L
open PySem PySem.Spec PyProof.Rows L2
section
variable {K : PySem.W.Frag} {n : Nat} {H : Hp} {Q : VK} {E : XK}
theorem mono_L3 {x y z : V} {σ : L2.St} {P P' : V → Hp → Prop} (h : ∀ x H, P x H → P' x H) (q : tLst (tCons (tC x) (tCons (tC y) (tCons (tC z) tNil))) σ H P) : tLst (tCons (tC x) (tCons (tC y) (tCons (tC z) tNil))) σ H P' := by
  simp only [tLst, tCons, tC, tNil] at q ⊢
  exact ⟨q.1, fun p hp => h _ _ (q.2 p hp)⟩
theorem lat_self (r : R3) : lat r r = r := by unfold lat; split <;> rfl
end
end WR.L

set_option Elab.async false
set_option linter.all false
set_option maxRecDepth 100000
set_option maxHeartbeats 4000000
namespace WR.L
open PySem PySem.Spec PyProof.Rows L2
section
variable {K : PySem.W.Frag} {n : Nat} {H : Hp} {Q : VK} {E : XK}
theorem s_in_order {d : Addr} {rs : RwG R3} (W : GAt enc3 H d rs) (hl : rs.length < 64) (nd : (rs.map (·.1)).Nodup) (h : ∀ ts q H', GTold rs ts → Ex H H' → H q = none → GAt enc3 H' q ts → Q (.ref q) H') : SP K (n+1) "in_order" [.ref d] H Q E := by
  refine o_in_order ?_
  obtain ⟨kvs, hd, r⟩ := W
  simp only [r_in_order, tRet]
  refine .inl ?_
  simp only [cDc, cIter, frzE, tCB, tCons, tNil, cVar, List.getElem?_cons_zero]
  refine .inl ?_
  simp only [bSorted, look_of_dK hd, r.keys]
  refine ⟨by rw [List.length_map]; exact hl, fun ys hp1 hs1 l hl1 => ?_⟩
  have ndl : d ≠ l := ne_of_none hd hl1
  try simp only [tSeq, tIfS, tNext, tRet, tRetN, tDrop, tAsg, tC, cVar, tOp, tCB, tCons, tNil, tTup, tLst, tIf, tAnd, tOr, tNot, cTest, cTru, oTru, cAnd, cOr, cNot, cUn, cChain, gName, cTupG, gCons, gNil, gSub, oLt, oLe, oGt, oGe, oGtK, oGeK, oBor, oIs, oIsNot, oSub, oMul, oFdiv, oMod, oPow, cPar, cPar3, cAug, tDNewK, cCall, cAttr, frzE, List.mem_singleton, List.lookup_cons_self, List.getElem?_cons_zero, List.getElem?_cons_succ, List.set_cons_zero, List.set_cons_succ, Option.some.injEq, reduceCtorEq, if_true, if_false, Bool.true_eq_false, Bool.false_eq_true, decide_eq_true_eq, ite_true, ite_false, ↓reduceIte, List.length_cons, List.length_nil, true_and, and_true, exists_eq_left', exists_eq_left, List.cons.injEq]
  simp only [upd_same, look_of_lst upd_same]
  intro D hD
  have hlD : l ≠ D := fun z => by rw [z, upd_same] at hD; cases hD
  have ndy : ys.Nodup := hp1.nodup_iff.mpr nd
  have hDH : H D = none := (Ex.refl.new hl1).none hD
  refine lpd_inv (n := ys.length) (fun j H' => Ex (upd H l (.lst (ys.map V.str))) H' ∧ GAt enc3 H' D (gordr rs (ys.take j))) ?_ ?_ ⟨Ex.refl.new hD, [], upd_same, trivial⟩
  · rintro H' ⟨h1, h2⟩
    refine ⟨itl_stop (h1 _ _ upd_same) (by simp), h _ D H' ⟨ys, hp1, hs1, rfl⟩ ((Ex.refl.new hl1).trans h1) hDH ?_⟩
    rw [List.take_length] at h2
    exact h2
  · rintro j H' hj ⟨h1, kv2, e2, r2⟩ R hR
    have el := h1 l _ upd_same
    refine ⟨itl_go el (by simpa using hj), ?_⟩
    intro x H2 hy
    obtain ⟨rfl, hx⟩ := itl_yld el hy
    rw [List.getElem?_map] at hx
    cases ey : ys[j]? with
    | none => rw [ey] at hx; cases hx
    | some s =>
      rw [ey] at hx
      obtain rfl : V.str s = x := Option.some.inj hx
      refine ⟨rfl, ?_⟩
      simp only [tYes, wipe, tSeq, tIfS, tNext, tRet, tRetN, tDrop, tAsg, tC, cVar, tOp, tCB, tCons, tNil, tTup, tLst, tIf, tAnd, tOr, tNot, cTest, cTru, oTru, cAnd, cOr, cNot, cUn, cChain, gName, cTupG, gCons, gNil, gSub, oLt, oLe, oGt, oGe, oGtK, oGeK, oBor, oIs, oIsNot, oSub, oMul, oFdiv, oMod, oPow, cPar, cPar3, cAug, tDNewK, cCall, cAttr, frzE, List.mem_singleton, List.lookup_cons_self, List.getElem?_cons_zero, List.getElem?_cons_succ, List.set_cons_zero, List.set_cons_succ, Option.some.injEq, reduceCtorEq, if_true, if_false, Bool.true_eq_false, Bool.false_eq_true, decide_eq_true_eq, ite_true, ite_false, ↓reduceIte, List.length_cons, List.length_nil, true_and, and_true, exists_eq_left', exists_eq_left, List.cons.injEq]
      have hd2 := h1 d _ (by rw [upd_ne ndl]; exact hd)
      try simp only [tSeq, tIfS, tNext, tRet, tRetN, tDrop, tAsg, tC, cVar, tOp, tCB, tCons, tNil, tTup, tLst, tIf, tAnd, tOr, tNot, cTest, cTru, oTru, cAnd, cOr, cNot, cUn, cChain, gName, cTupG, gCons, gNil, gSub, oLt, oLe, oGt, oGe, oGtK, oGeK, oBor, oIs, oIsNot, oSub, oMul, oFdiv, oMod, oPow, cPar, cPar3, cAug, tDNewK, cCall, cAttr, frzE, List.mem_singleton, List.lookup_cons_self, List.getElem?_cons_zero, List.getElem?_cons_succ, List.set_cons_zero, List.set_cons_succ, Option.some.injEq, reduceCtorEq, if_true, if_false, Bool.true_eq_false, Bool.false_eq_true, decide_eq_true_eq, ite_true, ite_false, ↓reduceIte, List.length_cons, List.length_nil, true_and, and_true, exists_eq_left', exists_eq_left, List.cons.injEq]
      have r3 : RG enc3 H2 kvs rs := r.tp (((Ex.refl.new hl1).trans h1).tp)
      have hm : s ∈ rs.map (·.1) := hp1.mem_iff.mp (List.mem_of_getElem? ey)
      obtain ⟨pr, hpr⟩ := gget_mem hm
      obtain ⟨t, a, et⟩ := r3.some hpr
      rw [ix_dS hd2 a]
      refine ⟨kv2, .inr s, rfl, e2, ?_, hR _ ⟨?_, _, upd_same, ?_⟩⟩
      · rw [r2.len]
        have : (gordr rs (ys.take j)).length ≤ ys.length := by unfold gordr; rw [List.length_map, List.length_take]; omega
        have h3 : ys.length = rs.length := by rw [hp1.length_eq, List.length_map]
        exact small1000 (by omega)
      · intro b o eb
        have hb : b ≠ D := fun z => by rw [z, hD] at eb; cases eb
        rw [upd_ne hb]; exact h1 b o eb
      · have r4 := RG.put (n := s) et r2
        have e5 : gput (gordr rs (ys.take j)) s pr = gordr rs (ys.take (j + 1)) := by
          have := gordr_snoc (rs := rs) ndy ey
          rw [hpr] at this
          exact this
        rw [e5] at r4
        refine r4.tp fun b xs eb => ?_
        have hb : b ≠ D := fun z => by rw [z, e2] at eb; cases eb
        rw [upd_ne hb]; exact eb
theorem s_told {p d : Addr} {own : Str} {rs : RwG R3} (W : VAt K H p d own rs) (hl : rs.length < 64) (nd : (rs.map (·.1)).Nodup) (h : ∀ ts q H', GTold rs ts → Ex H H' → H q = none → GAt enc3 H' q ts → Q (.ref q) H') : SP K (n+2) "View.told" [.ref p] H Q E := by
  refine o_View_told ?_
  obtain ⟨⟨dx, hp⟩, g⟩ := W
  simp only [r_View_told, tRet, cCall, tCons, tNil, cAttr, cVar, ins_ins hp, lk_rows, List.lookup_cons_self, List.mem_singleton, true_and, List.getElem?_cons_zero, List.getElem?_cons_succ]
  exact ⟨rfl, (by first | rfl | trivial), s_in_order g hl nd h⟩
end
end WR.L

set_option Elab.async false
set_option linter.all false
set_option maxRecDepth 100000
set_option maxHeartbeats 4000000
namespace WR.L
open PySem PySem.Spec PyProof.Rows L2
def stepR (own : Str) (rs : RwG R3) (t : Str × R3) : RwG R3 := gput rs t.1 (heardF own rs t.1 t.2)
def joinR (own : Str) (rs ts : RwG R3) : RwG R3 := ts.foldl (stepR own) rs
def chg (own : Str) (rs : RwG R3) (t : Str × R3) : Bool := decide (gget rs t.1 ≠ some (heardF own rs t.1 t.2))
def jl (own : Str) : RwG R3 → RwG R3 → List Bool
  | _, [] => []
  | rs, t :: ts => chg own rs t :: jl own (stepR own rs t) ts
theorem joinR_snoc (own : Str) (rs ts : RwG R3) (t : Str × R3) : joinR own rs (ts ++ [t]) = stepR own (joinR own rs ts) t := by
  unfold joinR; rw [List.foldl_append]; rfl
theorem jl_snoc (own : Str) : ∀ (rs ts : RwG R3) (t : Str × R3), jl own rs (ts ++ [t]) = jl own rs ts ++ [chg own (joinR own rs ts) t]
  | rs, [], t => rfl
  | rs, s :: ts, t => by
    show chg own rs s :: jl own (stepR own rs s) (ts ++ [t]) = _
    rw [jl_snoc own (stepR own rs s) ts t]; rfl
theorem jl_len (own : Str) : ∀ (rs ts : RwG R3), (jl own rs ts).length = ts.length
  | rs, [] => rfl
  | rs, t :: ts => by show (jl own (stepR own rs t) ts).length + 1 = _; rw [jl_len]; rfl
def Up (x y : R3) : Prop := ¬ gtR y x
theorem heardF_get {own : Str} {rs rs' : RwG R3} {n : Str} {row : R3} (h : gget rs n = gget rs' n) : heardF own rs n row = heardF own rs' n row := by
  unfold heardF
  split
  · rename_i e; subst e; rw [h]
  · rw [h]
theorem gget_cons (t : Str × R3) (ts : RwG R3) (n : Str) : gget (t :: ts) n = if t.1 = n then some t.2 else gget ts n := by
  unfold gget
  by_cases h : t.1 = n <;> simp [List.find?_cons, h]
theorem gget_out {ts : RwG R3} {n : Str} (h : n ∉ ts.map (·.1)) : gget ts n = none := by
  cases e : gget ts n with
  | none => rfl
  | some p => exact absurd (List.mem_map_of_mem (f := (·.1)) (gget_in e)) h
theorem joinR_get {own : Str} : ∀ {ts rs : RwG R3} (nd : (ts.map (·.1)).Nodup) (n : Str), gget (joinR own rs ts) n = match gget ts n with
    | some row => some (heardF own rs n row)
    | none => gget rs n
  | [], rs, _, n => rfl
  | t :: ts, rs, nd, n => by
    rw [List.map_cons, List.nodup_cons] at nd
    show gget (joinR own (stepR own rs t) ts) n = _
    rw [joinR_get nd.2 n, gget_cons]
    unfold stepR
    by_cases h : t.1 = n
    · rw [if_pos h, gget_out (by rw [← h]; exact nd.1)]
      subst h
      simp only [gput_get, if_true]
    · rw [if_neg h]
      have h2 : ¬ n = t.1 := fun z => h z.symm
      have e : gget (gput rs t.1 (heardF own rs t.1 t.2)) n = gget rs n := by rw [gput_get, if_neg h2]
      cases q : gget ts n with
      | none => simp only [e]
      | some row => simp only; rw [heardF_get e]
/-- nothing is new -/
def NC (own : Str) (rs ts : RwG R3) : Prop := ∀ n row, gget ts n = some row → gget rs n = some (heardF own rs n row)
theorem gput_id {α : Type} {rs : RwG α} {s : Str} {p : α} (nd : (rs.map (·.1)).Nodup) (h : gget rs s = some p) : gput rs s p = rs := by
  have hm := gget_in h
  unfold gput
  rw [if_pos (List.any_eq_true.mpr ⟨_, hm, by simp⟩)]
  have : ∀ r ∈ rs, (if r.1 = s then (r.1, p) else r) = r := by
    intro r hr
    by_cases e : r.1 = s
    · rw [if_pos e]
      obtain ⟨r1, r2⟩ := r
      dsimp only at e ⊢
      subst e
      have := gget_nd nd hr
      rw [h] at this
      cases this; rfl
    · rw [if_neg e]
  rw [List.map_congr_left this, List.map_id'']
  intro x; rfl
theorem jl_nc {own : Str} : ∀ {ts rs : RwG R3} (nr : (rs.map (·.1)).Nodup) (nd : (ts.map (·.1)).Nodup), ((jl own rs ts).any id = false ↔ NC own rs ts) ∧ (NC own rs ts → joinR own rs ts = rs)
  | [], rs, _, _ => ⟨⟨fun _ n row e => (nomatch e), fun _ => rfl⟩, fun _ => rfl⟩
  | t :: ts, rs, nr, nd => by
    have nd' := nd
    rw [List.map_cons, List.nodup_cons] at nd
    have key : NC own rs (t :: ts) ↔ gget rs t.1 = some (heardF own rs t.1 t.2) ∧ NC own rs ts := by
      constructor
      · intro h
        refine ⟨h t.1 t.2 (by rw [gget_cons, if_pos rfl]), fun n row e => h n row ?_⟩
        have : t.1 ≠ n := fun z => nd.1 (by rw [z]; exact List.mem_map_of_mem (f := (·.1)) (gget_in e))
        rw [gget_cons, if_neg this]; exact e
      · rintro ⟨h1, h2⟩ n row e
        rw [gget_cons] at e
        by_cases z : t.1 = n
        · rw [if_pos z] at e; cases e; subst z; exact h1
        · rw [if_neg z] at e; exact h2 n row e
    by_cases h : gget rs t.1 = some (heardF own rs t.1 t.2)
    · have e : stepR own rs t = rs := gput_id nr h
      obtain ⟨i1, i2⟩ := jl_nc (ts := ts) nr nd.2
      refine ⟨?_, fun hn => ?_⟩
      · rw [key]
        show (chg own rs t :: jl own (stepR own rs t) ts).any id = false ↔ _
        rw [e, List.any_cons]
        have : chg own rs t = false := by unfold chg; simp [h]
        rw [this]
        simp only [id, Bool.false_or, h, true_and]
        exact i1
      · show joinR own (stepR own rs t) ts = rs
        rw [e]; exact i2 (key.mp hn).2
    · refine ⟨?_, fun hn => absurd (key.mp hn).1 h⟩
      rw [key]
      show (chg own rs t :: jl own (stepR own rs t) ts).any id = false ↔ _
      have : chg own rs t = true := by unfold chg; simp [h]
      rw [List.any_cons, this]
      simp [h]
/-! ## the order -/
theorem lat_up1 (x y : R3) : Up (lat x y) x := by
  unfold lat Up
  split
  · unfold gtR; omega
  · rename_i h; exact h
theorem lat_up2 (x y : R3) : Up (lat x y) y := by
  unfold lat Up
  split
  · rename_i h; unfold gtR at h ⊢; omega
  · unfold gtR; omega
theorem lat_eq {x y : R3} (hx : x.2.2 ∈ wrds) (hy : y.2.2 ∈ wrds) (h : Up x y) : lat x y = x := by
  unfold lat
  split
  · rfl
  · rename_i h2; exact (rk_inj hx hy h2 h).symm
theorem wi_here : wi "here" = 0 := by decide +kernel
theorem prF_up (ro row : R3) : Up (prF ro row) row := by
  unfold prF
  split
  · unfold Up gtR; dsimp only; omega
  · rename_i c
    split
    · by_cases h : row.1 = ro.1
      · rw [← h]; exact lat_up1 row ro
      · have h2 : row.2.1 < ro.2.1 := by
          rcases Int.lt_or_le row.2.1 ro.2.1 with z | z
          · exact z
          · exact absurd ⟨h, z⟩ c
        have := lat_up2 (ro.1, row.2.1, row.2.2) ro
        unfold Up gtR at this ⊢
        omega
    · split
      · rename_i h3
        unfold Up gtR
        dsimp only
        rw [h3, wi_here]
        by_cases h : row.1 = ro.1
        · split <;> omega
        · have h2 : row.2.1 < ro.2.1 := by
            rcases Int.lt_or_le row.2.1 ro.2.1 with z | z
            · exact z
            · exact absurd ⟨h, z⟩ c
          split <;> omega
      · unfold Up gtR
        dsimp only
        split <;> omega
theorem prF_self (r : R3) : prF r r = r := by
  obtain ⟨a, b, w⟩ := r
  unfold prF
  rw [if_neg (by simp)]
  by_cases h : w = "here"
  · subst h
    simp
  · rw [if_pos h]
    exact lat_self _
/-- two who have each other's rows: nothing is new, all is alike -/
theorem nc_same {a : Str} {A B : RwG R3} (h : ∀ n, gget A n = gget B n) : NC a A B := by
  intro n row e
  rw [← h] at e
  rw [e]
  unfold heardF
  split
  · rename_i z; subst z; rw [e]; simp [prF_self]
  · rw [e]; simp [lat_self]
theorem nc_alike {a b : Str} {A B : RwG R3} (hab : a ≠ b) (wA : okW A) (wB : okW B) (h1 : NC a A B) (h2 : NC b B A) : ∀ n, gget A n = gget B n := by
  intro n
  cases eA : gget A n with
  | none =>
    cases eB : gget B n with
    | none => rfl
    | some y =>
      have := h1 n y eB
      rw [eA] at this; cases this
  | some x =>
    cases eB : gget B n with
    | none =>
      have := h2 n x eA
      rw [eB] at this; cases this
    | some y =>
      have k1 := h1 n y eB
      have k2 := h2 n x eA
      rw [eA] at k1
      rw [eB] at k2
      have k1 := Option.some.inj k1
      have k2 := Option.some.inj k2
      unfold heardF at k1 k2
      have u1 : Up x y := by
        rw [k1]
        split
        · rename_i z; subst z; rw [eA]; exact prF_up _ _
        · rw [eA]; exact lat_up1 _ _
      have u2 : Up y x := by
        rw [k2]
        split
        · rename_i z; subst z; rw [eB]; exact prF_up _ _
        · rw [eB]; exact lat_up1 _ _
      rw [rk_inj (wA.get eA) (wB.get eB) u2 u1]
/-- after two rounds nothing is new -/
theorem rounds {a b : Str} {A B u v u2 : RwG R3} (hab : a ≠ b) (wA : okW A) (wB : okW B) (wu : okW u) (wv : okW v) {rb : R3} (hb : gget B b = some rb)
    (hu : ∀ n, gget u n = match gget B n with | some row => some (heardF a A n row) | none => gget A n)
    (hv : ∀ n, gget v n = match gget u n with | some row => some (heardF b B n row) | none => gget B n)
    (hu2 : ∀ n, gget u2 n = match gget v n with | some row => some (heardF a u n row) | none => gget u n) : ∀ n, gget u2 n = gget v n := by
  have i1 : ∀ n row, gget B n = some row → ∃ x, gget u n = some x ∧ Up x row := by
    intro n row e
    have := hu n
    rw [e] at this
    refine ⟨_, this, ?_⟩
    unfold heardF
    split
    · exact prF_up _ _
    · split
      · exact lat_up1 _ _
      · unfold Up gtR; omega
  have i2 : ∀ n, n ≠ b → gget v n = gget u n := by
    intro n hn
    have := hv n
    cases e : gget u n with
    | none =>
      rw [e] at this
      cases eB : gget B n with
      | none => rw [this]; exact eB
      | some row =>
        obtain ⟨x, ex, _⟩ := i1 n row eB
        rw [e] at ex; cases ex
    | some x =>
      rw [e] at this
      simp only at this
      rw [this]
      unfold heardF
      rw [if_neg hn]
      cases eB : gget B n with
      | none => rfl
      | some row =>
        obtain ⟨x', ex, up⟩ := i1 n row eB
        rw [e] at ex; cases ex
        simp only
        rw [lat_eq (wu.get e) (wB.get eB) up]
  intro n
  have := hu2 n
  cases e : gget v n with
  | none =>
    rw [e] at this
    rw [this]
    by_cases hn : n = b
    · subst hn
      obtain ⟨x, ex, _⟩ := i1 n rb hb
      have h3 := hv n
      rw [ex, e] at h3; cases h3
    · rw [← i2 n hn]; exact e
  | some y =>
    rw [e] at this
    simp only at this
    rw [this]
    by_cases hn : n = b
    · subst hn
      obtain ⟨x, ex, _⟩ := i1 n rb hb
      have h3 := hv n
      rw [ex, e] at h3
      have h3 := Option.some.inj h3
      have up : Up y x := by
        rw [h3]
        unfold heardF
        rw [if_pos rfl]
        exact prF_up _ _
      unfold heardF
      rw [if_neg (Ne.symm hab), ex]
      simp only
      rw [lat_eq (wv.get e) (wu.get ex) up]
    · have e2 := i2 n hn
      rw [e] at e2
      unfold heardF
      split
      · rename_i z; subst z; rw [← e2]; simp [prF_self]
      · rw [← e2]; simp [lat_self]
theorem GTold.get {rs ts : RwG R3} (nd : (rs.map (·.1)).Nodup) (h : GTold rs ts) (n : Str) : gget ts n = gget rs n := by
  obtain ⟨ys, p1, s1, rfl⟩ := h
  have ndy : ys.Nodup := p1.nodup_iff.mpr nd
  cases e : gget rs n with
  | none =>
    refine gget_out ?_
    rw [gordr_keys]
    intro m
    exact gget_no e (p1.mem_iff.mp m)
  | some r =>
    refine gget_nd (by rw [gordr_keys]; exact ndy) ?_
    unfold gordr
    refine List.mem_map.mpr ⟨n, p1.mem_iff.mpr (List.mem_map_of_mem (f := (·.1)) (gget_in e)), ?_⟩
    rw [e]; rfl
theorem GTold.nd {rs ts : RwG R3} (nd : (rs.map (·.1)).Nodup) (h : GTold rs ts) : (ts.map (·.1)).Nodup := by
  obtain ⟨ys, p1, s1, rfl⟩ := h
  rw [gordr_keys]; exact p1.nodup_iff.mpr nd
theorem perm_of {l m : List Str} (nl : l.Nodup) (nm : m.Nodup) (h : ∀ x, x ∈ l ↔ x ∈ m) : l.Perm m := by
  induction l generalizing m with
  | nil =>
    cases m with
    | nil => exact .nil
    | cons x m => exact absurd ((h x).mpr List.mem_cons_self) (by simp)
  | cons x l ih =>
    rw [List.nodup_cons] at nl
    have hx : x ∈ m := (h x).mp List.mem_cons_self
    have p := List.perm_cons_erase hx
    refine List.Perm.trans (List.Perm.cons x (ih nl.2 (nm.erase x) fun z => ?_)) p.symm
    constructor
    · intro hz
      have : z ≠ x := fun e => nl.1 (by rw [← e]; exact hz)
      exact (List.mem_erase_of_ne this).mpr ((h z).mp (List.mem_cons_of_mem _ hz))
    · intro hz
      have : z ≠ x := fun e => by
        subst e
        exact (List.nodup_cons.mp (p.nodup_iff.mp nm)).1 hz
      have := (h z).mpr ((List.mem_erase_of_ne this).mp hz)
      rcases List.mem_cons.mp this with e | hz
      · exact absurd e ‹z ≠ x›
      · exact hz
theorem GTold.alike {A B ts us : RwG R3} (nA : (A.map (·.1)).Nodup) (nB : (B.map (·.1)).Nodup) (h : ∀ n, gget A n = gget B n) (hA : GTold A ts) (hB : GTold B us) : ts = us := by
  obtain ⟨ys, p1, s1, rfl⟩ := hA
  obtain ⟨zs, p2, s2, rfl⟩ := hB
  have hm : ∀ x, x ∈ A.map (·.1) ↔ x ∈ B.map (·.1) := by
    intro x
    constructor
    · intro hx
      obtain ⟨p, e⟩ := gget_mem hx
      rw [h] at e
      exact List.mem_map_of_mem (f := (·.1)) (gget_in e)
    · intro hx
      obtain ⟨p, e⟩ := gget_mem hx
      rw [← h] at e
      exact List.mem_map_of_mem (f := (·.1)) (gget_in e)
  have e : ys = zs := srt_uniq (p1.trans (perm_of nA nB hm)) s1 p2 s2
  subst e
  unfold gordr
  refine List.map_congr_left fun s _ => ?_
  rw [h]
theorem nodup_len : ∀ {l m : List Str}, l.Nodup → (∀ x ∈ l, x ∈ m) → l.length ≤ m.length
  | [], m, _, _ => Nat.zero_le _
  | x :: l, m, nd, h => by
    rw [List.nodup_cons] at nd
    have hx := h x List.mem_cons_self
    have := nodup_len (l := l) (m := m.erase x) nd.2 fun z hz => by
      have : z ≠ x := fun e => nd.1 (by rw [← e]; exact hz)
      exact (List.mem_erase_of_ne this).mpr (h z (List.mem_cons_of_mem _ hz))
    rw [List.length_erase_of_mem hx] at this
    have := List.length_pos_of_mem hx
    simp only [List.length_cons]
    omega
end WR.L

set_option Elab.async false
set_option linter.all false
set_option maxRecDepth 100000
set_option maxHeartbeats 4000000
namespace WR.L
open PySem PySem.Spec PyProof.Rows L2
def okRow (B : Int) (r : R3) : Prop := (0 ≤ r.1 ∧ r.1 ≤ 255) ∧ 1 ≤ r.2.1 ∧ r.2.1 ≤ B ∧ r.2.2 ∈ wrds
theorem okRow.mono {B C : Int} {r : R3} (h : okRow B r) (l : B ≤ C) : okRow C r := ⟨h.1, h.2.1, by have := h.2.2.1; omega, h.2.2.2⟩
structure GdR (nms : List Str) (B : Int) (own : Str) (rs : RwG R3) : Prop where
  nd : (rs.map (·.1)).Nodup
  row : ∀ r ∈ rs, r.1 ∈ nms ∧ okRow B r.2
  own : ∃ ro, gget rs own = some ro
theorem GdR.mono {nms : List Str} {B C : Int} {own : Str} {rs : RwG R3} (h : GdR nms B own rs) (l : B ≤ C) : GdR nms C own rs := ⟨h.nd, fun r hr => ⟨(h.row r hr).1, (h.row r hr).2.mono l⟩, h.own⟩
theorem GdR.len {nms : List Str} {B : Int} {own : Str} {rs : RwG R3} (h : GdR nms B own rs) (h5 : nms.length = 5) : rs.length ≤ 5 := by
  have := nodup_len h.nd (m := nms) fun x hx => by
    obtain ⟨r, hr, rfl⟩ := List.mem_map.mp hx
    exact (h.row r hr).1
  rw [List.length_map] at this
  omega
theorem GdR.w {nms : List Str} {B : Int} {own : Str} {rs : RwG R3} (h : GdR nms B own rs) : okW rs := fun r hr => (h.row r hr).2.2.2.2
theorem prF_ok {B : Int} {ro row : R3} (ho : okRow B ro) (hr : okRow B row) : okRow (B + 1) (prF ro row) := by
  obtain ⟨⟨a1, a2⟩, a3, a4, a5⟩ := ho
  obtain ⟨⟨b1, b2⟩, b3, b4, b5⟩ := hr
  unfold prF
  split
  · exact ⟨⟨a1, a2⟩, by dsimp only; omega, by dsimp only; omega, a5⟩
  · split
    · unfold lat
      split
      · exact ⟨⟨a1, a2⟩, b3, by dsimp only; omega, b5⟩
      · exact ⟨⟨a1, a2⟩, a3, by omega, a5⟩
    · split
      · refine ⟨⟨a1, a2⟩, ?_, ?_, here_w⟩ <;> dsimp only <;> split <;> omega
      · refine ⟨⟨a1, a2⟩, ?_, ?_, here_w⟩ <;> dsimp only <;> split <;> omega
theorem heard_ok {nms : List Str} {B : Int} {own : Str} {rs : RwG R3} {nm : Str} {row : R3} (h : GdR nms B own rs) (hr : okRow B row) : okRow (B + 1) (heardF own rs nm row) := by
  obtain ⟨ro, ho⟩ := h.own
  unfold heardF
  split
  · rw [ho]; exact prF_ok (h.row _ (gget_in ho)).2 hr
  · split
    · rename_i o e
      unfold lat
      split
      · exact hr.mono (by omega)
      · exact (h.row _ (gget_in e)).2.mono (by omega)
    · exact hr.mono (by omega)
theorem GdR.put {nms : List Str} {B : Int} {own nm : Str} {rs : RwG R3} {r : R3} (h : GdR nms B own rs) (hn : nm ∈ nms) (hr : okRow B r) : GdR nms B own (gput rs nm r) := by
  obtain ⟨ro, ho⟩ := h.own
  refine ⟨gput_nd h.nd, fun q hq => ?_, ?_⟩
  · rcases gput_mem hq with hq | rfl
    · exact h.row q hq
    · exact ⟨hn, hr⟩
  · rw [gput_get]
    split
    · exact ⟨_, rfl⟩
    · exact ⟨ro, ho⟩
theorem GdR.step {nms : List Str} {B : Int} {own : Str} {rs : RwG R3} {t : Str × R3} (h : GdR nms B own rs) (hn : t.1 ∈ nms) (hr : okRow B t.2) : GdR nms (B + 1) own (stepR own rs t) :=
  (h.mono (by omega)).put hn (heard_ok h hr)
theorem GdR.join {nms : List Str} {own : Str} : ∀ {ts rs : RwG R3} {B : Int} (h : GdR nms B own rs) (ht : ∀ t ∈ ts, t.1 ∈ nms ∧ okRow B t.2), GdR nms (B + ts.length) own (joinR own rs ts)
  | [], rs, B, h, _ => by simpa [joinR] using h
  | t :: ts, rs, B, h, ht => by
    have h1 := h.step (ht t List.mem_cons_self).1 (ht t List.mem_cons_self).2
    have := GdR.join (ts := ts) h1 fun s hs => ⟨(ht s (List.mem_cons_of_mem _ hs)).1, (ht s (List.mem_cons_of_mem _ hs)).2.mono (by omega)⟩
    refine this.mono ?_
    simp only [List.length_cons]
    omega
theorem GdR.told {nms : List Str} {B : Int} {own : Str} {rs ts : RwG R3} (h : GdR nms B own rs) (ht : GTold rs ts) : ∀ t ∈ ts, t.1 ∈ nms ∧ okRow B t.2 := fun t hm => h.row _ (ht.mem h.nd hm)
theorem RG.at {H : Hp} : ∀ {kvs : List (Key × V)} {rs : RwG R3} (j : Nat) {k : Key} {v : V}, RG enc3 H kvs rs → kvs[j]? = some (k, v) → ∃ nm r t, rs[j]? = some (nm, r) ∧ k = .inr nm ∧ v = .ref t ∧ H t = some (.tup (enc3 r))
  | [], [], j, k, v, _, e => by simp at e
  | [], _ :: _, _, _, _, h, _ => h.elim
  | _ :: _, [], _, _, _, h, _ => h.elim
  | (k', v') :: kvs, (nm, r) :: rs, 0, k, v, h, e => by
    simp only [List.getElem?_cons_zero, Option.some.injEq, Prod.mk.injEq] at e
    obtain ⟨rfl, rfl⟩ := e
    obtain ⟨h1, ⟨t, h2, h3⟩, _⟩ := h
    exact ⟨nm, r, t, rfl, h1, h2, h3⟩
  | (k', v') :: kvs, (nm, r) :: rs, j + 1, k, v, h, e => by
    rw [List.getElem?_cons_succ] at e ⊢
    exact RG.at j h.2.2 e
theorem nm_len {s : Str} (h : isNm s = true) : s.length ≤ 1000 := by
  unfold isNm at h
  simp only [Bool.and_eq_true, decide_eq_true_eq] at h
  omega
section
variable {K : PySem.W.Frag} {n : Nat} {H : Hp} {Q : VK} {E : XK}
theorem tup23_ {T t : Addr} {i i1 i2 i3 : Nat} {w x y z : V} {σ : L2.St} {R : L2.St → Hp → Prop} (hT : look K H T = some (.tup [w, .ref t])) (h : look K H t = some (.tup [x, y, z])) (q : R ((((σ.set i (some w)).set i1 (some x)).set i2 (some y)).set i3 (some z)) H) : cTupG K 2 (gCons (gName i) (gCons (cTupG K 3 (gCons (gName i1) (gCons (gName i2) (gCons (gName i3) gNil)))) gNil)) (.ref T) σ H R := by
  simp only [cTupG, hT]
  refine ⟨rfl, ?_⟩
  refine ⟨_, _, rfl, _, _, rfl, ?_⟩
  show cTupG K 3 _ (.ref t) _ _ _
  exact tup3_ h ⟨rfl, q⟩
theorem is_view {S : Str → Sp} {p d : Addr} {own : Str} {rs : RwG R3} (W : VAt K H p d own rs) (q : Q (.bl true) H) : bIsO (gg K S) (He.ga K "View") [.ref p, .ref (He.ga K "View")] H Q := by
  obtain ⟨⟨dx, hp⟩, _⟩ := W
  unfold bIsO
  simp only [ins_ins hp]
  exact ⟨trivial, ⟨_, List.mem_cons_of_mem _ (List.mem_singleton_self _), rfl⟩, .inl ⟨trivial, q⟩⟩
end
end WR.L

set_option Elab.async false
set_option linter.all false
set_option maxRecDepth 100000
set_option maxHeartbeats 4000000
namespace WR.L
open PySem PySem.Spec PyProof.Rows L2
theorem take_snoc {α : Type} {l : List α} {j : Nat} {x : α} (h : l[j]? = some x) : l.take (j + 1) = l.take j ++ [x] := by
  rw [List.take_add_one, h]; rfl
section
variable {K : PySem.W.Frag} {n : Nat} {H : Hp} {Q : VK} {E : XK} {nms : List Str} {B : Int}
theorem s_join {p d p2 d2 : Addr} {own own2 : Str} {rs rs2 : RwG R3} (W : VAt K H p d own rs) (W2 : VAt K H p2 d2 own2 rs2) (g : GdR nms B own rs) (g2 : GdR nms B own2 rs2) (h5 : nms.length = 5) (hn : ∀ s ∈ nms, isNm s = true)
    (h : ∀ ts H', GTold rs2 ts → VAt K H' p d own (joinR own rs ts) → Exd d H H' → Q (.bl ((jl own rs ts).any id)) H') : SP K (n+5) "View.join" [.ref p, .ref p2] H Q E := by
  refine o_View_join ?_
  unfold r_View_join
  refine seq_ fun N1 h1 => ifS_ fun A B0 hA hB => ?_
  simp only [tNot, cTru, tCB, tCons, tC, tNil, cVar, List.getElem?_cons_succ, List.getElem?_cons_zero]
  refine is_view W2 ?_
  simp only [oTru, Bool.not_true, Bool.false_eq_true, if_false]
  refine hB _ ?_
  simp only [tNext]
  refine h1 _ _ (seq_ fun N2 h2 => .inl ?_)
  simp only [tAsg, cLc, cDview, frzE]
  obtain ⟨⟨dx2, hp2⟩, _⟩ := id W2
  refine mC_ownR (c_told_0 K _) ?_ fun P P' hh q => mono_var hh q
  try simp only [tSeq, tIfS, tNext, tRet, tRetN, tDrop, tAsg, tC, cVar, tOp, tCB, tCons, tNil, tTup, tLst, tIf, tAnd, tOr, tNot, cTest, cTru, oTru, cAnd, cOr, cNot, cUn, cChain, gName, cTupG, gCons, gNil, gSub, oLt, oLe, oGt, oGe, oGtK, oGeK, oBor, oIs, oIsNot, oSub, oMul, oFdiv, oMod, oPow, cPar, cPar3, cAug, tDNewK, cCall, cAttr, frzE, List.mem_singleton, List.lookup_cons_self, List.getElem?_cons_zero, List.getElem?_cons_succ, List.set_cons_zero, List.set_cons_succ, Option.some.injEq, reduceCtorEq, if_true, if_false, Bool.true_eq_false, Bool.false_eq_true, decide_eq_true_eq, ite_true, ite_false, ↓reduceIte, List.length_cons, List.length_nil, true_and, and_true, exists_eq_left', exists_eq_left, List.cons.injEq]
  refine ⟨p2, dx2, _, rfl, hp2, lk2 rfl rfl, ?_⟩
  have l1 := g.len h5
  have l2 := g2.len h5
  refine s_told W2 (by omega) g2.nd fun ts q H1 ht e1 hq ⟨kq, eq, rq⟩ => ?_
  simp only [eq]
  intro o1
  simp only [upd_same]
  intro D hD
  have nqD : q ≠ D := fun z => by rw [← z, upd_same] at hD; cases hD
  have hD1 : H1 D = none := by rw [upd_ne nqD.symm] at hD; exact hD
  have W1 := W.ex e1
  obtain ⟨⟨dx, hp⟩, kvs, hd, r⟩ := id W1
  obtain ⟨⟨_, _⟩, kv0, hd0, _⟩ := id W
  have ndq : d ≠ q := ne_of_none hd0 hq
  have npq : p ≠ q := by obtain ⟨⟨_, hp0⟩, _⟩ := id W; exact ne_of_none hp0 hq
  have hdD : H D = none := e1.none hD1
  have tl := ht.len
  have tg := g2.told ht
  have rq2 : RG enc3 (upd H1 q (.frz o1 (.dK kq))) kq ts := rq.tp fun t xs e => by
    have : t ≠ q := fun z => by rw [z, eq] at e; cases e
    rw [upd_ne this]; exact e
  refine lpc_inv (n := ts.length) (fun j H' => Exd d (upd H1 q (.frz o1 (.dK kq))) H' ∧ VAt K H' p d own (joinR own rs (ts.take j)) ∧ H' D = some (.lst ((jl own rs (ts.take j)).map V.bl))) ?_ ?_ ⟨fun b o nb e => ?_, ?_, by rw [upd_same]; rfl⟩
  · rintro H2 ⟨e2, V2, hD2⟩
    have eq2 := e2 q _ ndq.symm upd_same
    refine ⟨⟨eq2, by rw [rq.len]; exact Nat.le_refl _⟩, ?_⟩
    rw [List.take_length] at hD2 V2
    try simp only [tSeq, tIfS, tNext, tRet, tRetN, tDrop, tAsg, tC, cVar, tOp, tCB, tCons, tNil, tTup, tLst, tIf, tAnd, tOr, tNot, cTest, cTru, oTru, cAnd, cOr, cNot, cUn, cChain, gName, cTupG, gCons, gNil, gSub, oLt, oLe, oGt, oGe, oGtK, oGeK, oBor, oIs, oIsNot, oSub, oMul, oFdiv, oMod, oPow, cPar, cPar3, cAug, tDNewK, cCall, cAttr, frzE, List.mem_singleton, List.lookup_cons_self, List.getElem?_cons_zero, List.getElem?_cons_succ, List.set_cons_zero, List.set_cons_succ, Option.some.injEq, reduceCtorEq, if_true, if_false, Bool.true_eq_false, Bool.false_eq_true, decide_eq_true_eq, ite_true, ite_false, ↓reduceIte, List.length_cons, List.length_nil, true_and, and_true, exists_eq_left', exists_eq_left, List.cons.injEq]
    refine h2 _ _ ?_
    simp only [bAny, tSeq, tIfS, tNext, tRet, tRetN, tDrop, tAsg, tC, cVar, tOp, tCB, tCons, tNil, tTup, tLst, tIf, tAnd, tOr, tNot, cTest, cTru, oTru, cAnd, cOr, cNot, cUn, cChain, gName, cTupG, gCons, gNil, gSub, oLt, oLe, oGt, oGe, oGtK, oGeK, oBor, oIs, oIsNot, oSub, oMul, oFdiv, oMod, oPow, cPar, cPar3, cAug, tDNewK, cCall, cAttr, frzE, List.mem_singleton, List.lookup_cons_self, List.getElem?_cons_zero, List.getElem?_cons_succ, List.set_cons_zero, List.set_cons_succ, Option.some.injEq, reduceCtorEq, if_true, if_false, Bool.true_eq_false, Bool.false_eq_true, decide_eq_true_eq, ite_true, ite_false, ↓reduceIte, List.length_cons, List.length_nil, true_and, and_true, exists_eq_left', exists_eq_left, List.cons.injEq]
    refine ⟨D, jl own rs ts, rfl, look_of_lst hD2, h ts H2 ht V2 fun b o nb e => ?_⟩
    have nbq : b ≠ q := ne_of_none e hq
    exact e2 b o nb (by rw [upd_ne nbq]; exact e1 _ _ e)
  · rintro j H2 hj ⟨e2, V2, hD2⟩ R hR
    have eq2 := e2 q _ ndq.symm upd_same
    refine ⟨⟨eq2, by rw [rq.len]; exact hj⟩, ?_⟩
    rintro x H3 ⟨T, k, v, hk, rfl, hT, rfl⟩
    have tpd : ∀ t xs, (upd H1 q (.frz o1 (.dK kq))) t = some (.tup xs) → H2 t = some (.tup xs) := fun t xs e => by
      have ntd : t ≠ d := fun z => by rw [z, upd_ne ndq, hd] at e; cases e
      exact e2 t _ ntd e
    have r3 := rq2.tp tpd
    obtain ⟨s, row, t, hs, rfl, rfl, et⟩ := RG.at j r3 hk
    have x4 : Ex H2 (upd H2 T (.tup [kV (.inr s), .ref t])) := Ex.refl.new hT
    refine tup23_ (w := .str s) (t := t) (look_of_tup upd_same) (look_of_tup (x4 _ _ et)) ?_
    refine ⟨rfl, ?_⟩
    simp only [tYes, wipe, if_true, List.foldl_cons, List.foldl_nil, List.set_cons_zero, List.set_cons_succ]
    have V3 := V2.ex x4
    obtain ⟨⟨dx3, hp3⟩, kv3, hd3, _⟩ := id V3
    refine mC_own (c_hear_4 K _) ?_ fun P P' hh q => mono_var hh q
    try simp only [tSeq, tIfS, tNext, tRet, tRetN, tDrop, tAsg, tC, cVar, tOp, tCB, tCons, tNil, tTup, tLst, tIf, tAnd, tOr, tNot, cTest, cTru, oTru, cAnd, cOr, cNot, cUn, cChain, gName, cTupG, gCons, gNil, gSub, oLt, oLe, oGt, oGe, oGtK, oGeK, oBor, oIs, oIsNot, oSub, oMul, oFdiv, oMod, oPow, cPar, cPar3, cAug, tDNewK, cCall, cAttr, frzE, List.mem_singleton, List.lookup_cons_self, List.getElem?_cons_zero, List.getElem?_cons_succ, List.set_cons_zero, List.set_cons_succ, Option.some.injEq, reduceCtorEq, if_true, if_false, Bool.true_eq_false, Bool.false_eq_true, decide_eq_true_eq, ite_true, ite_false, ↓reduceIte, List.length_cons, List.length_nil, true_and, and_true, exists_eq_left', exists_eq_left, List.cons.injEq]
    refine ⟨p, dx3, _, rfl, hp3, lk2 rfl rfl, ?_⟩
    have gj : GdR nms (B + (ts.take j).length) own (joinR own rs (ts.take j)) := g.join fun t ht' => tg t (List.mem_of_mem_take ht')
    have lj := gj.len h5
    obtain ⟨ro, ho⟩ := gj.own
    have tm := tg _ (List.mem_of_getElem? hs)
    have isn := hn _ tm.1
    refine s_hear V3 gj.w ho (by omega) (nm_len isn) isn tm.2.1 tm.2.2.1 tm.2.2.2.2 fun H4 V4 e4 => ?_
    have nDd : D ≠ d := fun z => by
      obtain ⟨_, kv2, hd2, _⟩ := id V2
      rw [z, hd2] at hD2; cases hD2
    have hD4 := e4 _ _ nDd (x4 _ _ hD2)
    have nVD : p ≠ D := fun z => by
      obtain ⟨⟨_, hp4⟩, _⟩ := id V4
      rw [z, hD4] at hp4; cases hp4
    refine ⟨_, hD4, ?_, hR _ ⟨fun b o nb e => ?_, ?_, ?_⟩⟩
    · rw [List.length_map, jl_len, List.length_take]; exact small1000 (by omega)
    · have nbD : b ≠ D := fun z => by rw [z, hD] at e; cases e
      rw [upd_ne nbD]
      exact e4 _ _ nb (x4 _ _ (e2 _ _ nb e))
    · rw [take_snoc hs, joinR_snoc]
      obtain ⟨⟨dx4, hp4⟩, kv4, hd4, r4⟩ := V4
      refine ⟨⟨dx4, by rw [upd_ne nVD]; exact hp4⟩, kv4, by rw [upd_ne nDd.symm]; exact hd4, r4.tp fun t' xs e => ?_⟩
      have : t' ≠ D := fun z => by rw [z, hD4] at e; cases e
      rw [upd_ne this]; exact e
    · rw [upd_same, take_snoc hs, jl_snoc, List.map_append]; rfl
  · have nbD : b ≠ D := fun z => by rw [z, hD] at e; cases e
    rw [upd_ne nbD]; exact e
  · have nDd : D ≠ d := (ne_of_none hd hD1).symm
    have npD : p ≠ D := ne_of_none hp hD1
    refine ⟨⟨dx, by rw [upd_ne npD, upd_ne npq]; exact hp⟩, kvs, by rw [upd_ne nDd.symm, upd_ne ndq]; exact hd, r.tp fun t' xs e => ?_⟩
    have n1 : t' ≠ D := fun z => by rw [z, hD1] at e; cases e
    have n2 : t' ≠ q := fun z => by rw [z, eq] at e; cases e
    rw [upd_ne n1, upd_ne n2]; exact e
end
end WR.L

set_option Elab.async false
set_option linter.all false
set_option maxRecDepth 100000
set_option maxHeartbeats 4000000
namespace WR.L
open PySem PySem.Spec PyProof.Rows L2
section
variable {K : PySem.W.Frag} {n : Nat} {H : Hp} {Q : VK} {E : XK} {nms : List Str} {B : Int}
theorem yes_ {σ : L2.St} {H : Hp} {A R : Hp → Prop} (h : A H) : tYes σ H (fun b H3 => if b = true then A H3 else R H3) := by
  unfold tYes
  show (if (true : Bool) = true then A H else R H)
  rw [if_pos rfl]; exact h
theorem any_true (bs : List Bool) : inV (V.bl true) (bs.map V.bl) = bs.any id := by
  induction bs with
  | nil => rfl
  | cons b bs ih =>
    show (eqV (V.bl b) (V.bl true) || inV (V.bl true) (bs.map V.bl)) = _
    rw [ih]
    cases b <;> simp [eqV]
end
end WR.L

set_option Elab.async false
set_option linter.all false
set_option maxRecDepth 100000
set_option maxHeartbeats 4000000
namespace WR.L
open PySem PySem.Spec PyProof.Rows L2
/-- one round of a talk -/
def Rd (a b : Str) (A B A1 B1 : RwG R3) (c : Bool) : Prop := ∃ TB TA, GTold B TB ∧ GTold A1 TA ∧ A1 = joinR a A TB ∧ B1 = joinR b B TA ∧ c = ((jl a A TB).any id || (jl b B TA).any id)
theorem Rd.uniq {a b : Str} {A B A1 B1 A2 B2 : RwG R3} {c e : Bool} (h : Rd a b A B A1 B1 c) (k : Rd a b A B A2 B2 e) : A1 = A2 ∧ B1 = B2 ∧ c = e := by
  obtain ⟨TB, TA, h1, h2, rfl, rfl, rfl⟩ := h
  obtain ⟨TB', TA', k1, k2, rfl, rfl, rfl⟩ := k
  have := h1.uniq k1
  subst this
  have := h2.uniq k2
  subst this
  exact ⟨rfl, rfl, rfl⟩
inductive TalkR (a b : Str) : RwG R3 → RwG R3 → Nat → RwG R3 → RwG R3 → Prop
  | done {A B A1 B1 : RwG R3} : Rd a b A B A1 B1 false → TalkR a b A B 0 A1 B1
  | more {A B A1 B1 A2 B2 : RwG R3} {k : Nat} : Rd a b A B A1 B1 true → TalkR a b A1 B1 k A2 B2 → TalkR a b A B (k + 1) A2 B2
theorem TalkR.uniq {a b : Str} {A B A1 B1 : RwG R3} {k : Nat} (h : TalkR a b A B k A1 B1) : ∀ {A2 B2 : RwG R3} {m : Nat}, TalkR a b A B m A2 B2 → k = m ∧ A1 = A2 ∧ B1 = B2 := by
  induction h with
  | done r =>
    intro A2 B2 m h2
    cases h2 with
    | done r2 => have := r.uniq r2; exact ⟨rfl, this.1, this.2.1⟩
    | more r2 _ => have := r.uniq r2; cases this.2.2
  | more r _ ih =>
    intro A2 B2 m h2
    cases h2 with
    | done r2 => have := r.uniq r2; cases this.2.2
    | more r2 t2 =>
      obtain ⟨e1, e2, _⟩ := r.uniq r2
      subst e1 e2
      obtain ⟨e3, e4, e5⟩ := ih t2
      exact ⟨by rw [e3], e4, e5⟩
def FinT (a b : Str) : Nat → RwG R3 → RwG R3 → Prop
  | 0, A, B => ∀ A1 B1 c, Rd a b A B A1 B1 c → c = false
  | f + 1, A, B => ∀ A1 B1, Rd a b A B A1 B1 true → FinT a b f A1 B1
theorem fin_two {nms : List Str} {a b : Str} {C : Int} {A B : RwG R3} (hab : a ≠ b) (gA : GdR nms C a A) (gB : GdR nms C b B) : FinT a b 2 A B := by
  rintro u v ⟨TB, TA, h1, h2, rfl, rfl, _⟩ u2 v2 ⟨TB2, TA2, k1, k2, rfl, rfl, _⟩ u3 v3 c ⟨TB3, TA3, m1, m2, rfl, rfl, rfl⟩
  have gu := gA.join (ts := TB) (gB.told h1)
  have gB' := gB.mono (C := C + TB.length) (by omega)
  have gv := gB'.join (ts := TA) (gu.told h2)
  have gu' := gu.mono (C := C + TB.length + TA.length) (by omega)
  have gu2 := gu'.join (ts := TB2) (gv.told k1)
  have gv' := gv.mono (C := C + TB.length + TA.length + TB2.length) (by omega)
  obtain ⟨rb, hb⟩ := gB.own
  have e1 : ∀ n, gget (joinR a (joinR a A TB) TB2) n = gget (joinR b B TA) n := by
    refine rounds hab gA.w gB.w gu.w gv.w hb (fun n => ?_) (fun n => ?_) (fun n => ?_)
    · rw [joinR_get (GTold.nd gB.nd h1) n, GTold.get gB.nd h1]
    · rw [joinR_get (GTold.nd gu.nd h2) n, GTold.get gu.nd h2]
    · rw [joinR_get (GTold.nd gv.nd k1) n, GTold.get gv.nd k1]
  have nc2 : NC b (joinR b B TA) TA2 := by
    have := nc_same (a := b) (A := joinR b B TA) (B := joinR a (joinR a A TB) TB2) fun n => (e1 n).symm
    intro n row e
    exact this n row (by rw [← GTold.get gu2.nd k2]; exact e)
  have ev : joinR b (joinR b B TA) TA2 = joinR b B TA := (jl_nc gv.nd (GTold.nd gu2.nd k2)).2 nc2
  rw [ev] at m1 ⊢
  have nc3 : NC a (joinR a (joinR a A TB) TB2) TB3 := by
    have := nc_same (a := a) (A := joinR a (joinR a A TB) TB2) (B := joinR b B TA) e1
    intro n row e
    exact this n row (by rw [← GTold.get gv.nd m1]; exact e)
  have q3 := jl_nc (own := a) gu2.nd (GTold.nd gv.nd m1)
  rw [q3.2 nc3] at m2
  have nc4 : NC b (joinR b B TA) TA3 := by
    have := nc_same (a := b) (A := joinR b B TA) (B := joinR a (joinR a A TB) TB2) fun n => (e1 n).symm
    intro n row e
    exact this n row (by rw [← GTold.get gu2.nd m2]; exact e)
  rw [q3.1.mpr nc3, (jl_nc gv.nd (GTold.nd gu2.nd m2)).1.mpr nc4]
  rfl
/-- behind a talk both know the same -/
theorem talk_alike {nms : List Str} {a b : Str} (hab : a ≠ b) {A B A1 B1 : RwG R3} {k : Nat} (h : TalkR a b A B k A1 B1) : ∀ {C : Int}, GdR nms C a A → GdR nms C b B → (∀ n, gget A1 n = gget B1 n) := by
  induction h with
  | @done A B A1 B1 r =>
    intro C gA gB
    obtain ⟨TB, TA, h1, h2, rfl, rfl, e⟩ := r
    have e := e.symm
    rw [Bool.or_eq_false_iff] at e
    have q1 := jl_nc (own := a) gA.nd (GTold.nd gB.nd h1)
    have n1 := q1.1.mp e.1
    rw [q1.2 n1] at h2 ⊢
    have q2 := jl_nc (own := b) gB.nd (GTold.nd gA.nd h2)
    have n2 := q2.1.mp e.2
    rw [q2.2 n2]
    refine nc_alike hab gA.w gB.w (fun n row e => n1 n row ?_) (fun n row e => n2 n row ?_)
    · rw [GTold.get gB.nd h1]; exact e
    · rw [GTold.get gA.nd h2]; exact e
  | @more A B A1 B1 A2 B2 k r t ih =>
    intro C gA gB
    obtain ⟨TB, TA, h1, h2, rfl, rfl, e⟩ := r
    have gu := gA.join (ts := TB) (gB.told h1)
    have gB' := gB.mono (C := C + TB.length) (by omega)
    have gv := gB'.join (ts := TA) (gu.told h2)
    exact ih (gu.mono (C := C + TB.length + TA.length) (by omega)) gv
section
variable {K : PySem.W.Frag} {n : Nat} {H : Hp} {Q : VK} {E : XK} {nms : List Str} {C : Int}
/-- all but two stay -/
abbrev Ex2 (d e : Addr) (H H' : Hp) : Prop := ∀ b o, b ≠ d → b ≠ e → H b = some o → H' b = some o
theorem vat_ne {p d e : Addr} {own : Str} {rs : RwG R3} {kv : List (Key × V)} {H H' : Hp} (W : VAt K H p d own rs) (x : Exd e H H') (he : H e = some (.dK kv)) (n : d ≠ e) : VAt K H' p d own rs := by
  obtain ⟨⟨dx, hp⟩, kvs, hd, r⟩ := W
  have npe : p ≠ e := fun z => by rw [z, he] at hp; cases hp
  exact ⟨⟨dx, x _ _ npe hp⟩, kvs, x _ _ n hd, r.tp fun t xs e' => x _ _ (fun z => by rw [z, he] at e'; cases e') e'⟩
theorem talk_loop {p1 d1 p2 d2 : Addr} {a b : Str} {W : WX} {D : Ends} {v2 : Option V} (hab : a ≠ b) (nd : d1 ≠ d2) (h5 : nms.length = 5) (hn : ∀ s ∈ nms, isNm s = true) : ∀ (f : Nat) (A B : RwG R3) (C : Int) (H : Hp) (m : Int), FinT a b f A B → VAt K H p1 d1 a A → VAt K H p2 d2 b B → GdR nms C a A → GdR nms C b B →
    (∀ k A' B' H', TalkR a b A B k A' B' → VAt K H' p1 d1 a A' → VAt K H' p2 d2 b B' → Ex2 d1 d2 H H' → GdR nms (C + 10 * ((f : Int) + 1)) a A' → GdR nms (C + 10 * ((f : Int) + 1)) b B' → D.nx [some (.ref p1), some (.ref p2), v2, some (.int (m + k))] H') →
    lpw (cTru K (tOp oBor (mC (gg K (SP K (n+5))) "join" 1 0 [] (cVar 0) (tCons (cVar 1) tNil) tNil W) (mC (gg K (SP K (n+5))) "join" 1 0 [] (cVar 1) (tCons (cVar 0) tNil) tNil W))) (cAug 3 (tC (.int 1)) (oIAdd K)) D (f + 1) [some (.ref p1), some (.ref p2), v2, some (.int m)] H
  | f, A, B, C, H, m, fin, W1, W2, gA, gB, h => by
    obtain ⟨⟨dx1, hp1⟩, kv1, hd1, _⟩ := id W1
    obtain ⟨⟨dx2, hp2⟩, kv2, hd2, _⟩ := id W2
    unfold lpw
    simp only [cTru, tOp]
    refine mC_own (c_join_1 K _) ?_ fun P P' hh q => mono_var hh q
    try simp only [tSeq, tIfS, tNext, tRet, tRetN, tDrop, tAsg, tC, cVar, tOp, tCB, tCons, tNil, tTup, tLst, tIf, tAnd, tOr, tNot, cTest, cTru, oTru, cAnd, cOr, cNot, cUn, cChain, gName, cTupG, gCons, gNil, gSub, oLt, oLe, oGt, oGe, oGtK, oGeK, oBor, oIs, oIsNot, oSub, oMul, oFdiv, oMod, oPow, cPar, cPar3, cAug, tDNewK, cCall, cAttr, frzE, List.mem_singleton, List.lookup_cons_self, List.getElem?_cons_zero, List.getElem?_cons_succ, List.set_cons_zero, List.set_cons_succ, Option.some.injEq, reduceCtorEq, if_true, if_false, Bool.true_eq_false, Bool.false_eq_true, decide_eq_true_eq, ite_true, ite_false, ↓reduceIte, List.length_cons, List.length_nil, true_and, and_true, exists_eq_left', exists_eq_left, List.cons.injEq]
    refine ⟨p1, dx1, _, rfl, hp1, lk2 rfl rfl, ?_⟩
    refine s_join W1 W2 gA gB h5 hn fun TB H1 h1 V1 e1 => ?_
    have V2 := vat_ne W2 e1 hd1 nd.symm
    obtain ⟨⟨dx3, hp3⟩, kv3, hd3, _⟩ := id V2
    have gu := gA.join (ts := TB) (gB.told h1)
    have gB' := gB.mono (C := C + TB.length) (by omega)
    refine mC_own (c_join_1 K _) ?_ fun P P' hh q => mono_var hh q
    try simp only [tSeq, tIfS, tNext, tRet, tRetN, tDrop, tAsg, tC, cVar, tOp, tCB, tCons, tNil, tTup, tLst, tIf, tAnd, tOr, tNot, cTest, cTru, oTru, cAnd, cOr, cNot, cUn, cChain, gName, cTupG, gCons, gNil, gSub, oLt, oLe, oGt, oGe, oGtK, oGeK, oBor, oIs, oIsNot, oSub, oMul, oFdiv, oMod, oPow, cPar, cPar3, cAug, tDNewK, cCall, cAttr, frzE, List.mem_singleton, List.lookup_cons_self, List.getElem?_cons_zero, List.getElem?_cons_succ, List.set_cons_zero, List.set_cons_succ, Option.some.injEq, reduceCtorEq, if_true, if_false, Bool.true_eq_false, Bool.false_eq_true, decide_eq_true_eq, ite_true, ite_false, ↓reduceIte, List.length_cons, List.length_nil, true_and, and_true, exists_eq_left', exists_eq_left, List.cons.injEq]
    refine ⟨p2, dx3, _, rfl, hp3, lk2 rfl rfl, ?_⟩
    refine s_join V2 V1 gB' gu h5 hn fun TA H2 h2 V4 e2 => ?_
    have V3 := vat_ne V1 e2 hd3 nd
    have gv := gB'.join (ts := TA) (gu.told h2)
    have ex : Ex2 d1 d2 H H2 := fun x o n1 n2 e => e2 _ _ n2 (e1 _ _ n1 e)
    have lB := gB.len h5
    have lu := gu.len h5
    have lTB := h1.len
    have lTA := h2.len
    have gu' := gu.mono (C := C + 10) (by omega)
    have gv' := gv.mono (C := C + 10) (by omega)
    simp only [oBor, oTru]
    have rd : Rd a b A B (joinR a A TB) (joinR b B TA) ((jl a A TB).any id || (jl b B TA).any id) := ⟨TB, TA, h1, h2, rfl, rfl, rfl⟩
    generalize hc : ((jl a A TB).any id || (jl b B TA).any id) = c at rd ⊢
    cases c with
    | false =>
      simp only [Bool.false_eq_true, if_false]
      have := h 0 _ _ H2 (.done rd) V3 V4 ex (gu'.mono (by omega)) (gv'.mono (by omega))
      simpa using this
    | true =>
      simp only [if_true, cAug, tC, List.getElem?_cons_succ, List.getElem?_cons_zero]
      cases f with
      | zero => exact absurd (fin _ _ _ rd) (by simp)
      | succ f =>
        simp only [oIAdd, List.set_cons_zero, List.set_cons_succ]
        refine talk_loop hab nd h5 hn f _ _ (C + 10) H2 (m + 1) (fin _ _ rd) V3 V4 gu' gv' fun k A' B' H3 t U1 U2 x g1 g2 => ?_
        have := h (k + 1) A' B' H3 (.more rd t) U1 U2 (fun y o n1 n2 e => x _ _ n1 n2 (ex _ _ n1 n2 e)) (g1.mono (by push_cast; omega)) (g2.mono (by push_cast; omega))
        rw [show m + 1 + (k : Int) = m + ((k + 1 : Nat) : Int) from by push_cast; omega]
        exact this
end
end WR.L

set_option Elab.async false
set_option linter.all false
set_option maxRecDepth 100000
set_option maxHeartbeats 4000000
namespace WR.L
open PySem PySem.Spec PyProof.Rows L2
section
variable {K : PySem.W.Frag} {n : Nat} {H : Hp} {Q : VK} {E : XK} {nms : List Str} {C : Int}
theorem s_own {p d : Addr} {own : Str} {rs : RwG R3} (W : VAt K H p d own rs) (h : Q (.str own) H) : SP K (n+1) "View.own" [.ref p] H Q E := by
  obtain ⟨⟨dx, hp⟩, _⟩ := W
  refine o_View_own ?_
  simp only [r_View_own, tRet, cAttr, cVar, ins_ins hp, List.lookup_cons_self, List.mem_singleton, true_and, List.getElem?_cons_zero]
  exact h
theorem s_len {p d : Addr} {own : Str} {rs : RwG R3} (W : VAt K H p d own rs) (h : Q (.int rs.length) H) : SP K (n+1) "View.__len__" [.ref p] H Q E := by
  obtain ⟨⟨dx, hp⟩, kvs, hd, r⟩ := W
  refine o_View___len__ ?_
  simp only [r_View___len__, tRet, tCB, tCons, tNil, cAttr, cVar, ins_ins hp, lk_rows, List.lookup_cons_self, List.mem_singleton, true_and, List.getElem?_cons_zero]
  rw [len_dK rfl hd, r.len]
  exact h
theorem len_own {S : Nat} {p d : Addr} {own : Str} {rs : RwG R3} (W : VAt K H p d own rs) (hl : rs.length < 1000) (q : Q (.int rs.length) H) : bLenG (gg K (SP K (S+1))) [.ref p] H Q := by
  obtain ⟨⟨dx, hp⟩, _⟩ := id W
  unfold bLenG
  simp only [ins_ins hp]
  refine spc_R (cs_len K _) rfl ?_
  exact s_len W ⟨⟨by omega, by omega⟩, q⟩
theorem s_talk {p1 d1 p2 d2 : Addr} {a b : Str} {A B : RwG R3} (hab : a ≠ b) (nd : d1 ≠ d2) (h5 : nms.length = 5) (hn : ∀ s ∈ nms, isNm s = true) (W1 : VAt K H p1 d1 a A) (W2 : VAt K H p2 d2 b B) (gA : GdR nms C a A) (gB : GdR nms C b B)
    (h : ∀ k A' B' H', TalkR a b A B k A' B' → VAt K H' p1 d1 a A' → VAt K H' p2 d2 b B' → Ex2 d1 d2 H H' → GdR nms (C + 30) a A' → GdR nms (C + 30) b B' → Q (.int (k : Nat)) H') : SP K (n+6) "talk" [.ref p1, .ref p2] H Q E := by
  refine o_talk ?_
  unfold r_talk
  refine seq_ fun N1 h1 => .inl ?_
  simp only [cFor, cIter, frzE, tTup, tCons, tNil, cVar, List.getElem?_cons_zero, List.getElem?_cons_succ]
  refine ⟨by simp only [sizeLine_eq, List.length_cons, List.length_nil]; omega, fun T hT => ?_⟩
  have e1 : Ex H (upd H T (.tup [.ref p1, .ref p2])) := Ex.refl.new hT
  have k1 : (upd H T (.tup [.ref p1, .ref p2])) T = some (.tup [.ref p1, .ref p2]) := upd_same
  generalize upd H T (.tup [.ref p1, .ref p2]) = H1 at e1 k1 ⊢
  simp only [k1, look_of_tup (K := K) k1]
  have V1 := W1.ex e1
  have V2 := W2.ex e1
  refine lp_inv (n := 2) (fun j σ H' => (∃ v2, σ = [some (.ref p1), some (.ref p2), v2, none]) ∧ H' = H1) ?_ ?_ ⟨⟨_, rfl⟩, rfl⟩
  · rintro σ H' ⟨⟨v2, rfl⟩, rfl⟩
    refine ⟨⟨_, .inl (.inl k1), Nat.le_refl _⟩, h1 _ _ (seq_ fun N2 h2 => ifS_ fun A0 B0 hA hB => ?_)⟩
    simp only [cTest, tOp]
    obtain ⟨⟨dx1, hp1⟩, _⟩ := id V1
    obtain ⟨⟨dx2, hp2⟩, _⟩ := id V2
    refine mC_own (c_own_0 K _) ?_ fun P P' hh q => mono_var hh q
    try simp only [tSeq, tIfS, tNext, tRet, tRetN, tDrop, tAsg, tC, cVar, tOp, tCB, tCons, tNil, tTup, tLst, tIf, tAnd, tOr, tNot, cTest, cTru, oTru, cAnd, cOr, cNot, cUn, cChain, gName, cTupG, gCons, gNil, gSub, oLt, oLe, oGt, oGe, oGtK, oGeK, oBor, oIs, oIsNot, oSub, oMul, oFdiv, oMod, oPow, cPar, cPar3, cAug, tDNewK, cCall, cAttr, frzE, List.mem_singleton, List.lookup_cons_self, List.getElem?_cons_zero, List.getElem?_cons_succ, List.set_cons_zero, List.set_cons_succ, Option.some.injEq, reduceCtorEq, if_true, if_false, Bool.true_eq_false, Bool.false_eq_true, decide_eq_true_eq, ite_true, ite_false, ↓reduceIte, List.length_cons, List.length_nil, true_and, and_true, exists_eq_left', exists_eq_left, List.cons.injEq]
    refine ⟨p1, dx1, _, rfl, hp1, lk2 rfl rfl, ?_⟩
    refine s_own V1 ?_
    refine mC_own (c_own_0 K _) ?_ fun P P' hh q => mono_var hh q
    try simp only [tSeq, tIfS, tNext, tRet, tRetN, tDrop, tAsg, tC, cVar, tOp, tCB, tCons, tNil, tTup, tLst, tIf, tAnd, tOr, tNot, cTest, cTru, oTru, cAnd, cOr, cNot, cUn, cChain, gName, cTupG, gCons, gNil, gSub, oLt, oLe, oGt, oGe, oGtK, oGeK, oBor, oIs, oIsNot, oSub, oMul, oFdiv, oMod, oPow, cPar, cPar3, cAug, tDNewK, cCall, cAttr, frzE, List.mem_singleton, List.lookup_cons_self, List.getElem?_cons_zero, List.getElem?_cons_succ, List.set_cons_zero, List.set_cons_succ, Option.some.injEq, reduceCtorEq, if_true, if_false, Bool.true_eq_false, Bool.false_eq_true, decide_eq_true_eq, ite_true, ite_false, ↓reduceIte, List.length_cons, List.length_nil, true_and, and_true, exists_eq_left', exists_eq_left, List.cons.injEq]
    refine ⟨p2, dx2, _, rfl, hp2, lk2 rfl rfl, ?_⟩
    refine s_own V2 (eq_scal rfl rfl rfl ?_)
    rw [show decide (V.str a = V.str b) = false from by simpa using hab]
    simp only [Bool.false_eq_true, if_false]
    refine hB _ ?_
    simp only [tNext]
    refine h2 _ _ (seq_ fun N3 h3 => ?_)
    try simp only [tSeq, tIfS, tNext, tRet, tRetN, tDrop, tAsg, tC, cVar, tOp, tCB, tCons, tNil, tTup, tLst, tIf, tAnd, tOr, tNot, cTest, cTru, oTru, cAnd, cOr, cNot, cUn, cChain, gName, cTupG, gCons, gNil, gSub, oLt, oLe, oGt, oGe, oGtK, oGeK, oBor, oIs, oIsNot, oSub, oMul, oFdiv, oMod, oPow, cPar, cPar3, cAug, tDNewK, cCall, cAttr, frzE, List.mem_singleton, List.lookup_cons_self, List.getElem?_cons_zero, List.getElem?_cons_succ, List.set_cons_zero, List.set_cons_succ, Option.some.injEq, reduceCtorEq, if_true, if_false, Bool.true_eq_false, Bool.false_eq_true, decide_eq_true_eq, ite_true, ite_false, ↓reduceIte, List.length_cons, List.length_nil, true_and, and_true, exists_eq_left', exists_eq_left, List.cons.injEq]
    refine h3 _ _ (seq_ fun N4 h4 => ⟨3, ?_⟩)
    refine talk_loop hab nd h5 hn 2 A B C _ 0 (fin_two hab gA gB) V1 V2 gA gB fun k A' B' H' t U1 U2 x g1 g2 => h4 _ _ ?_
    try simp only [tSeq, tIfS, tNext, tRet, tRetN, tDrop, tAsg, tC, cVar, tOp, tCB, tCons, tNil, tTup, tLst, tIf, tAnd, tOr, tNot, cTest, cTru, oTru, cAnd, cOr, cNot, cUn, cChain, gName, cTupG, gCons, gNil, gSub, oLt, oLe, oGt, oGe, oGtK, oGeK, oBor, oIs, oIsNot, oSub, oMul, oFdiv, oMod, oPow, cPar, cPar3, cAug, tDNewK, cCall, cAttr, frzE, List.mem_singleton, List.lookup_cons_self, List.getElem?_cons_zero, List.getElem?_cons_succ, List.set_cons_zero, List.set_cons_succ, Option.some.injEq, reduceCtorEq, if_true, if_false, Bool.true_eq_false, Bool.false_eq_true, decide_eq_true_eq, ite_true, ite_false, ↓reduceIte, List.length_cons, List.length_nil, true_and, and_true, exists_eq_left', exists_eq_left, List.cons.injEq]
    rw [show (0 : Int) + (k : Int) = ((k : Nat) : Int) from by omega]
    exact h k A' B' H' t U1 U2 (fun y o n1 n2 e => x _ _ n1 n2 (e1 _ _ e)) (g1.mono (by omega)) (g2.mono (by omega))
  · rintro j σ H' hj ⟨⟨v2, rfl⟩, rfl⟩ R hR
    refine ⟨⟨_, [V.ref p1, V.ref p2][j]'hj, .inl (.inl k1), by simp⟩, ?_⟩
    intro x H2 hy
    obtain ⟨rfl, hx⟩ := hy
    have hx := hx _ (.inl (.inl k1))
    simp only [gName, List.set_cons_zero, List.set_cons_succ]
    refine ifS_ fun A0 B0 hA hB => ?_
    simp only [tNot, cTru, tCB, tCons, tC, tNil, cVar, List.getElem?_cons_succ, List.getElem?_cons_zero]
    match j, hj, hx with
    | 0, _, hx =>
      obtain rfl : V.ref p1 = x := by simpa using hx
      refine is_view V1 ?_
      simp only [oTru, Bool.not_true, Bool.false_eq_true, if_false]
      exact hB _ (hR _ _ ⟨⟨_, rfl⟩, rfl⟩)
    | 1, _, hx =>
      obtain rfl : V.ref p2 = x := by simpa using hx
      refine is_view V2 ?_
      simp only [oTru, Bool.not_true, Bool.false_eq_true, if_false]
      exact hB _ (hR _ _ ⟨⟨_, rfl⟩, rfl⟩)
end
end WR.L

set_option Elab.async false
set_option linter.all false
set_option maxRecDepth 100000
set_option maxHeartbeats 4000000
namespace WR.L
open PySem PySem.Spec PyProof.Rows L2
section
variable {K : PySem.W.Frag} {n : Nat} {H : Hp} {Q : VK} {E : XK} {nms : List Str} {C : Int}
theorem gat_ne {d e : Addr} {rs : RwG R3} {kv : List (Key × V)} {H H' : Hp} (W : GAt enc3 H d rs) (x : Exd e H H') (he : H e = some (.dK kv)) (n : d ≠ e) : GAt enc3 H' d rs := by
  obtain ⟨kvs, hd, r⟩ := W
  exact ⟨kvs, x _ _ n hd, r.tp fun t xs e' => x _ _ (fun z => by rw [z, he] at e'; cases e') e'⟩
end
end WR.L

set_option Elab.async false
set_option linter.all false
set_option maxRecDepth 100000
set_option maxHeartbeats 4000000
namespace WR.L
open PySem PySem.Spec PyProof.Rows L2
def dt3 (ts : RwG R3) : List (Key × PyData) := ts.map fun r => (.inr r.1, d3 r.2)
theorem dat_dt3 (n : Str) : ∀ ts : RwG R3, dat (dt3 ts) (.inr n) = (gget ts n).map d3
  | [] => rfl
  | t :: ts => by
    rw [gget_cons]
    have ih := dat_dt3 n ts
    unfold dt3 dat at ih ⊢
    by_cases h : t.1 = n
    · simp [List.find?_cons, h]
    · have : ¬ ((Sum.inr t.1 : Key) = Sum.inr n) := fun z => h (Sum.inr.inj z)
      simp only [List.map_cons, List.find?_cons, this, decide_false, h, if_false]
      exact ih
theorem eqKv_same {ts : RwG R3} (nd : (ts.map (·.1)).Nodup) : eqKv (dt3 ts) (dt3 ts) = true := by
  unfold eqKv
  refine List.all_eq_true.mpr fun q hq => ?_
  unfold dt3 at hq
  obtain ⟨r, hr, rfl⟩ := List.mem_map.mp hq
  rw [dat_dt3, gget_nd nd (show (r.1, r.2) ∈ ts from hr)]
  simp only [Option.map_some]
  rw [eqv3]; simp
section
variable {K : PySem.W.Frag} {n : Nat} {H : Hp} {Q : VK} {E : XK} {nms : List Str} {C : Int}
theorem dp_rows3 : ∀ {kvs : List (Key × V)} {ts : RwG R3}, RG enc3 H kvs ts → okW ts → DpKv K H kvs (dt3 ts)
  | [], [], _, _ => .nil
  | [], _ :: _, h, _ => h.elim
  | _ :: _, [], h, _ => h.elim
  | (k, v) :: kvs, (nm, r) :: ts, h, w => by
    obtain ⟨rfl, ⟨t, rfl, e⟩, q⟩ := h
    exact .cons (dp3 e) (shaped3 (w _ List.mem_cons_self)) (dp_rows3 q fun x hx => w x (List.mem_cons_of_mem _ hx))
theorem told_w {rs ts : RwG R3} (nd : (rs.map (·.1)).Nodup) (w : okW rs) (h : GTold rs ts) : okW ts := fun r hr => w r (h.mem nd hr)
theorem s_eq {p d p2 d2 : Addr} {own own2 : Str} {rs rs2 : RwG R3} (W : VAt K H p d own rs) (W2 : VAt K H p2 d2 own2 rs2) (hl : rs.length < 64) (hl2 : rs2.length < 64) (nd : (rs.map (·.1)).Nodup) (nd2 : (rs2.map (·.1)).Nodup) (w : okW rs) (w2 : okW rs2) (hs : ∀ ts us, GTold rs ts → GTold rs2 us → ts = us)
    (h : ∀ H', Ex H H' → Q (.bl true) H') : SP K (n+3) "View.__eq__" [.ref p, .ref p2] H Q E := by
  refine o_View___eq__ ?_
  unfold r_View___eq__
  simp only [tRet, cAnd, tCB, tCons, tNil, tC, cVar, List.getElem?_cons_zero, List.getElem?_cons_succ]
  refine is_view W2 ?_
  simp only [oTru, tOp]
  obtain ⟨⟨dx, hp⟩, _⟩ := id W
  refine mC_ownR (c_told_0 K _) ?_ fun P P' hh q => mono_var hh q
  try simp only [tSeq, tIfS, tNext, tRet, tRetN, tDrop, tAsg, tC, cVar, tOp, tCB, tCons, tNil, tTup, tLst, tIf, tAnd, tOr, tNot, cTest, cTru, oTru, cAnd, cOr, cNot, cUn, cChain, gName, cTupG, gCons, gNil, gSub, oLt, oLe, oGt, oGe, oGtK, oGeK, oBor, oIs, oIsNot, oSub, oMul, oFdiv, oMod, oPow, cPar, cPar3, cAug, tDNewK, cCall, cAttr, frzE, List.mem_singleton, List.lookup_cons_self, List.getElem?_cons_zero, List.getElem?_cons_succ, List.set_cons_zero, List.set_cons_succ, Option.some.injEq, reduceCtorEq, if_true, if_false, Bool.true_eq_false, Bool.false_eq_true, decide_eq_true_eq, ite_true, ite_false, ↓reduceIte, List.length_cons, List.length_nil, true_and, and_true, exists_eq_left', exists_eq_left, List.cons.injEq]
  refine ⟨p, dx, _, rfl, hp, lk2 rfl rfl, ?_⟩
  refine s_told W hl nd fun ts q H1 ht e1 hq g1 => ?_
  have W2' := W2.ex e1
  obtain ⟨⟨dx2, hp2⟩, _⟩ := id W2'
  refine mC_ownR (c_told_0 K _) ?_ fun P P' hh q => mono_var hh q
  try simp only [tSeq, tIfS, tNext, tRet, tRetN, tDrop, tAsg, tC, cVar, tOp, tCB, tCons, tNil, tTup, tLst, tIf, tAnd, tOr, tNot, cTest, cTru, oTru, cAnd, cOr, cNot, cUn, cChain, gName, cTupG, gCons, gNil, gSub, oLt, oLe, oGt, oGe, oGtK, oGeK, oBor, oIs, oIsNot, oSub, oMul, oFdiv, oMod, oPow, cPar, cPar3, cAug, tDNewK, cCall, cAttr, frzE, List.mem_singleton, List.lookup_cons_self, List.getElem?_cons_zero, List.getElem?_cons_succ, List.set_cons_zero, List.set_cons_succ, Option.some.injEq, reduceCtorEq, if_true, if_false, Bool.true_eq_false, Bool.false_eq_true, decide_eq_true_eq, ite_true, ite_false, ↓reduceIte, List.length_cons, List.length_nil, true_and, and_true, exists_eq_left', exists_eq_left, List.cons.injEq]
  refine ⟨p2, dx2, _, rfl, hp2, lk2 rfl rfl, ?_⟩
  refine s_told W2' hl2 nd2 fun us q2 H2 hu e2 hq2 g2 => ?_
  have := hs ts us ht hu
  subst this
  obtain ⟨k1, a1, r1⟩ := g1.ex e2
  obtain ⟨k2, a2, r2⟩ := g2
  have wt := told_w nd w ht
  refine .inl ?_
  unfold oEqG0
  rw [ins_dK (K := K) (look_of_dK a1)]
  refine .inr ⟨q, q2, k1, k2, dt3 ts, dt3 ts, rfl, rfl, a1, a2, dp_rows3 r1 wt, dp_rows3 r2 wt, ?_⟩
  have e : (k1.length == k2.length && eqKv (dt3 ts) (dt3 ts)) = true := by
    rw [eqKv_same (GTold.nd nd ht), r1.len, r2.len]; simp
  rw [e]
  exact h H2 (e1.trans e2)
theorem eq_view {S : Nat} {p d p2 d2 : Addr} {own own2 : Str} {rs rs2 : RwG R3} (W : VAt K H p d own rs) (W2 : VAt K H p2 d2 own2 rs2) (hl : rs.length < 64) (hl2 : rs2.length < 64) (nd : (rs.map (·.1)).Nodup) (nd2 : (rs2.map (·.1)).Nodup) (w : okW rs) (w2 : okW rs2) (hs : ∀ ts us, GTold rs ts → GTold rs2 us → ts = us)
    (h : ∀ H', Ex H H' → Q (.bl true) H') : oEqG (gg K (SP K (S+3))) (.ref p) (.ref p2) H Q := by
  obtain ⟨⟨dx, hp⟩, _⟩ := id W
  obtain ⟨⟨dx2, hp2⟩, _⟩ := id W2
  refine .inl ?_
  unfold oEqG0
  simp only [ins_ins hp]
  exact ⟨.inr ⟨_, _, ins_ins hp2⟩, spc_R (cs_eq K _) rfl (s_eq W W2 hl hl2 nd nd2 w w2 hs h)⟩
theorem ne_view {S : Nat} {p d p2 d2 : Addr} {own own2 : Str} {rs rs2 : RwG R3} (W : VAt K H p d own rs) (W2 : VAt K H p2 d2 own2 rs2) (hl : rs.length < 64) (hl2 : rs2.length < 64) (nd : (rs.map (·.1)).Nodup) (nd2 : (rs2.map (·.1)).Nodup) (w : okW rs) (w2 : okW rs2) (hs : ∀ ts us, GTold rs ts → GTold rs2 us → ts = us)
    (h : ∀ H', Ex H H' → Q (.bl false) H') : oNeG (gg K (SP K (S+3))) (.ref p) (.ref p2) H Q := by
  obtain ⟨⟨dx, hp⟩, _⟩ := id W
  obtain ⟨⟨dx2, hp2⟩, _⟩ := id W2
  unfold oNeG
  simp only [ins_ins hp]
  exact ⟨⟨_, List.mem_cons_of_mem _ (List.mem_singleton_self _), rfl⟩, .inr ⟨_, _, ins_ins hp2⟩, spc_R (cs_eq K _) rfl (s_eq W W2 hl hl2 nd nd2 w w2 hs h)⟩
theorem s_init {p dx : Addr} {own : Str} {place number : Int} (hp : H p = some (.ins (He.ga K "View") dx [])) (hn : isNm own = true) (hp1 : 0 ≤ place ∧ place ≤ 255) (hnu : 1 ≤ number)
    (h : ∀ d H', VAt K H' p d own [(own, (place, number, "here"))] → H d = none → (∀ b o, b ≠ p → H b = some o → H' b = some o) → Q .non H') : SP K (n+4) "View.__init__" [.ref p, .str own, .int place, .int number] H Q E := by
  refine o_View___init__ ?_
  unfold r_View___init__
  refine seq_ fun N1 h1 => ?_
  simp only [tDrop, cCall, tCons, tNil, cVar, List.getElem?_cons_zero, List.getElem?_cons_succ]
  refine ⟨rfl, (by first | rfl | trivial), s_need_name (nm_len hn) hn fun H1 e1 => h1 _ _ (seq_ fun N2 h2 => ?_)⟩
  simp only [tDrop, cCall, tCons, tNil, cVar, List.getElem?_cons_zero, List.getElem?_cons_succ]
  refine ⟨rfl, (by first | rfl | trivial), s_need_place hp1 (h2 _ _ (seq_ fun N3 h3 => ifS_ fun A3 B3 hA3 hB3 => ?_))⟩
  simp only [tNot, cTru, cCall, tCons, tNil, cVar, List.getElem?_cons_zero, List.getElem?_cons_succ]
  refine ⟨rfl, (by first | rfl | trivial), s_is_number ?_⟩
  simp only [oTru, hnu, decide_true, Bool.not_true, Bool.false_eq_true, if_false]
  refine hB3 _ ?_
  simp only [tNext]
  refine h3 _ _ (seq_ fun N4 h4 => ?_)
  have hp' := e1 _ _ hp
  simp only [cFldS, cVar, List.getElem?_cons_zero, List.getElem?_cons_succ, hp']
  refine ⟨List.mem_singleton_self _, by simp, h4 _ _ ?_⟩
  have k1 : (upd H1 p (.ins (He.ga K "View") dx (putF "own_name" (.str own) []))) p = some (.ins (He.ga K "View") dx [("own_name", .str own)]) := by rw [upd_same]; rfl
  have f1 : ∀ b o, b ≠ p → H b = some o → (upd H1 p (.ins (He.ga K "View") dx (putF "own_name" (.str own) []))) b = some o := fun b o nb e => by rw [upd_ne nb]; exact e1 _ _ e
  generalize upd H1 p (.ins (He.ga K "View") dx (putF "own_name" (.str own) [])) = H2 at k1 f1 ⊢
  simp only [cFldS, tDisp]
  intro D hD
  simp only [tPairs, cVar, tTup, tCons, tNil, tC, List.getElem?_cons_zero, List.getElem?_cons_succ]
  refine ⟨by simp only [sizeLine_eq, List.length_cons, List.length_nil]; omega, fun T hT => ?_⟩
  have nDT : D ≠ T := fun z => by rw [← z, upd_same] at hT; cases hT
  have npD : p ≠ D := ne_of_none k1 hD
  have npT : p ≠ T := fun z => by rw [← z, upd_ne npD, k1] at hT; cases hT
  refine ⟨by rw [upd_ne nDT, upd_same], [(.inr own, .ref T)], rfl, by simp, ?_⟩
  rw [show mergeK [] [((.inr own : Key), V.ref T)] = [(.inr own, .ref T)] from rfl]
  have k3 : (upd (upd (upd H2 D (.dK [])) T (.tup [.int place, .int number, .str "here"])) D (.dK [(.inr own, .ref T)])) p = some (.ins (He.ga K "View") dx [("own_name", .str own)]) := by
    rw [upd_ne npD, upd_ne npT, upd_ne npD]; exact k1
  simp only [k3]
  refine ⟨List.mem_singleton_self _, by simp, ?_⟩
  have hTn : H2 T = none := by rw [upd_ne nDT.symm] at hT; exact hT
  have hDH : H D = none := by
    cases e : H D with
    | none => rfl
    | some o => rw [f1 D o npD.symm e] at hD; cases hD
  refine h D _ ⟨⟨dx, by rw [upd_same]; rfl⟩, [(.inr own, .ref T)], by rw [upd_ne npD.symm, upd_same], rfl, ⟨T, rfl, ?_⟩, trivial⟩ hDH fun b o nb e => ?_
  · rw [upd_ne npT.symm, upd_ne nDT.symm, upd_same]; rfl
  · have e2 := f1 b o nb e
    have nbD : b ≠ D := fun z => by rw [z, hD] at e2; cases e2
    have nbT : b ≠ T := fun z => by rw [z, hTn] at e2; cases e2
    rw [upd_ne nb, upd_ne nbD, upd_ne nbT, upd_ne nbD]; exact e2
theorem mk_view {σ : L2.St} {W : WX} {t tk : TA} {own : Str} {place number : Int} (ht : ∀ P : List V → Hp → Prop, P [.str own, .int place] H → t σ H P) (htk : ∀ P : List V → Hp → Prop, P [.int number] H → tk σ H P) (hn : isNm own = true) (hp1 : 0 ≤ place ∧ place ≤ 255) (hnu : 1 ≤ number)
    (h : ∀ p d H', Ex H H' → H p = none → H d = none → p ≠ d → VAt K H' p d own [(own, (place, number, "here"))] → Q (.ref p) H') : cMk (He.ga K "View") 2 1 (fun vs zs => vs ++ zs) (SP K (n+4) "View.__init__") t tk W σ H Q := by
  unfold cMk
  refine ht _ (htk _ ⟨rfl, rfl, fun x dx hx hdx ne => ?_⟩)
  refine s_init (dx := dx) upd_same hn hp1 hnu fun d0 H1 W1 hd0 k1 => ⟨rfl, ?_⟩
  have ex1 : Ex H H1 := fun b o e => k1 b o (ne_of_none e hx) (by rw [upd_ne (ne_of_none e hx), upd_ne (ne_of_none e hdx)]; exact e)
  have nxd : x ≠ d0 := fun z => by rw [← z, upd_same] at hd0; cases hd0
  have hd : H d0 = none := by
    cases e : H d0 with
    | none => rfl
    | some o =>
      rw [upd_ne nxd.symm] at hd0
      by_cases h2 : d0 = dx
      · rw [h2, upd_same] at hd0; cases hd0
      · rw [upd_ne h2, e] at hd0; cases hd0
  exact h x d0 H1 ex1 hx hd nxd W1
theorem s_copied {p d : Addr} {own : Str} {rs : RwG R3} (W : VAt K H p d own rs) (g : GdR nms C own rs) (hn : isNm own = true) (h : ∀ p' d' H', Ex H H' → H p' = none → H d' = none → VAt K H' p' d' own rs → Q (.ref p') H') : SP K (n+5) "View.copied" [.ref p] H Q E := by
  obtain ⟨ro, ho⟩ := g.own
  have okr := (g.row _ (gget_in ho)).2
  obtain ⟨⟨dx, hp⟩, kvs, hd, r⟩ := id W
  obtain ⟨t, hv, ht⟩ := r.some ho
  refine o_View_copied ?_
  unfold r_View_copied
  refine seq_ fun N1 h1 => ?_
  simp only [tAsg, tOp, cAttr, cVar, ins_ins hp, lk_rows, List.lookup_cons_self, List.mem_singleton, true_and, List.getElem?_cons_zero, List.getElem?_cons_succ]
  rw [ix_dS hd hv]
  refine tup3_ (look_of_tup ht) (h1 _ _ (seq_ fun N2 h2 => ?_))
  simp only [tAsg]
  refine mk_view (own := own) (place := ro.1) (number := ro.2.1) (fun P q => ?_) (fun P q => ?_) hn okr.1 okr.2.1 fun p' d0 H1 e1 fp fd npd W1 => h2 _ _ (seq_ fun N3 h3 => ?_)
  · simp only [tCons, tNil, cAttr, cVar, ins_ins hp, List.lookup_cons_self, List.mem_singleton, true_and, List.set_cons_zero, List.set_cons_succ, List.getElem?_cons_zero, List.getElem?_cons_succ]
    exact q
  · simp only [tCons, tNil, cVar, List.set_cons_zero, List.set_cons_succ, List.getElem?_cons_zero, List.getElem?_cons_succ]
    exact q
  · have Wa := W.ex e1
    obtain ⟨⟨dxa, hpa⟩, kva, hda, ra⟩ := id Wa
    obtain ⟨⟨dx1, hp1⟩, kv1, hd1, r1⟩ := id W1
    simp only [cFldS, cAttr, ins_ins hpa, lk_rows, tCB, tCons, tNil, gName, cVar, bDict, look_of_dK (K := K) hda, List.lookup_cons_self, List.set_cons_zero, List.set_cons_succ, List.getElem?_cons_zero, List.getElem?_cons_succ]
    refine ⟨List.mem_singleton_self _, fun l hl => ?_⟩
    have npl : p' ≠ l := ne_of_none hp1 hl
    simp only [upd_ne npl, hp1]
    refine ⟨List.mem_singleton_self _, by simp, h3 _ _ ?_⟩
    try simp only [tSeq, tIfS, tNext, tRet, tRetN, tDrop, tAsg, tC, cVar, tOp, tCB, tCons, tNil, tTup, tLst, tIf, tAnd, tOr, tNot, cTest, cTru, oTru, cAnd, cOr, cNot, cUn, cChain, gName, cTupG, gCons, gNil, gSub, oLt, oLe, oGt, oGe, oGtK, oGeK, oBor, oIs, oIsNot, oSub, oMul, oFdiv, oMod, oPow, cPar, cPar3, cAug, tDNewK, cCall, cAttr, frzE, List.mem_singleton, List.lookup_cons_self, List.getElem?_cons_zero, List.getElem?_cons_succ, List.set_cons_zero, List.set_cons_succ, Option.some.injEq, reduceCtorEq, if_true, if_false, Bool.true_eq_false, Bool.false_eq_true, decide_eq_true_eq, ite_true, ite_false, ↓reduceIte, List.length_cons, List.length_nil, true_and, and_true, exists_eq_left', exists_eq_left, List.cons.injEq]
    have e2 : Ex H (upd (upd H1 l (.dK kva)) p' (.ins (He.ga K "View") dx1 (putF "heard_rows" (.ref l) [(("own_name" : Str), V.str own), (("heard_rows" : Str), V.ref d0)]))) := fun b o e => by
      rw [upd_ne (ne_of_none e fp), upd_ne (ne_of_none (e1 _ _ e) hl)]; exact e1 _ _ e
    have ek : kva = kvs := by have := e1 _ _ hd; rw [hda] at this; cases this; rfl
    refine h p' l _ e2 fp (Ex.none e1 hl) ⟨⟨dx1, by rw [upd_same]; rfl⟩, kva, by rw [upd_ne npl.symm, upd_same], ?_⟩
    rw [ek]
    rw [ek] at e2
    exact r.tp e2.tp
end
end WR.L

set_option Elab.async false
set_option linter.all false
set_option maxRecDepth 100000
set_option maxHeartbeats 4000000
namespace WR.L
open PySem PySem.Spec PyProof.Rows L2
section
variable {K : PySem.W.Frag} {n : Nat} {H : Hp} {Q : VK} {E : XK} {nms : List Str} {C : Int}
theorem ix_mod {l : Addr} {xs : List V} {z k : Int} (hl : look K H l = some (.lst xs)) (hk : k = xs.length) (hp : 0 < k) (h : ∀ x ∈ xs, Q x H) : oIx K (.ref l) (.int (z % k)) H Q := by
  have m := mod_b (a := z) (m := k) hp
  have hj : (z % k).toNat < xs.length := by omega
  rw [show z % k = (((z % k).toNat : Nat) : Int) from by omega]
  rw [ix_lst hl (v := xs[(z % k).toNat]) (by rw [atI_nat]; simp [hj])]
  exact h _ (List.getElem_mem hj)
theorem ix_row {r : Addr} {ns : List Int} {k : Nat} (hr : H r = some (.lst (ns.map V.int))) (hk : k < ns.length) (h : ∀ z, Q (.int z) H) : oIx K (.ref r) (.int k) H Q := by
  rw [ix_lst (look_of_lst hr) (v := .int ns[k]) (by rw [atI_nat, List.getElem?_map, List.getElem?_eq_getElem hk]; rfl)]
  exact h _
def KnAt (H : Hp) (l : Addr) (ks : RwG R3) : Prop := ∃ xs, H l = some (.lst xs) ∧ xs.length = ks.length ∧ ∀ j, ∀ (hj : j < xs.length) (hk : j < ks.length), ∃ t a, xs[j] = .ref t ∧ H t = some (.tup [.str ks[j].1, .ref a]) ∧ H a = some (.tup (enc3 ks[j].2))
theorem KnAt.ex {H H' : Hp} {l : Addr} {ks : RwG R3} (x : Ex H H') (h : KnAt H l ks) : KnAt H' l ks := by
  obtain ⟨xs, e, hl, q⟩ := h
  exact ⟨xs, x _ _ e, hl, fun j hj hk => by obtain ⟨t, a, h1, h2, h3⟩ := q j hj hk; exact ⟨t, a, h1, x _ _ h2, x _ _ h3⟩⟩
end
end WR.L

set_option Elab.async false
set_option linter.all false
set_option maxRecDepth 100000
set_option maxHeartbeats 1000000
namespace WR.L
open PySem PySem.Spec PyProof.Rows L2
section
variable {K : PySem.W.Frag} {n : Nat} {H : Hp} {Q : VK} {E : XK}
theorem lets_ok : lets.all (fun c => decide (c < 1114112)) = true := by decide +kernel
/-- a text that data may hold -/
def okS (s : Str) : Prop := (PyData.str s).canLay0 = true
theorem nm_ok {s : Str} (h : isNm s = true) : okS s := by
  unfold isNm at h
  simp only [Bool.and_eq_true, decide_eq_true_eq, List.all_eq_true] at h
  show s.cps.all (· < 0x110000) = true
  rw [← Array.all_toList, List.all_eq_true]
  intro c hc
  exact List.all_eq_true.mp lets_ok c (h.2.2 c hc)
theorem dpStrs : ∀ ss : List Str, DpAll K H (ss.map V.str) (ss.map PyData.str)
  | [] => .nil
  | s :: r => .cons (.str s) (dpStrs r)
theorem lay_strs : ∀ {ss : List Str}, (∀ s ∈ ss, okS s) → PyData.canLayAll0 (ss.map PyData.str) = true ∧ PyData.depthAll (ss.map PyData.str) ≤ 1
  | [], h => ⟨rfl, Nat.zero_le _⟩
  | s :: r, h => by
    obtain ⟨h1, h2⟩ := lay_strs (ss := r) fun x hx => h x (List.mem_cons_of_mem _ hx)
    refine ⟨?_, ?_⟩
    · simp only [List.map_cons, PyData.canLayAll0, h1, Bool.and_true]
      exact h s (List.mem_cons_self ..)
    · simp only [List.map_cons, PyData.depthAll]
      exact Nat.max_le.mpr ⟨by simp [PyData.depth], h2⟩
theorem shaped_strs {ss : List Str} (h : ∀ s ∈ ss, okS s) : SeqAt.shaped (.list (ss.map PyData.str)) = true := by
  obtain ⟨h1, h2⟩ := lay_strs h
  unfold SeqAt.shaped
  simp only [PyData.canLay0, PyData.depth, h1, Bool.true_and, decide_eq_true_eq]
  exact decide_eq_true (Nat.succ_le_of_lt (Nat.lt_of_le_of_lt h2 (by decide : 1 < 64)))
theorem eqv_strs {ss : List Str} (h : ∀ s ∈ ss, okS s) : PyData.eqv (.list (ss.map PyData.str)) (.list (ss.map PyData.str)) = true := by
  refine SeqAt.eqv_refl _ ?_
  simp only [PyData.canLay0]
  exact (lay_strs h).1
theorem kvs_strs {kvs : List (Key × V)} {rs : RwG R3} (r : RG enc3 H kvs rs) : (kvs.map fun kv => kV kv.1) = (rs.map (·.1)).map V.str := by
  have := keysS_ok r.keys
  have e : (kvs.map fun kv => kV kv.1) = (kvs.map (·.1)).map kV := by rw [List.map_map]; rfl
  rw [e, this, List.map_map]
  rfl
theorem ne_lst_same {a b : Addr} {ss : List Str} {S : Str → Sp} (ha : H a = some (.lst (ss.map V.str))) (hb : H b = some (.lst (ss.map V.str))) (h : ∀ s ∈ ss, okS s) (q : Q (.bl false) H) : oNeG (gg K S) (.ref a) (.ref b) H Q := by
  unfold oNeG
  rw [ins_lst (look_of_lst (K := K) ha)]
  refine .inl (.inr ⟨_, _, .lst (.inl (.inl ha)) (dpStrs ss), .lst (.inl (.inl hb)) (dpStrs ss), shaped_strs h, shaped_strs h, ?_⟩)
  rw [eqv_strs h]
  exact q
theorem s_alike_dict {a b : Addr} {rs : RwG R3} (ha : GAt enc3 H a rs) (hb : GAt enc3 H b rs) (hab : a ≠ b) (hl : rs.length ≤ 900) (nd : (rs.map (·.1)).Nodup) (hok : ∀ s ∈ rs.map (·.1), okS s) (h : ∀ H', Ex H H' → Q (.bl true) H') : SP K (n+3) "_law_alike" [.ref a, .ref b] H Q E := by
  obtain ⟨ka, ea, ra⟩ := ha
  obtain ⟨kb, eb, rb⟩ := hb
  refine o__law_alike ?_
  unfold r__law_alike
  refine seq_ fun N1 h1 => ?_
  try simp only [tSeq, tIfS, tNext, tRet, tRetN, tDrop, tAsg, tC, cVar, tOp, tCB, tCons, tNil, tTup, tLst, tIf, tAnd, tOr, tNot, cTest, cTru, oTru, cAnd, cOr, cNot, cUn, cChain, gName, cTupG, gCons, gNil, gSub, oLt, oLe, oGt, oGe, oGtK, oGeK, oBor, oIs, oIsNot, oSub, oMul, oFdiv, oMod, oPow, cPar, cPar3, cAug, tDNewK, cCall, cAttr, frzE, List.mem_singleton, List.lookup_cons_self, List.getElem?_cons_zero, List.getElem?_cons_succ, List.set_cons_zero, List.set_cons_succ, Option.some.injEq, reduceCtorEq, if_true, if_false, Bool.true_eq_false, Bool.false_eq_true, decide_eq_true_eq, ite_true, ite_false, ↓reduceIte, List.length_cons, List.length_nil, true_and, and_true, exists_eq_left', exists_eq_left, List.cons.injEq]
  refine h1 _ _ (seq_ fun N2 h2 => ?_)
  have tb := ty_dK (K := K) (look_of_dK eb)
  have ta := ty_dK (K := K) (look_of_dK ea)
  try simp only [tSeq, tIfS, tNext, tRet, tRetN, tDrop, tAsg, tC, cVar, tOp, tCB, tCons, tNil, tTup, tLst, tIf, tAnd, tOr, tNot, cTest, cTru, oTru, cAnd, cOr, cNot, cUn, cChain, gName, cTupG, gCons, gNil, gSub, oLt, oLe, oGt, oGe, oGtK, oGeK, oBor, oIs, oIsNot, oSub, oMul, oFdiv, oMod, oPow, cPar, cPar3, cAug, tDNewK, cCall, cAttr, frzE, List.mem_singleton, List.lookup_cons_self, List.getElem?_cons_zero, List.getElem?_cons_succ, List.set_cons_zero, List.set_cons_succ, Option.some.injEq, reduceCtorEq, if_true, if_false, Bool.true_eq_false, Bool.false_eq_true, decide_eq_true_eq, ite_true, ite_false, ↓reduceIte, List.length_cons, List.length_nil, true_and, and_true, exists_eq_left', exists_eq_left, List.cons.injEq]
  rw [isi_ty tb kb_dict_bool]
  try simp only [tSeq, tIfS, tNext, tRet, tRetN, tDrop, tAsg, tC, cVar, tOp, tCB, tCons, tNil, tTup, tLst, tIf, tAnd, tOr, tNot, cTest, cTru, oTru, cAnd, cOr, cNot, cUn, cChain, gName, cTupG, gCons, gNil, gSub, oLt, oLe, oGt, oGe, oGtK, oGeK, oBor, oIs, oIsNot, oSub, oMul, oFdiv, oMod, oPow, cPar, cPar3, cAug, tDNewK, cCall, cAttr, frzE, List.mem_singleton, List.lookup_cons_self, List.getElem?_cons_zero, List.getElem?_cons_succ, List.set_cons_zero, List.set_cons_succ, Option.some.injEq, reduceCtorEq, if_true, if_false, Bool.true_eq_false, Bool.false_eq_true, decide_eq_true_eq, ite_true, ite_false, ↓reduceIte, List.length_cons, List.length_nil, true_and, and_true, exists_eq_left', exists_eq_left, List.cons.injEq]
  refine h2 _ _ (seq_ fun N3 h3 => ?_)
  try simp only [tSeq, tIfS, tNext, tRet, tRetN, tDrop, tAsg, tC, cVar, tOp, tCB, tCons, tNil, tTup, tLst, tIf, tAnd, tOr, tNot, cTest, cTru, oTru, cAnd, cOr, cNot, cUn, cChain, gName, cTupG, gCons, gNil, gSub, oLt, oLe, oGt, oGe, oGtK, oGeK, oBor, oIs, oIsNot, oSub, oMul, oFdiv, oMod, oPow, cPar, cPar3, cAug, tDNewK, cCall, cAttr, frzE, List.mem_singleton, List.lookup_cons_self, List.getElem?_cons_zero, List.getElem?_cons_succ, List.set_cons_zero, List.set_cons_succ, Option.some.injEq, reduceCtorEq, if_true, if_false, Bool.true_eq_false, Bool.false_eq_true, decide_eq_true_eq, ite_true, ite_false, ↓reduceIte, List.length_cons, List.length_nil, true_and, and_true, exists_eq_left', exists_eq_left, List.cons.injEq]
  rw [isi_ty tb kb_dict_int]
  try simp only [tSeq, tIfS, tNext, tRet, tRetN, tDrop, tAsg, tC, cVar, tOp, tCB, tCons, tNil, tTup, tLst, tIf, tAnd, tOr, tNot, cTest, cTru, oTru, cAnd, cOr, cNot, cUn, cChain, gName, cTupG, gCons, gNil, gSub, oLt, oLe, oGt, oGe, oGtK, oGeK, oBor, oIs, oIsNot, oSub, oMul, oFdiv, oMod, oPow, cPar, cPar3, cAug, tDNewK, cCall, cAttr, frzE, List.mem_singleton, List.lookup_cons_self, List.getElem?_cons_zero, List.getElem?_cons_succ, List.set_cons_zero, List.set_cons_succ, Option.some.injEq, reduceCtorEq, if_true, if_false, Bool.true_eq_false, Bool.false_eq_true, decide_eq_true_eq, ite_true, ite_false, ↓reduceIte, List.length_cons, List.length_nil, true_and, and_true, exists_eq_left', exists_eq_left, List.cons.injEq]
  refine h3 _ _ (seq_ fun N4 h4 => ?_)
  try simp only [tSeq, tIfS, tNext, tRet, tRetN, tDrop, tAsg, tC, cVar, tOp, tCB, tCons, tNil, tTup, tLst, tIf, tAnd, tOr, tNot, cTest, cTru, oTru, cAnd, cOr, cNot, cUn, cChain, gName, cTupG, gCons, gNil, gSub, oLt, oLe, oGt, oGe, oGtK, oGeK, oBor, oIs, oIsNot, oSub, oMul, oFdiv, oMod, oPow, cPar, cPar3, cAug, tDNewK, cCall, cAttr, frzE, List.mem_singleton, List.lookup_cons_self, List.getElem?_cons_zero, List.getElem?_cons_succ, List.set_cons_zero, List.set_cons_succ, Option.some.injEq, reduceCtorEq, if_true, if_false, Bool.true_eq_false, Bool.false_eq_true, decide_eq_true_eq, ite_true, ite_false, ↓reduceIte, List.length_cons, List.length_nil, true_and, and_true, exists_eq_left', exists_eq_left, List.cons.injEq]
  rw [isi_ty tb kb_dict_str]
  try simp only [tSeq, tIfS, tNext, tRet, tRetN, tDrop, tAsg, tC, cVar, tOp, tCB, tCons, tNil, tTup, tLst, tIf, tAnd, tOr, tNot, cTest, cTru, oTru, cAnd, cOr, cNot, cUn, cChain, gName, cTupG, gCons, gNil, gSub, oLt, oLe, oGt, oGe, oGtK, oGeK, oBor, oIs, oIsNot, oSub, oMul, oFdiv, oMod, oPow, cPar, cPar3, cAug, tDNewK, cCall, cAttr, frzE, List.mem_singleton, List.lookup_cons_self, List.getElem?_cons_zero, List.getElem?_cons_succ, List.set_cons_zero, List.set_cons_succ, Option.some.injEq, reduceCtorEq, if_true, if_false, Bool.true_eq_false, Bool.false_eq_true, decide_eq_true_eq, ite_true, ite_false, ↓reduceIte, List.length_cons, List.length_nil, true_and, and_true, exists_eq_left', exists_eq_left, List.cons.injEq]
  refine h4 _ _ (seq_ fun N5 h5 => ?_)
  try simp only [tSeq, tIfS, tNext, tRet, tRetN, tDrop, tAsg, tC, cVar, tOp, tCB, tCons, tNil, tTup, tLst, tIf, tAnd, tOr, tNot, cTest, cTru, oTru, cAnd, cOr, cNot, cUn, cChain, gName, cTupG, gCons, gNil, gSub, oLt, oLe, oGt, oGe, oGtK, oGeK, oBor, oIs, oIsNot, oSub, oMul, oFdiv, oMod, oPow, cPar, cPar3, cAug, tDNewK, cCall, cAttr, frzE, List.mem_singleton, List.lookup_cons_self, List.getElem?_cons_zero, List.getElem?_cons_succ, List.set_cons_zero, List.set_cons_succ, Option.some.injEq, reduceCtorEq, if_true, if_false, Bool.true_eq_false, Bool.false_eq_true, decide_eq_true_eq, ite_true, ite_false, ↓reduceIte, List.length_cons, List.length_nil, true_and, and_true, exists_eq_left', exists_eq_left, List.cons.injEq]
  rw [isi_ty tb kb_dict_dict]
  try simp only [tSeq, tIfS, tNext, tRet, tRetN, tDrop, tAsg, tC, cVar, tOp, tCB, tCons, tNil, tTup, tLst, tIf, tAnd, tOr, tNot, cTest, cTru, oTru, cAnd, cOr, cNot, cUn, cChain, gName, cTupG, gCons, gNil, gSub, oLt, oLe, oGt, oGe, oGtK, oGeK, oBor, oIs, oIsNot, oSub, oMul, oFdiv, oMod, oPow, cPar, cPar3, cAug, tDNewK, cCall, cAttr, frzE, List.mem_singleton, List.lookup_cons_self, List.getElem?_cons_zero, List.getElem?_cons_succ, List.set_cons_zero, List.set_cons_succ, Option.some.injEq, reduceCtorEq, if_true, if_false, Bool.true_eq_false, Bool.false_eq_true, decide_eq_true_eq, ite_true, ite_false, ↓reduceIte, List.length_cons, List.length_nil, true_and, and_true, exists_eq_left', exists_eq_left, List.cons.injEq]
  rw [isi_ty ta kb_dict_dict]
  simp only [bList, Bool.not_true, look_of_dK ea, tSeq, tIfS, tNext, tRet, tRetN, tDrop, tAsg, tC, cVar, tOp, tCB, tCons, tNil, tTup, tLst, tIf, tAnd, tOr, tNot, cTest, cTru, oTru, cAnd, cOr, cNot, cUn, cChain, gName, cTupG, gCons, gNil, gSub, oLt, oLe, oGt, oGe, oGtK, oGeK, oBor, oIs, oIsNot, oSub, oMul, oFdiv, oMod, oPow, cPar, cPar3, cAug, tDNewK, cCall, cAttr, frzE, List.mem_singleton, List.lookup_cons_self, List.getElem?_cons_zero, List.getElem?_cons_succ, List.set_cons_zero, List.set_cons_succ, Option.some.injEq, reduceCtorEq, if_true, if_false, Bool.true_eq_false, Bool.false_eq_true, decide_eq_true_eq, ite_true, ite_false, ↓reduceIte, List.length_cons, List.length_nil, true_and, and_true, exists_eq_left', exists_eq_left, List.cons.injEq]
  intro l1 hl1
  have nbl : b ≠ l1 := ne_of_none eb hl1
  have nal : a ≠ l1 := ne_of_none ea hl1
  have eb1 : look K (upd H l1 (.lst (ka.map fun kv => kV kv.1))) b = some (.dK kb) := look_of_dK (by rw [upd_ne nbl]; exact eb)
  simp only [eb1]
  intro l2 hl2
  have n12 : l1 ≠ l2 := fun z => by rw [z, upd_same] at hl2; cases hl2
  have hl2H : H l2 = none := (Ex.refl.new hl1).none hl2
  refine ne_lst_same (ss := rs.map (·.1)) (by rw [upd_ne n12, upd_same, kvs_strs ra]) (by rw [upd_same, kvs_strs rb]) hok ?_
  try simp only [tSeq, tIfS, tNext, tRet, tRetN, tDrop, tAsg, tC, cVar, tOp, tCB, tCons, tNil, tTup, tLst, tIf, tAnd, tOr, tNot, cTest, cTru, oTru, cAnd, cOr, cNot, cUn, cChain, gName, cTupG, gCons, gNil, gSub, oLt, oLe, oGt, oGe, oGtK, oGeK, oBor, oIs, oIsNot, oSub, oMul, oFdiv, oMod, oPow, cPar, cPar3, cAug, tDNewK, cCall, cAttr, frzE, List.mem_singleton, List.lookup_cons_self, List.getElem?_cons_zero, List.getElem?_cons_succ, List.set_cons_zero, List.set_cons_succ, Option.some.injEq, reduceCtorEq, if_true, if_false, Bool.true_eq_false, Bool.false_eq_true, decide_eq_true_eq, ite_true, ite_false, ↓reduceIte, List.length_cons, List.length_nil, true_and, and_true, exists_eq_left', exists_eq_left, List.cons.injEq]
  have x2 : Ex H (upd (upd H l1 (.lst (ka.map fun kv => kV kv.1))) l2 (.lst (kb.map fun kv => kV kv.1))) := (Ex.refl.new hl1).new hl2H
  generalize hH2 : upd (upd H l1 (.lst (ka.map fun kv => kV kv.1))) l2 (.lst (kb.map fun kv => kV kv.1)) = H2 at x2 ⊢
  have ea2 := x2 _ _ ea
  have eb2 := x2 _ _ eb
  refine .inr ⟨b, .dK kb, eb2, trivial, fun od => ?_⟩
  have ea3 : (upd H2 b (.frz od (.dK kb))) a = some (.dK ka) := by rw [upd_ne hab]; exact ea2
  simp only [cLc, cIter, frzE, upd_same, tSeq, tIfS, tNext, tRet, tRetN, tDrop, tAsg, tC, cVar, tOp, tCB, tCons, tNil, tTup, tLst, tIf, tAnd, tOr, tNot, cTest, cTru, oTru, cAnd, cOr, cNot, cUn, cChain, gName, cTupG, gCons, gNil, gSub, oLt, oLe, oGt, oGe, oGtK, oGeK, oBor, oIs, oIsNot, oSub, oMul, oFdiv, oMod, oPow, cPar, cPar3, cAug, tDNewK, cCall, cAttr, frzE, List.mem_singleton, List.lookup_cons_self, List.getElem?_cons_zero, List.getElem?_cons_succ, List.set_cons_zero, List.set_cons_succ, Option.some.injEq, reduceCtorEq, if_true, if_false, Bool.true_eq_false, Bool.false_eq_true, decide_eq_true_eq, ite_true, ite_false, ↓reduceIte, List.length_cons, List.length_nil, true_and, and_true, exists_eq_left', exists_eq_left, List.cons.injEq]
  have lk : look K (upd H2 b (.frz od (.dK kb))) b = some (.dK kb) := by unfold look; rw [upd_same]
  simp only [lk, upd_same]
  intro D hD
  have nDb : b ≠ D := fun z => by rw [← z, upd_same] at hD; cases hD
  have hDH2 : H2 D = none := by rw [upd_ne nDb.symm] at hD; exact hD
  have rb3 : RG enc3 (upd H2 b (.frz od (.dK kb))) kb rs := rb.tp fun t xs e => by
    have : t ≠ b := fun z => by rw [z, eb] at e; cases e
    rw [upd_ne this]; exact x2 _ _ e
  have ra3 : RG enc3 (upd H2 b (.frz od (.dK kb))) ka rs := ra.tp fun t xs e => by
    have : t ≠ b := fun z => by rw [z, eb] at e; cases e
    rw [upd_ne this]; exact x2 _ _ e
  refine lpc_inv (n := rs.length) (fun j H' => Ex (upd H2 b (.frz od (.dK kb))) H' ∧ H' D = some (.lst ((List.replicate j true).map V.bl))) ?_ ?_ ⟨Ex.refl.new hD, by rw [upd_same]; rfl⟩
  · rintro H' ⟨e1, e2⟩
    have eb4 := e1 b _ upd_same
    refine ⟨⟨eb4, by rw [rb.len]; exact Nat.le_refl _⟩, eb4, ?_⟩
    refine ⟨D, List.replicate rs.length true, rfl, look_of_lst (by rw [upd_ne nDb.symm]; exact e2), ?_⟩
    rw [all_true]
    refine h _ fun c o ec => ?_
    by_cases hc : c = b
    · subst hc
      rw [eb] at ec; cases ec
      exact upd_same
    · rw [upd_ne hc]
      exact e1 c o (by rw [upd_ne hc]; exact x2 c o ec)
  · rintro j H' hj ⟨e1, e2⟩ R hR
    have eb4 := e1 b _ upd_same
    have ea4 := e1 a _ ea3
    refine ⟨⟨eb4, by rw [rb.len]; exact hj⟩, ?_⟩
    rintro x H3 ⟨rfl, k, v, hk, rfl⟩
    refine ⟨rfl, ?_⟩
    have ek : ∃ s, rs[j]? = some s ∧ k = .inr s.1 := by
      have := keysS_ok rb.keys
      have h5 : (kb.map (·.1))[j]? = some k := by rw [List.getElem?_map, hk]; rfl
      rw [this, List.getElem?_map, List.getElem?_map] at h5
      cases q : rs[j]? with
      | none => rw [q] at h5; cases h5
      | some s => rw [q] at h5; exact ⟨s, rfl, (Option.some.inj h5).symm⟩
    obtain ⟨s, hs, rfl⟩ := ek
    have hm : s.1 ∈ rs.map (·.1) := List.mem_map_of_mem (List.mem_of_getElem? hs)
    obtain ⟨pr, hpr⟩ := gget_mem hm
    have ra4 := ra3.tp e1.tp
    have rb4 := rb3.tp e1.tp
    rcases ra4.get s.1 with ⟨_, q⟩ | ⟨t1, c, v1, q1, y1⟩
    · rw [hpr] at q; cases q
    rcases rb4.get s.1 with ⟨_, q⟩ | ⟨t2, c2, v2, q2, y2⟩
    · rw [hpr] at q; cases q
    rw [q1] at q2
    cases q2
    simp only [tYes, wipe, kV, tSeq, tIfS, tNext, tRet, tRetN, tDrop, tAsg, tC, cVar, tOp, tCB, tCons, tNil, tTup, tLst, tIf, tAnd, tOr, tNot, cTest, cTru, oTru, cAnd, cOr, cNot, cUn, cChain, gName, cTupG, gCons, gNil, gSub, oLt, oLe, oGt, oGe, oGtK, oGeK, oBor, oIs, oIsNot, oSub, oMul, oFdiv, oMod, oPow, cPar, cPar3, cAug, tDNewK, cCall, cAttr, frzE, List.mem_singleton, List.lookup_cons_self, List.getElem?_cons_zero, List.getElem?_cons_succ, List.set_cons_zero, List.set_cons_succ, Option.some.injEq, reduceCtorEq, if_true, if_false, Bool.true_eq_false, Bool.false_eq_true, decide_eq_true_eq, ite_true, ite_false, ↓reduceIte, List.length_cons, List.length_nil, true_and, and_true, exists_eq_left', exists_eq_left, List.cons.injEq]
    rw [ix_dS ea4 v1]
    try simp only [tSeq, tIfS, tNext, tRet, tRetN, tDrop, tAsg, tC, cVar, tOp, tCB, tCons, tNil, tTup, tLst, tIf, tAnd, tOr, tNot, cTest, cTru, oTru, cAnd, cOr, cNot, cUn, cChain, gName, cTupG, gCons, gNil, gSub, oLt, oLe, oGt, oGe, oGtK, oGeK, oBor, oIs, oIsNot, oSub, oMul, oFdiv, oMod, oPow, cPar, cPar3, cAug, tDNewK, cCall, cAttr, frzE, List.mem_singleton, List.lookup_cons_self, List.getElem?_cons_zero, List.getElem?_cons_succ, List.set_cons_zero, List.set_cons_succ, Option.some.injEq, reduceCtorEq, if_true, if_false, Bool.true_eq_false, Bool.false_eq_true, decide_eq_true_eq, ite_true, ite_false, ↓reduceIte, List.length_cons, List.length_nil, true_and, and_true, exists_eq_left', exists_eq_left, List.cons.injEq]
    rw [ix_dSf eb4 v2]
    try simp only [tSeq, tIfS, tNext, tRet, tRetN, tDrop, tAsg, tC, cVar, tOp, tCB, tCons, tNil, tTup, tLst, tIf, tAnd, tOr, tNot, cTest, cTru, oTru, cAnd, cOr, cNot, cUn, cChain, gName, cTupG, gCons, gNil, gSub, oLt, oLe, oGt, oGe, oGtK, oGeK, oBor, oIs, oIsNot, oSub, oMul, oFdiv, oMod, oPow, cPar, cPar3, cAug, tDNewK, cCall, cAttr, frzE, List.mem_singleton, List.lookup_cons_self, List.getElem?_cons_zero, List.getElem?_cons_succ, List.set_cons_zero, List.set_cons_succ, Option.some.injEq, reduceCtorEq, if_true, if_false, Bool.true_eq_false, Bool.false_eq_true, decide_eq_true_eq, ite_true, ite_false, ↓reduceIte, List.length_cons, List.length_nil, true_and, and_true, exists_eq_left', exists_eq_left, List.cons.injEq]
    refine s_alike_seq (N := 3) (xs := enc3 c) (ys := enc3 c) true (look_of_tup y1) (look_of_tup y2) (by decide) rfl rfl (by rw [y1]; simp) (by rw [y2]; simp) (fun i x y H4 R2 hi ex ey e4 hR2 => ?_) fun H4 e4 => ?_
    · match i, hi, ex, ey with
      | 0, _, ex, ey =>
        cases ex; cases ey
        exact s_alike_int (hR2 _ Ex.refl)
      | 1, _, ex, ey =>
        cases ex; cases ey
        exact s_alike_int (hR2 _ Ex.refl)
      | 2, _, ex, ey =>
        cases ex; cases ey
        exact s_alike_str (hR2 _ Ex.refl)
    · refine ⟨_, e4 _ _ e2, ?_, hR _ ⟨?_, ?_⟩⟩
      · rw [List.length_map, List.length_replicate]
        exact small1000 (by omega)
      · intro c' o ec
        have hc : c' ≠ D := fun z => by rw [z, hD] at ec; cases ec
        rw [upd_ne hc]; exact e4 _ _ (e1 c' o ec)
      · rw [upd_same, List.replicate_succ']
        simp
/-- two lists of the same texts -/
theorem s_alike_strs {a b : Addr} {ss : List Str} (ha : H a = some (.lst (ss.map V.str))) (hb : H b = some (.lst (ss.map V.str))) (hl : ss.length ≤ 1000) (h : ∀ H', Ex H H' → Q (.bl true) H') : SP K (n+2) "_law_alike" [.ref a, .ref b] H Q E := by
  refine s_alike_seq (N := ss.length) (xs := ss.map V.str) (ys := ss.map V.str) false (look_of_lst ha) (look_of_lst hb) hl (by simp) (by simp) (by rw [ha]; simp) (by rw [hb]; simp) (fun i x y H4 R2 hi ex ey e4 hR2 => ?_) h
  rw [ex] at ey
  cases ey
  rw [List.getElem?_map] at ex
  cases q : ss[i]? with
  | none => rw [q] at ex; cases ex
  | some s =>
    rw [q] at ex
    obtain rfl : V.str s = x := Option.some.inj ex
    exact s_alike_str (hR2 _ Ex.refl)
end
end WR.L

set_option Elab.async false
set_option linter.all false
set_option maxRecDepth 100000
set_option maxHeartbeats 4000000
namespace WR.L
open PySem PySem.Spec PyProof.Rows L2
theorem empty_app (s : Str) : Str.empty ++ s = s := by
  obtain ⟨x⟩ := s
  show Str.mk _ = _
  simp [Str.empty]
def rowS (r : Str × R3) : Str := r.1 ++ " " ++ (toString r.2.1 : String) ++ " " ++ (toString r.2.2.1 : String) ++ " " ++ r.2.2.2
theorem join4 (a b c d : Str) : Txt.join " " [a, b, c, d] = a ++ " " ++ b ++ " " ++ c ++ " " ++ d := by
  show Builtin.Str.glued " " [a, b, c, d] = _
  rw [StrLaws.glued_eq_join]
  show a ++ " " ++ (b ++ " " ++ (c ++ " " ++ d)) = _
  apply str_ext
  simp only [app_cps, List.append_assoc]
theorem num_ok {i : Int} (h0 : 0 ≤ i) (h1 : i < 10 ^ 12) : (Str.ofString (toString i)).length ≤ 13 ∧ i.natAbs.log2 < 1920 := by
  refine ⟨PyData.shown_int_le (i := i) (by omega), ?_⟩
  have := log_small (a := i.natAbs) (by omega)
  omega
theorem wrd_len : ∀ w ∈ wrds, w.length ≤ 6 := by decide +kernel
theorem nm8 {s : Str} (h : isNm s = true) : s.length ≤ 8 := by
  unfold isNm at h
  simp only [Bool.and_eq_true, decide_eq_true_eq] at h
  omega
section
variable {K : PySem.W.Frag} {n : Nat} {H : Hp} {Q : VK} {E : XK} {nms : List Str} {C : Int}
theorem rowS_len {r : Str × R3} (hn : isNm r.1 = true) (ho : okRow C r.2) (hC : C ≤ 10 ^ 9) : (rowS r).length ≤ 60 := by
  have a1 := num_ok (i := r.2.1) ho.1.1 (by have := ho.1.2; omega)
  have a2 := num_ok (i := r.2.2.1) (by have := ho.2.1; omega) (by have := ho.2.2.1; omega)
  have a3 := nm8 hn
  have a4 := wrd_len _ ho.2.2.2
  have e1 : (" " : Str).length = 1 := rfl
  unfold rowS
  simp only [strLen_append, e1]
  omega
theorem s_str {p d : Addr} {own : Str} {rs : RwG R3} (W : VAt K H p d own rs) (g : GdR nms C own rs) (h5 : nms.length = 5) (hn : ∀ s ∈ nms, isNm s = true) (hC : C ≤ 10 ^ 9) (h : ∀ ts H', GTold rs ts → Ex H H' → Q (.str (Txt.join "; " (ts.map rowS))) H') : SP K (n+3) "View.__str__" [.ref p] H Q E := by
  refine o_View___str__ ?_
  have lr := g.len h5
  simp only [r_View___str__, tRet]
  refine mC_blt ?_ fun P P' hh q => mono_C hh q
  refine ⟨rfl, "str", rfl, _, b_join, ?_⟩
  simp only [tCons, tNil]
  refine .inl ?_
  simp only [cLc, cDview, frzE]
  refine mC_ownR (c_told_0 K _) ?_ fun P P' hh q => mono_var hh q
  obtain ⟨⟨dx, hp⟩, _⟩ := id W
  try simp only [tSeq, tIfS, tNext, tRet, tRetN, tDrop, tAsg, tC, cVar, tOp, tCB, tCons, tNil, tTup, tLst, tIf, tAnd, tOr, tNot, cTest, cTru, oTru, cAnd, cOr, cNot, cUn, cChain, gName, cTupG, gCons, gNil, gSub, oLt, oLe, oGt, oGe, oGtK, oGeK, oBor, oIs, oIsNot, oSub, oMul, oFdiv, oMod, oPow, cPar, cPar3, cAug, tDNewK, cCall, cAttr, frzE, List.mem_singleton, List.lookup_cons_self, List.getElem?_cons_zero, List.getElem?_cons_succ, List.set_cons_zero, List.set_cons_succ, Option.some.injEq, reduceCtorEq, if_true, if_false, Bool.true_eq_false, Bool.false_eq_true, decide_eq_true_eq, ite_true, ite_false, ↓reduceIte, List.length_cons, List.length_nil, true_and, and_true, exists_eq_left', exists_eq_left, List.cons.injEq]
  refine ⟨p, dx, _, rfl, hp, lk2 rfl rfl, ?_⟩
  try simp only [tSeq, tIfS, tNext, tRet, tRetN, tDrop, tAsg, tC, cVar, tOp, tCB, tCons, tNil, tTup, tLst, tIf, tAnd, tOr, tNot, cTest, cTru, oTru, cAnd, cOr, cNot, cUn, cChain, gName, cTupG, gCons, gNil, gSub, oLt, oLe, oGt, oGe, oGtK, oGeK, oBor, oIs, oIsNot, oSub, oMul, oFdiv, oMod, oPow, cPar, cPar3, cAug, tDNewK, cCall, cAttr, frzE, List.mem_singleton, List.lookup_cons_self, List.getElem?_cons_zero, List.getElem?_cons_succ, List.set_cons_zero, List.set_cons_succ, Option.some.injEq, reduceCtorEq, if_true, if_false, Bool.true_eq_false, Bool.false_eq_true, decide_eq_true_eq, ite_true, ite_false, ↓reduceIte, List.length_cons, List.length_nil, true_and, and_true, exists_eq_left', exists_eq_left, List.cons.injEq]
  refine s_told W (by omega) g.nd fun ts q H1 ht e1 hq ⟨kq, eq, rq⟩ => ?_
  simp only [eq]
  intro o1
  simp only [upd_same]
  intro D hD
  have nqD : q ≠ D := fun z => by rw [← z, upd_same] at hD; cases hD
  have hD1 : H1 D = none := by rw [upd_ne nqD.symm] at hD; exact hD
  have rq2 : RG enc3 (upd H1 q (.frz o1 (.dK kq))) kq ts := rq.tp fun t xs e => by
    rw [upd_ne (fun z => by rw [z, eq] at e; cases e)]; exact e
  have tl := ht.len
  have tg := g.told ht
  refine lpc_inv (n := ts.length) (fun j H' => Ex (upd H1 q (.frz o1 (.dK kq))) H' ∧ H' D = some (.lst (((ts.take j).map rowS).map V.str))) ?_ ?_ ⟨Ex.refl.new hD, by rw [upd_same]; rfl⟩
  · rintro H2 ⟨e2, hD2⟩
    have eq2 := e2 q _ upd_same
    refine ⟨⟨eq2, by rw [rq.len]; exact Nat.le_refl _⟩, ?_⟩
    rw [List.take_length] at hD2
    refine ⟨ts.map rowS, .inl (look_of_lst hD2), ?_, h ts H2 ht fun b ob eb => e2 b ob (by rw [upd_ne (ne_of_none eb hq)]; exact e1 b ob eb)⟩
    have h1 : ((ts.map rowS).map (·.length)).sum ≤ (ts.map rowS).length * 60 := sum_le fun s hs => by
      obtain ⟨r, hr, rfl⟩ := List.mem_map.mp hs
      exact rowS_len (hn _ (tg r hr).1) (tg r hr).2 hC
    have e : ("; " : Str).length = 2 := rfl
    rw [e]
    rw [List.length_map] at h1 ⊢
    omega
  · rintro j H2 hj ⟨e2, hD2⟩ R hR
    have eq2 := e2 q _ upd_same
    refine ⟨⟨eq2, by rw [rq.len]; exact hj⟩, ?_⟩
    rintro x H3 ⟨T, k, v, hk, rfl, hT, rfl⟩
    obtain ⟨s, row, t, hs, rfl, rfl, et⟩ := RG.at j (rq2.tp (Ex.tp e2)) hk
    have x2 : Ex H2 (upd H2 T (.tup [kV (.inr s), .ref t])) := Ex.refl.new hT
    refine tup23_ (w := .str s) (t := t) (look_of_tup upd_same) (look_of_tup (x2 _ _ et)) ?_
    generalize upd H2 T (.tup [kV (.inr s), .ref t]) = H3 at x2 ⊢
    refine ⟨rfl, yes_ ?_⟩
    have tm := tg _ (List.mem_of_getElem? hs)
    have ho : okRow C row := tm.2
    have a1 := num_ok (i := row.1) ho.1.1 (by have := ho.1.2; omega)
    have a2 := num_ok (i := row.2.1) (by have := ho.2.1; omega) (by have := ho.2.2.1; omega)
    have a3 := nm8 (hn _ tm.1)
    have a4 := wrd_len _ ho.2.2.2
    dsimp only at a3
    have e1' : (" " : Str).length = 1 := rfl
    have z0 : (Str.empty).length = 0 := rfl
    have sz : (1000 : Nat) < sizeLine := small1000 (Nat.le_refl _)
    simp only [joinT, cJs, cFmt, tC, cVar, wipe, List.foldl_cons, List.foldl_nil, List.set_cons_zero, List.set_cons_succ, List.getElem?_cons_zero, List.getElem?_cons_succ]
    have kD := x2 _ _ hD2
    refine ⟨by omega, by simp only [strLen_append, z0]; omega, by simp only [strLen_append, z0, e1']; omega, a1.2, by simp only [strLen_append, z0, e1']; omega, by simp only [strLen_append, z0, e1']; omega, a2.2, by simp only [strLen_append, z0, e1']; omega, by simp only [strLen_append, z0, e1']; omega, by omega, by simp only [strLen_append, z0, e1']; omega, ?_⟩
    rw [empty_app]
    refine ⟨_, kD, ?_, hR _ ⟨fun b o eb => ?_, ?_⟩⟩
    · simp only [List.length_map, List.length_take]; omega
    · have hb : b ≠ D := fun z => by rw [z, hD] at eb; cases eb
      rw [upd_ne hb]; exact x2 _ _ (e2 _ _ eb)
    · rw [upd_same, take_snoc hs, List.map_append, List.map_append]; rfl
end
end WR.L

set_option Elab.async false
set_option linter.all false
set_option maxRecDepth 100000
set_option maxHeartbeats 4000000
namespace WR.L
open PySem PySem.Spec PyProof.Rows L2
theorem mC_k {g : G} {m : Str} {n : Nat} {ks : List Str} {ta : TE} {t tk : TA} {W : WX} {σ : L2.St} {H : Hp} {Q : VK}
    (h : ∀ N : V → Hp → Prop, (∀ x H1 T b, insOf H1 x = none → tyB g.K H1 x = some T → (bf g.K m).find? (fun b => b.T == T) = some b → (t σ H1 fun vs H2 => b.r x vs H2 Q) → N x H1) → ta σ H N) : mC g m n 0 ks ta t tk W σ H Q := by
  unfold mC cMeth
  refine h _ fun x H1 T b h1 h2 h3 q => ?_
  simp only [h1, h2, h3, true_and]
  exact q
section
variable {K : PySem.W.Frag} {n : Nat} {H : Hp} {Q : VK} {E : XK} {nms : List Str} {C : Int}
end
end WR.L

set_option Elab.async false
set_option linter.all false
set_option maxRecDepth 100000
set_option maxHeartbeats 4000000
namespace WR.L
open PySem PySem.Spec PyProof.Rows L2
/-- of what kind a value is -/
inductive Kd (K : PySem.W.Frag) (H : Hp) : V → String → Prop
  | non : Kd K H .non "NoneType"
  | bl (b : Bool) : Kd K H (.bl b) "bool"
  | int (i : Int) : Kd K H (.int i) "int"
  | str (s : Str) : Kd K H (.str s) "str"
  | lst {a : Addr} {xs : List V} (h : H a = some (.lst xs)) : Kd K H (.ref a) "list"
  | tup {a : Addr} {xs : List V} (h : H a = some (.tup xs)) : Kd K H (.ref a) "tuple"
  | dK {a : Addr} {kvs : List (Key × V)} (h : H a = some (.dK kvs)) : Kd K H (.ref a) "dict"
  | own {p C dx : Addr} {fs : List (Str × V)} (hx : ownX K C = true) (h : H p = some (.ins C dx fs)) : Kd K H (.ref p) "own"
def isK (n T : String) : Bool := decide (n = T) || (decide (n = "bool") && decide (T = "int"))
theorem isK_ok : ∀ n ∈ ["NoneType", "bool", "int", "str", "list", "tuple", "dict"], ∀ T ∈ kindsI, kitB n T = some (isK n T) := by
  intro n hn T hT
  simp only [List.mem_cons, List.not_mem_nil, or_false] at hn
  simp only [kindsI, List.mem_cons, List.not_mem_nil, or_false] at hT
  rcases hn with rfl | rfl | rfl | rfl | rfl | rfl | rfl <;> rcases hT with rfl | rfl | rfl | rfl | rfl | rfl <;> kernel_rfl
section
variable {K : PySem.W.Frag} {n : Nat} {H H' : Hp} {Q : VK} {E : XK} {v : V} {m : String}
theorem Kd.ex (x : Ex H H') (k : Kd K H v m) : Kd K H' v m := by
  cases k with
  | non => exact .non
  | bl b => exact .bl b
  | int i => exact .int i
  | str s => exact .str s
  | lst h => exact .lst (x _ _ h)
  | tup h => exact .tup (x _ _ h)
  | dK h => exact .dK (x _ _ h)
  | own hx h => exact .own hx (x _ _ h)
theorem Kd.ty (k : Kd K H v m) : (tyN K H v = some m ∧ m ∈ ["NoneType", "bool", "int", "str", "list", "tuple", "dict"]) ∨ (m = "own" ∧ ∃ p C dx fs, v = .ref p ∧ ownX K C = true ∧ H p = some (.ins C dx fs)) := by
  cases k with
  | non => exact .inl ⟨rfl, by simp⟩
  | bl b => exact .inl ⟨rfl, by simp⟩
  | int i => exact .inl ⟨rfl, by simp⟩
  | str s => exact .inl ⟨rfl, by simp⟩
  | lst h => exact .inl ⟨ty_lst (look_of_lst h), by simp⟩
  | tup h => exact .inl ⟨by simp only [tyN, look_of_tup h], by simp⟩
  | dK h => exact .inl ⟨ty_dK (look_of_dK h), by simp⟩
  | own hx h => exact .inr ⟨rfl, _, _, _, _, rfl, hx, h⟩
theorem isi_k {T : String} (k : Kd K H v m) (hT : T ∈ kindsI) (h : Q (.bl (isK m T)) H) : bIsi K [v, .ty T] H Q := by
  rcases k.ty with ⟨ht, hm⟩ | ⟨rfl, p, C, dx, fs, rfl, hx, hp⟩
  · rw [isi_ty ht (isK_ok m hm T hT)]; exact h
  · refine isi_own hx hp hT ?_
    have : isK "own" T = false := by
      simp only [kindsI, List.mem_cons, List.not_mem_nil, or_false] at hT
      rcases hT with rfl | rfl | rfl | rfl | rfl | rfl <;> rfl
    rw [this] at h; exact h
theorem s_is_name_k (k : Kd K H v m) (hm : m ≠ "str") (h : Q (.bl false) H) : SP K (n+1) "is_name" [v] H Q E := by
  refine o_is_name ?_
  simp only [r_is_name, tSeq, tIfS, tNext, tRet, tRetN, tDrop, tAsg, tC, cVar, tOp, tCB, tCons, tNil, tTup, tLst, tIf, tAnd, tOr, tNot, cTest, cTru, oTru, cAnd, cOr, cNot, cUn, cChain, gName, cTupG, gCons, gNil, gSub, oLt, oLe, oGt, oGe, oGtK, oGeK, oBor, oIs, oIsNot, oSub, oMul, oFdiv, oMod, oPow, cPar, cPar3, cAug, tDNewK, cCall, cAttr, frzE, List.mem_singleton, List.lookup_cons_self, List.getElem?_cons_zero, List.getElem?_cons_succ, List.set_cons_zero, List.set_cons_succ, Option.some.injEq, reduceCtorEq, if_true, if_false, Bool.true_eq_false, Bool.false_eq_true, decide_eq_true_eq, ite_true, ite_false, ↓reduceIte, List.length_cons, List.length_nil, true_and, and_true, exists_eq_left', exists_eq_left, List.cons.injEq]
  refine isi_k k (by decide) ?_
  have : isK m "str" = false := by simp [isK, hm]
  simp only [this, oTru, Bool.false_eq_true, if_false]
  exact h
theorem s_is_word_k (k : Kd K H v m) (hm : m ≠ "str") (h : Q (.bl false) H) : SP K (n+1) "is_word" [v] H Q E := by
  refine o_is_word ?_
  simp only [r_is_word, tSeq, tIfS, tNext, tRet, tRetN, tDrop, tAsg, tC, cVar, tOp, tCB, tCons, tNil, tTup, tLst, tIf, tAnd, tOr, tNot, cTest, cTru, oTru, cAnd, cOr, cNot, cUn, cChain, gName, cTupG, gCons, gNil, gSub, oLt, oLe, oGt, oGe, oGtK, oGeK, oBor, oIs, oIsNot, oSub, oMul, oFdiv, oMod, oPow, cPar, cPar3, cAug, tDNewK, cCall, cAttr, frzE, List.mem_singleton, List.lookup_cons_self, List.getElem?_cons_zero, List.getElem?_cons_succ, List.set_cons_zero, List.set_cons_succ, Option.some.injEq, reduceCtorEq, if_true, if_false, Bool.true_eq_false, Bool.false_eq_true, decide_eq_true_eq, ite_true, ite_false, ↓reduceIte, List.length_cons, List.length_nil, true_and, and_true, exists_eq_left', exists_eq_left, List.cons.injEq]
  refine isi_k k (by decide) ?_
  have : isK m "str" = false := by simp [isK, hm]
  simp only [this, oTru, Bool.false_eq_true, if_false]
  exact h
theorem s_is_whole_k {lo hi : V} (k : Kd K H v m) (hm : m ≠ "int") (h : Q (.bl false) H) : SP K (n+1) "is_whole" [v, lo, hi] H Q E := by
  refine o_is_whole ?_
  simp only [r_is_whole, tSeq, tIfS, tNext, tRet, tRetN, tDrop, tAsg, tC, cVar, tOp, tCB, tCons, tNil, tTup, tLst, tIf, tAnd, tOr, tNot, cTest, cTru, oTru, cAnd, cOr, cNot, cUn, cChain, gName, cTupG, gCons, gNil, gSub, oLt, oLe, oGt, oGe, oGtK, oGeK, oBor, oIs, oIsNot, oSub, oMul, oFdiv, oMod, oPow, cPar, cPar3, cAug, tDNewK, cCall, cAttr, frzE, List.mem_singleton, List.lookup_cons_self, List.getElem?_cons_zero, List.getElem?_cons_succ, List.set_cons_zero, List.set_cons_succ, Option.some.injEq, reduceCtorEq, if_true, if_false, Bool.true_eq_false, Bool.false_eq_true, decide_eq_true_eq, ite_true, ite_false, ↓reduceIte, List.length_cons, List.length_nil, true_and, and_true, exists_eq_left', exists_eq_left, List.cons.injEq]
  refine isi_k k (by decide) ?_
  by_cases hb : m = "bool"
  · subst hb
    simp only [show isK "bool" "int" = true from rfl, oTru]
    refine isi_k k (by decide) ?_
    simp only [show isK "bool" "bool" = true from rfl, Bool.not_true, oTru, Bool.false_eq_true, if_false]
    exact h
  · have : isK m "int" = false := by simp [isK, hm, hb]
    simp only [this, oTru, Bool.false_eq_true, if_false]
    exact h
theorem s_is_any_whole_k (k : Kd K H v m) (hm : m ≠ "int") (h : Q (.bl false) H) : SP K (n+1) "is_any_whole" [v] H Q E := by
  refine o_is_any_whole ?_
  simp only [r_is_any_whole, tSeq, tIfS, tNext, tRet, tRetN, tDrop, tAsg, tC, cVar, tOp, tCB, tCons, tNil, tTup, tLst, tIf, tAnd, tOr, tNot, cTest, cTru, oTru, cAnd, cOr, cNot, cUn, cChain, gName, cTupG, gCons, gNil, gSub, oLt, oLe, oGt, oGe, oGtK, oGeK, oBor, oIs, oIsNot, oSub, oMul, oFdiv, oMod, oPow, cPar, cPar3, cAug, tDNewK, cCall, cAttr, frzE, List.mem_singleton, List.lookup_cons_self, List.getElem?_cons_zero, List.getElem?_cons_succ, List.set_cons_zero, List.set_cons_succ, Option.some.injEq, reduceCtorEq, if_true, if_false, Bool.true_eq_false, Bool.false_eq_true, decide_eq_true_eq, ite_true, ite_false, ↓reduceIte, List.length_cons, List.length_nil, true_and, and_true, exists_eq_left', exists_eq_left, List.cons.injEq]
  refine isi_k k (by decide) ?_
  by_cases hb : m = "bool"
  · subst hb
    simp only [show isK "bool" "int" = true from rfl, oTru]
    refine isi_k k (by decide) ?_
    simp only [show isK "bool" "bool" = true from rfl, Bool.not_true, oTru, Bool.false_eq_true, if_false]
    exact h
  · have : isK m "int" = false := by simp [isK, hm, hb]
    simp only [this, oTru, Bool.false_eq_true, if_false]
    exact h
theorem s_is_place_k (k : Kd K H v m) (hm : m ≠ "int") (h : Q (.bl false) H) : SP K (n+2) "is_place" [v] H Q E := by
  refine o_is_place ?_
  unfold r_is_place
  simp only [tSeq, tIfS, tNext, tRet, tRetN, tDrop, tAsg, tC, cVar, tOp, tCB, tCons, tNil, tTup, tLst, tIf, tAnd, tOr, tNot, cTest, cTru, oTru, cAnd, cOr, cNot, cUn, cChain, gName, cTupG, gCons, gNil, gSub, oLt, oLe, oGt, oGe, oGtK, oGeK, oBor, oIs, oIsNot, oSub, oMul, oFdiv, oMod, oPow, cPar, cPar3, cAug, tDNewK, cCall, cAttr, frzE, List.mem_singleton, List.lookup_cons_self, List.getElem?_cons_zero, List.getElem?_cons_succ, List.set_cons_zero, List.set_cons_succ, Option.some.injEq, reduceCtorEq, if_true, if_false, Bool.true_eq_false, Bool.false_eq_true, decide_eq_true_eq, ite_true, ite_false, ↓reduceIte, List.length_cons, List.length_nil, true_and, and_true, exists_eq_left', exists_eq_left, List.cons.injEq]
  exact s_is_whole_k k hm h
theorem s_is_number_k (k : Kd K H v m) (hm : m ≠ "int") (h : Q (.bl false) H) : SP K (n+2) "is_number" [v] H Q E := by
  refine o_is_number ?_
  unfold r_is_number
  simp only [tSeq, tIfS, tNext, tRet, tRetN, tDrop, tAsg, tC, cVar, tOp, tCB, tCons, tNil, tTup, tLst, tIf, tAnd, tOr, tNot, cTest, cTru, oTru, cAnd, cOr, cNot, cUn, cChain, gName, cTupG, gCons, gNil, gSub, oLt, oLe, oGt, oGe, oGtK, oGeK, oBor, oIs, oIsNot, oSub, oMul, oFdiv, oMod, oPow, cPar, cPar3, cAug, tDNewK, cCall, cAttr, frzE, List.mem_singleton, List.lookup_cons_self, List.getElem?_cons_zero, List.getElem?_cons_succ, List.set_cons_zero, List.set_cons_succ, Option.some.injEq, reduceCtorEq, if_true, if_false, Bool.true_eq_false, Bool.false_eq_true, decide_eq_true_eq, ite_true, ite_false, ↓reduceIte, List.length_cons, List.length_nil, true_and, and_true, exists_eq_left', exists_eq_left, List.cons.injEq]
  refine s_is_any_whole_k k hm ?_
  simp only [oTru, Bool.false_eq_true, if_false]
  exact h
/-! what is none -/
def BadN (K : PySem.W.Frag) (H : Hp) (v : V) : Prop := (∃ s, v = .str s ∧ s.length ≤ 1000 ∧ isNm s = false) ∨ ∃ m, Kd K H v m ∧ m ≠ "str"
def BadP (K : PySem.W.Frag) (H : Hp) (v : V) : Prop := (∃ i, v = .int i ∧ ¬ (0 ≤ i ∧ i ≤ 255)) ∨ ∃ m, Kd K H v m ∧ m ≠ "int"
def BadI (K : PySem.W.Frag) (H : Hp) (v : V) : Prop := (∃ i, v = .int i ∧ ¬ 1 ≤ i) ∨ ∃ m, Kd K H v m ∧ m ≠ "int"
def BadW (K : PySem.W.Frag) (H : Hp) (v : V) : Prop := (∃ s, v = .str s ∧ s ∉ wrds) ∨ ∃ m, Kd K H v m ∧ m ≠ "str"
def BadT (K : PySem.W.Frag) (own : Str) (rs : RwG R3) (H : Hp) (v : V) : Prop := (∃ s, v = .str s ∧ s.length ≤ 1000 ∧ (isNm s = false ∨ s = own ∨ gget rs s = none)) ∨ ∃ m, Kd K H v m ∧ m ≠ "str"
def BadV (K : PySem.W.Frag) (H : Hp) (v : V) : Prop := (∃ m, Kd K H v m ∧ m ≠ "own") ∨ ∃ p dx fs, v = .ref p ∧ H p = some (.ins (He.ga K "Wrongs") dx fs)
theorem BadN.ex (x : Ex H H') (b : BadN K H v) : BadN K H' v := b.elim .inl fun ⟨m, k, h⟩ => .inr ⟨m, k.ex x, h⟩
theorem BadP.ex (x : Ex H H') (b : BadP K H v) : BadP K H' v := b.elim .inl fun ⟨m, k, h⟩ => .inr ⟨m, k.ex x, h⟩
theorem BadI.ex (x : Ex H H') (b : BadI K H v) : BadI K H' v := b.elim .inl fun ⟨m, k, h⟩ => .inr ⟨m, k.ex x, h⟩
theorem BadW.ex (x : Ex H H') (b : BadW K H v) : BadW K H' v := b.elim .inl fun ⟨m, k, h⟩ => .inr ⟨m, k.ex x, h⟩
theorem BadT.ex {own : Str} {rs : RwG R3} (x : Ex H H') (b : BadT K own rs H v) : BadT K own rs H' v := b.elim .inl fun ⟨m, k, h⟩ => .inr ⟨m, k.ex x, h⟩
theorem BadV.ex (x : Ex H H') (b : BadV K H v) : BadV K H' v := b.elim (fun ⟨m, k, h⟩ => .inl ⟨m, k.ex x, h⟩) fun ⟨p, dx, fs, e, h⟩ => .inr ⟨p, dx, fs, e, x _ _ h⟩
/-- what is told by a refusal -/
abbrev Rf (K : PySem.W.Frag) (H : Hp) (c : Str) (v : V) (E : XK) : Prop := ∀ x H', Ex H H' → H' x = some (.xd [("found", v)]) → E (.ref (He.ga K c)) (some x) H'
theorem Rf.ex {c : Str} (x : Ex H H') (h : Rf K H c v E) : Rf K H' c v E := fun y H2 e k => h y H2 (x.trans e) k
theorem s_is_name_bad (b : BadN K H v) (h : ∀ H', Ex H H' → Q (.bl false) H') : SP K (n+1) "is_name" [v] H Q E := by
  rcases b with ⟨s, rfl, hl, hn⟩ | ⟨m, k, hm⟩
  · exact s_is_name hl fun H' e => by rw [hn]; exact h H' e
  · exact s_is_name_k k hm (h H Ex.refl)
theorem s_need_name_bad (b : BadN K H v) (h : Rf K H "NoName" v E) : SP K (n+2) "need_name" [v] H Q E := by
  refine o_need_name ?_
  unfold r_need_name
  refine ifS_ fun A B hA hB => ?_
  simp only [tSeq, tIfS, tNext, tRet, tRetN, tDrop, tAsg, tC, cVar, tOp, tCB, tCons, tNil, tTup, tLst, tIf, tAnd, tOr, tNot, cTest, cTru, oTru, cAnd, cOr, cNot, cUn, cChain, gName, cTupG, gCons, gNil, gSub, oLt, oLe, oGt, oGe, oGtK, oGeK, oBor, oIs, oIsNot, oSub, oMul, oFdiv, oMod, oPow, cPar, cPar3, cAug, tDNewK, cCall, cAttr, frzE, List.mem_singleton, List.lookup_cons_self, List.getElem?_cons_zero, List.getElem?_cons_succ, List.set_cons_zero, List.set_cons_succ, Option.some.injEq, reduceCtorEq, if_true, if_false, Bool.true_eq_false, Bool.false_eq_true, decide_eq_true_eq, ite_true, ite_false, ↓reduceIte, List.length_cons, List.length_nil, true_and, and_true, exists_eq_left', exists_eq_left, List.cons.injEq]
  refine s_is_name_bad b fun H' e => ?_
  simp only [oTru, Bool.not_false, if_true]
  refine hA _ ?_
  simp only [tRs, tMkX, cVar, List.getElem?_cons_zero]
  exact fun x hx => h x _ (e.trans (Ex.refl.new hx)) upd_same
theorem s_need_place_bad (b : BadP K H v) (h : Rf K H "NoPlace" v E) : SP K (n+3) "need_place" [v] H Q E := by
  refine o_need_place ?_
  unfold r_need_place
  refine ifS_ fun A B hA hB => ?_
  simp only [tSeq, tIfS, tNext, tRet, tRetN, tDrop, tAsg, tC, cVar, tOp, tCB, tCons, tNil, tTup, tLst, tIf, tAnd, tOr, tNot, cTest, cTru, oTru, cAnd, cOr, cNot, cUn, cChain, gName, cTupG, gCons, gNil, gSub, oLt, oLe, oGt, oGe, oGtK, oGeK, oBor, oIs, oIsNot, oSub, oMul, oFdiv, oMod, oPow, cPar, cPar3, cAug, tDNewK, cCall, cAttr, frzE, List.mem_singleton, List.lookup_cons_self, List.getElem?_cons_zero, List.getElem?_cons_succ, List.set_cons_zero, List.set_cons_succ, Option.some.injEq, reduceCtorEq, if_true, if_false, Bool.true_eq_false, Bool.false_eq_true, decide_eq_true_eq, ite_true, ite_false, ↓reduceIte, List.length_cons, List.length_nil, true_and, and_true, exists_eq_left', exists_eq_left, List.cons.injEq]
  have rz : A H := by
    refine hA _ ?_
    simp only [tRs, tMkX, cVar, List.getElem?_cons_zero]
    exact fun x hx => h x _ (Ex.refl.new hx) upd_same
  rcases b with ⟨i, rfl, hi⟩ | ⟨m, k, hm⟩
  · refine s_is_place ?_
    simp only [hi, oTru, decide_false, Bool.not_false, if_true]
    exact rz
  · refine s_is_place_k k hm ?_
    simp only [oTru, Bool.not_false, if_true]
    exact rz
theorem s_is_number_bad (b : BadI K H v) (h : Q (.bl false) H) : SP K (n+2) "is_number" [v] H Q E := by
  rcases b with ⟨i, rfl, hi⟩ | ⟨m, k, hm⟩
  · exact s_is_number (by rw [decide_eq_false hi]; exact h)
  · exact s_is_number_k k hm h
theorem s_is_word_bad (b : BadW K H v) (h : Q (.bl false) H) : SP K (n+1) "is_word" [v] H Q E := by
  rcases b with ⟨s, rfl, hs⟩ | ⟨m, k, hm⟩
  · exact s_is_word fun H' e => by rw [decide_eq_false hs, e]; exact h
  · exact s_is_word_k k hm h
/-- isinstance(v, View) of what is none -/
theorem isV_bad {S : Str → Sp} (hap : apartX K (He.ga K "Wrongs") (He.ga K "View") = true) (b : BadV K H v) (q : Q (.bl false) H) : bIsO (gg K S) (He.ga K "View") [v, .ref (He.ga K "View")] H Q := by
  unfold bIsO
  rcases b with ⟨m, k, hm⟩ | ⟨p, dx, fs, rfl, hp⟩
  · rcases k.ty with ⟨ht, _⟩ | ⟨e, _⟩
    · refine ⟨rfl, ?_⟩
      rw [ty_ins ht]
      exact ⟨by show (tyN K H v).isSome = true; rw [ht]; rfl, q⟩
    · exact absurd e hm
  · simp only [ins_ins hp]
    exact ⟨trivial, ⟨_, List.mem_cons_self, rfl⟩, .inr ⟨of_decide_eq_true hap, q⟩⟩
end
end WR.L

set_option Elab.async false
set_option linter.all false
set_option maxRecDepth 100000
set_option maxHeartbeats 4000000
namespace WR.L
open PySem PySem.Spec PyProof.Rows L2
section
variable {K : PySem.W.Frag} {n : Nat} {H H' : Hp} {Q : VK} {E : XK} {v v0 v1 v2 v3 : V} {nms : List Str} {C : Int}
theorem s_init_bad {p : Addr} (c : (BadN K H v0 ∧ Rf K H "NoName" v0 E) ∨ (∃ s, v0 = .str s ∧ isNm s = true ∧ BadP K H v1 ∧ Rf K H "NoPlace" v1 E) ∨ ∃ s i, v0 = .str s ∧ isNm s = true ∧ v1 = .int i ∧ (0 ≤ i ∧ i ≤ 255) ∧ BadI K H v2 ∧ Rf K H "NoNumber" v2 E) : SP K (n+4) "View.__init__" [.ref p, v0, v1, v2] H Q E := by
  refine o_View___init__ ?_
  unfold r_View___init__
  refine seq_ fun N1 h1 => ?_
  simp only [tDrop, cCall, tCons, tNil, cVar, List.getElem?_cons_zero, List.getElem?_cons_succ]
  rcases c with ⟨b, r⟩ | ⟨s, rfl, hn, b, r⟩ | ⟨s, i, rfl, hn, rfl, hi, b, r⟩
  · exact ⟨rfl, (by first | rfl | trivial), s_need_name_bad b r⟩
  · refine ⟨rfl, (by first | rfl | trivial), s_need_name (nm_len hn) hn fun H1 e1 => h1 _ _ (seq_ fun N2 h2 => ?_)⟩
    simp only [tDrop, cCall, tCons, tNil, cVar, List.getElem?_cons_zero, List.getElem?_cons_succ]
    exact ⟨rfl, (by first | rfl | trivial), s_need_place_bad (b.ex e1) (r.ex e1)⟩
  · refine ⟨rfl, (by first | rfl | trivial), s_need_name (nm_len hn) hn fun H1 e1 => h1 _ _ (seq_ fun N2 h2 => ?_)⟩
    simp only [tDrop, cCall, tCons, tNil, cVar, List.getElem?_cons_zero, List.getElem?_cons_succ]
    refine ⟨rfl, (by first | rfl | trivial), s_need_place hi (h2 _ _ (seq_ fun N3 h3 => ifS_ fun A3 B3 hA3 hB3 => ?_))⟩
    simp only [tNot, cTru, cCall, tCons, tNil, cVar, List.getElem?_cons_zero, List.getElem?_cons_succ]
    refine ⟨rfl, (by first | rfl | trivial), s_is_number_bad (b.ex e1) ?_⟩
    simp only [oTru, Bool.not_false, if_true]
    refine hA3 _ ?_
    simp only [tRs, tMkX, cVar, List.getElem?_cons_zero, List.getElem?_cons_succ]
    exact fun x hx => r x _ (e1.trans (Ex.refl.new hx)) upd_same
theorem s_hear_bad {p : Addr} (c : (BadN K H v0 ∧ Rf K H "NoName" v0 E) ∨ (∃ s, v0 = .str s ∧ isNm s = true ∧ BadP K H v1 ∧ Rf K H "NoPlace" v1 E) ∨ (∃ s i, v0 = .str s ∧ isNm s = true ∧ v1 = .int i ∧ (0 ≤ i ∧ i ≤ 255) ∧ BadI K H v2 ∧ Rf K H "NoNumber" v2 E) ∨
    ∃ s i j, v0 = .str s ∧ isNm s = true ∧ v1 = .int i ∧ (0 ≤ i ∧ i ≤ 255) ∧ v2 = .int j ∧ 1 ≤ j ∧ BadW K H v3 ∧ Rf K H "NoWord" v3 E) : SP K (n+4) "View.hear" [.ref p, v0, v1, v2, v3] H Q E := by
  refine o_View_hear ?_
  unfold r_View_hear
  refine seq_ fun N1 h1 => ?_
  simp only [tDrop, cCall, tCons, tNil, cVar, List.getElem?_cons_zero, List.getElem?_cons_succ]
  rcases c with ⟨b, r⟩ | ⟨s, rfl, hn, b, r⟩ | ⟨s, i, rfl, hn, rfl, hi, b, r⟩ | ⟨s, i, j, rfl, hn, rfl, hi, rfl, hj, b, r⟩
  · exact ⟨rfl, (by first | rfl | trivial), s_need_name_bad b r⟩
  · refine ⟨rfl, (by first | rfl | trivial), s_need_name (nm_len hn) hn fun H1 e1 => h1 _ _ (seq_ fun N2 h2 => ?_)⟩
    simp only [tDrop, cCall, tCons, tNil, cVar, List.getElem?_cons_zero, List.getElem?_cons_succ]
    exact ⟨rfl, (by first | rfl | trivial), s_need_place_bad (b.ex e1) (r.ex e1)⟩
  · refine ⟨rfl, (by first | rfl | trivial), s_need_name (nm_len hn) hn fun H1 e1 => h1 _ _ (seq_ fun N2 h2 => ?_)⟩
    simp only [tDrop, cCall, tCons, tNil, cVar, List.getElem?_cons_zero, List.getElem?_cons_succ]
    refine ⟨rfl, (by first | rfl | trivial), s_need_place hi (h2 _ _ (seq_ fun N3 h3 => ifS_ fun A3 B3 hA3 hB3 => ?_))⟩
    simp only [tNot, cTru, cCall, tCons, tNil, cVar, List.getElem?_cons_zero, List.getElem?_cons_succ]
    refine ⟨rfl, (by first | rfl | trivial), s_is_number_bad (b.ex e1) ?_⟩
    simp only [oTru, Bool.not_false, if_true]
    refine hA3 _ ?_
    simp only [tRs, tMkX, cVar, List.getElem?_cons_zero, List.getElem?_cons_succ]
    exact fun x hx => r x _ (e1.trans (Ex.refl.new hx)) upd_same
  · refine ⟨rfl, (by first | rfl | trivial), s_need_name (nm_len hn) hn fun H1 e1 => h1 _ _ (seq_ fun N2 h2 => ?_)⟩
    simp only [tDrop, cCall, tCons, tNil, cVar, List.getElem?_cons_zero, List.getElem?_cons_succ]
    refine ⟨rfl, (by first | rfl | trivial), s_need_place hi (h2 _ _ (seq_ fun N3 h3 => ifS_ fun A3 B3 hA3 hB3 => ?_))⟩
    simp only [tNot, cTru, cCall, tCons, tNil, cVar, List.getElem?_cons_zero, List.getElem?_cons_succ]
    refine ⟨rfl, (by first | rfl | trivial), s_is_number ?_⟩
    simp only [oTru, hj, decide_true, Bool.not_true, Bool.false_eq_true, if_false]
    refine hB3 _ ?_
    simp only [tNext]
    refine h3 _ _ (seq_ fun N4 h4 => ifS_ fun A4 B4 hA4 hB4 => ?_)
    simp only [tNot, cTru, cCall, tCons, tNil, cVar, List.getElem?_cons_zero, List.getElem?_cons_succ]
    refine ⟨rfl, (by first | rfl | trivial), s_is_word_bad (b.ex e1) ?_⟩
    simp only [oTru, Bool.not_false, if_true]
    refine hA4 _ ?_
    simp only [tRs, tMkX, cVar, List.getElem?_cons_zero, List.getElem?_cons_succ]
    exact fun x hx => r x _ (e1.trans (Ex.refl.new hx)) upd_same
theorem s_silence_bad {p d : Addr} {own : Str} {rs : RwG R3} (W : VAt K H p d own rs) (b : BadT K own rs H v) (r : Rf K H "NotThere" v E) : SP K (n+2) "View.silence" [.ref p, v] H Q E := by
  refine o_View_silence ?_
  unfold r_View_silence
  refine seq_ fun N1 h1 => ifS_ fun A B hA hB => ?_
  simp only [tOr, tNot, cTru, cTest, cCall, tCons, tNil, tOp, cAttr, cVar, List.getElem?_cons_zero, List.getElem?_cons_succ]
  have rz : ∀ H1, Ex H H1 → A H1 := fun H1 e1 => by
    refine hA _ ?_
    simp only [tRs, tMkX, cVar, List.getElem?_cons_zero, List.getElem?_cons_succ]
    exact fun x hx => r x _ (e1.trans (Ex.refl.new hx)) upd_same
  rcases b with ⟨name, rfl, hl, c⟩ | ⟨m, k, hm⟩
  · refine ⟨rfl, (by first | rfl | trivial), s_is_name hl fun H1 e1 => ?_⟩
    by_cases hn : isNm name = true
    · have W1 := W.ex e1
      obtain ⟨⟨dx, hp⟩, kvs, hd, rr⟩ := id W1
      simp only [oTru, hn, Bool.not_true, Bool.false_eq_true, if_false, ins_ins hp, lk_rows, List.lookup_cons_self, List.mem_singleton, true_and]
      refine eq_scal rfl rfl rfl ?_
      by_cases cc : name = own
      · subst cc
        simp only [decide_true, if_true]
        exact rz _ e1
      · rw [show decide (V.str name = V.str own) = false from by simpa using cc]
        simp only [Bool.false_eq_true, if_false, ins_ins hp, lk_rows, List.mem_singleton, true_and]
        rw [in_dS hd, rr.isSome]
        have c2 : gget rs name = none := by
          rcases c with c | c | c
          · rw [hn] at c; cases c
          · exact absurd c cc
          · exact c
        rw [c2]
        simp only [Option.isSome_none, Bool.xor_false, if_true]
        exact rz _ e1
    · simp only [oTru, hn, Bool.not_false, if_true]
      exact rz _ e1
  · refine ⟨rfl, (by first | rfl | trivial), s_is_name_k k hm ?_⟩
    simp only [oTru, Bool.not_false, if_true]
    exact rz _ Ex.refl
theorem s_join_bad {p : Addr} (hap : apartX K (He.ga K "Wrongs") (He.ga K "View") = true) (b : BadV K H v) (r : Rf K H "NoView" v E) : SP K (n+1) "View.join" [.ref p, v] H Q E := by
  refine o_View_join ?_
  unfold r_View_join
  refine seq_ fun N1 h1 => ifS_ fun A B0 hA hB => ?_
  simp only [tNot, cTru, tCB, tCons, tC, tNil, cVar, List.getElem?_cons_succ, List.getElem?_cons_zero]
  refine isV_bad hap b ?_
  simp only [oTru, Bool.not_false, if_true]
  refine hA _ ?_
  simp only [tRs, tMkX, cVar, List.getElem?_cons_zero, List.getElem?_cons_succ]
  exact fun x hx => r x _ (Ex.refl.new hx) upd_same
/-- talk of what are no views: the first of them -/
theorem s_talk_bad (hap : apartX K (He.ga K "Wrongs") (He.ga K "View") = true) (c : (BadV K H v0 ∧ Rf K H "NoView" v0 E) ∨ (∃ p d own rs, v0 = .ref p ∧ VAt K H p d own rs) ∧ BadV K H v1 ∧ Rf K H "NoView" v1 E) : SP K (n+1) "talk" [v0, v1] H Q E := by
  refine o_talk ?_
  unfold r_talk
  refine seq_ fun N1 h1 => .inl ?_
  simp only [cFor, cIter, frzE, tTup, tCons, tNil, cVar, List.getElem?_cons_zero, List.getElem?_cons_succ]
  refine ⟨by simp only [sizeLine_eq, List.length_cons, List.length_nil]; omega, fun T hT => ?_⟩
  have e1 : Ex H (upd H T (.tup [v0, v1])) := Ex.refl.new hT
  have k1 : (upd H T (.tup [v0, v1])) T = some (.tup [v0, v1]) := upd_same
  generalize upd H T (.tup [v0, v1]) = H1 at e1 k1 ⊢
  simp only [k1, look_of_tup (K := K) k1]
  refine lp_inv (n := 2) (fun j σ H' => (∃ u2, σ = [some v0, some v1, u2, none]) ∧ H' = H1 ∧ (j = 0 ∨ (j = 1 ∧ BadV K H v1 ∧ Rf K H "NoView" v1 E))) ?_ ?_ ⟨⟨_, rfl⟩, rfl, .inl rfl⟩
  · rintro σ H' ⟨⟨u2, rfl⟩, rfl, c2⟩
    rcases c2 with c2 | ⟨c2, _⟩ <;> exact absurd c2 (by decide)
  · rintro j σ H' hj ⟨⟨u2, rfl⟩, rfl, c2⟩ R hR
    refine ⟨⟨_, [v0, v1][j]'hj, .inl (.inl k1), by simp⟩, ?_⟩
    intro x H2 hy
    obtain ⟨rfl, hx⟩ := hy
    have hx := hx _ (.inl (.inl k1))
    simp only [gName, List.set_cons_zero, List.set_cons_succ]
    refine ifS_ fun A0 B0 hA hB => ?_
    simp only [tNot, cTru, tCB, tCons, tC, tNil, cVar, List.getElem?_cons_succ, List.getElem?_cons_zero]
    have rz : Rf K H "NoView" x E → A0 H2 := fun r => by
      refine hA _ ?_
      simp only [tRs, tMkX, cVar, List.getElem?_cons_zero, List.getElem?_cons_succ]
      exact fun y hy => r y _ (e1.trans (Ex.refl.new hy)) upd_same
    rcases c2 with rfl | ⟨rfl, b, r⟩
    · obtain rfl : v0 = x := by simpa using hx
      rcases c with ⟨b, r⟩ | ⟨⟨p, d, own, rs, rfl, W⟩, b, r⟩
      · refine isV_bad hap (b.ex e1) ?_
        simp only [oTru, Bool.not_false, if_true]
        exact rz r
      · refine is_view (W.ex e1) ?_
        simp only [oTru, Bool.not_true, Bool.false_eq_true, if_false]
        refine hB _ ?_
        simp only [tNext]
        exact hR _ _ ⟨⟨_, rfl⟩, rfl, .inr ⟨rfl, b, r⟩⟩
    · obtain rfl : v1 = x := by simpa using hx
      refine isV_bad hap (b.ex e1) ?_
      simp only [oTru, Bool.not_false, if_true]
      exact rz r
/-- talk of two views of one name -/
theorem s_talk_twice {p1 d1 p2 d2 : Addr} {a : Str} {A B : RwG R3} (W1 : VAt K H p1 d1 a A) (W2 : VAt K H p2 d2 a B) (r : Rf K H "Twice" (.str a) E) : SP K (n+2) "talk" [.ref p1, .ref p2] H Q E := by
  refine o_talk ?_
  unfold r_talk
  refine seq_ fun N1 h1 => .inl ?_
  simp only [cFor, cIter, frzE, tTup, tCons, tNil, cVar, List.getElem?_cons_zero, List.getElem?_cons_succ]
  refine ⟨by simp only [sizeLine_eq, List.length_cons, List.length_nil]; omega, fun T hT => ?_⟩
  have e1 : Ex H (upd H T (.tup [.ref p1, .ref p2])) := Ex.refl.new hT
  have k1 : (upd H T (.tup [.ref p1, .ref p2])) T = some (.tup [.ref p1, .ref p2]) := upd_same
  generalize upd H T (.tup [.ref p1, .ref p2]) = H1 at e1 k1 ⊢
  simp only [k1, look_of_tup (K := K) k1]
  have V1 := W1.ex e1
  have V2 := W2.ex e1
  refine lp_inv (n := 2) (fun j σ H' => (∃ u2, σ = [some (.ref p1), some (.ref p2), u2, none]) ∧ H' = H1) ?_ ?_ ⟨⟨_, rfl⟩, rfl⟩
  · rintro σ H' ⟨⟨u2, rfl⟩, rfl⟩
    refine ⟨⟨_, .inl (.inl k1), Nat.le_refl _⟩, h1 _ _ (seq_ fun N2 h2 => ifS_ fun A0 B0 hA hB => ?_)⟩
    simp only [cTest, tOp]
    obtain ⟨⟨dx1, hp1⟩, _⟩ := id V1
    obtain ⟨⟨dx2, hp2⟩, _⟩ := id V2
    refine mC_own (c_own_0 K _) ?_ fun P P' hh q => mono_var hh q
    try simp only [tSeq, tIfS, tNext, tRet, tRetN, tDrop, tAsg, tC, cVar, tOp, tCB, tCons, tNil, tTup, tLst, tIf, tAnd, tOr, tNot, cTest, cTru, oTru, cAnd, cOr, cNot, cUn, cChain, gName, cTupG, gCons, gNil, gSub, oLt, oLe, oGt, oGe, oGtK, oGeK, oBor, oIs, oIsNot, oSub, oMul, oFdiv, oMod, oPow, cPar, cPar3, cAug, tDNewK, cCall, cAttr, frzE, List.mem_singleton, List.lookup_cons_self, List.getElem?_cons_zero, List.getElem?_cons_succ, List.set_cons_zero, List.set_cons_succ, Option.some.injEq, reduceCtorEq, if_true, if_false, Bool.true_eq_false, Bool.false_eq_true, decide_eq_true_eq, ite_true, ite_false, ↓reduceIte, List.length_cons, List.length_nil, true_and, and_true, exists_eq_left', exists_eq_left, List.cons.injEq]
    refine ⟨p1, dx1, _, rfl, hp1, lk2 rfl rfl, ?_⟩
    refine s_own V1 ?_
    refine mC_own (c_own_0 K _) ?_ fun P P' hh q => mono_var hh q
    try simp only [tSeq, tIfS, tNext, tRet, tRetN, tDrop, tAsg, tC, cVar, tOp, tCB, tCons, tNil, tTup, tLst, tIf, tAnd, tOr, tNot, cTest, cTru, oTru, cAnd, cOr, cNot, cUn, cChain, gName, cTupG, gCons, gNil, gSub, oLt, oLe, oGt, oGe, oGtK, oGeK, oBor, oIs, oIsNot, oSub, oMul, oFdiv, oMod, oPow, cPar, cPar3, cAug, tDNewK, cCall, cAttr, frzE, List.mem_singleton, List.lookup_cons_self, List.getElem?_cons_zero, List.getElem?_cons_succ, List.set_cons_zero, List.set_cons_succ, Option.some.injEq, reduceCtorEq, if_true, if_false, Bool.true_eq_false, Bool.false_eq_true, decide_eq_true_eq, ite_true, ite_false, ↓reduceIte, List.length_cons, List.length_nil, true_and, and_true, exists_eq_left', exists_eq_left, List.cons.injEq]
    refine ⟨p2, dx2, _, rfl, hp2, lk2 rfl rfl, ?_⟩
    refine s_own V2 (eq_scal rfl rfl rfl ?_)
    simp only [decide_true, if_true]
    refine hA _ ?_
    simp only [tRs, tMkX]
    refine mC_own (c_own_0 K _) ?_ fun P P' hh q => mono_var hh q
    try simp only [tSeq, tIfS, tNext, tRet, tRetN, tDrop, tAsg, tC, cVar, tOp, tCB, tCons, tNil, tTup, tLst, tIf, tAnd, tOr, tNot, cTest, cTru, oTru, cAnd, cOr, cNot, cUn, cChain, gName, cTupG, gCons, gNil, gSub, oLt, oLe, oGt, oGe, oGtK, oGeK, oBor, oIs, oIsNot, oSub, oMul, oFdiv, oMod, oPow, cPar, cPar3, cAug, tDNewK, cCall, cAttr, frzE, List.mem_singleton, List.lookup_cons_self, List.getElem?_cons_zero, List.getElem?_cons_succ, List.set_cons_zero, List.set_cons_succ, Option.some.injEq, reduceCtorEq, if_true, if_false, Bool.true_eq_false, Bool.false_eq_true, decide_eq_true_eq, ite_true, ite_false, ↓reduceIte, List.length_cons, List.length_nil, true_and, and_true, exists_eq_left', exists_eq_left, List.cons.injEq]
    refine ⟨p1, dx1, _, rfl, hp1, lk2 rfl rfl, ?_⟩
    exact s_own V1 fun x hx => r x _ (e1.trans (Ex.refl.new hx)) upd_same
  · rintro j σ H' hj ⟨⟨u2, rfl⟩, rfl⟩ R hR
    refine ⟨⟨_, [V.ref p1, V.ref p2][j]'hj, .inl (.inl k1), by simp⟩, ?_⟩
    intro x H2 hy
    obtain ⟨rfl, hx⟩ := hy
    have hx := hx _ (.inl (.inl k1))
    simp only [gName, List.set_cons_zero, List.set_cons_succ]
    refine ifS_ fun A0 B0 hA hB => ?_
    simp only [tNot, cTru, tCB, tCons, tC, tNil, cVar, List.getElem?_cons_succ, List.getElem?_cons_zero]
    have go : bIsO (gg K (SP K (n+1))) (He.ga K "View") [x, .ref (He.ga K "View")] H2 fun z H3 => match oTru K z H3 with | some b => (if (!b) = true then A0 H3 else B0 H3) | none => False := by
      have q : (match oTru K (.bl true) H2 with | some b => (if (!b) = true then A0 H2 else B0 H2) | none => False) := by
        simp only [oTru, Bool.not_true, Bool.false_eq_true, if_false]
        refine hB _ ?_
        simp only [tNext]
        exact hR _ _ ⟨⟨_, rfl⟩, rfl⟩
      match j, hj, hx with
      | 0, _, hx => obtain rfl : V.ref p1 = x := by simpa using hx
                    exact is_view V1 q
      | 1, _, hx => obtain rfl : V.ref p2 = x := by simpa using hx
                    exact is_view V2 q
    exact go
end
end WR.L

set_option Elab.async false
set_option linter.all false
set_option maxRecDepth 100000
set_option maxHeartbeats 4000000
namespace WR.L
open PySem PySem.Spec PyProof.Rows L2
section
variable {K : PySem.W.Frag} {n : Nat} {H H' : Hp} {Q : VK} {E : XK}
theorem kvs_strsG {α : Type} {enc : α → List V} {kvs : List (Key × V)} {rs : RwG α} (r : RG enc H kvs rs) : (kvs.map fun kv => kV kv.1) = (rs.map (·.1)).map V.str := by
  have := keysS_ok r.keys
  have e : (kvs.map fun kv => kV kv.1) = (kvs.map (·.1)).map kV := by rw [List.map_map]; rfl
  rw [e, this, List.map_map]
  rfl
/-- a dict with itself, or with one of the same rows -/
theorem s_alike_dictG {α : Type} {enc : α → List V} {a b : Addr} {rs : RwG α} (ha : GAt enc H a rs) (hb : GAt enc H b rs) (hl : rs.length ≤ 900) (nd : (rs.map (·.1)).Nodup) (hok : ∀ s ∈ rs.map (·.1), okS s) (hel : ∀ (r : α) (t1 t2 : Addr) (H1 : Hp) (R : VK), H1 t1 = some (.tup (enc r)) → H1 t2 = some (.tup (enc r)) → (∀ H2, Ex H1 H2 → R (.bl true) H2) → SP K (n+2) "_law_alike" [.ref t1, .ref t2] H1 R (fun _ _ _ => False))
    (h : ∀ H', Ex H H' → Q (.bl true) H') : SP K (n+3) "_law_alike" [.ref a, .ref b] H Q E := by
  obtain ⟨ka, ea, ra⟩ := ha
  obtain ⟨kb, eb, rb⟩ := hb
  refine o__law_alike ?_
  unfold r__law_alike
  refine seq_ fun N1 h1 => ?_
  try simp only [tSeq, tIfS, tNext, tRet, tRetN, tDrop, tAsg, tC, cVar, tOp, tCB, tCons, tNil, tTup, tLst, tIf, tAnd, tOr, tNot, cTest, cTru, oTru, cAnd, cOr, cNot, cUn, cChain, gName, cTupG, gCons, gNil, gSub, oLt, oLe, oGt, oGe, oGtK, oGeK, oBor, oIs, oIsNot, oSub, oMul, oFdiv, oMod, oPow, cPar, cPar3, cAug, tDNewK, cCall, cAttr, frzE, List.mem_singleton, List.lookup_cons_self, List.getElem?_cons_zero, List.getElem?_cons_succ, List.set_cons_zero, List.set_cons_succ, Option.some.injEq, reduceCtorEq, if_true, if_false, Bool.true_eq_false, Bool.false_eq_true, decide_eq_true_eq, ite_true, ite_false, ↓reduceIte, List.length_cons, List.length_nil, true_and, and_true, exists_eq_left', exists_eq_left, List.cons.injEq]
  refine h1 _ _ (seq_ fun N2 h2 => ?_)
  have tb := ty_dK (K := K) (look_of_dK eb)
  have ta := ty_dK (K := K) (look_of_dK ea)
  try simp only [tSeq, tIfS, tNext, tRet, tRetN, tDrop, tAsg, tC, cVar, tOp, tCB, tCons, tNil, tTup, tLst, tIf, tAnd, tOr, tNot, cTest, cTru, oTru, cAnd, cOr, cNot, cUn, cChain, gName, cTupG, gCons, gNil, gSub, oLt, oLe, oGt, oGe, oGtK, oGeK, oBor, oIs, oIsNot, oSub, oMul, oFdiv, oMod, oPow, cPar, cPar3, cAug, tDNewK, cCall, cAttr, frzE, List.mem_singleton, List.lookup_cons_self, List.getElem?_cons_zero, List.getElem?_cons_succ, List.set_cons_zero, List.set_cons_succ, Option.some.injEq, reduceCtorEq, if_true, if_false, Bool.true_eq_false, Bool.false_eq_true, decide_eq_true_eq, ite_true, ite_false, ↓reduceIte, List.length_cons, List.length_nil, true_and, and_true, exists_eq_left', exists_eq_left, List.cons.injEq]
  rw [isi_ty tb kb_dict_bool]
  try simp only [tSeq, tIfS, tNext, tRet, tRetN, tDrop, tAsg, tC, cVar, tOp, tCB, tCons, tNil, tTup, tLst, tIf, tAnd, tOr, tNot, cTest, cTru, oTru, cAnd, cOr, cNot, cUn, cChain, gName, cTupG, gCons, gNil, gSub, oLt, oLe, oGt, oGe, oGtK, oGeK, oBor, oIs, oIsNot, oSub, oMul, oFdiv, oMod, oPow, cPar, cPar3, cAug, tDNewK, cCall, cAttr, frzE, List.mem_singleton, List.lookup_cons_self, List.getElem?_cons_zero, List.getElem?_cons_succ, List.set_cons_zero, List.set_cons_succ, Option.some.injEq, reduceCtorEq, if_true, if_false, Bool.true_eq_false, Bool.false_eq_true, decide_eq_true_eq, ite_true, ite_false, ↓reduceIte, List.length_cons, List.length_nil, true_and, and_true, exists_eq_left', exists_eq_left, List.cons.injEq]
  refine h2 _ _ (seq_ fun N3 h3 => ?_)
  try simp only [tSeq, tIfS, tNext, tRet, tRetN, tDrop, tAsg, tC, cVar, tOp, tCB, tCons, tNil, tTup, tLst, tIf, tAnd, tOr, tNot, cTest, cTru, oTru, cAnd, cOr, cNot, cUn, cChain, gName, cTupG, gCons, gNil, gSub, oLt, oLe, oGt, oGe, oGtK, oGeK, oBor, oIs, oIsNot, oSub, oMul, oFdiv, oMod, oPow, cPar, cPar3, cAug, tDNewK, cCall, cAttr, frzE, List.mem_singleton, List.lookup_cons_self, List.getElem?_cons_zero, List.getElem?_cons_succ, List.set_cons_zero, List.set_cons_succ, Option.some.injEq, reduceCtorEq, if_true, if_false, Bool.true_eq_false, Bool.false_eq_true, decide_eq_true_eq, ite_true, ite_false, ↓reduceIte, List.length_cons, List.length_nil, true_and, and_true, exists_eq_left', exists_eq_left, List.cons.injEq]
  rw [isi_ty tb kb_dict_int]
  try simp only [tSeq, tIfS, tNext, tRet, tRetN, tDrop, tAsg, tC, cVar, tOp, tCB, tCons, tNil, tTup, tLst, tIf, tAnd, tOr, tNot, cTest, cTru, oTru, cAnd, cOr, cNot, cUn, cChain, gName, cTupG, gCons, gNil, gSub, oLt, oLe, oGt, oGe, oGtK, oGeK, oBor, oIs, oIsNot, oSub, oMul, oFdiv, oMod, oPow, cPar, cPar3, cAug, tDNewK, cCall, cAttr, frzE, List.mem_singleton, List.lookup_cons_self, List.getElem?_cons_zero, List.getElem?_cons_succ, List.set_cons_zero, List.set_cons_succ, Option.some.injEq, reduceCtorEq, if_true, if_false, Bool.true_eq_false, Bool.false_eq_true, decide_eq_true_eq, ite_true, ite_false, ↓reduceIte, List.length_cons, List.length_nil, true_and, and_true, exists_eq_left', exists_eq_left, List.cons.injEq]
  refine h3 _ _ (seq_ fun N4 h4 => ?_)
  try simp only [tSeq, tIfS, tNext, tRet, tRetN, tDrop, tAsg, tC, cVar, tOp, tCB, tCons, tNil, tTup, tLst, tIf, tAnd, tOr, tNot, cTest, cTru, oTru, cAnd, cOr, cNot, cUn, cChain, gName, cTupG, gCons, gNil, gSub, oLt, oLe, oGt, oGe, oGtK, oGeK, oBor, oIs, oIsNot, oSub, oMul, oFdiv, oMod, oPow, cPar, cPar3, cAug, tDNewK, cCall, cAttr, frzE, List.mem_singleton, List.lookup_cons_self, List.getElem?_cons_zero, List.getElem?_cons_succ, List.set_cons_zero, List.set_cons_succ, Option.some.injEq, reduceCtorEq, if_true, if_false, Bool.true_eq_false, Bool.false_eq_true, decide_eq_true_eq, ite_true, ite_false, ↓reduceIte, List.length_cons, List.length_nil, true_and, and_true, exists_eq_left', exists_eq_left, List.cons.injEq]
  rw [isi_ty tb kb_dict_str]
  try simp only [tSeq, tIfS, tNext, tRet, tRetN, tDrop, tAsg, tC, cVar, tOp, tCB, tCons, tNil, tTup, tLst, tIf, tAnd, tOr, tNot, cTest, cTru, oTru, cAnd, cOr, cNot, cUn, cChain, gName, cTupG, gCons, gNil, gSub, oLt, oLe, oGt, oGe, oGtK, oGeK, oBor, oIs, oIsNot, oSub, oMul, oFdiv, oMod, oPow, cPar, cPar3, cAug, tDNewK, cCall, cAttr, frzE, List.mem_singleton, List.lookup_cons_self, List.getElem?_cons_zero, List.getElem?_cons_succ, List.set_cons_zero, List.set_cons_succ, Option.some.injEq, reduceCtorEq, if_true, if_false, Bool.true_eq_false, Bool.false_eq_true, decide_eq_true_eq, ite_true, ite_false, ↓reduceIte, List.length_cons, List.length_nil, true_and, and_true, exists_eq_left', exists_eq_left, List.cons.injEq]
  refine h4 _ _ (seq_ fun N5 h5 => ?_)
  try simp only [tSeq, tIfS, tNext, tRet, tRetN, tDrop, tAsg, tC, cVar, tOp, tCB, tCons, tNil, tTup, tLst, tIf, tAnd, tOr, tNot, cTest, cTru, oTru, cAnd, cOr, cNot, cUn, cChain, gName, cTupG, gCons, gNil, gSub, oLt, oLe, oGt, oGe, oGtK, oGeK, oBor, oIs, oIsNot, oSub, oMul, oFdiv, oMod, oPow, cPar, cPar3, cAug, tDNewK, cCall, cAttr, frzE, List.mem_singleton, List.lookup_cons_self, List.getElem?_cons_zero, List.getElem?_cons_succ, List.set_cons_zero, List.set_cons_succ, Option.some.injEq, reduceCtorEq, if_true, if_false, Bool.true_eq_false, Bool.false_eq_true, decide_eq_true_eq, ite_true, ite_false, ↓reduceIte, List.length_cons, List.length_nil, true_and, and_true, exists_eq_left', exists_eq_left, List.cons.injEq]
  rw [isi_ty tb kb_dict_dict]
  try simp only [tSeq, tIfS, tNext, tRet, tRetN, tDrop, tAsg, tC, cVar, tOp, tCB, tCons, tNil, tTup, tLst, tIf, tAnd, tOr, tNot, cTest, cTru, oTru, cAnd, cOr, cNot, cUn, cChain, gName, cTupG, gCons, gNil, gSub, oLt, oLe, oGt, oGe, oGtK, oGeK, oBor, oIs, oIsNot, oSub, oMul, oFdiv, oMod, oPow, cPar, cPar3, cAug, tDNewK, cCall, cAttr, frzE, List.mem_singleton, List.lookup_cons_self, List.getElem?_cons_zero, List.getElem?_cons_succ, List.set_cons_zero, List.set_cons_succ, Option.some.injEq, reduceCtorEq, if_true, if_false, Bool.true_eq_false, Bool.false_eq_true, decide_eq_true_eq, ite_true, ite_false, ↓reduceIte, List.length_cons, List.length_nil, true_and, and_true, exists_eq_left', exists_eq_left, List.cons.injEq]
  rw [isi_ty ta kb_dict_dict]
  simp only [bList, Bool.not_true, look_of_dK ea, tSeq, tIfS, tNext, tRet, tRetN, tDrop, tAsg, tC, cVar, tOp, tCB, tCons, tNil, tTup, tLst, tIf, tAnd, tOr, tNot, cTest, cTru, oTru, cAnd, cOr, cNot, cUn, cChain, gName, cTupG, gCons, gNil, gSub, oLt, oLe, oGt, oGe, oGtK, oGeK, oBor, oIs, oIsNot, oSub, oMul, oFdiv, oMod, oPow, cPar, cPar3, cAug, tDNewK, cCall, cAttr, frzE, List.mem_singleton, List.lookup_cons_self, List.getElem?_cons_zero, List.getElem?_cons_succ, List.set_cons_zero, List.set_cons_succ, Option.some.injEq, reduceCtorEq, if_true, if_false, Bool.true_eq_false, Bool.false_eq_true, decide_eq_true_eq, ite_true, ite_false, ↓reduceIte, List.length_cons, List.length_nil, true_and, and_true, exists_eq_left', exists_eq_left, List.cons.injEq]
  intro l1 hl1
  have nbl : b ≠ l1 := ne_of_none eb hl1
  have nal : a ≠ l1 := ne_of_none ea hl1
  have eb1 : look K (upd H l1 (.lst (ka.map fun kv => kV kv.1))) b = some (.dK kb) := look_of_dK (by rw [upd_ne nbl]; exact eb)
  simp only [eb1]
  intro l2 hl2
  have n12 : l1 ≠ l2 := fun z => by rw [z, upd_same] at hl2; cases hl2
  have hl2H : H l2 = none := (Ex.refl.new hl1).none hl2
  refine ne_lst_same (ss := rs.map (·.1)) (by rw [upd_ne n12, upd_same, kvs_strsG ra]) (by rw [upd_same, kvs_strsG rb]) hok ?_
  try simp only [tSeq, tIfS, tNext, tRet, tRetN, tDrop, tAsg, tC, cVar, tOp, tCB, tCons, tNil, tTup, tLst, tIf, tAnd, tOr, tNot, cTest, cTru, oTru, cAnd, cOr, cNot, cUn, cChain, gName, cTupG, gCons, gNil, gSub, oLt, oLe, oGt, oGe, oGtK, oGeK, oBor, oIs, oIsNot, oSub, oMul, oFdiv, oMod, oPow, cPar, cPar3, cAug, tDNewK, cCall, cAttr, frzE, List.mem_singleton, List.lookup_cons_self, List.getElem?_cons_zero, List.getElem?_cons_succ, List.set_cons_zero, List.set_cons_succ, Option.some.injEq, reduceCtorEq, if_true, if_false, Bool.true_eq_false, Bool.false_eq_true, decide_eq_true_eq, ite_true, ite_false, ↓reduceIte, List.length_cons, List.length_nil, true_and, and_true, exists_eq_left', exists_eq_left, List.cons.injEq]
  have x2 : Ex H (upd (upd H l1 (.lst (ka.map fun kv => kV kv.1))) l2 (.lst (kb.map fun kv => kV kv.1))) := (Ex.refl.new hl1).new hl2H
  generalize hH2 : upd (upd H l1 (.lst (ka.map fun kv => kV kv.1))) l2 (.lst (kb.map fun kv => kV kv.1)) = H2 at x2 ⊢
  have ea2 := x2 _ _ ea
  have eb2 := x2 _ _ eb
  refine .inr ⟨b, .dK kb, eb2, trivial, fun od => ?_⟩
  have ea3 : a ≠ b → (upd H2 b (.frz od (.dK kb))) a = some (.dK ka) := fun hab => by rw [upd_ne hab]; exact ea2
  simp only [cLc, cIter, frzE, upd_same, tSeq, tIfS, tNext, tRet, tRetN, tDrop, tAsg, tC, cVar, tOp, tCB, tCons, tNil, tTup, tLst, tIf, tAnd, tOr, tNot, cTest, cTru, oTru, cAnd, cOr, cNot, cUn, cChain, gName, cTupG, gCons, gNil, gSub, oLt, oLe, oGt, oGe, oGtK, oGeK, oBor, oIs, oIsNot, oSub, oMul, oFdiv, oMod, oPow, cPar, cPar3, cAug, tDNewK, cCall, cAttr, frzE, List.mem_singleton, List.lookup_cons_self, List.getElem?_cons_zero, List.getElem?_cons_succ, List.set_cons_zero, List.set_cons_succ, Option.some.injEq, reduceCtorEq, if_true, if_false, Bool.true_eq_false, Bool.false_eq_true, decide_eq_true_eq, ite_true, ite_false, ↓reduceIte, List.length_cons, List.length_nil, true_and, and_true, exists_eq_left', exists_eq_left, List.cons.injEq]
  have lk : look K (upd H2 b (.frz od (.dK kb))) b = some (.dK kb) := by unfold look; rw [upd_same]
  simp only [lk, upd_same]
  intro D hD
  have nDb : b ≠ D := fun z => by rw [← z, upd_same] at hD; cases hD
  have hDH2 : H2 D = none := by rw [upd_ne nDb.symm] at hD; exact hD
  have rb3 : RG enc (upd H2 b (.frz od (.dK kb))) kb rs := rb.tp fun t xs e => by
    have : t ≠ b := fun z => by rw [z, eb] at e; cases e
    rw [upd_ne this]; exact x2 _ _ e
  have ra3 : RG enc (upd H2 b (.frz od (.dK kb))) ka rs := ra.tp fun t xs e => by
    have : t ≠ b := fun z => by rw [z, eb] at e; cases e
    rw [upd_ne this]; exact x2 _ _ e
  refine lpc_inv (n := rs.length) (fun j H' => Ex (upd H2 b (.frz od (.dK kb))) H' ∧ H' D = some (.lst ((List.replicate j true).map V.bl))) ?_ ?_ ⟨Ex.refl.new hD, by rw [upd_same]; rfl⟩
  · rintro H' ⟨e1, e2⟩
    have eb4 := e1 b _ upd_same
    refine ⟨⟨eb4, by rw [rb.len]; exact Nat.le_refl _⟩, eb4, ?_⟩
    refine ⟨D, List.replicate rs.length true, rfl, look_of_lst (by rw [upd_ne nDb.symm]; exact e2), ?_⟩
    rw [all_true]
    refine h _ fun c o ec => ?_
    by_cases hc : c = b
    · subst hc
      rw [eb] at ec; cases ec
      exact upd_same
    · rw [upd_ne hc]
      exact e1 c o (by rw [upd_ne hc]; exact x2 c o ec)
  · rintro j H' hj ⟨e1, e2⟩ R hR
    have eb4 := e1 b _ upd_same
    have ea4 := fun hab => e1 a _ (ea3 hab)
    refine ⟨⟨eb4, by rw [rb.len]; exact hj⟩, ?_⟩
    rintro x H3 ⟨rfl, k, v, hk, rfl⟩
    refine ⟨rfl, ?_⟩
    have ek : ∃ s, rs[j]? = some s ∧ k = .inr s.1 := by
      have := keysS_ok rb.keys
      have h5 : (kb.map (·.1))[j]? = some k := by rw [List.getElem?_map, hk]; rfl
      rw [this, List.getElem?_map, List.getElem?_map] at h5
      cases q : rs[j]? with
      | none => rw [q] at h5; cases h5
      | some s => rw [q] at h5; exact ⟨s, rfl, (Option.some.inj h5).symm⟩
    obtain ⟨s, hs, rfl⟩ := ek
    have hm : s.1 ∈ rs.map (·.1) := List.mem_map_of_mem (List.mem_of_getElem? hs)
    obtain ⟨pr, hpr⟩ := gget_mem hm
    have ra4 := ra3.tp e1.tp
    have rb4 := rb3.tp e1.tp
    rcases ra4.get s.1 with ⟨_, q⟩ | ⟨t1, c, v1, q1, y1⟩
    · rw [hpr] at q; cases q
    rcases rb4.get s.1 with ⟨_, q⟩ | ⟨t2, c2, v2, q2, y2⟩
    · rw [hpr] at q; cases q
    rw [q1] at q2
    cases q2
    simp only [tYes, wipe, kV, tSeq, tIfS, tNext, tRet, tRetN, tDrop, tAsg, tC, cVar, tOp, tCB, tCons, tNil, tTup, tLst, tIf, tAnd, tOr, tNot, cTest, cTru, oTru, cAnd, cOr, cNot, cUn, cChain, gName, cTupG, gCons, gNil, gSub, oLt, oLe, oGt, oGe, oGtK, oGeK, oBor, oIs, oIsNot, oSub, oMul, oFdiv, oMod, oPow, cPar, cPar3, cAug, tDNewK, cCall, cAttr, frzE, List.mem_singleton, List.lookup_cons_self, List.getElem?_cons_zero, List.getElem?_cons_succ, List.set_cons_zero, List.set_cons_succ, Option.some.injEq, reduceCtorEq, if_true, if_false, Bool.true_eq_false, Bool.false_eq_true, decide_eq_true_eq, ite_true, ite_false, ↓reduceIte, List.length_cons, List.length_nil, true_and, and_true, exists_eq_left', exists_eq_left, List.cons.injEq]
    have ixa : ∀ {Q2 : VK}, Q2 (.ref t1) H3 → oIx K (.ref a) (.str s.1) H3 Q2 := fun q => by
      by_cases hab : a = b
      · subst hab
        obtain rfl : ka = kb := by rw [ea] at eb; cases eb; rfl
        rw [ix_dSf eb4 v1]; exact q
      · rw [ix_dS (ea4 hab) v1]; exact q
    refine ixa ?_
    try simp only [tSeq, tIfS, tNext, tRet, tRetN, tDrop, tAsg, tC, cVar, tOp, tCB, tCons, tNil, tTup, tLst, tIf, tAnd, tOr, tNot, cTest, cTru, oTru, cAnd, cOr, cNot, cUn, cChain, gName, cTupG, gCons, gNil, gSub, oLt, oLe, oGt, oGe, oGtK, oGeK, oBor, oIs, oIsNot, oSub, oMul, oFdiv, oMod, oPow, cPar, cPar3, cAug, tDNewK, cCall, cAttr, frzE, List.mem_singleton, List.lookup_cons_self, List.getElem?_cons_zero, List.getElem?_cons_succ, List.set_cons_zero, List.set_cons_succ, Option.some.injEq, reduceCtorEq, if_true, if_false, Bool.true_eq_false, Bool.false_eq_true, decide_eq_true_eq, ite_true, ite_false, ↓reduceIte, List.length_cons, List.length_nil, true_and, and_true, exists_eq_left', exists_eq_left, List.cons.injEq]
    rw [ix_dSf eb4 v2]
    try simp only [tSeq, tIfS, tNext, tRet, tRetN, tDrop, tAsg, tC, cVar, tOp, tCB, tCons, tNil, tTup, tLst, tIf, tAnd, tOr, tNot, cTest, cTru, oTru, cAnd, cOr, cNot, cUn, cChain, gName, cTupG, gCons, gNil, gSub, oLt, oLe, oGt, oGe, oGtK, oGeK, oBor, oIs, oIsNot, oSub, oMul, oFdiv, oMod, oPow, cPar, cPar3, cAug, tDNewK, cCall, cAttr, frzE, List.mem_singleton, List.lookup_cons_self, List.getElem?_cons_zero, List.getElem?_cons_succ, List.set_cons_zero, List.set_cons_succ, Option.some.injEq, reduceCtorEq, if_true, if_false, Bool.true_eq_false, Bool.false_eq_true, decide_eq_true_eq, ite_true, ite_false, ↓reduceIte, List.length_cons, List.length_nil, true_and, and_true, exists_eq_left', exists_eq_left, List.cons.injEq]
    refine hel c t1 t2 _ _ y1 y2 fun H4 e4 => ?_
    refine ⟨_, e4 _ _ e2, ?_, hR _ ⟨?_, ?_⟩⟩
    · rw [List.length_map, List.length_replicate]
      exact small1000 (by omega)
    · intro c' o ec
      have hc : c' ≠ D := fun z => by rw [z, hD] at ec; cases ec
      rw [upd_ne hc]; exact e4 _ _ (e1 c' o ec)
    · rw [upd_same, List.replicate_succ']
      simp

theorem el3 (r : R3) (t1 t2 : Addr) (H1 : Hp) (R : VK) (y1 : H1 t1 = some (.tup (enc3 r))) (y2 : H1 t2 = some (.tup (enc3 r))) (h : ∀ H2, Ex H1 H2 → R (.bl true) H2) : SP K (n+2) "_law_alike" [.ref t1, .ref t2] H1 R E := by
  refine s_alike_seq (N := 3) (xs := enc3 r) (ys := enc3 r) true (look_of_tup y1) (look_of_tup y2) (by decide) rfl rfl (by rw [y1]; simp) (by rw [y2]; simp) (fun i x y H4 R2 hi ex ey e4 hR2 => ?_) h
  match i, hi, ex, ey with
  | 0, _, ex, ey => cases ex; cases ey; exact s_alike_int (hR2 _ Ex.refl)
  | 1, _, ex, ey => cases ex; cases ey; exact s_alike_int (hR2 _ Ex.refl)
  | 2, _, ex, ey => cases ex; cases ey; exact s_alike_str (hR2 _ Ex.refl)
abbrev R2w := Int × Int
def encw (r : R2w) : List V := [.int r.1, .int r.2]
theorem elw (r : R2w) (t1 t2 : Addr) (H1 : Hp) (R : VK) (y1 : H1 t1 = some (.tup (encw r))) (y2 : H1 t2 = some (.tup (encw r))) (h : ∀ H2, Ex H1 H2 → R (.bl true) H2) : SP K (n+2) "_law_alike" [.ref t1, .ref t2] H1 R E := by
  refine s_alike_seq (N := 2) (xs := encw r) (ys := encw r) true (look_of_tup y1) (look_of_tup y2) (by decide) rfl rfl (by rw [y1]; simp) (by rw [y2]; simp) (fun i x y H4 R2 hi ex ey e4 hR2 => ?_) h
  match i, hi, ex, ey with
  | 0, _, ex, ey => cases ex; cases ey; exact s_alike_int (hR2 _ Ex.refl)
  | 1, _, ex, ey => cases ex; cases ey; exact s_alike_int (hR2 _ Ex.refl)
end
end WR.L

set_option Elab.async false
set_option linter.all false
set_option maxRecDepth 100000
set_option maxHeartbeats 4000000
namespace WR.L
open PySem PySem.Spec PyProof.Rows L2
section
variable {K : PySem.W.Frag} {n : Nat} {H H' : Hp} {Q : VK} {E : XK} {v : V}
def WrAt (K : PySem.W.Frag) (H : Hp) (p d : Addr) (rs : RwG R2w) : Prop := (∃ dx, H p = some (.ins (He.ga K "Wrongs") dx [("wrong_counts", .ref d)])) ∧ GAt encw H d rs
theorem WrAt.ex {p d : Addr} {rs : RwG R2w} (x : Ex H H') (W : WrAt K H p d rs) : WrAt K H' p d rs := by
  obtain ⟨⟨dx, hp⟩, kvs, hd, r⟩ := W
  exact ⟨⟨dx, x _ _ hp⟩, kvs, x _ _ hd, r.tp x.tp⟩
theorem s_winit {p dx : Addr} (hp : H p = some (.ins (He.ga K "Wrongs") dx [])) (h : ∀ d H', WrAt K H' p d [] → H d = none → (∀ b o, b ≠ p → H b = some o → H' b = some o) → Q .non H') : SP K (n+1) "Wrongs.__init__" [.ref p] H Q E := by
  refine o_Wrongs___init__ ?_
  unfold r_Wrongs___init__
  simp only [cFldS, tDNewK, cVar, List.getElem?_cons_zero, List.getElem?_cons_succ]
  intro d hd
  have npd : p ≠ d := ne_of_none hp hd
  simp only [upd_ne npd, hp]
  refine ⟨List.mem_singleton_self _, by simp, h d _ ⟨⟨dx, by rw [upd_same]; rfl⟩, [], by rw [upd_ne npd.symm, upd_same], trivial⟩ hd fun b o nb e => ?_⟩
  rw [upd_ne nb, upd_ne (ne_of_none e hd)]; exact e
theorem mk_wr {σ : L2.St} {W : WX} (h : ∀ p d H', Ex H H' → H p = none → H d = none → p ≠ d → WrAt K H' p d [] → Q (.ref p) H') : cMk (He.ga K "Wrongs") 0 0 (fun vs _ => vs) (SP K (n+1) "Wrongs.__init__") tNil tNil W σ H Q := by
  unfold cMk
  simp only [tNil]
  refine ⟨rfl, rfl, fun x dx hx hdx ne => ?_⟩
  refine s_winit (dx := dx) upd_same fun d0 H1 W1 hd0 k1 => ⟨rfl, ?_⟩
  have ex1 : Ex H H1 := fun b o e => k1 b o (ne_of_none e hx) (by rw [upd_ne (ne_of_none e hx), upd_ne (ne_of_none e hdx)]; exact e)
  have nxd : x ≠ d0 := fun z => by rw [← z, upd_same] at hd0; cases hd0
  have hd : H d0 = none := by
    cases e : H d0 with
    | none => rfl
    | some o =>
      rw [upd_ne nxd.symm] at hd0
      by_cases h2 : d0 = dx
      · rw [h2, upd_same] at hd0; cases hd0
      · rw [upd_ne h2, e] at hd0; cases hd0
  exact h x d0 H1 ex1 hx hd nxd W1
theorem wr_told {p d : Addr} {rs : RwG R2w} (W : WrAt K H p d rs) (hl : rs.length < 64) (nd : (rs.map (·.1)).Nodup) (h : ∀ ts q H', GTold rs ts → Ex H H' → H q = none → GAt encw H' q ts → Q (.ref q) H') : SP K (n+1) "Wrongs.told" [.ref p] H Q E := by
  refine o_Wrongs_told ?_
  obtain ⟨⟨dx, hp⟩, kvs, hd, r⟩ := W
  simp only [r_Wrongs_told, tRet]
  refine .inl ?_
  simp only [cDc, cIter, frzE, tCB, tCons, tNil, cAttr, cVar, ins_ins hp, List.lookup_cons_self, List.mem_singleton, true_and, List.getElem?_cons_zero]
  refine .inl ?_
  simp only [bSorted, look_of_dK hd, r.keys]
  refine ⟨by rw [List.length_map]; exact hl, fun ys hp1 hs1 l hl1 => ?_⟩
  have ndl : d ≠ l := ne_of_none hd hl1
  have npl : p ≠ l := ne_of_none hp hl1
  try simp only [tSeq, tIfS, tNext, tRet, tRetN, tDrop, tAsg, tC, cVar, tOp, tCB, tCons, tNil, tTup, tLst, tIf, tAnd, tOr, tNot, cTest, cTru, oTru, cAnd, cOr, cNot, cUn, cChain, gName, cTupG, gCons, gNil, gSub, oLt, oLe, oGt, oGe, oGtK, oGeK, oBor, oIs, oIsNot, oSub, oMul, oFdiv, oMod, oPow, cPar, cPar3, cAug, tDNewK, cCall, cAttr, frzE, List.mem_singleton, List.lookup_cons_self, List.getElem?_cons_zero, List.getElem?_cons_succ, List.set_cons_zero, List.set_cons_succ, Option.some.injEq, reduceCtorEq, if_true, if_false, Bool.true_eq_false, Bool.false_eq_true, decide_eq_true_eq, ite_true, ite_false, ↓reduceIte, List.length_cons, List.length_nil, true_and, and_true, exists_eq_left', exists_eq_left, List.cons.injEq]
  simp only [upd_same, look_of_lst upd_same]
  intro D hD
  have hlD : l ≠ D := fun z => by rw [z, upd_same] at hD; cases hD
  have ndy : ys.Nodup := hp1.nodup_iff.mpr nd
  have hDH : H D = none := (Ex.refl.new hl1).none hD
  refine lpd_inv (n := ys.length) (fun j H' => Ex (upd H l (.lst (ys.map V.str))) H' ∧ GAt encw H' D (gordr rs (ys.take j))) ?_ ?_ ⟨Ex.refl.new hD, [], upd_same, trivial⟩
  · rintro H' ⟨h1, h2⟩
    refine ⟨itl_stop (h1 _ _ upd_same) (by simp), h _ D H' ⟨ys, hp1, hs1, rfl⟩ ((Ex.refl.new hl1).trans h1) hDH ?_⟩
    rw [List.take_length] at h2
    exact h2
  · rintro j H' hj ⟨h1, kv2, e2, r2⟩ R hR
    have el := h1 l _ upd_same
    refine ⟨itl_go el (by simpa using hj), ?_⟩
    intro x H2 hy
    obtain ⟨rfl, hx⟩ := itl_yld el hy
    rw [List.getElem?_map] at hx
    cases ey : ys[j]? with
    | none => rw [ey] at hx; cases hx
    | some s =>
      rw [ey] at hx
      obtain rfl : V.str s = x := Option.some.inj hx
      refine ⟨rfl, ?_⟩
      have hd2 := h1 d _ (by rw [upd_ne ndl]; exact hd)
      have hp2 := h1 p _ (by rw [upd_ne npl]; exact hp)
      simp only [tYes, wipe, cAttr, cVar, ins_ins hp2, List.lookup_cons_self, List.mem_singleton, true_and, gName, tOp, if_true, List.foldl_cons, List.foldl_nil, List.set_cons_zero, List.set_cons_succ, List.getElem?_cons_zero, List.getElem?_cons_succ]
      have r3 : RG encw H2 kvs rs := r.tp (((Ex.refl.new hl1).trans h1).tp)
      have hm : s ∈ rs.map (·.1) := hp1.mem_iff.mp (List.mem_of_getElem? ey)
      obtain ⟨pr, hpr⟩ := gget_mem hm
      obtain ⟨t, a, et⟩ := r3.some hpr
      rw [ix_dS hd2 a]
      refine ⟨kv2, .inr s, rfl, e2, ?_, hR _ ⟨?_, _, upd_same, ?_⟩⟩
      · rw [r2.len]
        have : (gordr rs (ys.take j)).length ≤ ys.length := by unfold gordr; rw [List.length_map, List.length_take]; omega
        have h3 : ys.length = rs.length := by rw [hp1.length_eq, List.length_map]
        exact small1000 (by omega)
      · intro b o eb
        have hb : b ≠ D := fun z => by rw [z, hD] at eb; cases eb
        rw [upd_ne hb]; exact h1 b o eb
      · have r4 := RG.put (n := s) et r2
        have e5 : gput (gordr rs (ys.take j)) s pr = gordr rs (ys.take (j + 1)) := by
          have := gordr_snoc (rs := rs) ndy ey
          rw [hpr] at this
          exact this
        rw [e5] at r4
        refine r4.tp fun b xs eb => ?_
        have hb : b ≠ D := fun z => by rw [z, e2] at eb; cases eb
        rw [upd_ne hb]; exact eb
def cnt (rs : RwG R2w) (s : Str) : Int := match gget rs s with
  | some r => r.1
  | none => 0
theorem wr_count {p d : Addr} {rs : RwG R2w} {s : Str} (W : WrAt K H p d rs) (hn : isNm s = true) (h : ∀ H', Ex H H' → Q (.int (cnt rs s)) H') : SP K (n+3) "Wrongs.count_of" [.ref p, .str s] H Q E := by
  refine o_Wrongs_count_of ?_
  unfold r_Wrongs_count_of
  refine seq_ fun N1 h1 => ?_
  simp only [tDrop, cCall, tCons, tNil, cVar, List.getElem?_cons_zero, List.getElem?_cons_succ]
  refine ⟨rfl, (by first | rfl | trivial), s_need_name (nm_len hn) hn fun H1 e1 => h1 _ _ ?_⟩
  obtain ⟨⟨dx, hp⟩, kvs, hd, r⟩ := W.ex e1
  simp only [tRet, tIf, cTest, tOp, cAttr, cVar, ins_ins hp, List.lookup_cons_self, List.mem_singleton, true_and, List.getElem?_cons_zero, List.getElem?_cons_succ]
  rw [in_dS hd, r.isSome]
  have hh := h H1 e1
  unfold cnt at hh
  cases eg : gget rs s with
  | none =>
    rw [eg] at hh
    simp only [Option.isSome_none, Bool.xor_false, Bool.false_eq_true, if_false, tC]
    exact hh
  | some ro =>
    rw [eg] at hh
    obtain ⟨t, hv, ht⟩ := r.some eg
    simp only [Option.isSome_some, Bool.false_bne, if_true, tOp, cAttr, cVar, tC, ins_ins hp, List.lookup_cons_self, List.mem_singleton, true_and, List.getElem?_cons_zero, List.getElem?_cons_succ]
    rw [ix_dS hd hv, ix_tup (look_of_tup ht) (v := .int ro.1) rfl]
    exact hh
theorem wr_count_bad {p : Addr} (b : BadN K H v) (r : Rf K H "NoName" v E) : SP K (n+3) "Wrongs.count_of" [.ref p, v] H Q E := by
  refine o_Wrongs_count_of ?_
  unfold r_Wrongs_count_of
  refine seq_ fun N1 h1 => ?_
  simp only [tDrop, cCall, tCons, tNil, cVar, List.getElem?_cons_zero, List.getElem?_cons_succ]
  exact ⟨rfl, (by first | rfl | trivial), s_need_name_bad b r⟩
theorem wr_seen_bad {p : Addr} (b : BadN K H v) (r : Rf K H "NoName" v E) : SP K (n+3) "Wrongs.seen" [.ref p, v] H Q E := by
  refine o_Wrongs_seen ?_
  unfold r_Wrongs_seen
  refine seq_ fun N1 h1 => ?_
  simp only [tDrop, cCall, tCons, tNil, cVar, List.getElem?_cons_zero, List.getElem?_cons_succ]
  exact ⟨rfl, (by first | rfl | trivial), s_need_name_bad b r⟩
theorem wr_seen {p d : Addr} {rs : RwG R2w} {s : Str} (W : WrAt K H p d rs) (hl : rs.length ≤ 900) (hn : isNm s = true) (h : ∀ H', WrAt K H' p d (gput rs s (cnt rs s + 1, 5)) → Exd d H H' → Q (.int (cnt rs s + 1)) H') : SP K (n+4) "Wrongs.seen" [.ref p, .str s] H Q E := by
  refine o_Wrongs_seen ?_
  unfold r_Wrongs_seen
  refine seq_ fun N1 h1 => ?_
  simp only [tDrop, cCall, tCons, tNil, cVar, List.getElem?_cons_zero, List.getElem?_cons_succ]
  refine ⟨rfl, (by first | rfl | trivial), s_need_name (nm_len hn) hn fun H1 e1 => h1 _ _ (seq_ fun N2 h2 => ?_)⟩
  have W1 := W.ex e1
  obtain ⟨⟨dx1, hp1⟩, _⟩ := id W1
  simp only [tAsg, tOp]
  refine mC_own (c_count_of_1 K _) ?_ fun P P' hh q => mono_var hh q
  simp only [tCons, tNil, cVar, List.getElem?_cons_zero, List.getElem?_cons_succ]
  refine ⟨p, dx1, _, rfl, hp1, lk1 (by decide +kernel), rfl, (by first | rfl | trivial), wr_count W1 hn fun H2 e2 => ?_⟩
  simp only [tC, oAdd]
  refine h2 _ _ (seq_ fun N3 h3 => ?_)
  simp only [tAsg, tTup, tCons, tNil, tC, cVar, gName, List.set_cons_zero, List.set_cons_succ, List.getElem?_cons_zero, List.getElem?_cons_succ]
  refine ⟨by simp only [sizeLine_eq, List.length_cons, List.length_nil]; omega, fun q hq => ?_⟩
  have e3 : Ex H2 (upd H2 q (.tup [.int (cnt rs s + 1), .int 5])) := Ex.refl.new hq
  have k3 : (upd H2 q (.tup [.int (cnt rs s + 1), .int 5])) q = some (.tup (encw (cnt rs s + 1, 5))) := upd_same
  generalize upd H2 q (.tup [.int (cnt rs s + 1), .int 5]) = H3 at e3 k3 ⊢
  obtain ⟨⟨dx, hp⟩, kvs, hd, r⟩ := (W1.ex e2).ex e3
  simp only [gSub, cAttr, cVar, ins_ins hp, List.lookup_cons_self, List.mem_singleton, true_and, List.getElem?_cons_zero, List.getElem?_cons_succ]
  have npd : p ≠ d := fun z => by rw [z, hd] at hp; cases hp
  refine set_dS hd (by rw [r.len]; omega) (h3 _ _ ?_)
  simp only [tRet, cVar, List.getElem?_cons_zero, List.getElem?_cons_succ]
  refine h _ ⟨⟨dx, by rw [upd_ne npd]; exact hp⟩, _, upd_same, (RG.put (n := s) k3 r).tp fun b xs eb => ?_⟩ fun x o nx e => ?_
  · have hb : b ≠ d := fun z => by rw [z, hd] at eb; cases eb
    rw [upd_ne hb]; exact eb
  · rw [upd_ne nx]; exact e3 _ _ (e2 _ _ (e1 _ _ e))
theorem wr_copied {p d : Addr} {rs : RwG R2w} (W : WrAt K H p d rs) (h : ∀ p' d' H', Ex H H' → H p' = none → H d' = none → WrAt K H' p' d' rs → Q (.ref p') H') : SP K (n+2) "Wrongs.copied" [.ref p] H Q E := by
  refine o_Wrongs_copied ?_
  unfold r_Wrongs_copied
  refine seq_ fun N1 h1 => ?_
  simp only [tAsg]
  refine mk_wr fun p' d0 H1 e1 fp fd npd W1 => h1 _ _ (seq_ fun N2 h2 => ?_)
  obtain ⟨⟨dxa, hpa⟩, kva, hda, ra⟩ := W.ex e1
  obtain ⟨⟨dx1, hp1⟩, kv1, hd1, r1⟩ := id W1
  simp only [cFldS, cAttr, ins_ins hpa, tCB, tCons, tNil, gName, cVar, bDict, look_of_dK (K := K) hda, List.lookup_cons_self, List.mem_singleton, true_and, List.set_cons_zero, List.set_cons_succ, List.getElem?_cons_zero, List.getElem?_cons_succ]
  intro l hl
  have npl : p' ≠ l := ne_of_none hp1 hl
  simp only [upd_ne npl, hp1]
  refine ⟨trivial, by simp, h2 _ _ ?_⟩
  try simp only [tSeq, tIfS, tNext, tRet, tRetN, tDrop, tAsg, tC, cVar, tOp, tCB, tCons, tNil, tTup, tLst, tIf, tAnd, tOr, tNot, cTest, cTru, oTru, cAnd, cOr, cNot, cUn, cChain, gName, cTupG, gCons, gNil, gSub, oLt, oLe, oGt, oGe, oGtK, oGeK, oBor, oIs, oIsNot, oSub, oMul, oFdiv, oMod, oPow, cPar, cPar3, cAug, tDNewK, cCall, cAttr, frzE, List.mem_singleton, List.lookup_cons_self, List.getElem?_cons_zero, List.getElem?_cons_succ, List.set_cons_zero, List.set_cons_succ, Option.some.injEq, reduceCtorEq, if_true, if_false, Bool.true_eq_false, Bool.false_eq_true, decide_eq_true_eq, ite_true, ite_false, ↓reduceIte, List.length_cons, List.length_nil, true_and, and_true, exists_eq_left', exists_eq_left, List.cons.injEq]
  have e2 : Ex H (upd (upd H1 l (.dK kva)) p' (.ins (He.ga K "Wrongs") dx1 (putF "wrong_counts" (.ref l) [(("wrong_counts" : Str), V.ref d0)]))) := fun b o e => by
    rw [upd_ne (ne_of_none e fp), upd_ne (ne_of_none (e1 _ _ e) hl)]; exact e1 _ _ e
  have e3 : Tp H1 (upd (upd H1 l (.dK kva)) p' (.ins (He.ga K "Wrongs") dx1 (putF "wrong_counts" (.ref l) [(("wrong_counts" : Str), V.ref d0)]))) := fun t xs e => by
    rw [upd_ne (fun z => by rw [z, hp1] at e; cases e), upd_ne (ne_of_none e hl)]; exact e
  exact h p' l _ e2 fp (Ex.none e1 hl) ⟨⟨dx1, by rw [upd_same]; rfl⟩, kva, by rw [upd_ne npl.symm, upd_same], ra.tp e3⟩
end
end WR.L

set_option Elab.async false
set_option linter.all false
set_option maxRecDepth 100000
set_option maxHeartbeats 4000000
namespace WR.L
open PySem PySem.Spec PyProof.Rows L2
/-- lists in lists -/
def NestL (H : Hp) : Nat → Addr → Prop
  | 0, a => H a = some (.lst [.int 0])
  | k + 1, a => ∃ b, H a = some (.lst [.ref b]) ∧ NestL H k b
theorem NestL.ex {H H' : Hp} (x : Ex H H') : ∀ {k : Nat} {a : Addr}, NestL H k a → NestL H' k a
  | 0, _, h => x _ _ h
  | _ + 1, _, ⟨b, h, q⟩ => ⟨b, x _ _ h, NestL.ex x q⟩
section
variable {K : PySem.W.Frag} {n : Nat} {H H' : Hp} {Q : VK} {E : XK} {v : V}
theorem s_alike_non (h : Q (.bl true) H) : SP K (n+1) "_law_alike" [.non, .non] H Q E := by
  refine o__law_alike ?_
  unfold r__law_alike
  refine seq_ fun N1 h1 => ?_
  try simp only [tSeq, tIfS, tNext, tRet, tRetN, tDrop, tAsg, tC, cVar, tOp, tCB, tCons, tNil, tTup, tLst, tIf, tAnd, tOr, tNot, cTest, cTru, oTru, cAnd, cOr, cNot, cUn, cChain, gName, cTupG, gCons, gNil, gSub, oLt, oLe, oGt, oGe, oGtK, oGeK, oBor, oIs, oIsNot, oSub, oMul, oFdiv, oMod, oPow, cPar, cPar3, cAug, tDNewK, cCall, cAttr, frzE, List.mem_singleton, List.lookup_cons_self, List.getElem?_cons_zero, List.getElem?_cons_succ, List.set_cons_zero, List.set_cons_succ, Option.some.injEq, reduceCtorEq, if_true, if_false, Bool.true_eq_false, Bool.false_eq_true, decide_eq_true_eq, ite_true, ite_false, ↓reduceIte, List.length_cons, List.length_nil, true_and, and_true, exists_eq_left', exists_eq_left, List.cons.injEq]
  exact h
theorem alike_nest : ∀ (k : Nat) {a : Addr} {n : Nat} {H : Hp} {Q : VK} {E : XK}, NestL H k a → (∀ H', Ex H H' → Q (.bl true) H') → SP K (n+k+2) "_law_alike" [.ref a, .ref a] H Q E
  | 0, a, n, H, Q, E, hn, h => by
    refine s_alike_seq (N := 1) (xs := [.int 0]) (ys := [.int 0]) false (look_of_lst hn) (look_of_lst hn) (by decide) rfl rfl (by rw [show H a = _ from hn]; simp) (by rw [show H a = _ from hn]; simp) (fun i x y H4 R2 hi ex ey e4 hR2 => ?_) h
    match i, hi, ex, ey with
    | 0, _, ex, ey => cases ex; cases ey; exact s_alike_int (hR2 _ Ex.refl)
  | k + 1, a, n, H, Q, E, ⟨b, hb, hn⟩, h => by
    refine s_alike_seq (N := 1) (xs := [.ref b]) (ys := [.ref b]) false (look_of_lst hb) (look_of_lst hb) (by decide) rfl rfl (by rw [hb]; simp) (by rw [hb]; simp) (fun i x y H4 R2 hi ex ey e4 hR2 => ?_) h
    match i, hi, ex, ey with
    | 0, _, ex, ey => cases ex; cases ey; exact alike_nest k (hn.ex e4) hR2
/-- a value that may be handed in wrongly -/
inductive Odd (K : PySem.W.Frag) (H : Hp) : V → Prop
  | non : Odd K H .non
  | bl (b : Bool) : Odd K H (.bl b)
  | int (i : Int) : Odd K H (.int i)
  | str (s : Str) : Odd K H (.str s)
  | lst {a : Addr} {s : Str} (h : H a = some (.lst [.str s])) : Odd K H (.ref a)
  | nest {a : Addr} (h : NestL H 7 a) : Odd K H (.ref a)
  | tup {a : Addr} {s : Str} (h : H a = some (.tup [.str s])) : Odd K H (.ref a)
  | dE {a : Addr} (h : H a = some (.dK [])) : Odd K H (.ref a)
  | dT {a : Addr} {ts : RwG R3} (h : GAt enc3 H a ts) (hl : ts.length ≤ 900) (nd : (ts.map (·.1)).Nodup) (hok : ∀ s ∈ ts.map (·.1), okS s) : Odd K H (.ref a)
  | wr {p d : Addr} (h : WrAt K H p d []) : Odd K H (.ref p)
  | eye {p d : Addr} {own : Str} {rs : RwG R3} (h : VAt K H p d own rs) (hl : rs.length < 64) (nd : (rs.map (·.1)).Nodup) (w : okW rs) : Odd K H (.ref p)
theorem Odd.ex (x : Ex H H') (o : Odd K H v) : Odd K H' v := by
  cases o with
  | non => exact .non
  | bl b => exact .bl b
  | int i => exact .int i
  | str s => exact .str s
  | lst h => exact .lst (x _ _ h)
  | nest h => exact .nest (h.ex x)
  | tup h => exact .tup (x _ _ h)
  | dE h => exact .dE (x _ _ h)
  | dT h hl nd hok => exact .dT (h.ex x) hl nd hok
  | wr h => exact .wr (h.ex x)
  | eye h hl nd w => exact .eye (h.ex x) hl nd w
theorem Odd.kd (hV : ownX K (He.ga K "View") = true) (hW : ownX K (He.ga K "Wrongs") = true) (o : Odd K H v) : ∃ m, Kd K H v m := by
  cases o with
  | non => exact ⟨_, .non⟩
  | bl b => exact ⟨_, .bl b⟩
  | int i => exact ⟨_, .int i⟩
  | str s => exact ⟨_, .str s⟩
  | lst h => exact ⟨_, .lst h⟩
  | nest h => obtain ⟨b, hb, _⟩ := h; exact ⟨_, .lst hb⟩
  | tup h => exact ⟨_, .tup h⟩
  | dE h => exact ⟨_, .dK h⟩
  | dT h => obtain ⟨kv, hb, _⟩ := h; exact ⟨_, .dK hb⟩
  | wr h => obtain ⟨⟨dx, hp⟩, _⟩ := h; exact ⟨_, .own hW hp⟩
  | eye h => obtain ⟨⟨dx, hp⟩, _⟩ := h; exact ⟨_, .own hV hp⟩
/-- isinstance(v, C) of what is no own instance -/
theorem isO_kd {S : Str → Sp} {C : Addr} {m : String} (k : Kd K H v m) (hm : m ≠ "own") (q : Q (.bl false) H) : bIsO (gg K S) C [v, .ref C] H Q := by
  unfold bIsO
  rcases k.ty with ⟨ht, _⟩ | ⟨e, _⟩
  · refine ⟨rfl, ?_⟩
    rw [ty_ins ht]
    exact ⟨by show (tyN K H v).isSome = true; rw [ht]; rfl, q⟩
  · exact absurd e hm
theorem isW_view {S : Str → Sp} {p d : Addr} {own : Str} {rs : RwG R3} (hap : apartX K (He.ga K "View") (He.ga K "Wrongs") = true) (W : VAt K H p d own rs) (q : Q (.bl false) H) : bIsO (gg K S) (He.ga K "Wrongs") [.ref p, .ref (He.ga K "Wrongs")] H Q := by
  obtain ⟨⟨dx, hp⟩, _⟩ := W
  unfold bIsO
  simp only [ins_ins hp]
  exact ⟨trivial, ⟨_, List.mem_cons_of_mem _ (List.mem_singleton_self _), rfl⟩, .inr ⟨of_decide_eq_true hap, q⟩⟩
theorem isV_wr {S : Str → Sp} {p d : Addr} {rs : RwG R2w} (hap : apartX K (He.ga K "Wrongs") (He.ga K "View") = true) (W : WrAt K H p d rs) (q : Q (.bl false) H) : bIsO (gg K S) (He.ga K "View") [.ref p, .ref (He.ga K "View")] H Q := by
  obtain ⟨⟨dx, hp⟩, _⟩ := W
  exact isV_bad hap (.inr ⟨p, dx, _, rfl, hp⟩) q
theorem isW_wr {S : Str → Sp} {p d : Addr} {rs : RwG R2w} (W : WrAt K H p d rs) (q : Q (.bl true) H) : bIsO (gg K S) (He.ga K "Wrongs") [.ref p, .ref (He.ga K "Wrongs")] H Q := by
  obtain ⟨⟨dx, hp⟩, _⟩ := W
  unfold bIsO
  simp only [ins_ins hp]
  exact ⟨trivial, ⟨_, List.mem_cons_self, rfl⟩, .inl ⟨trivial, q⟩⟩
theorem eq_wr {S : Nat} {p d : Addr} (W : WrAt K H p d []) (h : ∀ H', Ex H H' → Q (.bl true) H') : oEqG (gg K (SP K (S+2))) (.ref p) (.ref p) H Q := by
  obtain ⟨⟨dx, hp⟩, _⟩ := id W
  refine .inl ?_
  unfold oEqG0
  simp only [ins_ins hp]
  refine ⟨.inr ⟨_, _, ins_ins hp⟩, spc_L (cs_eq K _) rfl ?_⟩
  refine o_Wrongs___eq__ ?_
  unfold r_Wrongs___eq__
  simp only [tRet, cAnd, tCB, tCons, tNil, tC, cVar, List.getElem?_cons_zero, List.getElem?_cons_succ]
  refine isW_wr W ?_
  simp only [oTru, tOp]
  refine mC_ownL (c_told_0 K _) ?_ fun P P' hh q => mono_var hh q
  try simp only [tSeq, tIfS, tNext, tRet, tRetN, tDrop, tAsg, tC, cVar, tOp, tCB, tCons, tNil, tTup, tLst, tIf, tAnd, tOr, tNot, cTest, cTru, oTru, cAnd, cOr, cNot, cUn, cChain, gName, cTupG, gCons, gNil, gSub, oLt, oLe, oGt, oGe, oGtK, oGeK, oBor, oIs, oIsNot, oSub, oMul, oFdiv, oMod, oPow, cPar, cPar3, cAug, tDNewK, cCall, cAttr, frzE, List.mem_singleton, List.lookup_cons_self, List.getElem?_cons_zero, List.getElem?_cons_succ, List.set_cons_zero, List.set_cons_succ, Option.some.injEq, reduceCtorEq, if_true, if_false, Bool.true_eq_false, Bool.false_eq_true, decide_eq_true_eq, ite_true, ite_false, ↓reduceIte, List.length_cons, List.length_nil, true_and, and_true, exists_eq_left', exists_eq_left, List.cons.injEq]
  refine ⟨p, dx, _, rfl, hp, lk1 (by decide +kernel), ?_⟩
  refine wr_told W (by decide) (by simp) fun ts q H1 ht e1 hq g1 => ?_
  have W2 := W.ex e1
  obtain ⟨⟨dx2, hp2⟩, _⟩ := id W2
  refine mC_ownL (c_told_0 K _) ?_ fun P P' hh q => mono_var hh q
  try simp only [tSeq, tIfS, tNext, tRet, tRetN, tDrop, tAsg, tC, cVar, tOp, tCB, tCons, tNil, tTup, tLst, tIf, tAnd, tOr, tNot, cTest, cTru, oTru, cAnd, cOr, cNot, cUn, cChain, gName, cTupG, gCons, gNil, gSub, oLt, oLe, oGt, oGe, oGtK, oGeK, oBor, oIs, oIsNot, oSub, oMul, oFdiv, oMod, oPow, cPar, cPar3, cAug, tDNewK, cCall, cAttr, frzE, List.mem_singleton, List.lookup_cons_self, List.getElem?_cons_zero, List.getElem?_cons_succ, List.set_cons_zero, List.set_cons_succ, Option.some.injEq, reduceCtorEq, if_true, if_false, Bool.true_eq_false, Bool.false_eq_true, decide_eq_true_eq, ite_true, ite_false, ↓reduceIte, List.length_cons, List.length_nil, true_and, and_true, exists_eq_left', exists_eq_left, List.cons.injEq]
  refine ⟨p, dx2, _, rfl, hp2, lk1 (by decide +kernel), ?_⟩
  refine wr_told W2 (by decide) (by simp) fun us q2 H2 hu e2 hq2 g2 => ?_
  have t0 : ts = [] := List.length_eq_zero_iff.mp ht.len
  have u0 : us = [] := List.length_eq_zero_iff.mp hu.len
  subst t0 u0
  obtain ⟨k1, a1, r1⟩ := g1.ex e2
  obtain ⟨k2, a2, r2⟩ := g2
  have z1 : k1 = [] := List.length_eq_zero_iff.mp r1.len
  have z2 : k2 = [] := List.length_eq_zero_iff.mp r2.len
  subst z1 z2
  refine .inl ?_
  unfold oEqG0
  rw [ins_dK (K := K) (look_of_dK a1)]
  refine .inr ⟨q, q2, [], [], [], [], rfl, rfl, a1, a2, .nil, .nil, ?_⟩
  exact h H2 (e1.trans e2)
/-- alike is what is the same thing; a list grows first -/
theorem s_law_same (hV : ownX K (He.ga K "View") = true) (hW : ownX K (He.ga K "Wrongs") = true) (ha1 : apartX K (He.ga K "Wrongs") (He.ga K "View") = true) (ha2 : apartX K (He.ga K "View") (He.ga K "Wrongs") = true) (o : Odd K H v)
    (h : ∀ H', (Ex H H' ∨ ∃ a xs, v = .ref a ∧ H a = some (.lst xs) ∧ ∀ b u, b ≠ a → H b = some u → H' b = some u) → Q (.bl true) H') : SP K (n+14) "_law_same" [v, v] H Q E := by
  refine o__law_same ?_
  unfold r__law_same
  have hE : ∀ H', Ex H H' → Q (.bl true) H' := fun H' e => h H' (.inl e)
  refine seq_ fun N1 h1 => ifS_ fun A1 B1 hA1 hB1 => ?_
  simp only [cTru, tCB, tCons, tNil, tC, cVar, List.getElem?_cons_zero, List.getElem?_cons_succ]
  -- no own instance
  have plain : ∀ m, Kd K H v m → m ≠ "own" → (m ≠ "list" → SP K (n+13) "_law_alike" [v, v] H Q E) → (m = "list" → ∃ a xs, v = .ref a ∧ H a = some (.lst xs) ∧ xs.length ≤ 900 ∧ SP K (n+13) "_law_alike" [v, v] (upd H a (.lst (xs ++ [.str "more"]))) Q E) →
      bIsO (gg K (SP K (n+13))) (He.ga K "View") [v, .ref (He.ga K "View")] H fun z H3 => match oTru K z H3 with | some b => (if b = true then A1 H3 else B1 H3) | none => False := by
    intro m k hm f1 f2
    refine isO_kd k hm ?_
    simp only [oTru, Bool.false_eq_true, if_false]
    refine hB1 _ ?_
    simp only [tNext]
    refine h1 _ _ (seq_ fun N2 h2 => ifS_ fun A2 B2 hA2 hB2 => ?_)
    simp only [cTru, tCB, tCons, tNil, tC, cVar, List.getElem?_cons_zero, List.getElem?_cons_succ]
    refine isO_kd k hm ?_
    simp only [oTru, Bool.false_eq_true, if_false]
    refine hB2 _ ?_
    simp only [tNext]
    refine h2 _ _ (seq_ fun N3 h3 => ifS_ fun A3 B3 hA3 hB3 => ?_)
    simp only [cTru, tCB, tCons, tNil, tC, cVar, List.getElem?_cons_zero, List.getElem?_cons_succ]
    refine isi_k k (by decide) ?_
    by_cases hl : m = "list"
    · subst hl
      obtain ⟨a, xs, rfl, hx, hlen, f⟩ := f2 rfl
      simp only [show isK "list" "list" = true from rfl, oTru, if_true]
      refine hA3 _ ?_
      simp only [tDrop]
      refine mC_blt ?_ fun P P' hh q => mono_var hh q
      simp only [cVar, List.getElem?_cons_zero, List.getElem?_cons_succ]
      refine ⟨ins_lst (K := K) (look_of_lst hx), "list", tyB_lst (K := K) (look_of_lst hx), _, b_append, ?_⟩
      simp only [tCons, tNil, tC, mAppend, hx]
      refine ⟨small1000 (by omega), h3 _ _ ?_⟩
      simp only [tRet, cCall, tCons, tNil, cVar, List.getElem?_cons_zero, List.getElem?_cons_succ]
      exact ⟨rfl, (by first | rfl | trivial), f⟩
    · have : isK m "list" = false := by simp [isK, hl]
      simp only [this, oTru, Bool.false_eq_true, if_false]
      refine hB3 _ ?_
      simp only [tNext]
      refine h3 _ _ ?_
      simp only [tRet, cCall, tCons, tNil, cVar, List.getElem?_cons_zero, List.getElem?_cons_succ]
      exact ⟨rfl, (by first | rfl | trivial), f1 hl⟩
  have frl : ∀ (a : Addr) (xs : List V) (H' : Hp), v = .ref a → H a = some (.lst xs) → Ex (upd H a (.lst (xs ++ [.str "more"]))) H' → Q (.bl true) H' := fun a xs H' ea ha e => h H' (.inr ⟨a, xs, ea, ha, fun b u nb q => e _ _ (by rw [upd_ne nb]; exact q)⟩)
  cases o with
  | non => exact plain _ .non (by decide) (fun _ => s_alike_non (hE H Ex.refl)) fun e => absurd e (by decide)
  | bl b => exact plain _ (.bl b) (by decide) (fun _ => s_alike_bl (hE H Ex.refl)) fun e => absurd e (by decide)
  | int i => exact plain _ (.int i) (by decide) (fun _ => s_alike_int (hE H Ex.refl)) fun e => absurd e (by decide)
  | str s => exact plain _ (.str s) (by decide) (fun _ => s_alike_str (hE H Ex.refl)) fun e => absurd e (by decide)
  | @lst a s hl =>
    refine plain _ (.lst hl) (by decide) (fun e => absurd rfl e) fun _ => ⟨a, _, rfl, hl, by simp, ?_⟩
    refine s_alike_seq (N := 2) (xs := [.str s] ++ [.str "more"]) (ys := [.str s] ++ [.str "more"]) false (look_of_lst upd_same) (look_of_lst upd_same) (by decide) rfl rfl (by rw [upd_same]; simp) (by rw [upd_same]; simp) (fun i x y H4 R2 hi ex ey e4 hR2 => ?_) fun H' e => frl a _ H' rfl hl e
    match i, hi, ex, ey with
    | 0, _, ex, ey => cases ex; cases ey; exact s_alike_str (hR2 _ Ex.refl)
    | 1, _, ex, ey => cases ex; cases ey; exact s_alike_str (hR2 _ Ex.refl)
  | @nest a hl =>
    obtain ⟨b, hb, hn⟩ := hl
    refine plain _ (.lst hb) (by decide) (fun e => absurd rfl e) fun _ => ⟨a, _, rfl, hb, by simp, ?_⟩
    have away : ∀ (k : Nat) (c : Addr), NestL H k c → k < 7 → NestL (upd H a (.lst ([.ref b] ++ [.str "more"]))) k c := by
      intro k
      induction k with
      | zero =>
        intro c hc _
        show (upd H a _) c = _
        have hc' : H c = some (.lst [.int 0]) := hc
        rw [upd_ne (fun z => by rw [z, hb] at hc'; cases hc')]; exact hc'
      | succ k ih =>
        rintro c ⟨c2, hc, hc2⟩ hk
        have nca : c ≠ a := fun z => by
          -- two lists of lists of unlike depth
          subst z
          have dep : ∀ (i j : Nat) (c : Addr), NestL H i c → NestL H j c → i = j := by
            intro i
            induction i with
            | zero =>
              intro j c hi hj
              cases j with
              | zero => rfl
              | succ j =>
                obtain ⟨c3, h3, _⟩ := hj
                have hi' : H c = some (.lst [.int 0]) := hi
                rw [h3] at hi'; cases hi'
            | succ i ihi =>
              intro j c hi hj
              obtain ⟨c3, h3, h4⟩ := hi
              cases j with
              | zero =>
                have hj' : H c = some (.lst [.int 0]) := hj
                rw [h3] at hj'; cases hj'
              | succ j =>
                obtain ⟨c5, h5, h6⟩ := hj
                rw [h3] at h5
                cases h5
                rw [ihi j c3 h4 h6]
          have := dep 7 (k + 1) c ⟨b, hb, hn⟩ ⟨c2, hc, hc2⟩
          omega
        exact ⟨c2, by rw [upd_ne nca]; exact hc, ih c2 hc2 (by omega)⟩
    refine s_alike_seq (N := 2) (xs := [.ref b] ++ [.str "more"]) (ys := [.ref b] ++ [.str "more"]) false (look_of_lst upd_same) (look_of_lst upd_same) (by decide) rfl rfl (by rw [upd_same]; simp) (by rw [upd_same]; simp) (fun i x y H4 R2 hi ex ey e4 hR2 => ?_) fun H' e => frl a _ H' rfl hb e
    match i, hi, ex, ey with
    | 0, _, ex, ey => cases ex; cases ey; exact alike_nest (n := n + 4) 6 ((away 6 b hn (by decide)).ex e4) hR2
    | 1, _, ex, ey => cases ex; cases ey; exact s_alike_str (hR2 _ Ex.refl)
  | @tup a s hl =>
    refine plain _ (.tup hl) (by decide) (fun _ => ?_) fun e => absurd e (by decide)
    refine s_alike_seq (N := 1) (xs := [.str s]) (ys := [.str s]) true (look_of_tup hl) (look_of_tup hl) (by decide) rfl rfl (by rw [hl]; simp) (by rw [hl]; simp) (fun i x y H4 R2 hi ex ey e4 hR2 => ?_) hE
    match i, hi, ex, ey with
    | 0, _, ex, ey => cases ex; cases ey; exact s_alike_str (hR2 _ Ex.refl)
  | @dE a hl =>
    refine plain _ (.dK hl) (by decide) (fun _ => ?_) fun e => absurd e (by decide)
    have g0 : GAt enc3 H a [] := ⟨[], hl, trivial⟩
    exact s_alike_dictG g0 g0 (by decide) (by simp) (by simp) (fun r t1 t2 H1 R y1 y2 q => el3 r t1 t2 H1 R y1 y2 q) hE
  | @dT a ts hg hl nd hok =>
    obtain ⟨kv, hb, _⟩ := id hg
    refine plain _ (.dK hb) (by decide) (fun _ => ?_) fun e => absurd e (by decide)
    exact s_alike_dictG hg hg hl nd hok (fun r t1 t2 H1 R y1 y2 q => el3 r t1 t2 H1 R y1 y2 q) hE
  | wr W =>
    refine isV_wr ha1 W ?_
    simp only [oTru, Bool.false_eq_true, if_false]
    refine hB1 _ ?_
    simp only [tNext]
    refine h1 _ _ (seq_ fun N2 h2 => ifS_ fun A2 B2 hA2 hB2 => ?_)
    simp only [cTru, tCB, tCons, tNil, tC, cVar, List.getElem?_cons_zero, List.getElem?_cons_succ]
    refine isW_wr W ?_
    simp only [oTru, if_true]
    refine hA2 _ ?_
    simp only [tRet, cAnd, tCB, tCons, tNil, tC, tOp, cVar, List.getElem?_cons_zero, List.getElem?_cons_succ]
    refine isW_wr W ?_
    simp only [oTru]
    exact eq_wr (S := n + 11) W hE
  | @eye p d own rs W hl nd w =>
    refine is_view W ?_
    simp only [oTru, if_true]
    refine hA1 _ ?_
    simp only [tRet, cAnd, tCB, tCons, tNil, tC, tOp, cVar, List.getElem?_cons_zero, List.getElem?_cons_succ]
    refine is_view W ?_
    simp only [oTru]
    exact eq_view (S := n + 10) W W hl hl nd nd w w (fun ts us h1 h2 => h1.uniq h2) hE
end
end WR.L

set_option Elab.async false
set_option linter.all false
set_option maxRecDepth 100000
set_option maxHeartbeats 4000000
namespace WR.L
open PySem PySem.Spec PyProof.Rows L2
section
variable {K : PySem.W.Frag} {n : Nat} {H H' : Hp} {Q : VK} {E : XK} {v : V} {nms : List Str} {C : Int}
theorem cons_ {t : TE} {ts : TA} {σ : L2.St} {R : List V → Hp → Prop} (h : t σ H fun x H1 => ts σ H1 fun xs H2 => R (x :: xs) H2) : tCons t ts σ H R := h
theorem lst_ {t : TA} {σ : L2.St} (h : t σ H fun xs H1 => xs.length ≤ sizeLine ∧ ∀ a, H1 a = none → Q (.ref a) (upd H1 a (.lst xs))) : tLst t σ H Q := h
theorem tup_ {t : TA} {σ : L2.St} (h : t σ H fun xs H1 => xs.length ≤ sizeLine ∧ ∀ a, H1 a = none → Q (.ref a) (upd H1 a (.tup xs))) : tTup t σ H Q := h
theorem oadd_str {a b : Str} (h : a.length + b.length ≤ sizeLine ∧ Q (.str (a ++ b)) H) : oAdd K (.str a) (.str b) H Q := h
theorem str_view' {S : Nat} {p d : Addr} {own : Str} {rs : RwG R3} (W : VAt K H p d own rs) (g : GdR nms C own rs) (h5 : nms.length = 5) (hn : ∀ s ∈ nms, isNm s = true) (hC : C ≤ 10 ^ 9) (h : ∀ t H', Ex H H' → Q (.str t) H') : bStrG (gg K (SP K (S+3))) [.ref p] H Q := by
  obtain ⟨⟨dx, hp⟩, _⟩ := id W
  unfold bStrG
  simp only [ins_ins hp]
  exact spc_R (cs_str K _) rfl (s_str W g h5 hn hC fun ts H' _ e => h _ H' e)
theorem nest_step {k : Nat} {t : TE} {σ : L2.St} (ht : ∀ {H : Hp} {Q : VK}, (∀ a H', Ex H H' → NestL H' k a → H a = none → Q (.ref a) H') → t σ H Q) {H : Hp} {Q : VK} (h : ∀ a H', Ex H H' → NestL H' (k+1) a → H a = none → Q (.ref a) H') : tLst (tCons t tNil) σ H Q := by
  refine lst_ (cons_ (ht fun a H1 e hn ha => ?_))
  simp only [tNil]
  refine ⟨by simp only [sizeLine_eq, List.length_cons, List.length_nil]; omega, fun b hb => h b _ (e.trans (Ex.refl.new hb)) ⟨a, upd_same, hn.ex (Ex.refl.new hb)⟩ (Ex.none e hb)⟩
theorem nest_0 {σ : L2.St} {H : Hp} {Q : VK} (h : ∀ a H', Ex H H' → NestL H' 0 a → H a = none → Q (.ref a) H') : tLst (tCons (tC (.int 0)) tNil) σ H Q := by
  refine lst_ (cons_ ?_)
  simp only [tC, tNil]
  exact ⟨by simp only [sizeLine_eq, List.length_cons, List.length_nil]; omega, fun b hb => h b _ (Ex.refl.new hb) upd_same hb⟩
theorem skip_ {S : Str → Sp} {σ : L2.St} {D : Ends} {s t : Str} {A R : TS} (h0 : σ[0]? = some (some (.str s))) (ne : s ≠ t) (h : R D σ H) : (tSeq (tIfS (cTest (tOp (oEqG (gg K S)) (cVar 0) (tC (.str t)))) A tNext) R) D σ H := by
  refine seq_ fun N1 h1 => ifS_ fun A1 B1 hA hB => ?_
  simp only [cTest, tOp, tC, cVar, h0]
  refine eq_scal rfl rfl rfl ?_
  rw [show decide (V.str s = V.str t) = false from by simpa using ne]
  simp only [Bool.false_eq_true, if_false]
  refine hB _ ?_
  simp only [tNext]
  exact h1 _ _ h
theorem take_ {S : Str → Sp} {σ : L2.St} {D : Ends} {t : Str} {A R : TS} (h0 : σ[0]? = some (some (.str t))) (h : ∀ D' : Ends, (∀ σ' H', R D σ' H' → D'.nx σ' H') → A D' σ H) : (tSeq (tIfS (cTest (tOp (oEqG (gg K S)) (cVar 0) (tC (.str t)))) A tNext) R) D σ H := by
  refine seq_ fun N1 h1 => ifS_ fun A1 B1 hA hB => ?_
  simp only [cTest, tOp, tC, cVar, h0]
  refine eq_scal rfl rfl rfl ?_
  simp only [decide_true, if_true]
  exact hA _ (h _ fun σ' H' q => h1 _ _ q)
def sorts : List Str := ["name", "place", "number", "word", "there", "view"]
def BadOf (K : PySem.W.Frag) (own : Str) (rs : RwG R3) (sort : Str) (H : Hp) (v : V) : Prop :=
  (sort = "name" ∧ BadN K H v) ∨ (sort = "place" ∧ BadP K H v) ∨ (sort = "number" ∧ BadI K H v) ∨ (sort = "word" ∧ BadW K H v) ∨ (sort = "there" ∧ BadT K own rs H v) ∨ (sort = "view" ∧ BadV K H v)
theorem isNm_sp {s : Str} (hn : isNm s = true) : isNm (s ++ " ") = false ∧ (s ++ " ").length ≤ 1000 := by
  have h8 := nm8 hn
  have l : (s ++ " ").length = s.length + 1 := by
    rw [len_cps, app_cps, List.length_append, ← len_cps]; rfl
  refine ⟨?_, by omega⟩
  unfold isNm
  have : ((s ++ " ").cps.toList.all fun c => decide (c ∈ lets)) = false := by
    rw [app_cps, List.all_append]
    have : ((" " : Str).cps.toList.all fun c => decide (c ∈ lets)) = false := by decide +kernel
    rw [this, Bool.and_false]
  rw [this, Bool.and_false, Bool.and_false]
theorem s_law_bad {p d nl : Addr} {own u4 sort : Str} {rs : RwG R3} {cell : Int} (hV : ownX K (He.ga K "View") = true) (hW : ownX K (He.ga K "Wrongs") = true) (W : VAt K H p d own rs) (g : GdR nms C own rs) (h5 : nms.length = 5) (hn : ∀ s ∈ nms, isNm s = true) (hC : C ≤ 10 ^ 9)
    (hnl : H nl = some (.lst (nms.map V.str))) (h0 : nms[0]? = some own) (h4 : nms[4]? = some u4) (hu4 : gget rs u4 = none) (hs : sort ∈ sorts)
    (h : ∀ v H', Ex H H' → Odd K H' v → BadOf K own rs sort H' v → (∀ a xs, v = .ref a → H' a = some (.lst xs) → H a = none) → Q v H') : SP K (n+4) "_law_bad" [.str sort, .int cell, .ref nl, .ref p] H Q E := by
  refine o__law_bad ?_
  unfold r__law_bad
  have lr := g.len h5
  have hown := hn own (List.mem_of_getElem? h0)
  have i0 : atI (nms.map V.str) 0 = some (.str own) := by
    rw [show (0 : Int) = ((0 : Nat) : Int) from rfl, atI_nat, List.getElem?_map, h0]; rfl
  have i4 : atI (nms.map V.str) 4 = some (.str u4) := by
    rw [show (4 : Int) = ((4 : Nat) : Int) from rfl, atI_nat, List.getElem?_map, h4]; rfl
  refine seq_ fun N1 h1 => ?_
  simp only [tAsg]
  refine lst_ (cons_ ?_)
  simp only [tC]
  refine cons_ ?_
  simp only [tC]
  refine cons_ (lst_ (cons_ ?_))
  simp only [tOp, tC, tNil, cVar, List.getElem?_cons_zero, List.getElem?_cons_succ]
  rw [ix_lst (look_of_lst hnl) (v := .str own) i0]
  refine ⟨by simp only [sizeLine_eq, List.length_cons, List.length_nil]; omega, fun l1 hl1 => ?_⟩
  have e1 : Ex H (upd H l1 (.lst [.str own])) := Ex.refl.new hl1
  have k1 : (upd H l1 (.lst [.str own])) l1 = some (.lst [.str own]) := upd_same
  generalize upd H l1 (.lst [.str own]) = H1 at e1 k1 ⊢
  refine cons_ (tup_ (cons_ ?_))
  simp only [tOp, tC, tNil, cVar, List.getElem?_cons_zero, List.getElem?_cons_succ]
  rw [ix_lst (look_of_lst (e1 _ _ hnl)) (v := .str own) i0]
  refine ⟨by simp only [sizeLine_eq, List.length_cons, List.length_nil]; omega, fun t1 ht1 => ?_⟩
  have e2 : Ex H1 (upd H1 t1 (.tup [.str own])) := Ex.refl.new ht1
  have k2 : (upd H1 t1 (.tup [.str own])) t1 = some (.tup [.str own]) := upd_same
  generalize upd H1 t1 (.tup [.str own]) = H2 at e2 k2 ⊢
  refine cons_ ?_
  simp only [tDNewK]
  intro z1 hz1
  have e3 : Ex H2 (upd H2 z1 (.dK [])) := Ex.refl.new hz1
  have k3 : (upd H2 z1 (.dK [])) z1 = some (.dK []) := upd_same
  generalize upd H2 z1 (.dK []) = H3 at e3 k3 ⊢
  refine cons_ ?_
  simp only [tC]
  refine cons_ (mk_wr (n := n + 2) fun w1 dw H4 e4 hw1 _ _ W4 => ?_)
  refine cons_ (nest_step (nest_step (nest_step (nest_step (nest_step (nest_step (nest_step nest_0)))))) fun n7 H5 e5 hn7 hn7n => ?_)
  simp only [tNil]
  refine ⟨by simp only [sizeLine_eq, List.length_cons, List.length_nil]; omega, fun L hL => h1 _ _ ?_⟩
  have e6 : Ex H5 (upd H5 L (.lst [.non, .bl true, .ref l1, .ref t1, .ref z1, .int 0, .ref w1, .ref n7])) := Ex.refl.new hL
  have k6 : (upd H5 L (.lst [.non, .bl true, .ref l1, .ref t1, .ref z1, .int 0, .ref w1, .ref n7])) L = some (.lst [.non, .bl true, .ref l1, .ref t1, .ref z1, .int 0, .ref w1, .ref n7]) := upd_same
  generalize upd H5 L (.lst [.non, .bl true, .ref l1, .ref t1, .ref z1, .int 0, .ref w1, .ref n7]) = H6 at e6 k6 ⊢
  have e56 := e5.trans e6
  have e36 := e4.trans e56
  have e06 : Ex H H6 := (e1.trans e2).trans (e3.trans e36)
  have kl := e36 _ _ (e3 _ _ (e2 _ _ k1))
  have kt := e36 _ _ (e3 _ _ k2)
  have kz := e36 _ _ k3
  have kw := W4.ex e56
  have kn := hn7.ex e6
  have W6 := W.ex e06
  have hn7H : H n7 = none := Ex.none ((e1.trans e2).trans (e3.trans e4)) hn7n
  obtain ⟨⟨dxw, hpw⟩, _⟩ := id kw
  obtain ⟨⟨dxp, hpp⟩, _⟩ := id W6
  obtain ⟨bn, hbn, _⟩ := id kn
  simp only [gName, List.set_cons_zero, List.set_cons_succ]
  -- what each of them is
  have base : ∀ x ∈ ([.non, .bl true, .ref l1, .ref t1, .ref z1, .int 0, .ref w1, .ref n7] : List V), ∀ H', Ex H6 H' → Odd K H' x ∧ (∃ m, Kd K H' x m ∧ m ≠ "str" ∧ (m = "int" → x = .int 0) ∧ (m = "own" → x = .ref w1)) ∧ ∀ a xs, x = .ref a → H' a = some (.lst xs) → H a = none := by
    intro x hx H' e
    simp only [List.mem_cons, List.not_mem_nil, or_false] at hx
    rcases hx with rfl | rfl | rfl | rfl | rfl | rfl | rfl | rfl
    · exact ⟨.non, ⟨_, .non, by decide, fun z => absurd z (by decide), fun z => absurd z (by decide)⟩, fun a xs z => nomatch z⟩
    · exact ⟨.bl _, ⟨_, .bl _, by decide, fun z => absurd z (by decide), fun z => absurd z (by decide)⟩, fun a xs z => nomatch z⟩
    · exact ⟨.lst (e _ _ kl), ⟨_, .lst (e _ _ kl), by decide, fun z => absurd z (by decide), fun z => absurd z (by decide)⟩, fun a xs z _ => by cases z; exact hl1⟩
    · exact ⟨.tup (e _ _ kt), ⟨_, .tup (e _ _ kt), by decide, fun z => absurd z (by decide), fun z => absurd z (by decide)⟩, fun a xs z q => by cases z; rw [e _ _ kt] at q; cases q⟩
    · exact ⟨.dE (e _ _ kz), ⟨_, .dK (e _ _ kz), by decide, fun z => absurd z (by decide), fun z => absurd z (by decide)⟩, fun a xs z q => by cases z; rw [e _ _ kz] at q; cases q⟩
    · exact ⟨.int _, ⟨_, .int _, by decide, fun _ => rfl, fun z => absurd z (by decide)⟩, fun a xs z => nomatch z⟩
    · exact ⟨.wr (kw.ex e), ⟨_, .own hW (e _ _ hpw), by decide, fun z => absurd z (by decide), fun _ => rfl⟩, fun a xs z q => by cases z; rw [e _ _ hpw] at q; cases q⟩
    · exact ⟨.nest (kn.ex e), ⟨_, .lst (e _ _ hbn), by decide, fun z => absurd z (by decide), fun z => absurd z (by decide)⟩, fun a xs z _ => by cases z; exact hn7H⟩
  have eye : ∀ H', Ex H6 H' → Odd K H' (.ref p) ∧ Kd K H' (.ref p) "own" ∧ ∀ a xs, V.ref p = .ref a → H' a = some (.lst xs) → H a = none := fun H' e =>
    ⟨.eye (W6.ex e) (by omega) g.nd g.w, .own hV (e _ _ hpp), fun a xs z q => by cases z; rw [e _ _ hpp] at q; cases q⟩
  have txt : ∀ (s : Str) H', Odd K H' (.str s) ∧ ∀ a xs, V.str s = .ref a → H' a = some (.lst xs) → H a = none := fun s H' => ⟨.str s, fun a xs z => nomatch z⟩
  have num : ∀ (i : Int) H', Odd K H' (.int i) ∧ ∀ a xs, V.int i = .ref a → H' a = some (.lst xs) → H a = none := fun s H' => ⟨.int s, fun a xs z => nomatch z⟩
  -- the end: one of the list
  have fin : ∀ (M : Addr) (xs : List V) (H7 : Hp) (D : Ends), D.rt = Q → Ex H6 H7 → H7 M = some (.lst xs) → 0 < xs.length → (∀ x ∈ xs, Odd K H7 x ∧ BadOf K own rs sort H7 x ∧ ∀ a ys, x = .ref a → H7 a = some (.lst ys) → H a = none) →
      (tRet (tOp (oIx K) (cVar 4) (tOp oMod (cVar 1) (tCB (bLenG (gg K (SP K (n+3)))) (tCons (cVar 4) tNil))))) D [some (.str sort), some (.int cell), some (.ref nl), some (.ref p), some (.ref M)] H7 := by
    intro M xs H7 D hD e hM hx0 hx
    simp only [tRet, tOp, tCB, tCons, tNil, cVar, List.getElem?_cons_zero, List.getElem?_cons_succ]
    rw [len_lst rfl (look_of_lst hM)]
    simp only [oMod]
    refine ⟨by omega, ix_mod (look_of_lst hM) rfl (by omega) fun x hxm => ?_⟩
    rw [hD]
    obtain ⟨q1, q2, q3⟩ := hx x hxm
    exact h x H7 (e06.trans e) q1 q2 q3
  have app : ∀ (M1 M2 : Addr) (xs ys : List V) (H7 : Hp) (R : VK), H7 M1 = some (.lst xs) → H7 M2 = some (.lst ys) → xs.length + ys.length ≤ 100 → (∀ M, H7 M = none → R (.ref M) (upd H7 M (.lst (xs ++ ys)))) → oAdd K (.ref M1) (.ref M2) H7 R := by
    intro M1 M2 xs ys H7 R q1 q2 q3 q4
    simp only [oAdd, look_of_lst (K := K) q1, look_of_lst (K := K) q2, q1, q2]
    exact ⟨by simp only [sizeLine_eq]; omega, q4⟩
  have app2 : ∀ (M2 : Addr) (ys : List V) (D' : Ends), H6 M2 = none → ys.length ≤ 50 → (∀ (M : Addr) (H8 : Hp), Ex H6 H8 → H8 M = some (.lst ([.non, .bl true, .ref l1, .ref t1, .ref z1, .int 0, .ref w1, .ref n7] ++ ys)) → D'.nx [some (.str sort), some (.int cell), some (.ref nl), some (.ref p), some (.ref M)] H8) →
      oAdd K (.ref L) (.ref M2) (upd H6 M2 (.lst ys)) fun v H1 => gName 4 v [some (.str sort), some (.int cell), some (.ref nl), some (.ref p), some (.ref L)] H1 D'.nx := by
    intro M2 ys D' hM2 hy q
    have e7 : Ex H6 (upd H6 M2 (.lst ys)) := Ex.refl.new hM2
    refine app L M2 _ _ _ _ (e7 _ _ k6) upd_same (by simp only [List.length_cons, List.length_nil]; omega) fun M hM => ?_
    simp only [gName, List.set_cons_zero, List.set_cons_succ]
    exact q M _ (e7.trans (Ex.refl.new hM)) upd_same
  simp only [sorts, List.mem_cons, List.not_mem_nil, or_false] at hs
  rcases hs with rfl | rfl | rfl | rfl | rfl | rfl
  -- name
  · refine take_ rfl fun D' hD' => ?_
    simp only [tAsg, tOp, cVar, List.getElem?_cons_zero, List.getElem?_cons_succ]
    refine lst_ ?_
    simp only [tCons, tNil, tOp, tC, cVar, List.getElem?_cons_zero, List.getElem?_cons_succ]
    rw [ix_lst (look_of_lst (e06 _ _ hnl)) (v := .str own) i0]
    have sp := isNm_sp hown
    refine oadd_str ⟨by have := nm8 hown; have : (" " : Str).length = 1 := rfl; simp only [sizeLine_eq]; omega, by simp only [sizeLine_eq, List.length_cons, List.length_nil]; omega, fun M2 hM2 => ?_⟩
    refine app2 M2 _ D' hM2 (by simp) (fun M H8 x8 kM => hD' _ _ (skip_ rfl (by decide) (skip_ rfl (by decide) (skip_ rfl (by decide) (skip_ rfl (by decide) (skip_ rfl (by decide) (fin M _ H8 _ rfl x8 kM (by simp) fun x hx => ?_)))))))
    rcases List.mem_append.mp hx with hx | hx
    · obtain ⟨q1, ⟨m, k, m1, m2, m3⟩, q3⟩ := base x hx H8 x8
      exact ⟨q1, .inl ⟨rfl, .inr ⟨m, k, m1⟩⟩, q3⟩
    · simp only [List.mem_cons, List.not_mem_nil, or_false] at hx
      rcases hx with rfl | rfl | rfl | rfl | rfl
      · exact ⟨(txt _ _).1, .inl ⟨rfl, .inl ⟨_, rfl, by decide +kernel, by decide +kernel⟩⟩, (txt _ _).2⟩
      · exact ⟨(txt _ _).1, .inl ⟨rfl, .inl ⟨_, rfl, by decide +kernel, by decide +kernel⟩⟩, (txt _ _).2⟩
      · exact ⟨(txt _ _).1, .inl ⟨rfl, .inl ⟨_, rfl, by decide +kernel, by decide +kernel⟩⟩, (txt _ _).2⟩
      · exact ⟨(txt _ _).1, .inl ⟨rfl, .inl ⟨_, rfl, sp.2, sp.1⟩⟩, (txt _ _).2⟩
      · obtain ⟨q1, k, q3⟩ := eye H8 x8
        exact ⟨q1, .inl ⟨rfl, .inr ⟨_, k, by decide⟩⟩, q3⟩
  -- place
  · refine skip_ rfl (by decide) (take_ rfl fun D' hD' => ?_)
    simp only [tAsg, tOp, tSl, tNoPart, cPart, tC, cVar, oSl, look_of_lst k6, List.getElem?_cons_zero, List.getElem?_cons_succ]
    intro S5 hS5
    rw [show cutV ([.non, .bl true, .ref l1, .ref t1, .ref z1, .int 0, .ref w1, .ref n7] : List V) none (some 5) = [.non, .bl true, .ref l1, .ref t1, .ref z1] from rfl]
    have e7 : Ex H6 (upd H6 S5 (.lst [.non, .bl true, .ref l1, .ref t1, .ref z1])) := Ex.refl.new hS5
    have k7 : (upd H6 S5 (.lst [.non, .bl true, .ref l1, .ref t1, .ref z1])) S5 = some (.lst [.non, .bl true, .ref l1, .ref t1, .ref z1]) := upd_same
    generalize upd H6 S5 (.lst [.non, .bl true, .ref l1, .ref t1, .ref z1]) = H7 at e7 k7 ⊢
    refine lst_ ?_
    simp only [tCons, tNil, tOp, tC, oSub, oPow, cVar, List.getElem?_cons_zero, List.getElem?_cons_succ]
    refine ⟨⟨by omega, by omega, by omega⟩, by simp only [sizeLine_eq, List.length_cons, List.length_nil]; omega, fun M2 hM2 => ?_⟩
    have e8 : Ex H7 (upd H7 M2 (.lst [.int (0 - 1), .int 256, .str "7", .int (10 ^ (29 : Int).toNat), .ref p])) := Ex.refl.new hM2
    have k8 : (upd H7 M2 (.lst [.int (0 - 1), .int 256, .str "7", .int (10 ^ (29 : Int).toNat), .ref p])) M2 = some (.lst [.int (0 - 1), .int 256, .str "7", .int (10 ^ (29 : Int).toNat), .ref p]) := upd_same
    generalize upd H7 M2 (.lst [.int (0 - 1), .int 256, .str "7", .int (10 ^ (29 : Int).toNat), .ref p]) = H8 at e8 k8 ⊢
    refine app S5 M2 _ _ _ _ (e8 _ _ k7) k8 (by simp) fun M hM => ?_
    have e9 : Ex H8 (upd H8 M (.lst ([.non, .bl true, .ref l1, .ref t1, .ref z1] ++ [.int (0 - 1), .int 256, .str "7", .int (10 ^ (29 : Int).toNat), .ref p]))) := Ex.refl.new hM
    have k9 : (upd H8 M (.lst ([.non, .bl true, .ref l1, .ref t1, .ref z1] ++ [.int (0 - 1), .int 256, .str "7", .int (10 ^ (29 : Int).toNat), .ref p]))) M = some (.lst ([.non, .bl true, .ref l1, .ref t1, .ref z1] ++ [.int (0 - 1), .int 256, .str "7", .int (10 ^ (29 : Int).toNat), .ref p])) := upd_same
    generalize upd H8 M (.lst ([.non, .bl true, .ref l1, .ref t1, .ref z1] ++ [.int (0 - 1), .int 256, .str "7", .int (10 ^ (29 : Int).toNat), .ref p])) = H9 at e9 k9 ⊢
    have x9 := (e7.trans e8).trans e9
    simp only [gName, List.set_cons_zero, List.set_cons_succ]
    refine hD' _ _ (skip_ rfl (by decide) (skip_ rfl (by decide) (skip_ rfl (by decide) (skip_ rfl (by decide) (fin M _ H9 _ rfl x9 k9 (by simp) fun x hx => ?_)))))
    rcases List.mem_append.mp hx with hx | hx
    · obtain ⟨q1, ⟨m, k, m1, m2, m3⟩, q3⟩ := base x (by simp only [List.mem_cons, List.not_mem_nil, or_false] at hx ⊢; rcases hx with z | z | z | z | z <;> simp [z]) H9 x9
      refine ⟨q1, .inr (.inl ⟨rfl, .inr ⟨m, k, fun z => ?_⟩⟩), q3⟩
      have := m2 z
      subst this
      simp at hx
    · simp only [List.mem_cons, List.not_mem_nil, or_false] at hx
      rcases hx with rfl | rfl | rfl | rfl | rfl
      · exact ⟨(num _ _).1, .inr (.inl ⟨rfl, .inl ⟨_, rfl, by omega⟩⟩), (num _ _).2⟩
      · exact ⟨(num _ _).1, .inr (.inl ⟨rfl, .inl ⟨_, rfl, by omega⟩⟩), (num _ _).2⟩
      · exact ⟨(txt _ _).1, .inr (.inl ⟨rfl, .inr ⟨_, .str _, by decide⟩⟩), (txt _ _).2⟩
      · exact ⟨(num _ _).1, .inr (.inl ⟨rfl, .inl ⟨_, rfl, by decide⟩⟩), (num _ _).2⟩
      · obtain ⟨q1, k, q3⟩ := eye H9 x9
        exact ⟨q1, .inr (.inl ⟨rfl, .inr ⟨_, k, by decide⟩⟩), q3⟩
  -- number
  · refine skip_ rfl (by decide) (skip_ rfl (by decide) (take_ rfl fun D' hD' => ?_))
    simp only [tAsg, tOp, tSl, tNoPart, cPart, tC, cVar, oSl, look_of_lst k6, List.getElem?_cons_zero, List.getElem?_cons_succ]
    intro S5 hS5
    rw [show cutV ([.non, .bl true, .ref l1, .ref t1, .ref z1, .int 0, .ref w1, .ref n7] : List V) none (some 5) = [.non, .bl true, .ref l1, .ref t1, .ref z1] from rfl]
    have e7 : Ex H6 (upd H6 S5 (.lst [.non, .bl true, .ref l1, .ref t1, .ref z1])) := Ex.refl.new hS5
    have k7 : (upd H6 S5 (.lst [.non, .bl true, .ref l1, .ref t1, .ref z1])) S5 = some (.lst [.non, .bl true, .ref l1, .ref t1, .ref z1]) := upd_same
    generalize upd H6 S5 (.lst [.non, .bl true, .ref l1, .ref t1, .ref z1]) = H7 at e7 k7 ⊢
    refine lst_ ?_
    simp only [tCons, tNil, tOp, tC, oSub, oPow, cVar, List.getElem?_cons_zero, List.getElem?_cons_succ]
    refine ⟨⟨by omega, by omega, by omega⟩, by simp only [sizeLine_eq, List.length_cons, List.length_nil]; omega, fun M2 hM2 => ?_⟩
    have e8 : Ex H7 (upd H7 M2 (.lst [.int 0, .int (0 - 1), .str "1", .int (1 - 10 ^ (29 : Int).toNat), .ref p])) := Ex.refl.new hM2
    have k8 : (upd H7 M2 (.lst [.int 0, .int (0 - 1), .str "1", .int (1 - 10 ^ (29 : Int).toNat), .ref p])) M2 = some (.lst [.int 0, .int (0 - 1), .str "1", .int (1 - 10 ^ (29 : Int).toNat), .ref p]) := upd_same
    generalize upd H7 M2 (.lst [.int 0, .int (0 - 1), .str "1", .int (1 - 10 ^ (29 : Int).toNat), .ref p]) = H8 at e8 k8 ⊢
    refine app S5 M2 _ _ _ _ (e8 _ _ k7) k8 (by simp) fun M hM => ?_
    have e9 : Ex H8 (upd H8 M (.lst ([.non, .bl true, .ref l1, .ref t1, .ref z1] ++ [.int 0, .int (0 - 1), .str "1", .int (1 - 10 ^ (29 : Int).toNat), .ref p]))) := Ex.refl.new hM
    have k9 : (upd H8 M (.lst ([.non, .bl true, .ref l1, .ref t1, .ref z1] ++ [.int 0, .int (0 - 1), .str "1", .int (1 - 10 ^ (29 : Int).toNat), .ref p]))) M = some (.lst ([.non, .bl true, .ref l1, .ref t1, .ref z1] ++ [.int 0, .int (0 - 1), .str "1", .int (1 - 10 ^ (29 : Int).toNat), .ref p])) := upd_same
    generalize upd H8 M (.lst ([.non, .bl true, .ref l1, .ref t1, .ref z1] ++ [.int 0, .int (0 - 1), .str "1", .int (1 - 10 ^ (29 : Int).toNat), .ref p])) = H9 at e9 k9 ⊢
    have x9 := (e7.trans e8).trans e9
    simp only [gName, List.set_cons_zero, List.set_cons_succ]
    refine hD' _ _ (skip_ rfl (by decide) (skip_ rfl (by decide) (skip_ rfl (by decide) (fin M _ H9 _ rfl x9 k9 (by simp) fun x hx => ?_))))
    rcases List.mem_append.mp hx with hx | hx
    · obtain ⟨q1, ⟨m, k, m1, m2, m3⟩, q3⟩ := base x (by simp only [List.mem_cons, List.not_mem_nil, or_false] at hx ⊢; rcases hx with z | z | z | z | z <;> simp [z]) H9 x9
      refine ⟨q1, .inr (.inr (.inl ⟨rfl, .inr ⟨m, k, fun z => ?_⟩⟩)), q3⟩
      have := m2 z
      subst this
      simp at hx
    · simp only [List.mem_cons, List.not_mem_nil, or_false] at hx
      rcases hx with rfl | rfl | rfl | rfl | rfl
      · exact ⟨(num _ _).1, .inr (.inr (.inl ⟨rfl, .inl ⟨_, rfl, by omega⟩⟩)), (num _ _).2⟩
      · exact ⟨(num _ _).1, .inr (.inr (.inl ⟨rfl, .inl ⟨_, rfl, by omega⟩⟩)), (num _ _).2⟩
      · exact ⟨(txt _ _).1, .inr (.inr (.inl ⟨rfl, .inr ⟨_, .str _, by decide⟩⟩)), (txt _ _).2⟩
      · exact ⟨(num _ _).1, .inr (.inr (.inl ⟨rfl, .inl ⟨_, rfl, by decide⟩⟩)), (num _ _).2⟩
      · obtain ⟨q1, k, q3⟩ := eye H9 x9
        exact ⟨q1, .inr (.inr (.inl ⟨rfl, .inr ⟨_, k, by decide⟩⟩)), q3⟩
  -- word
  · refine skip_ rfl (by decide) (skip_ rfl (by decide) (skip_ rfl (by decide) (take_ rfl fun D' hD' => ?_)))
    simp only [tAsg, tOp, cVar, List.getElem?_cons_zero, List.getElem?_cons_succ]
    refine lst_ ?_
    simp only [tCons, tNil, tC, cVar, List.getElem?_cons_zero, List.getElem?_cons_succ]
    refine ⟨by simp only [sizeLine_eq, List.length_cons, List.length_nil]; omega, fun M2 hM2 => ?_⟩
    refine app2 M2 _ D' hM2 (by simp) (fun M H8 x8 kM => hD' _ _ (skip_ rfl (by decide) (skip_ rfl (by decide) (fin M _ H8 _ rfl x8 kM (by simp) fun x hx => ?_))))
    rcases List.mem_append.mp hx with hx | hx
    · obtain ⟨q1, ⟨m, k, m1, m2, m3⟩, q3⟩ := base x hx H8 x8
      exact ⟨q1, .inr (.inr (.inr (.inl ⟨rfl, .inr ⟨m, k, m1⟩⟩))), q3⟩
    · simp only [List.mem_cons, List.not_mem_nil, or_false] at hx
      rcases hx with rfl | rfl | rfl | rfl | rfl
      · exact ⟨(txt _ _).1, .inr (.inr (.inr (.inl ⟨rfl, .inl ⟨_, rfl, by decide +kernel⟩⟩))), (txt _ _).2⟩
      · exact ⟨(txt _ _).1, .inr (.inr (.inr (.inl ⟨rfl, .inl ⟨_, rfl, by decide +kernel⟩⟩))), (txt _ _).2⟩
      · exact ⟨(txt _ _).1, .inr (.inr (.inr (.inl ⟨rfl, .inl ⟨_, rfl, by decide +kernel⟩⟩))), (txt _ _).2⟩
      · exact ⟨(txt _ _).1, .inr (.inr (.inr (.inl ⟨rfl, .inl ⟨_, rfl, by decide +kernel⟩⟩))), (txt _ _).2⟩
      · obtain ⟨q1, k, q3⟩ := eye H8 x8
        exact ⟨q1, .inr (.inr (.inr (.inl ⟨rfl, .inr ⟨_, k, by decide⟩⟩))), q3⟩
  -- there
  · refine skip_ rfl (by decide) (skip_ rfl (by decide) (skip_ rfl (by decide) (skip_ rfl (by decide) (take_ rfl fun D' hD' => ?_))))
    simp only [tAsg, tOp, cVar, List.getElem?_cons_zero, List.getElem?_cons_succ]
    refine lst_ ?_
    simp only [tCons, tNil, tOp, tC, cVar, List.getElem?_cons_zero, List.getElem?_cons_succ]
    rw [ix_lst (look_of_lst (e06 _ _ hnl)) (v := .str own) i0, ix_lst (look_of_lst (e06 _ _ hnl)) (v := .str u4) i4]
    refine ⟨by simp only [sizeLine_eq, List.length_cons, List.length_nil]; omega, fun M2 hM2 => ?_⟩
    refine app2 M2 _ D' hM2 (by simp) (fun M H8 x8 kM => hD' _ _ (skip_ rfl (by decide) (fin M _ H8 _ rfl x8 kM (by simp) fun x hx => ?_)))
    rcases List.mem_append.mp hx with hx | hx
    · obtain ⟨q1, ⟨m, k, m1, m2, m3⟩, q3⟩ := base x hx H8 x8
      exact ⟨q1, .inr (.inr (.inr (.inr (.inl ⟨rfl, .inr ⟨m, k, m1⟩⟩)))), q3⟩
    · simp only [List.mem_cons, List.not_mem_nil, or_false] at hx
      rcases hx with rfl | rfl | rfl | rfl | rfl
      · exact ⟨(txt _ _).1, .inr (.inr (.inr (.inr (.inl ⟨rfl, .inl ⟨_, rfl, nm_len hown, .inr (.inl rfl)⟩⟩)))), (txt _ _).2⟩
      · exact ⟨(txt _ _).1, .inr (.inr (.inr (.inr (.inl ⟨rfl, .inl ⟨_, rfl, nm_len (hn _ (List.mem_of_getElem? h4)), .inr (.inr hu4)⟩⟩)))), (txt _ _).2⟩
      · exact ⟨(txt _ _).1, .inr (.inr (.inr (.inr (.inl ⟨rfl, .inl ⟨_, rfl, by decide +kernel, .inl (by decide +kernel)⟩⟩)))), (txt _ _).2⟩
      · obtain ⟨q1, k, q3⟩ := eye H8 x8
        exact ⟨q1, .inr (.inr (.inr (.inr (.inl ⟨rfl, .inr ⟨_, k, by decide⟩⟩)))), q3⟩
      · exact ⟨(txt _ _).1, .inr (.inr (.inr (.inr (.inl ⟨rfl, .inl ⟨_, rfl, by decide +kernel, .inl (by decide +kernel)⟩⟩)))), (txt _ _).2⟩
  -- view
  · refine skip_ rfl (by decide) (skip_ rfl (by decide) (skip_ rfl (by decide) (skip_ rfl (by decide) (skip_ rfl (by decide) (take_ rfl fun D' hD' => ?_)))))
    simp only [tAsg, tOp, cVar, List.getElem?_cons_zero, List.getElem?_cons_succ]
    refine lst_ (cons_ ?_)
    simp only [tOp, tC, cVar, List.getElem?_cons_zero, List.getElem?_cons_succ]
    rw [ix_lst (look_of_lst (e06 _ _ hnl)) (v := .str own) i0]
    refine cons_ ?_
    refine mC_ownR (c_told_0 K _) ?_ fun P P' hh q => mono_var hh q
    simp only [tNil, cVar, List.getElem?_cons_zero, List.getElem?_cons_succ]
    refine ⟨p, dxp, _, rfl, hpp, lk2 rfl rfl, rfl, (by first | rfl | trivial), s_told (n := n + 1) W6 (by omega) g.nd fun ts q H7 ht e7 hq G7 => ?_⟩
    have W7 := W6.ex e7
    refine cons_ ?_
    simp only [tCB, tCons, tNil, tC, cVar, List.getElem?_cons_zero, List.getElem?_cons_succ]
    refine str_view' (S := n) W7 g h5 hn hC fun t H8 e8 => ?_
    have tn : ∀ s ∈ ts.map (·.1), okS s := fun s hs => by
      obtain ⟨r, hr, rfl⟩ := List.mem_map.mp hs
      exact nm_ok (hn _ (g.told ht r hr).1)
    have x68 := e7.trans e8
    refine ⟨by simp only [sizeLine_eq, List.length_cons, List.length_nil]; omega, fun M2 hM2 => ?_⟩
    have e9 : Ex H8 (upd H8 M2 (.lst [.str own, .ref q, .str t, .str ""])) := Ex.refl.new hM2
    have k9 : (upd H8 M2 (.lst [.str own, .ref q, .str t, .str ""])) M2 = some (.lst [.str own, .ref q, .str t, .str ""]) := upd_same
    generalize upd H8 M2 (.lst [.str own, .ref q, .str t, .str ""]) = H9 at e9 k9 ⊢
    have x69 := x68.trans e9
    refine app L M2 _ _ _ _ (x69 _ _ k6) k9 (by simp) fun M hM => ?_
    have e10 : Ex H9 (upd H9 M (.lst ([.non, .bl true, .ref l1, .ref t1, .ref z1, .int 0, .ref w1, .ref n7] ++ [.str own, .ref q, .str t, .str ""]))) := Ex.refl.new hM
    have k10 : (upd H9 M (.lst ([.non, .bl true, .ref l1, .ref t1, .ref z1, .int 0, .ref w1, .ref n7] ++ [.str own, .ref q, .str t, .str ""]))) M = some (.lst ([.non, .bl true, .ref l1, .ref t1, .ref z1, .int 0, .ref w1, .ref n7] ++ [.str own, .ref q, .str t, .str ""])) := upd_same
    generalize upd H9 M (.lst ([.non, .bl true, .ref l1, .ref t1, .ref z1, .int 0, .ref w1, .ref n7] ++ [.str own, .ref q, .str t, .str ""])) = H10 at e10 k10 ⊢
    have x10 := x69.trans e10
    have G10 := ((G7.ex e8).ex e9).ex e10
    simp only [gName, List.set_cons_zero, List.set_cons_succ]
    refine hD' _ _ (fin M _ H10 _ rfl x10 k10 (by simp) fun x hx => ?_)
    rcases List.mem_append.mp hx with hx | hx
    · obtain ⟨q1, ⟨m, k, m1, m2, m3⟩, q3⟩ := base x hx H10 x10
      refine ⟨q1, .inr (.inr (.inr (.inr (.inr ⟨rfl, ?_⟩)))), q3⟩
      by_cases z : m = "own"
      · have := m3 z
        subst this
        exact .inr ⟨_, _, _, rfl, x10 _ _ hpw⟩
      · exact .inl ⟨m, k, z⟩
    · simp only [List.mem_cons, List.not_mem_nil, or_false] at hx
      rcases hx with rfl | rfl | rfl | rfl
      · exact ⟨(txt _ _).1, .inr (.inr (.inr (.inr (.inr ⟨rfl, .inl ⟨_, .str _, by decide⟩⟩)))), (txt _ _).2⟩
      · obtain ⟨kv, hkv, _⟩ := id G10
        exact ⟨.dT G10 (by have := ht.len; omega) (GTold.nd g.nd ht) tn, .inr (.inr (.inr (.inr (.inr ⟨rfl, .inl ⟨_, .dK hkv, by decide⟩⟩)))), fun a xs z q => by cases z; rw [hkv] at q; cases q⟩
      · exact ⟨(txt _ _).1, .inr (.inr (.inr (.inr (.inr ⟨rfl, .inl ⟨_, .str _, by decide⟩⟩)))), (txt _ _).2⟩
      · exact ⟨(txt _ _).1, .inr (.inr (.inr (.inr (.inr ⟨rfl, .inl ⟨_, .str _, by decide⟩⟩)))), (txt _ _).2⟩
end
end WR.L

set_option Elab.async false
set_option linter.all false
set_option maxRecDepth 100000
set_option maxHeartbeats 4000000
namespace WR.L
open PySem PySem.Spec PyProof.Rows L2
section
variable {K : PySem.W.Frag} {n : Nat} {H H' : Hp} {Q : VK} {E : XK} {v : V} {nms : List Str} {C : Int}
/-- View(own, place) -/
theorem mk_view0 {σ : L2.St} {W : WX} {t : TA} {own : Str} {place : Int} (ht : ∀ P : List V → Hp → Prop, P [.str own, .int place] H → t σ H P) (hn : isNm own = true) (hp1 : 0 ≤ place ∧ place ≤ 255)
    (h : ∀ p d H', Ex H H' → H p = none → H d = none → p ≠ d → VAt K H' p d own [(own, (place, 1, "here"))] → Q (.ref p) H') : cMk (He.ga K "View") 2 0 (fun vs _ => vs ++ [V.int 1]) (SP K (n+4) "View.__init__") t tNil W σ H Q := by
  unfold cMk
  refine ht _ ?_
  simp only [tNil]
  refine ⟨rfl, rfl, fun x dx hx hdx ne => ?_⟩
  refine s_init (dx := dx) upd_same hn hp1 (by decide) fun d0 H1 W1 hd0 k1 => ⟨rfl, ?_⟩
  have ex1 : Ex H H1 := fun b o e => k1 b o (ne_of_none e hx) (by rw [upd_ne (ne_of_none e hx), upd_ne (ne_of_none e hdx)]; exact e)
  have nxd : x ≠ d0 := fun z => by rw [← z, upd_same] at hd0; cases hd0
  have hd : H d0 = none := by
    cases e : H d0 with
    | none => rfl
    | some o =>
      rw [upd_ne nxd.symm] at hd0
      by_cases h2 : d0 = dx
      · rw [h2, upd_same] at hd0; cases hd0
      · rw [upd_ne h2, e] at hd0; cases hd0
  exact h x d0 H1 ex1 hx hd nxd W1
/-- what is handed in well, way by way: c the copied view, u the other one -/
def rowsOf (way : Int) (c u : V) (s1 : Str) : List (Str × V) :=
  if way = 0 then [("name", .str s1), ("place", .int 255), ("number", .int 999999)]
  else if way = 1 then [("name", .str s1), ("place", .int 0), ("number", .int 1), ("word", .str "silent")]
  else if way = 2 then [("there", .str s1)]
  else if way = 3 then [("view", u)]
  else if way = 4 ∨ way = 5 then [("view", c), ("view", u)]
  else [("name", .str s1)]
/-- the list of pairs as it stands -/
def RowsAt (H : Hp) (L : Addr) (r : List (Str × V)) : Prop := ∃ ts : List Addr, H L = some (.lst (ts.map V.ref)) ∧ ts.length = r.length ∧ ∀ (j : Nat) (t : Addr) (x : Str × V), ts[j]? = some t → r[j]? = some x → H t = some (.tup [.str x.1, x.2])
theorem RowsAt.ex {L : Addr} {r : List (Str × V)} (x : Ex H H') (h : RowsAt H L r) : RowsAt H' L r := by
  obtain ⟨ts, h1, h2, h3⟩ := h
  exact ⟨ts, x _ _ h1, h2, fun j t y e1 e2 => x _ _ (h3 j t y e1 e2)⟩
/-- a view that is none of H0's objects -/
def NewV (K : PySem.W.Frag) (H0 H : Hp) (v : V) (own : Str) (rs : RwG R3) : Prop := ∃ p d, v = .ref p ∧ VAt K H p d own rs ∧ H0 p = none ∧ H0 d = none
theorem NewV.ex {H0 : Hp} {own : Str} {rs : RwG R3} (x : Ex H H') (h : NewV K H0 H v own rs) : NewV K H0 H' v own rs := by
  obtain ⟨p, d, e, W, a, b⟩ := h
  exact ⟨p, d, e, W.ex x, a, b⟩
def row2 (s2 : Str) : RwG R3 := [(s2, ((5, 1, "here") : R3))]
def GoodW (K : PySem.W.Frag) (H0 H : Hp) (way : Int) (c u : V) (own s2 : Str) (rs : RwG R3) : Prop := ((way = 3 ∨ way = 4 ∨ way = 5) → NewV K H0 H u s2 (row2 s2)) ∧ ((way = 4 ∨ way = 5) → NewV K H0 H c own rs ∧ ∃ pc dc pu du, c = .ref pc ∧ u = .ref pu ∧ VAt K H pc dc own rs ∧ VAt K H pu du s2 (row2 s2) ∧ dc ≠ du ∧ H0 dc = none ∧ H0 du = none)
theorem GoodW.ex {H0 : Hp} {way : Int} {c u : V} {own s2 : Str} {rs : RwG R3} (x : Ex H H') (h : GoodW K H0 H way c u own s2 rs) : GoodW K H0 H' way c u own s2 rs :=
  ⟨fun z => (h.1 z).ex x, fun z => ⟨(h.2 z).1.ex x, by
    obtain ⟨_, pc, dc, pu, du, a1, a2, a3, a4, a5, a6, a7⟩ := h.2 z
    exact ⟨pc, dc, pu, du, a1, a2, a3.ex x, a4.ex x, a5, a6, a7⟩⟩⟩
theorem skipN_ {S : Str → Sp} {σ : L2.St} {D : Ends} {s t : Int} {A R : TS} (h0 : σ[0]? = some (some (.int s))) (ne : s ≠ t) (h : R D σ H) : (tSeq (tIfS (cTest (tOp (oEqG (gg K S)) (cVar 0) (tC (.int t)))) A tNext) R) D σ H := by
  refine seq_ fun N1 h1 => ifS_ fun A1 B1 hA hB => ?_
  simp only [cTest, tOp, tC, cVar, h0]
  refine eq_scal rfl rfl rfl ?_
  rw [show decide (V.int s = V.int t) = false from by simpa using ne]
  simp only [Bool.false_eq_true, if_false]
  refine hB _ ?_
  simp only [tNext]
  exact h1 _ _ h
theorem takeN_ {S : Str → Sp} {σ : L2.St} {D : Ends} {t : Int} {A R : TS} (h0 : σ[0]? = some (some (.int t))) (h : ∀ D' : Ends, D'.rt = D.rt → A D' σ H) : (tSeq (tIfS (cTest (tOp (oEqG (gg K S)) (cVar 0) (tC (.int t)))) A tNext) R) D σ H := by
  unfold tSeq
  refine ifS_ fun A1 B1 hA hB => ?_
  simp only [cTest, tOp, tC, cVar, h0]
  refine eq_scal rfl rfl rfl ?_
  simp only [decide_true, if_true]
  exact hA _ (h _ rfl)
theorem s_law_good {p d nl : Addr} {own s1 s2 : Str} {rs : RwG R3} {way : Int} (W : VAt K H p d own rs) (g : GdR nms C own rs) (hn : ∀ s ∈ nms, isNm s = true) (hown : isNm own = true) (hnl : H nl = some (.lst (nms.map V.str))) (h1 : nms[1]? = some s1) (h2 : nms[2]? = some s2)
    (h : ∀ L c u H', Ex H H' → RowsAt H' L (rowsOf way c u s1) → GoodW K H H' way c u own s2 rs → Q (.ref L) H') : SP K (n+6) "_law_good" [.int way, .ref nl, .ref p] H Q E := by
  refine o__law_good ?_
  unfold r__law_good
  have i1 : atI (nms.map V.str) 1 = some (.str s1) := by
    rw [show (1 : Int) = ((1 : Nat) : Int) from rfl, atI_nat, List.getElem?_map, h1]; rfl
  have i2 : atI (nms.map V.str) 2 = some (.str s2) := by
    rw [show (2 : Int) = ((2 : Nat) : Int) from rfl, atI_nat, List.getElem?_map, h2]; rfl
  have n2 := hn s2 (List.mem_of_getElem? h2)
  by_cases w0 : way = 0
  · subst w0
    refine takeN_ rfl fun D' hD' => ?_
    simp only [tRet, tLst, tTup, tCons, tNil, tOp, tC, cVar, List.getElem?_cons_zero, List.getElem?_cons_succ]
    rw [ix_lst (look_of_lst hnl) (v := .str s1) i1]
    refine ⟨by simp only [sizeLine_eq, List.length_cons, List.length_nil]; omega, fun a ha => ⟨by simp only [sizeLine_eq, List.length_cons, List.length_nil]; omega, fun b hb => ⟨by simp only [sizeLine_eq, List.length_cons, List.length_nil]; omega, fun e he => ⟨by simp only [sizeLine_eq, List.length_cons, List.length_nil]; omega, fun L hL => ?_⟩⟩⟩⟩
    rw [hD']
    have x1 : Ex H (upd H a (.tup [.str "name", .str s1])) := Ex.refl.new ha
    have q1 : (upd H a (.tup [.str "name", .str s1])) a = some (.tup [.str "name", .str s1]) := upd_same
    generalize upd H a (.tup [.str "name", .str s1]) = H1 at x1 q1 hb he hL ⊢
    have x2 : Ex H1 (upd H1 b (.tup [.str "place", .int 255])) := Ex.refl.new hb
    have q2 : (upd H1 b (.tup [.str "place", .int 255])) b = some (.tup [.str "place", .int 255]) := upd_same
    generalize upd H1 b (.tup [.str "place", .int 255]) = H2 at x2 q2 he hL ⊢
    have x3 : Ex H2 (upd H2 e (.tup [.str "number", .int 999999])) := Ex.refl.new he
    have q3 : (upd H2 e (.tup [.str "number", .int 999999])) e = some (.tup [.str "number", .int 999999]) := upd_same
    generalize upd H2 e (.tup [.str "number", .int 999999]) = H3 at x3 q3 hL ⊢
    have x4 : Ex H3 (upd H3 L (.lst [.ref a, .ref b, .ref e])) := Ex.refl.new hL
    refine h L .non .non _ (((x1.trans x2).trans x3).trans x4) ⟨[a, b, e], upd_same, rfl, fun j t x y1 y2 => ?_⟩ ⟨fun z => absurd z (by decide), fun z => absurd z (by decide)⟩
    match j, y1, y2 with
    | 0, y1, y2 => cases y1; cases y2; exact x4 _ _ (x3 _ _ (x2 _ _ q1))
    | 1, y1, y2 => cases y1; cases y2; exact x4 _ _ (x3 _ _ q2)
    | 2, y1, y2 => cases y1; cases y2; exact x4 _ _ q3
    | j + 3, y1, y2 => simp at y1
  refine skipN_ rfl w0 ?_
  by_cases w1 : way = 1
  · subst w1
    refine takeN_ rfl fun D' hD' => ?_
    simp only [tRet, tLst, tTup, tCons, tNil, tOp, tC, cVar, List.getElem?_cons_zero, List.getElem?_cons_succ]
    rw [ix_lst (look_of_lst hnl) (v := .str s1) i1]
    refine ⟨by simp only [sizeLine_eq, List.length_cons, List.length_nil]; omega, fun a ha => ⟨by simp only [sizeLine_eq, List.length_cons, List.length_nil]; omega, fun b hb => ⟨by simp only [sizeLine_eq, List.length_cons, List.length_nil]; omega, fun e he => ⟨by simp only [sizeLine_eq, List.length_cons, List.length_nil]; omega, fun f hf => ⟨by simp only [sizeLine_eq, List.length_cons, List.length_nil]; omega, fun L hL => ?_⟩⟩⟩⟩⟩
    rw [hD']
    have x1 : Ex H (upd H a (.tup [.str "name", .str s1])) := Ex.refl.new ha
    have q1 : (upd H a (.tup [.str "name", .str s1])) a = some (.tup [.str "name", .str s1]) := upd_same
    generalize upd H a (.tup [.str "name", .str s1]) = H1 at x1 q1 hb he hf hL ⊢
    have x2 : Ex H1 (upd H1 b (.tup [.str "place", .int 0])) := Ex.refl.new hb
    have q2 : (upd H1 b (.tup [.str "place", .int 0])) b = some (.tup [.str "place", .int 0]) := upd_same
    generalize upd H1 b (.tup [.str "place", .int 0]) = H2 at x2 q2 he hf hL ⊢
    have x3 : Ex H2 (upd H2 e (.tup [.str "number", .int 1])) := Ex.refl.new he
    have q3 : (upd H2 e (.tup [.str "number", .int 1])) e = some (.tup [.str "number", .int 1]) := upd_same
    generalize upd H2 e (.tup [.str "number", .int 1]) = H3 at x3 q3 hf hL ⊢
    have x3b : Ex H3 (upd H3 f (.tup [.str "word", .str "silent"])) := Ex.refl.new hf
    have q3b : (upd H3 f (.tup [.str "word", .str "silent"])) f = some (.tup [.str "word", .str "silent"]) := upd_same
    generalize upd H3 f (.tup [.str "word", .str "silent"]) = H4 at x3b q3b hL ⊢
    have x4 : Ex H4 (upd H4 L (.lst [.ref a, .ref b, .ref e, .ref f])) := Ex.refl.new hL
    refine h L .non .non _ ((((x1.trans x2).trans x3).trans x3b).trans x4) ⟨[a, b, e, f], upd_same, rfl, fun j t x y1 y2 => ?_⟩ ⟨fun z => absurd z (by decide), fun z => absurd z (by decide)⟩
    match j, y1, y2 with
    | 0, y1, y2 => cases y1; cases y2; exact x4 _ _ (x3b _ _ (x3 _ _ (x2 _ _ q1)))
    | 1, y1, y2 => cases y1; cases y2; exact x4 _ _ (x3b _ _ (x3 _ _ q2))
    | 2, y1, y2 => cases y1; cases y2; exact x4 _ _ (x3b _ _ q3)
    | 3, y1, y2 => cases y1; cases y2; exact x4 _ _ q3b
    | j + 4, y1, y2 => simp at y1
  refine skipN_ rfl w1 ?_
  by_cases w2 : way = 2
  · subst w2
    refine takeN_ rfl fun D' hD' => ?_
    simp only [tRet, tLst, tTup, tCons, tNil, tOp, tC, cVar, List.getElem?_cons_zero, List.getElem?_cons_succ]
    rw [ix_lst (look_of_lst hnl) (v := .str s1) i1]
    refine ⟨by simp only [sizeLine_eq, List.length_cons, List.length_nil]; omega, fun a ha => ⟨by simp only [sizeLine_eq, List.length_cons, List.length_nil]; omega, fun L hL => ?_⟩⟩
    rw [hD']
    have x1 : Ex H (upd H a (.tup [.str "there", .str s1])) := Ex.refl.new ha
    have q1 : (upd H a (.tup [.str "there", .str s1])) a = some (.tup [.str "there", .str s1]) := upd_same
    generalize upd H a (.tup [.str "there", .str s1]) = H1 at x1 q1 hL ⊢
    have x4 : Ex H1 (upd H1 L (.lst [.ref a])) := Ex.refl.new hL
    refine h L .non .non _ (x1.trans x4) ⟨[a], upd_same, rfl, fun j t x y1 y2 => ?_⟩ ⟨fun z => absurd z (by decide), fun z => absurd z (by decide)⟩
    match j, y1, y2 with
    | 0, y1, y2 => cases y1; cases y2; exact x4 _ _ q1
    | j + 1, y1, y2 => simp at y1
  refine skipN_ rfl w2 ?_
  by_cases w3 : way = 3
  · subst w3
    refine takeN_ rfl fun D' hD' => ?_
    simp only [tRet]
    refine lst_ (cons_ (tup_ (cons_ ?_)))
    simp only [tC]
    refine cons_ (mk_view0 (n := n + 1) (own := s2) (place := 5) (fun P q => ?_) n2 ⟨by decide, by decide⟩ fun pu du H1 x1 hpu hdu npd Wu => ?_)
    · simp only [tCons, tNil, tOp, tC, cVar, List.getElem?_cons_zero, List.getElem?_cons_succ]
      rw [ix_lst (look_of_lst hnl) (v := .str s2) i2]
      exact q
    simp only [tNil]
    refine ⟨by simp only [sizeLine_eq, List.length_cons, List.length_nil]; omega, fun a ha => ⟨by simp only [sizeLine_eq, List.length_cons, List.length_nil]; omega, fun L hL => ?_⟩⟩
    rw [hD']
    have x2 : Ex H1 (upd H1 a (.tup [.str "view", .ref pu])) := Ex.refl.new ha
    have q2 : (upd H1 a (.tup [.str "view", .ref pu])) a = some (.tup [.str "view", .ref pu]) := upd_same
    generalize upd H1 a (.tup [.str "view", .ref pu]) = H2 at x2 q2 hL ⊢
    have x4 : Ex H2 (upd H2 L (.lst [.ref a])) := Ex.refl.new hL
    refine h L .non (.ref pu) _ ((x1.trans x2).trans x4) ⟨[a], upd_same, rfl, fun j t x y1 y2 => ?_⟩ ⟨fun _ => ⟨pu, du, rfl, (Wu.ex x2).ex x4, hpu, hdu⟩, fun z => absurd z (by decide)⟩
    match j, y1, y2 with
    | 0, y1, y2 => cases y1; cases y2; exact x4 _ _ q2
    | j + 1, y1, y2 => simp at y1
  refine skipN_ rfl w3 ?_
  by_cases w45 : way = 4 ∨ way = 5
  · unfold tSeq
    refine ifS_ fun A1 B1 hA hB => ?_
    have go : A1 H := by
      refine hA _ ?_
      simp only [tRet]
      refine lst_ (cons_ (tup_ (cons_ ?_)))
      simp only [tC]
      refine cons_ ?_
      obtain ⟨⟨dxp, hpp⟩, _⟩ := id W
      refine mC_ownR (c_copied_0 K _) ?_ fun P P' hh q => mono_var hh q
      simp only [tNil, cVar, List.getElem?_cons_zero, List.getElem?_cons_succ]
      refine ⟨p, dxp, _, rfl, hpp, lk2 rfl rfl, rfl, (by first | rfl | trivial), s_copied W g hown fun pc dc H1 x1 hpc hdc Wc => ?_⟩
      refine ⟨by simp only [sizeLine_eq, List.length_cons, List.length_nil]; omega, fun a ha => cons_ (tup_ (cons_ ?_))⟩
      have x2 : Ex H1 (upd H1 a (.tup [.str "view", .ref pc])) := Ex.refl.new ha
      have q2 : (upd H1 a (.tup [.str "view", .ref pc])) a = some (.tup [.str "view", .ref pc]) := upd_same
      generalize upd H1 a (.tup [.str "view", .ref pc]) = H2 at x2 q2 ⊢
      have Wc2 := Wc.ex x2
      simp only [tC]
      refine cons_ (mk_view0 (n := n + 1) (own := s2) (place := 5) (fun P q => ?_) n2 ⟨by decide, by decide⟩ fun pu du H3 x3 hpu hdu npd Wu => ?_)
      · simp only [tCons, tNil, tOp, tC, cVar, List.getElem?_cons_zero, List.getElem?_cons_succ]
        rw [ix_lst (look_of_lst (x2 _ _ (x1 _ _ hnl))) (v := .str s2) i2]
        exact q
      simp only [tNil]
      refine ⟨by simp only [sizeLine_eq, List.length_cons, List.length_nil]; omega, fun b hb => ⟨by simp only [sizeLine_eq, List.length_cons, List.length_nil]; omega, fun L hL => ?_⟩⟩
      have x4 : Ex H3 (upd H3 b (.tup [.str "view", .ref pu])) := Ex.refl.new hb
      have q4 : (upd H3 b (.tup [.str "view", .ref pu])) b = some (.tup [.str "view", .ref pu]) := upd_same
      generalize upd H3 b (.tup [.str "view", .ref pu]) = H4 at x4 q4 hL ⊢
      have x5 : Ex H4 (upd H4 L (.lst [.ref a, .ref b])) := Ex.refl.new hL
      have x12 := x1.trans x2
      have dcu : dc ≠ du := by
        obtain ⟨_, kv, hk, _⟩ := Wc2
        exact ne_of_none hk hdu
      have WcL := (Wc2.ex x3).ex (x4.trans x5)
      have WuL := Wu.ex (x4.trans x5)
      have hpuH := Ex.none x12 hpu
      have hduH := Ex.none x12 hdu
      have er : rowsOf way (.ref pc) (.ref pu) s1 = ([("view", V.ref pc), ("view", V.ref pu)] : List (Str × V)) := by
        unfold rowsOf
        rw [if_neg w0, if_neg w1, if_neg w2, if_neg w3, if_pos w45]
      refine h L (.ref pc) (.ref pu) _ ((x12.trans x3).trans (x4.trans x5)) ?_ ⟨fun _ => ⟨pu, du, rfl, WuL, hpuH, hduH⟩, fun _ => ⟨⟨pc, dc, rfl, WcL, hpc, hdc⟩, pc, dc, pu, du, rfl, rfl, WcL, WuL, dcu, hdc, hduH⟩⟩
      rw [er]
      refine ⟨[a, b], upd_same, rfl, fun j t x y1 y2 => ?_⟩
      match j, y1, y2 with
      | 0, y1, y2 => cases y1; cases y2; exact x5 _ _ (x4 _ _ (x3 _ _ q2))
      | 1, y1, y2 => cases y1; cases y2; exact x5 _ _ q4
      | j + 2, y1, y2 => simp at y1
    simp only [tOr, cTest, tOp, tC, cVar, List.getElem?_cons_zero, List.getElem?_cons_succ]
    refine eq_scal rfl rfl rfl ?_
    by_cases w4 : way = 4
    · rw [show decide (V.int way = V.int 4) = true from by simpa using w4]
      simp only [if_true]
      exact go
    · rw [show decide (V.int way = V.int 4) = false from by simpa using w4]
      simp only [Bool.false_eq_true, if_false]
      refine eq_scal rfl rfl rfl ?_
      have w5 := w45.resolve_left w4
      rw [show decide (V.int way = V.int 5) = true from by simpa using w5]
      simp only [if_true]
      exact go
  · refine seq_ fun N1 h1' => ifS_ fun A1 B1 hA hB => ?_
    simp only [tOr, cTest, tOp, tC, cVar, List.getElem?_cons_zero, List.getElem?_cons_succ]
    refine eq_scal rfl rfl rfl ?_
    rw [show decide (V.int way = V.int 4) = false from by simpa using fun z => w45 (.inl z)]
    simp only [Bool.false_eq_true, if_false]
    refine eq_scal rfl rfl rfl ?_
    rw [show decide (V.int way = V.int 5) = false from by simpa using fun z => w45 (.inr z)]
    simp only [Bool.false_eq_true, if_false]
    refine hB _ ?_
    simp only [tNext]
    refine h1' _ _ ?_
    simp only [tRet, tLst, tTup, tCons, tNil, tOp, tC, cVar, List.getElem?_cons_zero, List.getElem?_cons_succ]
    rw [ix_lst (look_of_lst hnl) (v := .str s1) i1]
    refine ⟨by simp only [sizeLine_eq, List.length_cons, List.length_nil]; omega, fun a ha => ⟨by simp only [sizeLine_eq, List.length_cons, List.length_nil]; omega, fun L hL => ?_⟩⟩
    have x1 : Ex H (upd H a (.tup [.str "name", .str s1])) := Ex.refl.new ha
    have q1 : (upd H a (.tup [.str "name", .str s1])) a = some (.tup [.str "name", .str s1]) := upd_same
    generalize upd H a (.tup [.str "name", .str s1]) = H1 at x1 q1 hL ⊢
    have x4 : Ex H1 (upd H1 L (.lst [.ref a])) := Ex.refl.new hL
    have er : rowsOf way .non .non s1 = ([("name", V.str s1)] : List (Str × V)) := by
      unfold rowsOf
      rw [if_neg w0, if_neg w1, if_neg w2, if_neg w3, if_neg w45]
    refine h L .non .non _ (x1.trans x4) ?_ ⟨fun z => absurd z (by omega), fun z => absurd z w45⟩
    rw [er]
    refine ⟨[a], upd_same, rfl, fun j t x y1 y2 => ?_⟩
    match j, y1, y2 with
    | 0, y1, y2 => cases y1; cases y2; exact x4 _ _ q1
    | j + 1, y1, y2 => simp at y1
end
end WR.L

set_option Elab.async false
set_option linter.all false
set_option maxRecDepth 100000
set_option maxHeartbeats 4000000
namespace WR.L
open PySem PySem.Spec PyProof.Rows L2
def cn (sort : Str) : Str := if sort = "name" then "NoName" else if sort = "place" then "NoPlace" else if sort = "number" then "NoNumber" else if sort = "word" then "NoWord" else if sort = "there" then "NotThere" else "NoView"
section
variable {K : PySem.W.Frag} {n : Nat} {H H' : Hp} {Q : VK} {E : XK} {v : V} {nms : List Str} {C : Int} {own s1 s2 : Str} {rs : RwG R3}
theorem badN_of (b : BadOf K own rs "name" H v) : BadN K H v := by
  rcases b with ⟨_, b⟩ | ⟨e, b⟩ | ⟨e, b⟩ | ⟨e, b⟩ | ⟨e, b⟩ | ⟨e, b⟩
  · exact b
  all_goals exact absurd e (by decide)
theorem badP_of (b : BadOf K own rs "place" H v) : BadP K H v := by
  rcases b with ⟨e, b⟩ | ⟨e, b⟩ | ⟨e, b⟩ | ⟨e, b⟩ | ⟨e, b⟩ | ⟨e, b⟩
  · exact absurd e (by decide)
  · exact b
  all_goals exact absurd e (by decide)
theorem badI_of (b : BadOf K own rs "number" H v) : BadI K H v := by
  rcases b with ⟨e, b⟩ | ⟨e, b⟩ | ⟨e, b⟩ | ⟨e, b⟩ | ⟨e, b⟩ | ⟨e, b⟩
  · exact absurd e (by decide)
  · exact absurd e (by decide)
  · exact b
  all_goals exact absurd e (by decide)
theorem badW_of (b : BadOf K own rs "word" H v) : BadW K H v := by
  rcases b with ⟨e, b⟩ | ⟨e, b⟩ | ⟨e, b⟩ | ⟨e, b⟩ | ⟨e, b⟩ | ⟨e, b⟩
  · exact absurd e (by decide)
  · exact absurd e (by decide)
  · exact absurd e (by decide)
  · exact b
  all_goals exact absurd e (by decide)
theorem badT_of (b : BadOf K own rs "there" H v) : BadT K own rs H v := by
  rcases b with ⟨e, b⟩ | ⟨e, b⟩ | ⟨e, b⟩ | ⟨e, b⟩ | ⟨e, b⟩ | ⟨e, b⟩
  · exact absurd e (by decide)
  · exact absurd e (by decide)
  · exact absurd e (by decide)
  · exact absurd e (by decide)
  · exact b
  · exact absurd e (by decide)
theorem badV_of (b : BadOf K own rs "view" H v) : BadV K H v := by
  rcases b with ⟨e, b⟩ | ⟨e, b⟩ | ⟨e, b⟩ | ⟨e, b⟩ | ⟨e, b⟩ | ⟨e, b⟩
  · exact absurd e (by decide)
  · exact absurd e (by decide)
  · exact absurd e (by decide)
  · exact absurd e (by decide)
  · exact absurd e (by decide)
  · exact b
/-- index i of the things is the one that is refused: it is bad, and those that are looked at ahead of it are good -/
def DueAt (K : PySem.W.Frag) (own : Str) (rs : RwG R3) (H : Hp) (way : Int) (r : List (Str × V)) (ws : List V) (i : Nat) : Prop :=
  ws.length = r.length ∧ (∃ x w, r[i]? = some x ∧ ws[i]? = some w ∧ BadOf K own rs x.1 H w) ∧ ∀ j x w, r[j]? = some x → ws[j]? = some w → (if way = 5 then i < j else j < i) → w = x.2
theorem ws1 {ws : List V} (h : ws.length = 1) : ∃ a, ws = [a] := by
  match ws, h with
  | [a], _ => exact ⟨a, rfl⟩
theorem ws2 {ws : List V} (h : ws.length = 2) : ∃ a b, ws = [a, b] := by
  match ws, h with
  | [a, b], _ => exact ⟨a, b, rfl⟩
theorem ws3 {ws : List V} (h : ws.length = 3) : ∃ a b c, ws = [a, b, c] := by
  match ws, h with
  | [a, b, c], _ => exact ⟨a, b, c, rfl⟩
theorem ws4 {ws : List V} (h : ws.length = 4) : ∃ a b c d, ws = [a, b, c, d] := by
  match ws, h with
  | [a, b, c, d], _ => exact ⟨a, b, c, d, rfl⟩
theorem s_done_bad {H0 : Hp} {p d w dw TL : Addr} {way : Int} {c u : V} {ws : List V} {i : Nat} {wr : RwG R2w} (hap : apartX K (He.ga K "Wrongs") (He.ga K "View") = true) (W : VAt K H p d own rs) (g : GdR nms C own rs) (hown : isNm own = true) (hs1 : isNm s1 = true) (Ww : WrAt K H w dw wr)
    (hw : 0 ≤ way) (G : GoodW K H0 H way c u own s2 rs) (hTL : H TL = some (.lst ws)) (D : DueAt K own rs H way (rowsOf way c u s1) ws i) (r : ∀ x v, (rowsOf way c u s1)[i]? = some x → ws[i]? = some v → Rf K H (cn x.1) v E) : SP K (n+7) "_law_done" [.int way, .ref p, .ref w, .ref TL] H Q E := by
  refine o__law_done ?_
  unfold r__law_done
  obtain ⟨hlen, ⟨x, v, hx, hv, hb⟩, hg⟩ := D
  have rr := r x v hx hv
  have LT := look_of_lst (K := K) hTL
  obtain ⟨⟨dxp, hpp⟩, _⟩ := id W
  obtain ⟨⟨dxw, hpw⟩, _⟩ := id Ww
  by_cases w0 : way = 0
  · subst w0
    obtain ⟨a0, a1, a2, rfl⟩ := ws3 hlen
    refine takeN_ rfl fun D' hD' => ?_
    simp only [tRet]
    unfold cMk
    simp only [tCons, tNil, tOp, tC, cVar, List.getElem?_cons_zero, List.getElem?_cons_succ]
    rw [ix_lst LT (v := a2) rfl, ix_lst LT (v := a1) rfl, ix_lst LT (v := a0) rfl]
    refine ⟨rfl, rfl, fun q dq hq hdq nq => ?_⟩
    have xq : Ex H (upd (upd H dq (.own q)) q (.ins (He.ga K "View") dq [])) := fun b o e => by rw [upd_ne (ne_of_none e hq), upd_ne (ne_of_none e hdq)]; exact e
    refine s_init_bad (n := n + 2) (p := q) (v0 := a0) (v1 := a1) (v2 := a2) ?_
    have g' : ∀ j x w, (rowsOf 0 c u s1)[j]? = some x → [a0, a1, a2][j]? = some w → j < i → w = x.2 := fun j x w e1 e2 e3 => hg j x w e1 e2 (by simpa using e3)
    match i, hx, hv, g' with
    | 0, hx, hv, g' => cases hx; cases hv; exact .inl ⟨(badN_of hb).ex xq, rr.ex xq⟩
    | 1, hx, hv, g' =>
      cases hx; cases hv
      have z0 : a0 = .str s1 := g' 0 ("name", .str s1) a0 rfl rfl (by decide)
      exact .inr (.inl ⟨s1, z0, hs1, (badP_of hb).ex xq, rr.ex xq⟩)
    | 2, hx, hv, g' =>
      cases hx; cases hv
      have z0 : a0 = .str s1 := g' 0 ("name", .str s1) a0 rfl rfl (by decide)
      have z1 : a1 = .int 255 := g' 1 ("place", .int 255) a1 rfl rfl (by decide)
      exact .inr (.inr ⟨s1, 255, z0, hs1, z1, ⟨by decide, by decide⟩, (badI_of hb).ex xq, rr.ex xq⟩)
    | i + 3, hx, hv, g' => simp at hv
  refine skipN_ rfl w0 ?_
  by_cases w1 : way = 1
  · subst w1
    obtain ⟨a0, a1, a2, a3, rfl⟩ := ws4 hlen
    refine takeN_ rfl fun D' hD' => ?_
    simp only [tRet]
    refine mC_ko fun N hN => ?_
    refine mC_ownR (c_copied_0 K _) ?_ fun P P' hh q => mono_var hh q
    simp only [tNil, cVar, List.getElem?_cons_zero, List.getElem?_cons_succ]
    refine ⟨p, dxp, _, rfl, hpp, lk2 rfl rfl, rfl, (by first | rfl | trivial), s_copied (n := n + 1) W g hown fun pc dc H1 x1 hpc hdc Wc => ?_⟩
    obtain ⟨⟨dxc, hc⟩, _⟩ := id Wc
    refine hN _ pc dxc _ H1 (by rw [c_hear_0_word_number_place_name]; exact List.mem_singleton_self _) hc (lk2 rfl rfl) ?_
    have LT1 := look_of_lst (K := K) (x1 _ _ hTL)
    simp only [tCons, tNil, tOp, tC, cVar, List.getElem?_cons_zero, List.getElem?_cons_succ]
    rw [ix_lst LT1 (v := a3) rfl, ix_lst LT1 (v := a2) rfl, ix_lst LT1 (v := a1) rfl, ix_lst LT1 (v := a0) rfl]
    refine ⟨rfl, rfl, ?_⟩
    refine s_hear_bad (n := n + 2) (p := pc) (v0 := a0) (v1 := a1) (v2 := a2) (v3 := a3) ?_
    have g' : ∀ j x w, (rowsOf 1 c u s1)[j]? = some x → [a0, a1, a2, a3][j]? = some w → j < i → w = x.2 := fun j x w e1 e2 e3 => hg j x w e1 e2 (by simpa using e3)
    match i, hx, hv, g' with
    | 0, hx, hv, g' => cases hx; cases hv; exact .inl ⟨(badN_of hb).ex x1, rr.ex x1⟩
    | 1, hx, hv, g' =>
      cases hx; cases hv
      have z0 : a0 = .str s1 := g' 0 ("name", .str s1) a0 rfl rfl (by decide)
      exact .inr (.inl ⟨s1, z0, hs1, (badP_of hb).ex x1, rr.ex x1⟩)
    | 2, hx, hv, g' =>
      cases hx; cases hv
      have z0 : a0 = .str s1 := g' 0 ("name", .str s1) a0 rfl rfl (by decide)
      have z1 : a1 = .int 0 := g' 1 ("place", .int 0) a1 rfl rfl (by decide)
      exact .inr (.inr (.inl ⟨s1, 0, z0, hs1, z1, ⟨by decide, by decide⟩, (badI_of hb).ex x1, rr.ex x1⟩))
    | 3, hx, hv, g' =>
      cases hx; cases hv
      have z0 : a0 = .str s1 := g' 0 ("name", .str s1) a0 rfl rfl (by decide)
      have z1 : a1 = .int 0 := g' 1 ("place", .int 0) a1 rfl rfl (by decide)
      have z2 : a2 = .int 1 := g' 2 ("number", .int 1) a2 rfl rfl (by decide)
      exact .inr (.inr (.inr ⟨s1, 0, 1, z0, hs1, z1, ⟨by decide, by decide⟩, z2, by decide, (badW_of hb).ex x1, rr.ex x1⟩))
    | i + 4, hx, hv, g' => simp at hv
  refine skipN_ rfl w1 ?_
  by_cases w2 : way = 2
  · subst w2
    obtain ⟨a0, rfl⟩ := ws1 hlen
    refine takeN_ rfl fun D' hD' => ?_
    simp only [tRet]
    refine mC_ko fun N hN => ?_
    refine mC_ownR (c_copied_0 K _) ?_ fun P P' hh q => mono_var hh q
    simp only [tNil, cVar, List.getElem?_cons_zero, List.getElem?_cons_succ]
    refine ⟨p, dxp, _, rfl, hpp, lk2 rfl rfl, rfl, (by first | rfl | trivial), s_copied (n := n + 1) W g hown fun pc dc H1 x1 hpc hdc Wc => ?_⟩
    obtain ⟨⟨dxc, hc⟩, _⟩ := id Wc
    refine hN _ pc dxc _ H1 (by rw [c_silence_0_name]; exact List.mem_singleton_self _) hc (lk2 rfl rfl) ?_
    have LT1 := look_of_lst (K := K) (x1 _ _ hTL)
    simp only [tCons, tNil, tOp, tC, cVar, List.getElem?_cons_zero, List.getElem?_cons_succ]
    rw [ix_lst LT1 (v := a0) rfl]
    refine ⟨rfl, rfl, ?_⟩
    match i, hx, hv with
    | 0, hx, hv => cases hx; cases hv; exact s_silence_bad (n := n + 4) Wc ((badT_of hb).ex x1) (rr.ex x1)
    | i + 1, hx, hv => simp at hv
  refine skipN_ rfl w2 ?_
  by_cases w3 : way = 3
  · subst w3
    obtain ⟨a0, rfl⟩ := ws1 hlen
    refine takeN_ rfl fun D' hD' => ?_
    simp only [tRet]
    refine mC_ko fun N hN => ?_
    refine mC_ownR (c_copied_0 K _) ?_ fun P P' hh q => mono_var hh q
    simp only [tNil, cVar, List.getElem?_cons_zero, List.getElem?_cons_succ]
    refine ⟨p, dxp, _, rfl, hpp, lk2 rfl rfl, rfl, (by first | rfl | trivial), s_copied (n := n + 1) W g hown fun pc dc H1 x1 hpc hdc Wc => ?_⟩
    obtain ⟨⟨dxc, hc⟩, _⟩ := id Wc
    refine hN _ pc dxc _ H1 (by rw [c_join_1]; exact List.mem_singleton_self _) hc (lk2 rfl rfl) ?_
    have LT1 := look_of_lst (K := K) (x1 _ _ hTL)
    simp only [tCons, tNil, tOp, tC, cVar, List.getElem?_cons_zero, List.getElem?_cons_succ]
    rw [ix_lst LT1 (v := a0) rfl]
    refine ⟨rfl, rfl, ?_⟩
    match i, hx, hv with
    | 0, hx, hv => cases hx; cases hv; exact s_join_bad (n := n + 5) hap ((badV_of hb).ex x1) (rr.ex x1)
    | i + 1, hx, hv => simp at hv
  refine skipN_ rfl w3 ?_
  by_cases w4 : way = 4
  · subst w4
    obtain ⟨a0, a1, rfl⟩ := ws2 hlen
    refine takeN_ rfl fun D' hD' => ?_
    simp only [tRet, cCall, tCons, tNil, tOp, tC, cVar, List.getElem?_cons_zero, List.getElem?_cons_succ]
    rw [ix_lst LT (v := a0) rfl, ix_lst LT (v := a1) rfl]
    refine ⟨rfl, rfl, s_talk_bad (n := n + 5) hap ?_⟩
    have g' : ∀ j x w, (rowsOf 4 c u s1)[j]? = some x → [a0, a1][j]? = some w → j < i → w = x.2 := fun j x w e1 e2 e3 => hg j x w e1 e2 (by simpa using e3)
    match i, hx, hv, g' with
    | 0, hx, hv, g' => cases hx; cases hv; exact .inl ⟨badV_of hb, rr⟩
    | 1, hx, hv, g' =>
      cases hx; cases hv
      have z0 : a0 = c := g' 0 ("view", c) a0 rfl rfl (by decide)
      obtain ⟨⟨pc, dc, ec, Wc, _⟩, _⟩ := G.2 (.inl rfl)
      exact .inr ⟨⟨pc, dc, own, rs, by rw [z0, ec], Wc⟩, badV_of hb, rr⟩
    | i + 2, hx, hv, g' => simp at hv
  refine skipN_ rfl w4 ?_
  by_cases w5 : way = 5
  · subst w5
    obtain ⟨a0, a1, rfl⟩ := ws2 hlen
    refine takeN_ rfl fun D' hD' => ?_
    simp only [tRet, cCall, tCons, tNil, tOp, tC, cVar, List.getElem?_cons_zero, List.getElem?_cons_succ]
    rw [ix_lst LT (v := a1) rfl, ix_lst LT (v := a0) rfl]
    refine ⟨rfl, rfl, s_talk_bad (n := n + 5) hap ?_⟩
    have g' : ∀ j x w, (rowsOf 5 c u s1)[j]? = some x → [a0, a1][j]? = some w → i < j → w = x.2 := fun j x w e1 e2 e3 => hg j x w e1 e2 (by simpa using e3)
    match i, hx, hv, g' with
    | 0, hx, hv, g' =>
      cases hx; cases hv
      have z0 : a1 = u := g' 1 ("view", u) a1 rfl rfl (by decide)
      obtain ⟨pu, du, ec, Wu, _⟩ := G.1 (.inr (.inr rfl))
      exact .inr ⟨⟨pu, du, s2, row2 s2, by rw [z0, ec], Wu⟩, badV_of hb, rr⟩
    | 1, hx, hv, g' => cases hx; cases hv; exact .inl ⟨badV_of hb, rr⟩
    | i + 2, hx, hv, g' => simp at hv
  refine skipN_ rfl w5 ?_
  have er : rowsOf way c u s1 = ([("name", V.str s1)] : List (Str × V)) := by
    unfold rowsOf
    rw [if_neg w0, if_neg w1, if_neg w2, if_neg w3, if_neg (by omega)]
  rw [er] at hx hlen
  obtain ⟨a0, rfl⟩ := ws1 hlen
  have i0 : i = 0 := by
    match i, hv with
    | 0, _ => rfl
    | i + 1, hv => simp at hv
  subst i0
  cases hx
  have hv' : a0 = v := by simpa using hv
  subst hv'
  by_cases w6 : way = 6
  · subst w6
    refine takeN_ rfl fun D' hD' => ?_
    simp only [tRet]
    refine mC_ko fun N hN => ?_
    refine mC_ownL (c_copied_0 K _) ?_ fun P P' hh q => mono_var hh q
    simp only [tNil, cVar, List.getElem?_cons_zero, List.getElem?_cons_succ]
    refine ⟨w, dxw, _, rfl, hpw, lk1 (by decide +kernel), rfl, (by first | rfl | trivial), wr_copied (n := n + 4) Ww fun pc dc H1 x1 hpc hdc Wc => ?_⟩
    obtain ⟨⟨dxc, hc⟩, _⟩ := id Wc
    refine hN _ pc dxc _ H1 (by rw [c_seen_0_name]; exact List.mem_singleton_self _) hc (lk1 (by decide +kernel)) ?_
    have LT1 := look_of_lst (K := K) (x1 _ _ hTL)
    simp only [tCons, tNil, tOp, tC, cVar, List.getElem?_cons_zero, List.getElem?_cons_succ]
    rw [ix_lst LT1 (v := a0) rfl]
    exact ⟨rfl, rfl, wr_seen_bad (n := n + 3) ((badN_of hb).ex x1) (rr.ex x1)⟩
  refine skipN_ rfl w6 ?_
  simp only [tRet]
  refine mC_own (c_count_of_0_name K _) ?_ fun P P' hh q => mono_var hh q
  simp only [tCons, tNil, tOp, tC, cVar, List.getElem?_cons_zero, List.getElem?_cons_succ]
  refine ⟨w, dxw, _, rfl, hpw, lk1 (by decide +kernel), ?_⟩
  rw [ix_lst LT (v := a0) rfl]
  exact ⟨rfl, rfl, wr_count_bad (n := n + 3) (badN_of hb) rr⟩
end
end WR.L

set_option Elab.async false
set_option linter.all false
set_option maxRecDepth 100000
set_option maxHeartbeats 4000000
namespace WR.L
open PySem PySem.Spec PyProof.Rows L2
section
variable {K : PySem.W.Frag} {n : Nat} {H H' : Hp} {Q : VK} {E : XK} {v : V} {nms : List Str} {C : Int} {own s1 s2 : Str} {rs : RwG R3}
/-- told silent -/
def silR (r : R3) : R3 := if r.2.2 = "here" then (r.1, r.2.1, "silent") else r
theorem s_silence {p d : Addr} {own name : Str} {rs : RwG R3} {ro : R3} (W : VAt K H p d own rs) (nd : (rs.map (·.1)).Nodup) (hl : rs.length ≤ 900) (hn : isNm name = true) (ne : name ≠ own) (ho : gget rs name = some ro) (h : ∀ H', VAt K H' p d own (gput rs name (silR ro)) → Exd d H H' → Q .non H') : SP K (n+2) "View.silence" [.ref p, .str name] H Q E := by
  refine o_View_silence ?_
  unfold r_View_silence
  refine seq_ fun N1 h1 => ifS_ fun A B hA hB => ?_
  simp only [tOr, tNot, cTru, cTest, cCall, tCons, tNil, tOp, cAttr, cVar, List.getElem?_cons_zero, List.getElem?_cons_succ]
  refine ⟨rfl, (by first | rfl | trivial), s_is_name (nm_len hn) fun H1 e1 => ?_⟩
  have W1 := W.ex e1
  obtain ⟨⟨dx, hp⟩, kvs, hd, r⟩ := id W1
  simp only [oTru, hn, Bool.not_true, Bool.false_eq_true, if_false, ins_ins hp, lk_rows, List.lookup_cons_self, List.mem_singleton, true_and]
  refine eq_scal rfl rfl rfl ?_
  rw [show decide (V.str name = V.str own) = false from by simpa using ne]
  simp only [Bool.false_eq_true, if_false, ins_ins hp, lk_rows, List.mem_singleton, true_and]
  rw [in_dS hd, r.isSome, ho]
  simp only [Option.isSome_some, Bool.xor_true, Bool.not_true, Bool.false_eq_true, if_false]
  refine hB _ ?_
  simp only [tNext]
  refine h1 _ _ (seq_ fun N2 h2 => ?_)
  obtain ⟨t, hv, ht⟩ := r.some ho
  simp only [tAsg, tOp, cAttr, cVar, ins_ins hp, lk_rows, List.lookup_cons_self, List.mem_singleton, true_and, List.getElem?_cons_zero, List.getElem?_cons_succ]
  rw [ix_dS hd hv]
  refine tup3_ (look_of_tup ht) (h2 _ _ (ifS_ fun A2 B2 hA2 hB2 => ?_))
  simp only [cTest, tOp, tC, cVar, List.set_cons_zero, List.set_cons_succ, List.getElem?_cons_zero, List.getElem?_cons_succ]
  refine eq_scal rfl rfl rfl ?_
  by_cases cw : ro.2.2 = "here"
  · rw [show decide (V.str ro.2.2 = V.str "here") = true from by rw [cw]; rfl]
    simp only [if_true]
    refine hA2 _ ?_
    simp only [tAsg, tTup, tCons, tNil, tC, cVar, List.set_cons_zero, List.set_cons_succ, List.getElem?_cons_zero, List.getElem?_cons_succ]
    refine ⟨by simp only [sizeLine_eq, List.length_cons, List.length_nil]; omega, fun q hq => ?_⟩
    have e2 : Ex H1 (upd H1 q (.tup [.int ro.1, .int ro.2.1, .str "silent"])) := Ex.refl.new hq
    have k1 : (upd H1 q (.tup [.int ro.1, .int ro.2.1, .str "silent"])) q = some (.tup (enc3 (ro.1, ro.2.1, "silent"))) := upd_same
    generalize upd H1 q (.tup [.int ro.1, .int ro.2.1, .str "silent"]) = H2 at e2 k1 ⊢
    have hp1 := e2 _ _ hp
    have hd1 := e2 _ _ hd
    simp only [gSub, cAttr, cVar, ins_ins hp1, lk_rows, List.lookup_cons_self, List.mem_singleton, true_and, List.getElem?_cons_zero, List.getElem?_cons_succ]
    have npd : p ≠ d := fun z => by rw [z, hd] at hp; cases hp
    have es : silR ro = ((ro.1, ro.2.1, "silent") : R3) := if_pos cw
    refine set_dS hd1 (by rw [r.len]; omega) (h _ ⟨⟨dx, by rw [upd_ne npd]; exact hp1⟩, ?_⟩ fun x o nx e => ?_)
    · rw [es]; exact gat_put hd1 (r.tp e2.tp) k1
    · rw [upd_ne nx]; exact e2 _ _ (e1 _ _ e)
  · rw [show decide (V.str ro.2.2 = V.str "here") = false from by simpa using cw]
    simp only [Bool.false_eq_true, if_false]
    refine hB2 _ ?_
    simp only [tNext]
    have es : silR ro = ro := if_neg cw
    refine h _ ?_ fun x o nx e => e1 _ _ e
    rw [es, gput_id nd ho]
    exact W1
theorem row2_ok (hC : 1 ≤ C) (h2 : s2 ∈ nms) : GdR nms C s2 (row2 s2) := by
  refine ⟨by simp [row2], fun r hr => ?_, ⟨_, by simp [row2, gget]; rfl⟩⟩
  rw [row2, List.mem_singleton] at hr
  subst hr
  exact ⟨h2, ⟨by show (0:Int) ≤ 5; decide, by show (5:Int) ≤ 255; decide⟩, by show (1:Int) ≤ 1; decide, hC, here_w⟩
theorem ex_2 {H0 : Hp} {a b : Addr} (x : Ex H0 H) (y : Ex2 a b H H') (ha : H0 a = none) (hb : H0 b = none) : Ex H0 H' := fun z o e => y _ _ (ne_of_none e ha) (ne_of_none e hb) (x _ _ e)
theorem ex_1 {H0 : Hp} {a : Addr} (x : Ex H0 H) (y : Exd a H H') (ha : H0 a = none) : Ex H0 H' := fun z o e => y _ _ (ne_of_none e ha) (x _ _ e)
theorem s_done_good {H0 : Hp} {p d w dw TL : Addr} {way : Int} {c u : V} {wr : RwG R2w} {r1 : R3} (W : VAt K H p d own rs) (g : GdR nms C own rs) (h5 : nms.length = 5) (hn : ∀ s ∈ nms, isNm s = true) (hC : 1 ≤ C) (hown : isNm own = true) (hm1 : s1 ∈ nms) (hm2 : s2 ∈ nms) (Ww : WrAt K H w dw wr) (hwl : wr.length ≤ 900)
    (ne1 : s1 ≠ own) (ne2 : own ≠ s2) (hk1 : gget rs s1 = some r1) (hw : 0 ≤ way) (x0 : Ex H0 H) (G : GoodW K H0 H way c u own s2 rs) (hTL : H TL = some (.lst ((rowsOf way c u s1).map (·.2)))) (h : ∀ x H', Ex H0 H' → Q x H') : SP K (n+7) "_law_done" [.int way, .ref p, .ref w, .ref TL] H Q E := by
  refine o__law_done ?_
  unfold r__law_done
  have lr := g.len h5
  have hs1 := hn s1 hm1
  have LT := look_of_lst (K := K) hTL
  obtain ⟨⟨dxp, hpp⟩, _⟩ := id W
  obtain ⟨⟨dxw, hpw⟩, _⟩ := id Ww
  obtain ⟨ro, ho⟩ := g.own
  by_cases w0 : way = 0
  · subst w0
    refine takeN_ rfl fun D' hD' => ?_
    simp only [tRet]
    unfold cMk
    simp only [tCons, tNil, tOp, tC, cVar, List.getElem?_cons_zero, List.getElem?_cons_succ]
    rw [ix_lst LT (v := .int 999999) rfl, ix_lst LT (v := .int 255) rfl, ix_lst LT (v := .str s1) rfl]
    refine ⟨rfl, rfl, fun q dq hq hdq nq => ?_⟩
    refine s_init (n := n + 2) (p := q) (own := s1) (place := 255) (number := 999999) (dx := dq) upd_same hs1 ⟨by decide, by decide⟩ (by decide) fun d0 H1 W1 hd0 k1 => ⟨rfl, ?_⟩
    rw [hD']
    refine h _ H1 fun b o e => ?_
    have e' := x0 _ _ e
    exact k1 b o (ne_of_none e' hq) (by rw [upd_ne (ne_of_none e' hq), upd_ne (ne_of_none e' hdq)]; exact e')
  refine skipN_ rfl w0 ?_
  by_cases w1 : way = 1
  · subst w1
    refine takeN_ rfl fun D' hD' => ?_
    simp only [tRet]
    refine mC_ko fun N hN => ?_
    refine mC_ownR (c_copied_0 K _) ?_ fun P P' hh q => mono_var hh q
    simp only [tNil, cVar, List.getElem?_cons_zero, List.getElem?_cons_succ]
    refine ⟨p, dxp, _, rfl, hpp, lk2 rfl rfl, rfl, (by first | rfl | trivial), s_copied (n := n + 1) W g hown fun pc dc H1 x1 hpc hdc Wc => ?_⟩
    obtain ⟨⟨dxc, hc⟩, _⟩ := id Wc
    refine hN _ pc dxc _ H1 (by rw [c_hear_0_word_number_place_name]; exact List.mem_singleton_self _) hc (lk2 rfl rfl) ?_
    have LT1 := look_of_lst (K := K) (x1 _ _ hTL)
    simp only [tCons, tNil, tOp, tC, cVar, List.getElem?_cons_zero, List.getElem?_cons_succ]
    rw [ix_lst LT1 (v := .str "silent") rfl, ix_lst LT1 (v := .int 1) rfl, ix_lst LT1 (v := .int 0) rfl, ix_lst LT1 (v := .str s1) rfl]
    refine ⟨rfl, rfl, ?_⟩
    refine s_hear (n := n + 2) (p := pc) (name := s1) (place := 0) (number := 1) (word := "silent") Wc g.w ho (by omega) (nm_len hs1) hs1 ⟨by decide, by decide⟩ (by decide) (by decide +kernel) fun H2 V2 x2 => ?_
    rw [hD']
    exact h _ H2 (ex_1 (x0.trans x1) x2 (by
      cases e : H0 dc with
      | none => rfl
      | some o => rw [x0 _ _ e] at hdc; cases hdc))
  refine skipN_ rfl w1 ?_
  by_cases w2 : way = 2
  · subst w2
    refine takeN_ rfl fun D' hD' => ?_
    simp only [tRet]
    refine mC_ko fun N hN => ?_
    refine mC_ownR (c_copied_0 K _) ?_ fun P P' hh q => mono_var hh q
    simp only [tNil, cVar, List.getElem?_cons_zero, List.getElem?_cons_succ]
    refine ⟨p, dxp, _, rfl, hpp, lk2 rfl rfl, rfl, (by first | rfl | trivial), s_copied (n := n + 1) W g hown fun pc dc H1 x1 hpc hdc Wc => ?_⟩
    obtain ⟨⟨dxc, hc⟩, _⟩ := id Wc
    refine hN _ pc dxc _ H1 (by rw [c_silence_0_name]; exact List.mem_singleton_self _) hc (lk2 rfl rfl) ?_
    have LT1 := look_of_lst (K := K) (x1 _ _ hTL)
    simp only [tCons, tNil, tOp, tC, cVar, List.getElem?_cons_zero, List.getElem?_cons_succ]
    rw [ix_lst LT1 (v := .str s1) rfl]
    refine ⟨rfl, rfl, ?_⟩
    refine s_silence (n := n + 4) Wc g.nd (by omega) hs1 ne1 hk1 fun H2 V2 x2 => ?_
    rw [hD']
    exact h _ H2 (ex_1 (x0.trans x1) x2 (by
      cases e : H0 dc with
      | none => rfl
      | some o => rw [x0 _ _ e] at hdc; cases hdc))
  refine skipN_ rfl w2 ?_
  by_cases w3 : way = 3
  · subst w3
    refine takeN_ rfl fun D' hD' => ?_
    simp only [tRet]
    refine mC_ko fun N hN => ?_
    refine mC_ownR (c_copied_0 K _) ?_ fun P P' hh q => mono_var hh q
    simp only [tNil, cVar, List.getElem?_cons_zero, List.getElem?_cons_succ]
    refine ⟨p, dxp, _, rfl, hpp, lk2 rfl rfl, rfl, (by first | rfl | trivial), s_copied (n := n + 1) W g hown fun pc dc H1 x1 hpc hdc Wc => ?_⟩
    obtain ⟨⟨dxc, hc⟩, _⟩ := id Wc
    refine hN _ pc dxc _ H1 (by rw [c_join_1]; exact List.mem_singleton_self _) hc (lk2 rfl rfl) ?_
    have LT1 := look_of_lst (K := K) (x1 _ _ hTL)
    obtain ⟨pu, du, ec, Wu, _⟩ := G.1 (.inl rfl)
    simp only [tCons, tNil, tOp, tC, cVar, List.getElem?_cons_zero, List.getElem?_cons_succ]
    rw [ix_lst LT1 (v := u) rfl, ec]
    refine ⟨rfl, rfl, ?_⟩
    refine s_join (n := n + 1) Wc (Wu.ex x1) g (row2_ok hC hm2) h5 hn fun ts H2 hts V2 x2 => ?_
    rw [hD']
    exact h _ H2 (ex_1 (x0.trans x1) x2 (by
      cases e : H0 dc with
      | none => rfl
      | some o => rw [x0 _ _ e] at hdc; cases hdc))
  refine skipN_ rfl w3 ?_
  by_cases w4 : way = 4
  · subst w4
    refine takeN_ rfl fun D' hD' => ?_
    obtain ⟨_, pc, dc, pu, du, rfl, rfl, Wc, Wu, nd, f1, f2⟩ := G.2 (.inl rfl)
    simp only [tRet, cCall, tCons, tNil, tOp, tC, cVar, List.getElem?_cons_zero, List.getElem?_cons_succ]
    rw [ix_lst LT (v := .ref pc) rfl, ix_lst LT (v := .ref pu) rfl]
    refine ⟨rfl, rfl, s_talk (n := n) ne2 nd h5 hn Wc Wu g (row2_ok hC hm2) fun k A' B' H2 _ _ _ x2 _ _ => ?_⟩
    rw [hD']
    exact h _ H2 (ex_2 x0 x2 f1 f2)
  refine skipN_ rfl w4 ?_
  by_cases w5 : way = 5
  · subst w5
    refine takeN_ rfl fun D' hD' => ?_
    obtain ⟨_, pc, dc, pu, du, rfl, rfl, Wc, Wu, nd, f1, f2⟩ := G.2 (.inr rfl)
    simp only [tRet, cCall, tCons, tNil, tOp, tC, cVar, List.getElem?_cons_zero, List.getElem?_cons_succ]
    rw [ix_lst LT (v := .ref pu) rfl, ix_lst LT (v := .ref pc) rfl]
    refine ⟨rfl, rfl, s_talk (n := n) (Ne.symm ne2) (Ne.symm nd) h5 hn Wu Wc (row2_ok hC hm2) g fun k A' B' H2 _ _ _ x2 _ _ => ?_⟩
    rw [hD']
    exact h _ H2 (ex_2 x0 x2 f2 f1)
  refine skipN_ rfl w5 ?_
  have er : rowsOf way c u s1 = ([("name", V.str s1)] : List (Str × V)) := by
    unfold rowsOf
    rw [if_neg w0, if_neg w1, if_neg w2, if_neg w3, if_neg (by omega)]
  rw [er] at hTL LT
  by_cases w6 : way = 6
  · subst w6
    refine takeN_ rfl fun D' hD' => ?_
    simp only [tRet]
    refine mC_ko fun N hN => ?_
    refine mC_ownL (c_copied_0 K _) ?_ fun P P' hh q => mono_var hh q
    simp only [tNil, cVar, List.getElem?_cons_zero, List.getElem?_cons_succ]
    refine ⟨w, dxw, _, rfl, hpw, lk1 (by decide +kernel), rfl, (by first | rfl | trivial), wr_copied (n := n + 4) Ww fun pc dc H1 x1 hpc hdc Wc => ?_⟩
    obtain ⟨⟨dxc, hc⟩, _⟩ := id Wc
    refine hN _ pc dxc _ H1 (by rw [c_seen_0_name]; exact List.mem_singleton_self _) hc (lk1 (by decide +kernel)) ?_
    have LT1 := look_of_lst (K := K) (x1 _ _ hTL)
    simp only [tCons, tNil, tOp, tC, cVar, List.getElem?_cons_zero, List.getElem?_cons_succ]
    rw [ix_lst LT1 (v := .str s1) rfl]
    refine ⟨rfl, rfl, wr_seen (n := n + 2) (s := s1) Wc hwl hs1 fun H2 V2 x2 => ?_⟩
    rw [hD']
    exact h _ H2 (ex_1 (x0.trans x1) x2 (by
      cases e : H0 dc with
      | none => rfl
      | some o => rw [x0 _ _ e] at hdc; cases hdc))
  refine skipN_ rfl w6 ?_
  simp only [tRet]
  refine mC_own (c_count_of_0_name K _) ?_ fun P P' hh q => mono_var hh q
  simp only [tCons, tNil, tOp, tC, cVar, List.getElem?_cons_zero, List.getElem?_cons_succ]
  refine ⟨w, dxw, _, rfl, hpw, lk1 (by decide +kernel), ?_⟩
  rw [ix_lst LT (v := .str s1) rfl]
  exact ⟨rfl, rfl, wr_count (n := n + 3) (s := s1) Ww hs1 fun H2 x2 => h _ H2 (x0.trans x2)⟩
end
end WR.L

set_option Elab.async false
set_option linter.all false
set_option maxRecDepth 100000
set_option maxHeartbeats 4000000
namespace WR.L
open PySem PySem.Spec PyProof.Rows L2
section
variable {K : PySem.W.Frag} {n : Nat} {H H' : Hp} {Q : VK} {E : XK} {v : V}
/-- what the head tells of the written part -/
structure Hx (K : PySem.W.Frag) : Prop where
  xNoPlace : xcX K (He.ga K "NoPlace") [(He.ga K "NoName", false), (He.ga K "NoPlace", true), (He.ga K "NoNumber", false), (He.ga K "NoWord", false), (He.ga K "NoView", false), (He.ga K "Twice", false), (He.ga K "NotThere", false)] [(He.ga K "PeerError", true), (He.ga K "Absent", false)] = true
  xNoName : xcX K (He.ga K "NoName") [(He.ga K "NoName", true), (He.ga K "NoPlace", false), (He.ga K "NoNumber", false), (He.ga K "NoWord", false), (He.ga K "NoView", false), (He.ga K "Twice", false), (He.ga K "NotThere", false)] [(He.ga K "PeerError", true), (He.ga K "Absent", false)] = true
  xNoNumber : xcX K (He.ga K "NoNumber") [(He.ga K "NoName", false), (He.ga K "NoPlace", false), (He.ga K "NoNumber", true), (He.ga K "NoWord", false), (He.ga K "NoView", false), (He.ga K "Twice", false), (He.ga K "NotThere", false)] [(He.ga K "PeerError", true), (He.ga K "Absent", false)] = true
  xNoWord : xcX K (He.ga K "NoWord") [(He.ga K "NoName", false), (He.ga K "NoPlace", false), (He.ga K "NoNumber", false), (He.ga K "NoWord", true), (He.ga K "NoView", false), (He.ga K "Twice", false), (He.ga K "NotThere", false)] [(He.ga K "PeerError", true), (He.ga K "Absent", false)] = true
  xNotThere : xcX K (He.ga K "NotThere") [(He.ga K "NoName", false), (He.ga K "NoPlace", false), (He.ga K "NoNumber", false), (He.ga K "NoWord", false), (He.ga K "NoView", false), (He.ga K "Twice", false), (He.ga K "NotThere", true)] [(He.ga K "PeerError", false), (He.ga K "Absent", true)] = true
  xNoView : xcX K (He.ga K "NoView") [(He.ga K "NoName", false), (He.ga K "NoPlace", false), (He.ga K "NoNumber", false), (He.ga K "NoWord", false), (He.ga K "NoView", true), (He.ga K "Twice", false), (He.ga K "NotThere", false)] [(He.ga K "PeerError", true), (He.ga K "Absent", false)] = true
  xTwice : xcX K (He.ga K "Twice") [(He.ga K "NoName", false), (He.ga K "NoPlace", false), (He.ga K "NoNumber", false), (He.ga K "NoWord", false), (He.ga K "NoView", false), (He.ga K "Twice", true), (He.ga K "NotThere", false)] [(He.ga K "PeerError", true), (He.ga K "Absent", false)] = true
  oW : ownX K (He.ga K "Wrongs") = true
  oV : ownX K (He.ga K "View") = true
  aW : apartX K (He.ga K "Wrongs") (He.ga K "View") = true
  aV : apartX K (He.ga K "View") (He.ga K "Wrongs") = true
theorem hx_of (h : y.ex K = true) : Hx K := by
  simp only [y, Bool.and_eq_true] at h
  obtain ⟨⟨⟨⟨⟨⟨⟨⟨⟨⟨h1, h2⟩, h3⟩, h4⟩, h5⟩, h6⟩, h7⟩, h8⟩, h9⟩, h10⟩, h11⟩ := h
  exact ⟨h1, h2, h3, h4, h5, h6, h7, h8, h9, h10, h11⟩
/-- what each clause's suite tells -/
theorem suite_ {S : Str → Sp} {D : Ends} {σ : L2.St} {a x : Addr} {c c1 c2 : Addr} {w : Str} (h4 : σ[4]? = some (some (.ref a))) (hc : ∃ i ∈ (gg K S).xcs, i.f = "found" ∧ c = i.C) (hE : excB K c = true) (k1 : PySem.W.kitOne K (.ref c) (.ref c1) = some true) (k2 : PySem.W.kitOne K (.ref c) (.ref c2) = some false) (hx : H x = some (.xd [("found", v)]))
    (h : ∀ f H', Ex H H' → H f = none → H' f = some (.tup [.str w, v, .bl true]) → D.rt (.ref f) H') :
    (tRet (tTup (tCons (tC (.str w)) (tCons (cXf (gg K S) 4 a (.ref c) (some x) "found") (tCons (cAnd K (tCB (rIsX (gg K S) a (.ref c) (some x)) (tCons (cVar 4) (tCons (tC (.ref c1)) tNil))) (cNot K (tCB (rIsX (gg K S) a (.ref c) (some x)) (tCons (cVar 4) (tCons (tC (.ref c2)) tNil))))) tNil))))) D σ H := by
  obtain ⟨i, hi, hf, rfl⟩ := hc
  simp only [tRet]
  refine tup_ (cons_ ?_)
  simp only [tC]
  refine cons_ ⟨h4, i, hi, hf, rfl, x, [("found", v)], v, rfl, hx, rfl, cons_ ?_⟩
  simp only [cAnd, cNot, tCB, tCons, tNil, tC, cVar, h4]
  refine ⟨i, hi, c1, x, [("found", v)], true, rfl, rfl, hE, rfl, hx, k1, ?_⟩
  simp only [oTru]
  refine ⟨i, hi, c2, x, [("found", v)], false, rfl, rfl, hE, rfl, hx, k2, ?_⟩
  simp only [oTru, Bool.not_false]
  exact ⟨by simp only [sizeLine_eq, List.length_cons, List.length_nil]; omega, fun f hf => h f _ (Ex.refl.new hf) hf upd_same⟩
theorem xcs_all {S : Str → Sp} : (gg K S).xcs = [⟨"NoPlace", He.ga K "NoPlace", "found"⟩, ⟨"NoName", He.ga K "NoName", "found"⟩, ⟨"NoNumber", He.ga K "NoNumber", "found"⟩, ⟨"NoWord", He.ga K "NoWord", "found"⟩, ⟨"NotThere", He.ga K "NotThere", "found"⟩, ⟨"NoView", He.ga K "NoView", "found"⟩, ⟨"Twice", He.ga K "Twice", "found"⟩] := by kernel_rfl
/-- the clause that takes it -/
theorem said_name {a0 a1 a2 a3 : V} (hx : Hx K) (hd : ∀ (Q' : VK) (E' : XK), Rf K H "NoName" v E' → SP K n "_law_done" [a0, a1, a2, a3] H Q' E') (h : ∀ f H', Ex H H' → H f = none → H' f = some (.tup [.str "name", v, .bl true]) → Q (.ref f) H') : SP K (n+1) "_law_said" [a0, a1, a2, a3] H Q E := by
  refine o__law_said ?_
  unfold r__law_said
  obtain ⟨f1, f2, f3⟩ := xcX_ok hx.xNoName
  simp only [tTryW]
  refine tup_ (cons_ ?_)
  simp only [tC]
  refine cons_ ?_
  simp only [cCall, tCons, tNil, cVar, List.getElem?_cons_zero, List.getElem?_cons_succ]
  refine ⟨rfl, (by first | rfl | trivial), hd _ _ fun x H1 e1 k1 => ?_⟩
  refine ⟨true, f1 (He.ga K "NoName", true) (List.mem_of_getElem? (i := 0) rfl), fun _ a ha => ?_, fun q => nomatch q⟩
  refine suite_ (c := He.ga K "NoName") (w := "name") (x := x) (v := v) rfl ⟨⟨"NoName", He.ga K "NoName", "found"⟩, by rw [xcs_all]; exact List.mem_of_getElem? (i := 1) rfl, rfl, rfl⟩ f3 (f2 (He.ga K "PeerError", true) (List.mem_of_getElem? (i := 0) rfl)) (f2 (He.ga K "Absent", false) (List.mem_of_getElem? (i := 1) rfl)) k1 fun f H2 e2 hf hk => ?_
  exact h f H2 (e1.trans e2) (Ex.none e1 hf) hk
theorem said_place {a0 a1 a2 a3 : V} (hx : Hx K) (hd : ∀ (Q' : VK) (E' : XK), Rf K H "NoPlace" v E' → SP K n "_law_done" [a0, a1, a2, a3] H Q' E') (h : ∀ f H', Ex H H' → H f = none → H' f = some (.tup [.str "place", v, .bl true]) → Q (.ref f) H') : SP K (n+1) "_law_said" [a0, a1, a2, a3] H Q E := by
  refine o__law_said ?_
  unfold r__law_said
  obtain ⟨f1, f2, f3⟩ := xcX_ok hx.xNoPlace
  simp only [tTryW]
  refine tup_ (cons_ ?_)
  simp only [tC]
  refine cons_ ?_
  simp only [cCall, tCons, tNil, cVar, List.getElem?_cons_zero, List.getElem?_cons_succ]
  refine ⟨rfl, (by first | rfl | trivial), hd _ _ fun x H1 e1 k1 => ?_⟩
  refine ⟨false, f1 (He.ga K "NoName", false) (List.mem_of_getElem? (i := 0) rfl), (fun q => nomatch q), fun _ => ?_⟩
  refine ⟨true, f1 (He.ga K "NoPlace", true) (List.mem_of_getElem? (i := 1) rfl), fun _ a ha => ?_, fun q => nomatch q⟩
  refine suite_ (c := He.ga K "NoPlace") (w := "place") (x := x) (v := v) rfl ⟨⟨"NoPlace", He.ga K "NoPlace", "found"⟩, by rw [xcs_all]; exact List.mem_of_getElem? (i := 0) rfl, rfl, rfl⟩ f3 (f2 (He.ga K "PeerError", true) (List.mem_of_getElem? (i := 0) rfl)) (f2 (He.ga K "Absent", false) (List.mem_of_getElem? (i := 1) rfl)) k1 fun f H2 e2 hf hk => ?_
  exact h f H2 (e1.trans e2) (Ex.none e1 hf) hk
theorem said_number {a0 a1 a2 a3 : V} (hx : Hx K) (hd : ∀ (Q' : VK) (E' : XK), Rf K H "NoNumber" v E' → SP K n "_law_done" [a0, a1, a2, a3] H Q' E') (h : ∀ f H', Ex H H' → H f = none → H' f = some (.tup [.str "number", v, .bl true]) → Q (.ref f) H') : SP K (n+1) "_law_said" [a0, a1, a2, a3] H Q E := by
  refine o__law_said ?_
  unfold r__law_said
  obtain ⟨f1, f2, f3⟩ := xcX_ok hx.xNoNumber
  simp only [tTryW]
  refine tup_ (cons_ ?_)
  simp only [tC]
  refine cons_ ?_
  simp only [cCall, tCons, tNil, cVar, List.getElem?_cons_zero, List.getElem?_cons_succ]
  refine ⟨rfl, (by first | rfl | trivial), hd _ _ fun x H1 e1 k1 => ?_⟩
  refine ⟨false, f1 (He.ga K "NoName", false) (List.mem_of_getElem? (i := 0) rfl), (fun q => nomatch q), fun _ => ?_⟩
  refine ⟨false, f1 (He.ga K "NoPlace", false) (List.mem_of_getElem? (i := 1) rfl), (fun q => nomatch q), fun _ => ?_⟩
  refine ⟨true, f1 (He.ga K "NoNumber", true) (List.mem_of_getElem? (i := 2) rfl), fun _ a ha => ?_, fun q => nomatch q⟩
  refine suite_ (c := He.ga K "NoNumber") (w := "number") (x := x) (v := v) rfl ⟨⟨"NoNumber", He.ga K "NoNumber", "found"⟩, by rw [xcs_all]; exact List.mem_of_getElem? (i := 2) rfl, rfl, rfl⟩ f3 (f2 (He.ga K "PeerError", true) (List.mem_of_getElem? (i := 0) rfl)) (f2 (He.ga K "Absent", false) (List.mem_of_getElem? (i := 1) rfl)) k1 fun f H2 e2 hf hk => ?_
  exact h f H2 (e1.trans e2) (Ex.none e1 hf) hk
theorem said_word {a0 a1 a2 a3 : V} (hx : Hx K) (hd : ∀ (Q' : VK) (E' : XK), Rf K H "NoWord" v E' → SP K n "_law_done" [a0, a1, a2, a3] H Q' E') (h : ∀ f H', Ex H H' → H f = none → H' f = some (.tup [.str "word", v, .bl true]) → Q (.ref f) H') : SP K (n+1) "_law_said" [a0, a1, a2, a3] H Q E := by
  refine o__law_said ?_
  unfold r__law_said
  obtain ⟨f1, f2, f3⟩ := xcX_ok hx.xNoWord
  simp only [tTryW]
  refine tup_ (cons_ ?_)
  simp only [tC]
  refine cons_ ?_
  simp only [cCall, tCons, tNil, cVar, List.getElem?_cons_zero, List.getElem?_cons_succ]
  refine ⟨rfl, (by first | rfl | trivial), hd _ _ fun x H1 e1 k1 => ?_⟩
  refine ⟨false, f1 (He.ga K "NoName", false) (List.mem_of_getElem? (i := 0) rfl), (fun q => nomatch q), fun _ => ?_⟩
  refine ⟨false, f1 (He.ga K "NoPlace", false) (List.mem_of_getElem? (i := 1) rfl), (fun q => nomatch q), fun _ => ?_⟩
  refine ⟨false, f1 (He.ga K "NoNumber", false) (List.mem_of_getElem? (i := 2) rfl), (fun q => nomatch q), fun _ => ?_⟩
  refine ⟨true, f1 (He.ga K "NoWord", true) (List.mem_of_getElem? (i := 3) rfl), fun _ a ha => ?_, fun q => nomatch q⟩
  refine suite_ (c := He.ga K "NoWord") (w := "word") (x := x) (v := v) rfl ⟨⟨"NoWord", He.ga K "NoWord", "found"⟩, by rw [xcs_all]; exact List.mem_of_getElem? (i := 3) rfl, rfl, rfl⟩ f3 (f2 (He.ga K "PeerError", true) (List.mem_of_getElem? (i := 0) rfl)) (f2 (He.ga K "Absent", false) (List.mem_of_getElem? (i := 1) rfl)) k1 fun f H2 e2 hf hk => ?_
  exact h f H2 (e1.trans e2) (Ex.none e1 hf) hk
theorem said_view {a0 a1 a2 a3 : V} (hx : Hx K) (hd : ∀ (Q' : VK) (E' : XK), Rf K H "NoView" v E' → SP K n "_law_done" [a0, a1, a2, a3] H Q' E') (h : ∀ f H', Ex H H' → H f = none → H' f = some (.tup [.str "view", v, .bl true]) → Q (.ref f) H') : SP K (n+1) "_law_said" [a0, a1, a2, a3] H Q E := by
  refine o__law_said ?_
  unfold r__law_said
  obtain ⟨f1, f2, f3⟩ := xcX_ok hx.xNoView
  simp only [tTryW]
  refine tup_ (cons_ ?_)
  simp only [tC]
  refine cons_ ?_
  simp only [cCall, tCons, tNil, cVar, List.getElem?_cons_zero, List.getElem?_cons_succ]
  refine ⟨rfl, (by first | rfl | trivial), hd _ _ fun x H1 e1 k1 => ?_⟩
  refine ⟨false, f1 (He.ga K "NoName", false) (List.mem_of_getElem? (i := 0) rfl), (fun q => nomatch q), fun _ => ?_⟩
  refine ⟨false, f1 (He.ga K "NoPlace", false) (List.mem_of_getElem? (i := 1) rfl), (fun q => nomatch q), fun _ => ?_⟩
  refine ⟨false, f1 (He.ga K "NoNumber", false) (List.mem_of_getElem? (i := 2) rfl), (fun q => nomatch q), fun _ => ?_⟩
  refine ⟨false, f1 (He.ga K "NoWord", false) (List.mem_of_getElem? (i := 3) rfl), (fun q => nomatch q), fun _ => ?_⟩
  refine ⟨true, f1 (He.ga K "NoView", true) (List.mem_of_getElem? (i := 4) rfl), fun _ a ha => ?_, fun q => nomatch q⟩
  refine suite_ (c := He.ga K "NoView") (w := "view") (x := x) (v := v) rfl ⟨⟨"NoView", He.ga K "NoView", "found"⟩, by rw [xcs_all]; exact List.mem_of_getElem? (i := 5) rfl, rfl, rfl⟩ f3 (f2 (He.ga K "PeerError", true) (List.mem_of_getElem? (i := 0) rfl)) (f2 (He.ga K "Absent", false) (List.mem_of_getElem? (i := 1) rfl)) k1 fun f H2 e2 hf hk => ?_
  exact h f H2 (e1.trans e2) (Ex.none e1 hf) hk
theorem said_twice {a0 a1 a2 a3 : V} (hx : Hx K) (hd : ∀ (Q' : VK) (E' : XK), Rf K H "Twice" v E' → SP K n "_law_done" [a0, a1, a2, a3] H Q' E') (h : ∀ f H', Ex H H' → H f = none → H' f = some (.tup [.str "twice", v, .bl true]) → Q (.ref f) H') : SP K (n+1) "_law_said" [a0, a1, a2, a3] H Q E := by
  refine o__law_said ?_
  unfold r__law_said
  obtain ⟨f1, f2, f3⟩ := xcX_ok hx.xTwice
  simp only [tTryW]
  refine tup_ (cons_ ?_)
  simp only [tC]
  refine cons_ ?_
  simp only [cCall, tCons, tNil, cVar, List.getElem?_cons_zero, List.getElem?_cons_succ]
  refine ⟨rfl, (by first | rfl | trivial), hd _ _ fun x H1 e1 k1 => ?_⟩
  refine ⟨false, f1 (He.ga K "NoName", false) (List.mem_of_getElem? (i := 0) rfl), (fun q => nomatch q), fun _ => ?_⟩
  refine ⟨false, f1 (He.ga K "NoPlace", false) (List.mem_of_getElem? (i := 1) rfl), (fun q => nomatch q), fun _ => ?_⟩
  refine ⟨false, f1 (He.ga K "NoNumber", false) (List.mem_of_getElem? (i := 2) rfl), (fun q => nomatch q), fun _ => ?_⟩
  refine ⟨false, f1 (He.ga K "NoWord", false) (List.mem_of_getElem? (i := 3) rfl), (fun q => nomatch q), fun _ => ?_⟩
  refine ⟨false, f1 (He.ga K "NoView", false) (List.mem_of_getElem? (i := 4) rfl), (fun q => nomatch q), fun _ => ?_⟩
  refine ⟨true, f1 (He.ga K "Twice", true) (List.mem_of_getElem? (i := 5) rfl), fun _ a ha => ?_, fun q => nomatch q⟩
  refine suite_ (c := He.ga K "Twice") (w := "twice") (x := x) (v := v) rfl ⟨⟨"Twice", He.ga K "Twice", "found"⟩, by rw [xcs_all]; exact List.mem_of_getElem? (i := 6) rfl, rfl, rfl⟩ f3 (f2 (He.ga K "PeerError", true) (List.mem_of_getElem? (i := 0) rfl)) (f2 (He.ga K "Absent", false) (List.mem_of_getElem? (i := 1) rfl)) k1 fun f H2 e2 hf hk => ?_
  exact h f H2 (e1.trans e2) (Ex.none e1 hf) hk
theorem said_there {a0 a1 a2 a3 : V} (hx : Hx K) (hd : ∀ (Q' : VK) (E' : XK), Rf K H "NotThere" v E' → SP K n "_law_done" [a0, a1, a2, a3] H Q' E') (h : ∀ f H', Ex H H' → H f = none → H' f = some (.tup [.str "there", v, .bl true]) → Q (.ref f) H') : SP K (n+1) "_law_said" [a0, a1, a2, a3] H Q E := by
  refine o__law_said ?_
  unfold r__law_said
  obtain ⟨f1, f2, f3⟩ := xcX_ok hx.xNotThere
  simp only [tTryW]
  refine tup_ (cons_ ?_)
  simp only [tC]
  refine cons_ ?_
  simp only [cCall, tCons, tNil, cVar, List.getElem?_cons_zero, List.getElem?_cons_succ]
  refine ⟨rfl, (by first | rfl | trivial), hd _ _ fun x H1 e1 k1 => ?_⟩
  refine ⟨false, f1 (He.ga K "NoName", false) (List.mem_of_getElem? (i := 0) rfl), (fun q => nomatch q), fun _ => ?_⟩
  refine ⟨false, f1 (He.ga K "NoPlace", false) (List.mem_of_getElem? (i := 1) rfl), (fun q => nomatch q), fun _ => ?_⟩
  refine ⟨false, f1 (He.ga K "NoNumber", false) (List.mem_of_getElem? (i := 2) rfl), (fun q => nomatch q), fun _ => ?_⟩
  refine ⟨false, f1 (He.ga K "NoWord", false) (List.mem_of_getElem? (i := 3) rfl), (fun q => nomatch q), fun _ => ?_⟩
  refine ⟨false, f1 (He.ga K "NoView", false) (List.mem_of_getElem? (i := 4) rfl), (fun q => nomatch q), fun _ => ?_⟩
  refine ⟨false, f1 (He.ga K "Twice", false) (List.mem_of_getElem? (i := 5) rfl), (fun q => nomatch q), fun _ => ?_⟩
  refine ⟨true, f1 (He.ga K "NotThere", true) (List.mem_of_getElem? (i := 6) rfl), fun _ a ha => ?_, fun q => nomatch q⟩
  refine suite_ (c := He.ga K "NotThere") (w := "there") (x := x) (v := v) rfl ⟨⟨"NotThere", He.ga K "NotThere", "found"⟩, by rw [xcs_all]; exact List.mem_of_getElem? (i := 4) rfl, rfl, rfl⟩ f3 (f2 (He.ga K "Absent", true) (List.mem_of_getElem? (i := 1) rfl)) (f2 (He.ga K "PeerError", false) (List.mem_of_getElem? (i := 0) rfl)) k1 fun f H2 e2 hf hk => ?_
  exact h f H2 (e1.trans e2) (Ex.none e1 hf) hk
/-- nothing is refused -/
theorem said_told {H0 : Hp} {a0 a1 a2 a3 : V} (hd : ∀ (Q' : VK) (E' : XK), (∀ x H', Ex H0 H' → Q' x H') → SP K n "_law_done" [a0, a1, a2, a3] H Q' E') (h : ∀ f x H', Ex H0 H' → H' f = some (.tup [.str "told", x]) → Q (.ref f) H') : SP K (n+1) "_law_said" [a0, a1, a2, a3] H Q E := by
  refine o__law_said ?_
  unfold r__law_said
  simp only [tTryW]
  refine tup_ (cons_ ?_)
  simp only [tC]
  refine cons_ ?_
  simp only [cCall, tCons, tNil, cVar, List.getElem?_cons_zero, List.getElem?_cons_succ]
  refine ⟨rfl, (by first | rfl | trivial), hd _ _ fun x H1 e1 => ?_⟩
  exact ⟨by simp only [sizeLine_eq, List.length_cons, List.length_nil]; omega, fun f hf => h f x _ (e1.trans (Ex.refl.new hf)) upd_same⟩
/-- by the sort of what is refused -/
theorem said_bad {sort : Str} {a0 a1 a2 a3 : V} (hx : Hx K) (hs : sort ∈ sorts) (hd : ∀ (Q' : VK) (E' : XK), Rf K H (cn sort) v E' → SP K n "_law_done" [a0, a1, a2, a3] H Q' E') (h : ∀ f H', Ex H H' → H f = none → H' f = some (.tup [.str sort, v, .bl true]) → Q (.ref f) H') : SP K (n+1) "_law_said" [a0, a1, a2, a3] H Q E := by
  simp only [sorts, List.mem_cons, List.not_mem_nil, or_false] at hs
  rcases hs with rfl | rfl | rfl | rfl | rfl | rfl
  · exact said_name hx hd h
  · exact said_place hx hd h
  · exact said_number hx hd h
  · exact said_word hx hd h
  · exact said_there hx hd h
  · exact said_view hx hd h
end
end WR.L

set_option Elab.async false
set_option linter.all false
set_option maxRecDepth 100000
set_option maxHeartbeats 4000000
namespace WR.L
open PySem PySem.Spec PyProof.Rows L2
section
variable {K : PySem.W.Frag} {n : Nat} {H H' : Hp} {Q : VK} {E : XK} {v : V} {nms : List Str} {C : Int} {own s1 s2 : Str} {rs : RwG R3}
theorem tup2_ {t : Addr} {i j : Nat} {x y : V} {σ : L2.St} {R : L2.St → Hp → Prop} (h : look K H t = some (.tup [x, y])) (q : R ((σ.set i (some x)).set j (some y)) H) : cTupG K 2 (gCons (gName i) (gCons (gName j) gNil)) (.ref t) σ H R := by
  simp only [cTupG, h, gCons, gName, gNil]
  exact ⟨rfl, _, _, rfl, _, _, rfl, rfl, q⟩
theorem set_lst {a : Addr} {xs : List V} {i : Nat} {v : V} {R : Hp → Prop} (h : H a = some (.lst xs)) (hi : i < xs.length) (q : R (upd H a (.lst (xs.set i v)))) : oSet (.ref a) (.int (i : Int)) v H R := by
  have e : ixN xs.length (i : Int) = some i := by
    unfold ixN
    simp [hi]
  simp only [oSet, h, e]
  exact q
/-! ## what stays where one list is written -/
section
variable {T : Addr} {ws ws' : List V}
theorem ls_keep {a : Addr} {o : HO} (hT : H T = some (.lst ws)) (h : H a = some o) (ho : ∀ xs, o ≠ .lst xs) : upd H T (.lst ws') a = some o := by
  have : a ≠ T := fun z => by rw [z, hT] at h; cases h; exact ho _ rfl
  rw [upd_ne this]; exact h
theorem ls_tp (hT : H T = some (.lst ws)) : Tp H (upd H T (.lst ws')) := fun t xs e => ls_keep hT e (fun _ z => nomatch z)
theorem VAt.ls {p d : Addr} (hT : H T = some (.lst ws)) (W : VAt K H p d own rs) : VAt K (upd H T (.lst ws')) p d own rs := by
  obtain ⟨⟨dx, hp⟩, kvs, hd, r⟩ := W
  exact ⟨⟨dx, ls_keep hT hp (fun _ z => nomatch z)⟩, kvs, ls_keep hT hd (fun _ z => nomatch z), r.tp (ls_tp hT)⟩
theorem WrAt.ls {p d : Addr} {wr : RwG R2w} (hT : H T = some (.lst ws)) (W : WrAt K H p d wr) : WrAt K (upd H T (.lst ws')) p d wr := by
  obtain ⟨⟨dx, hp⟩, kvs, hd, r⟩ := W
  exact ⟨⟨dx, ls_keep hT hp (fun _ z => nomatch z)⟩, kvs, ls_keep hT hd (fun _ z => nomatch z), r.tp (ls_tp hT)⟩
theorem Kd.ls {m : String} (hT : H T = some (.lst ws)) (k : Kd K H v m) : Kd K (upd H T (.lst ws')) v m := by
  cases k with
  | non => exact .non
  | bl b => exact .bl b
  | int i => exact .int i
  | str s => exact .str s
  | @lst a xs h =>
    by_cases z : a = T
    · subst z; exact .lst (xs := ws') upd_same
    · exact .lst (by rw [upd_ne z]; exact h)
  | tup h => exact .tup (ls_keep hT h (fun _ z => nomatch z))
  | dK h => exact .dK (ls_keep hT h (fun _ z => nomatch z))
  | own hx h => exact .own hx (ls_keep hT h (fun _ z => nomatch z))
theorem BadOf.ls {sort : Str} (hT : H T = some (.lst ws)) (b : BadOf K own rs sort H v) : BadOf K own rs sort (upd H T (.lst ws')) v := by
  rcases b with ⟨e, b⟩ | ⟨e, b⟩ | ⟨e, b⟩ | ⟨e, b⟩ | ⟨e, b⟩ | ⟨e, b⟩
  · exact .inl ⟨e, b.elim .inl fun ⟨m, k, h⟩ => .inr ⟨m, k.ls hT, h⟩⟩
  · exact .inr (.inl ⟨e, b.elim .inl fun ⟨m, k, h⟩ => .inr ⟨m, k.ls hT, h⟩⟩)
  · exact .inr (.inr (.inl ⟨e, b.elim .inl fun ⟨m, k, h⟩ => .inr ⟨m, k.ls hT, h⟩⟩))
  · exact .inr (.inr (.inr (.inl ⟨e, b.elim .inl fun ⟨m, k, h⟩ => .inr ⟨m, k.ls hT, h⟩⟩)))
  · exact .inr (.inr (.inr (.inr (.inl ⟨e, b.elim .inl fun ⟨m, k, h⟩ => .inr ⟨m, k.ls hT, h⟩⟩))))
  · refine .inr (.inr (.inr (.inr (.inr ⟨e, ?_⟩))))
    rcases b with ⟨m, k, h⟩ | ⟨p, dx, fs, rfl, hp⟩
    · exact .inl ⟨m, k.ls hT, h⟩
    · exact .inr ⟨p, dx, fs, rfl, ls_keep hT hp (fun _ z => nomatch z)⟩
/-- the list that is written is no part of a nest -/
def NoNest (H : Hp) (ws : List V) : Prop := ws ≠ [.int 0] ∧ ∀ b xs, ws = [.ref b] → H b ≠ some (.lst xs)
theorem NestL.ne (hT : H T = some (.lst ws)) (hw : NoNest H ws) : ∀ {k : Nat} {a : Addr}, NestL H k a → a ≠ T
  | 0, a, h => fun z => by
    subst z
    have h : H a = some (.lst [.int 0]) := h
    rw [hT] at h
    cases h
    exact hw.1 rfl
  | k + 1, a, ⟨b, h, q⟩ => fun z => by
    subst z
    rw [hT] at h
    cases h
    cases k with
    | zero => exact hw.2 b _ rfl q
    | succ k => obtain ⟨c, q1, _⟩ := q; exact hw.2 b _ rfl q1
theorem NestL.ls (hT : H T = some (.lst ws)) (hw : NoNest H ws) : ∀ {k : Nat} {a : Addr}, NestL H k a → NestL (upd H T (.lst ws')) k a
  | 0, a, h => by
    have ne := NestL.ne hT hw (k := 0) h
    show upd H T (.lst ws') a = _
    rw [upd_ne ne]; exact h
  | k + 1, a, ⟨b, h, q⟩ => by
    have ne := NestL.ne hT hw (k := k + 1) ⟨b, h, q⟩
    exact ⟨b, by rw [upd_ne ne]; exact h, NestL.ls hT hw q⟩
theorem Odd.ls (hT : H T = some (.lst ws)) (hw : NoNest H ws) (hv : v ≠ .ref T) (o : Odd K H v) : Odd K (upd H T (.lst ws')) v := by
  cases o with
  | non => exact .non
  | bl b => exact .bl b
  | int i => exact .int i
  | str s => exact .str s
  | @lst a s h => exact .lst (s := s) (by rw [upd_ne (fun z => hv (by rw [z]))]; exact h)
  | nest h => exact .nest (h.ls hT hw)
  | tup h => exact .tup (ls_keep hT h (fun _ z => nomatch z))
  | dE h => exact .dE (ls_keep hT h (fun _ z => nomatch z))
  | dT h hl nd hok =>
    obtain ⟨kvs, hd, r⟩ := h
    exact .dT ⟨kvs, ls_keep hT hd (fun _ z => nomatch z), r.tp (ls_tp hT)⟩ hl nd hok
  | wr h => exact .wr (h.ls hT)
  | eye h hl nd w => exact .eye (h.ls hT) hl nd w
end
theorem Odd.tr {a : Addr} (o : Odd K H (.ref a)) : ∃ u, H a = some u := by
  cases o with
  | lst h => exact ⟨_, h⟩
  | nest h => obtain ⟨b, h, _⟩ := h; exact ⟨_, h⟩
  | tup h => exact ⟨_, h⟩
  | dE h => exact ⟨_, h⟩
  | dT h => obtain ⟨kvs, h, _⟩ := h; exact ⟨_, h⟩
  | wr h => obtain ⟨⟨dx, h⟩, _⟩ := h; exact ⟨_, h⟩
  | eye h => obtain ⟨⟨dx, h⟩, _⟩ := h; exact ⟨_, h⟩
/-- a new list, or none -/
def Fl (H1 H : Hp) (T : Addr) (w : V) : Prop := ∀ a, w = .ref a → (H1 a = none ∧ a ≠ T) ∨ ∃ o, H a = some o ∧ ∀ xs, o ≠ .lst xs
theorem Fl.ex {H1 : Hp} {T : Addr} (x : Ex H H') (f : Fl H1 H T v) : Fl H1 H' T v := fun a z => (f a z).imp id fun ⟨o, h, q⟩ => ⟨o, x _ _ h, q⟩
theorem Fl.ls {H1 : Hp} {T : Addr} {ws ws' : List V} (hT : H T = some (.lst ws)) (f : Fl H1 H T v) : Fl H1 (upd H T (.lst ws')) T v := fun a z => (f a z).imp id fun ⟨o, h, q⟩ => ⟨o, ls_keep hT h q, q⟩
theorem Fl.ne {H1 : Hp} {T : Addr} {ws : List V} (hT : H T = some (.lst ws)) (f : Fl H1 H T v) : v ≠ .ref T := fun z => by
  rcases f T z with ⟨_, q⟩ | ⟨o, h, q⟩
  · exact q rfl
  · rw [hT] at h; cases h; exact q _ rfl
/-- between two of the things -/
structure As (K : PySem.W.Frag) (H1 H : Hp) (way : Int) (r : List (Str × V)) (own : Str) (rs : RwG R3) (T : Addr) (i : Nat) (due : V) (ws : List V) : Prop where
  ex : Ex H1 H
  tl : H T = some (.lst ws)
  nt : H1 T = none
  len : ws.length = r.length
  rest : ∀ (j : Nat) (x : Str × V) (w : V), i ≤ j → r[j]? = some x → ws[j]? = some w → w = x.2
  due : (due = .non ∧ ∀ (j : Nat) (x : Str × V) (w : V), r[j]? = some x → ws[j]? = some w → w = x.2) ∨ ∃ (i0 : Nat) (t : Addr) (x : Str × V) (w : V), i0 < i ∧ due = .ref t ∧ H t = some (.tup [.str x.1, w]) ∧ r[i0]? = some x ∧ ws[i0]? = some w ∧ Odd K H w ∧ BadOf K own rs x.1 H w ∧ Fl H1 H T w ∧ ∀ (j : Nat) (x : Str × V) (w : V), r[j]? = some x → ws[j]? = some w → (if way = 5 then i0 < j else j < i0) → w = x.2
variable {H1 : Hp} {way : Int} {r : List (Str × V)} {T : Addr} {i : Nat} {due : V} {ws : List V}
theorem As.up (A : As K H1 H way r own rs T i due ws) (x : Ex H H') : As K H1 H' way r own rs T i due ws :=
  ⟨A.ex.trans x, x _ _ A.tl, A.nt, A.len, A.rest, A.due.imp id fun ⟨i0, t, y, w, a1, a2, a3, a4, a5, a6, a7, a8, a9⟩ => ⟨i0, t, y, w, a1, a2, x _ _ a3, a4, a5, a6.ex x, by
    rcases a7 with ⟨e, b⟩ | ⟨e, b⟩ | ⟨e, b⟩ | ⟨e, b⟩ | ⟨e, b⟩ | ⟨e, b⟩
    · exact .inl ⟨e, b.ex x⟩
    · exact .inr (.inl ⟨e, b.ex x⟩)
    · exact .inr (.inr (.inl ⟨e, b.ex x⟩))
    · exact .inr (.inr (.inr (.inl ⟨e, b.ex x⟩)))
    · exact .inr (.inr (.inr (.inr (.inl ⟨e, b.elim .inl fun ⟨m, k, h⟩ => .inr ⟨m, k.ex x, h⟩⟩))))
    · exact .inr (.inr (.inr (.inr (.inr ⟨e, b.elim (fun ⟨m, k, h⟩ => .inl ⟨m, k.ex x, h⟩) fun ⟨p, dx, fs, q, h⟩ => .inr ⟨p, dx, fs, q, x _ _ h⟩⟩)))), a8.ex x, a9⟩⟩
theorem As.next (A : As K H1 H way r own rs T i due ws) : As K H1 H way r own rs T (i+1) due ws :=
  ⟨A.ex, A.tl, A.nt, A.len, fun j x w hj => A.rest j x w (by omega), A.due.imp id fun ⟨i0, t, y, w, a1, a⟩ => ⟨i0, t, y, w, by omega, a⟩⟩
/-- the rest of it where the thing i is put otherwise -/
theorem As.put_rest (A : As K H1 H way r own rs T i due ws) : ∀ j x w, i + 1 ≤ j → r[j]? = some x → (ws.set i v)[j]? = some w → w = x.2 := fun j x w hj hx hw => by
  rw [List.getElem?_set_ne (by omega)] at hw
  exact A.rest j x w (by omega) hx hw
theorem As.keep (A : As K H1 H way r own rs T i due ws) (hw : NoNest H ws) (hw5 : way ≠ 5) (hd : due ≠ .non) : As K H1 (upd H T (.lst (ws.set i v))) way r own rs T (i+1) due (ws.set i v) := by
  refine ⟨A.ex.new A.nt, upd_same, A.nt, by rw [List.length_set]; exact A.len, A.put_rest, ?_⟩
  rcases A.due with ⟨a, _⟩ | ⟨i0, t, y, w, a1, a2, a3, a4, a5, a6, a7, a8, a9⟩
  · exact absurd a hd
  · refine .inr ⟨i0, t, y, w, by omega, a2, ls_keep A.tl a3 (fun _ z => nomatch z), a4, ?_, a6.ls A.tl hw (a8.ne A.tl), a7.ls A.tl, a8.ls A.tl, fun j x w' hx hw' c => ?_⟩
    · rw [List.getElem?_set_ne (by omega)]; exact a5
    · rw [if_neg hw5] at c
      rw [List.getElem?_set_ne (by omega)] at hw'
      exact a9 j x w' hx hw' (by rw [if_neg hw5]; exact c)
theorem As.put {x : Str × V} {t : Addr} (A : As K H1 H way r own rs T i due ws) (hw : NoNest H ws) (hx : r[i]? = some x) (hi : i < ws.length) (o : Odd K H v) (b : BadOf K own rs x.1 H v) (f : Fl H1 H T v) (hc : due = .non ∨ way = 5) (ht : (upd H T (.lst (ws.set i v))) t = none) :
    As K H1 (upd (upd H T (.lst (ws.set i v))) t (.tup [.str x.1, v])) way r own rs T (i+1) (.ref t) (ws.set i v) := by
  have e1 : Ex (upd H T (.lst (ws.set i v))) (upd (upd H T (.lst (ws.set i v))) t (.tup [.str x.1, v])) := Ex.refl.new ht
  refine ⟨(A.ex.new A.nt).trans e1, e1 _ _ upd_same, A.nt, by rw [List.length_set]; exact A.len, A.put_rest, .inr ⟨i, t, x, v, by omega, rfl, upd_same, hx, List.getElem?_set_self hi, (o.ls A.tl hw (f.ne A.tl)).ex e1, ?_, (f.ls A.tl).ex e1, fun j y w' hy hw' c => ?_⟩⟩
  · have b' := b.ls (ws' := ws.set i v) A.tl
    rcases b' with ⟨e, b⟩ | ⟨e, b⟩ | ⟨e, b⟩ | ⟨e, b⟩ | ⟨e, b⟩ | ⟨e, b⟩
    · exact .inl ⟨e, b.ex e1⟩
    · exact .inr (.inl ⟨e, b.ex e1⟩)
    · exact .inr (.inr (.inl ⟨e, b.ex e1⟩))
    · exact .inr (.inr (.inr (.inl ⟨e, b.ex e1⟩)))
    · exact .inr (.inr (.inr (.inr (.inl ⟨e, b.elim .inl fun ⟨m, k, h⟩ => .inr ⟨m, k.ex e1, h⟩⟩))))
    · exact .inr (.inr (.inr (.inr (.inr ⟨e, b.elim (fun ⟨m, k, h⟩ => .inl ⟨m, k.ex e1, h⟩) fun ⟨p, dx, fs, q, h⟩ => .inr ⟨p, dx, fs, q, e1 _ _ h⟩⟩))))
  · by_cases z : way = 5
    · rw [if_pos z] at c
      rw [List.getElem?_set_ne (by omega)] at hw'
      exact A.rest j y w' (by omega) hy hw'
    · rw [if_neg z] at c
      rw [List.getElem?_set_ne (by omega)] at hw'
      rcases A.due with ⟨_, a⟩ | ⟨i0, t, y, w, a1, a2, _⟩
      · exact a j y w' hy hw'
      · rcases hc with hc | hc
        · rw [hc] at a2; cases a2
        · exact absurd hc z
end
end WR.L

set_option Elab.async false
set_option linter.all false
set_option maxRecDepth 100000
set_option maxHeartbeats 4000000
namespace WR.L
open PySem PySem.Spec PyProof.Rows L2
section
variable {K : PySem.W.Frag} {n : Nat} {H H' : Hp} {Q : VK} {E : XK} {v : V} {nms : List Str} {C : Int} {own s1 s2 u4 : Str} {rs : RwG R3} {way cell : Int}
theorem rows_sorts {c u : V} {s1 : Str} : ∀ x ∈ rowsOf way c u s1, x.1 ∈ sorts := by
  intro x hx
  unfold rowsOf at hx
  by_cases w0 : way = 0
  · rw [if_pos w0] at hx; simp only [List.mem_cons, List.not_mem_nil, or_false] at hx
    rcases hx with rfl | rfl | rfl <;> simp [sorts]
  rw [if_neg w0] at hx
  by_cases w1 : way = 1
  · rw [if_pos w1] at hx; simp only [List.mem_cons, List.not_mem_nil, or_false] at hx
    rcases hx with rfl | rfl | rfl | rfl <;> simp [sorts]
  rw [if_neg w1] at hx
  by_cases w2 : way = 2
  · rw [if_pos w2] at hx; simp only [List.mem_cons, List.not_mem_nil, or_false] at hx
    rcases hx with rfl; simp [sorts]
  rw [if_neg w2] at hx
  by_cases w3 : way = 3
  · rw [if_pos w3] at hx; simp only [List.mem_cons, List.not_mem_nil, or_false] at hx
    rcases hx with rfl; simp [sorts]
  rw [if_neg w3] at hx
  by_cases w4 : way = 4 ∨ way = 5
  · rw [if_pos w4] at hx; simp only [List.mem_cons, List.not_mem_nil, or_false] at hx
    rcases hx with rfl | rfl <;> simp [sorts]
  rw [if_neg w4] at hx
  simp only [List.mem_cons, List.not_mem_nil, or_false] at hx
  rcases hx with rfl; simp [sorts]
theorem rows_len {c u : V} {s1 : Str} : (rowsOf way c u s1).length ≤ 4 := by
  unfold rowsOf
  repeat' split
  all_goals simp
/-- where there is one thing alone, it is a text or a view -/
theorem rows_nest {H0 : Hp} {c u : V} (G : GoodW K H0 H way c u own s2 rs) {ws : List V} {i : Nat} (hl : ws.length = (rowsOf way c u s1).length) (hi : i < ws.length) (hr : ∀ (j : Nat) (x : Str × V) (w : V), i ≤ j → (rowsOf way c u s1)[j]? = some x → ws[j]? = some w → w = x.2) : NoNest H ws := by
  by_cases h2 : 2 ≤ ws.length
  · exact ⟨fun z => by rw [z] at h2; simp at h2, fun b xs z => by rw [z] at h2; simp at h2⟩
  have h1 : ws.length = 1 := by omega
  obtain ⟨a, rfl⟩ := ws1 h1
  have i0 : i = 0 := by omega
  subst i0
  have one : ∀ x, rowsOf way c u s1 = [x] → a = x.2 := fun x hx => hr 0 x a (Nat.le_refl _) (by rw [hx]; rfl) rfl
  by_cases w0 : way = 0
  · unfold rowsOf at hl; rw [if_pos w0] at hl; simp at hl
  by_cases w1 : way = 1
  · unfold rowsOf at hl; rw [if_neg w0, if_pos w1] at hl; simp at hl
  by_cases w2 : way = 2
  · have := one ("there", .str s1) (by unfold rowsOf; rw [if_neg w0, if_neg w1, if_pos w2])
    subst this
    exact ⟨fun z => by simp at z, fun b xs z => by simp at z⟩
  by_cases w3 : way = 3
  · have := one ("view", u) (by unfold rowsOf; rw [if_neg w0, if_neg w1, if_neg w2, if_pos w3])
    subst this
    obtain ⟨p, d, rfl, ⟨⟨dx, hp⟩, _⟩, _⟩ := G.1 (.inl w3)
    exact ⟨fun z => by simp at z, fun b xs z q => by simp at z; subst z; rw [hp] at q; cases q⟩
  by_cases w4 : way = 4 ∨ way = 5
  · unfold rowsOf at hl; rw [if_neg w0, if_neg w1, if_neg w2, if_neg w3, if_pos w4] at hl; simp at hl
  have := one ("name", .str s1) (by unfold rowsOf; rw [if_neg w0, if_neg w1, if_neg w2, if_neg w3, if_neg w4])
  subst this
  exact ⟨fun z => by simp at z, fun b xs z => by simp at z⟩
theorem var_ {i : Nat} {x : V} {σ : L2.St} (h : σ[i]? = some (some x)) (q : Q x H) : cVar i σ H Q := by
  simp only [cVar, h]; exact q
theorem things_lc {σ : L2.St} {L : Addr} {r : List (Str × V)} (hσ : σ[5]? = some (some (.ref L))) (hl : RowsAt H L r) (hr : r.length ≤ 4) (h11 : 11 < σ.length) (h12 : 12 < σ.length) (h : ∀ D H', Ex H H' → H D = none → H' D = some (.lst (r.map (·.2))) → Q (.ref D) H') : cLc (cIter K (frzE (cVar 5))) (cTupG K 2 (gCons (gName 11) (gCons (gName 12) gNil))) tYes (cVar 12) [11, 12] σ H Q := by
  obtain ⟨ts, hL, lt, ht⟩ := hl
  simp only [cLc, cIter, frzE, cVar, hσ, hL, look_of_lst (K := K) hL]
  intro D hD
  refine lpc_inv (n := ts.length) (fun k H' => Ex H H' ∧ H' D = some (.lst ((r.take k).map (·.2)))) ?_ ?_ ⟨Ex.refl.new hD, upd_same⟩
  · rintro H1 ⟨e, k⟩
    refine ⟨itl_stop (e _ _ hL) (by simp), h D H1 e hD ?_⟩
    rw [k, List.take_of_length_le (by omega)]
  · rintro k H1 hk ⟨e, kD⟩ R hR
    refine ⟨itl_go (e _ _ hL) (by simpa using hk), ?_⟩
    intro x H2 hy
    obtain ⟨rfl, hx2⟩ := itl_yld (e _ _ hL) hy
    rw [List.getElem?_map, List.getElem?_eq_getElem hk] at hx2
    cases hx2
    have hk' : k < r.length := by omega
    have htk := e _ _ (ht k ts[k] r[k] (by simp [hk]) (by simp [hk']))
    refine tup2_ (look_of_tup htk) ⟨?_, yes_ ?_⟩
    · simp only [wipe, List.foldl_cons, List.foldl_nil]
      apply List.ext_getElem?
      intro j
      simp only [List.getElem?_set, List.length_set]
      by_cases a : 12 = j
      · subst a; simp
      · by_cases b : 11 = j
        · subst b; simp
        · simp [a, b]
    · have e12 : (((wipe σ [11, 12]).set 11 (some (V.str (r[k]).1))).set 12 (some (r[k]).2))[12]? = some (some (r[k]).2) := by
        rw [List.getElem?_set_self]
        simp only [List.length_set, wipe, List.foldl_cons, List.foldl_nil]
        exact h12
      refine var_ e12 ?_
      refine ⟨_, kD, by rw [List.length_map, List.length_take]; exact small1000 (by omega), hR _ ⟨e.new hD, ?_⟩⟩
      rw [upd_same, List.take_succ_eq_append_getElem hk', List.map_append]
      rfl
end
end WR.L

set_option Elab.async false
set_option linter.all false
set_option maxRecDepth 100000
set_option maxHeartbeats 4000000
namespace WR.L
open PySem PySem.Spec PyProof.Rows L2
section
variable {K : PySem.W.Frag} {n : Nat} {H H' : Hp} {Q : VK} {E : XK} {v : V} {nms : List Str} {C : Int} {own s1 s2 u4 : Str} {rs : RwG R3} {way cell : Int}
theorem fl_of {H1 H4 H5 : Hp} {T : Addr} {ws : List V} (x1 : Ex H1 H4) (hT : H4 T = some (.lst ws)) (o : Odd K H5 v) (fl : ∀ a xs, v = .ref a → H5 a = some (.lst xs) → H4 a = none) : Fl H1 H5 T v := by
  rintro a rfl
  obtain ⟨u, hu⟩ := o.tr
  cases u with
  | lst xs =>
    have := fl a xs rfl hu
    exact .inl ⟨Ex.none x1 this, fun z => by rw [z, hT] at this; cases this⟩
  | _ => exact .inr ⟨_, hu, fun xs z => nomatch z⟩
theorem s_law_asked {p d nl w dw : Addr} {wr : RwG R2w} {r1 : R3} (hx : Hx K) (W : VAt K H p d own rs) (g : GdR nms C own rs) (h5 : nms.length = 5) (hn : ∀ s ∈ nms, isNm s = true) (hC : 1 ≤ C) (hC2 : C ≤ 10 ^ 9) (hnl : H nl = some (.lst (nms.map V.str))) (h0 : nms[0]? = some own) (h1 : nms[1]? = some s1) (h2 : nms[2]? = some s2) (h4 : nms[4]? = some u4) (hu4 : gget rs u4 = none)
    (ne1 : s1 ≠ own) (ne2 : own ≠ s2) (hk1 : gget rs s1 = some r1) (Ww : WrAt K H w dw wr) (hwl : wr.length ≤ 900) (hw : 0 ≤ way) (h : ∀ H', Ex H H' → Q (.bl true) H') : SP K (n+15) "_law_asked" [.int way, .ref nl, .ref p, .ref w, .int cell] H Q E := by
  refine o__law_asked ?_
  unfold r__law_asked
  have hown := hn own (List.mem_of_getElem? h0)
  have hs1 := hn s1 (List.mem_of_getElem? h1)
  have hm1 := List.mem_of_getElem? h1
  have hm2 := List.mem_of_getElem? h2
  refine seq_ fun N1 n1 => ?_
  simp only [tAsg, cCall, tCons, tNil, cVar, List.getElem?_cons_zero, List.getElem?_cons_succ]
  refine ⟨rfl, (by first | rfl | trivial), s_law_good (n := n + 8) W g hn hown hnl h1 h2 fun L c u H1 e1 RA G => n1 _ _ (seq_ fun N2 n2 => .inl ?_)⟩
  simp only [tAsg]
  refine things_lc (r := rowsOf way c u s1) rfl RA rows_len (by simp) (by simp) fun TL H2 e2 hTL k2 => n2 _ _ (seq_ fun N3 n3 => ?_)
  simp only [tAsg, tC, gName, List.set_cons_zero, List.set_cons_succ]
  refine n3 _ _ (seq_ fun N4 n4 => .inl ?_)
  generalize hr : rowsOf way c u s1 = r at RA k2
  have r4 : r.length ≤ 4 := by rw [← hr]; exact rows_len
  have rso : ∀ x ∈ r, x.1 ∈ sorts := by rw [← hr]; exact rows_sorts
  have all2 : ∀ (j : Nat) (x : Str × V) (w : V), r[j]? = some x → (r.map (·.2))[j]? = some w → w = x.2 := fun j x w a b => by
    rw [List.getElem?_map, a] at b
    exact (Option.some.inj b).symm
  have A0 : As K H1 H2 way r own rs TL 0 .non (r.map (·.2)) := ⟨e2, k2, hTL, by simp, fun j x w _ => all2 j x w, .inl ⟨rfl, all2⟩⟩
  obtain ⟨ts, hL, lt, ht⟩ := RA
  simp only [cFor, cEnum, tCons, tNil, cVar, List.getElem?_cons_zero, List.getElem?_cons_succ, look_of_lst (K := K) (e2 _ _ hL)]
  refine lp_inv (n := ts.length) (fun i σ H' => ∃ v9 v10 due ws, σ = [some (.int way), some (.ref nl), some (.ref p), some (.ref w), some (.int cell), some (.ref L), some (.ref TL), some due, none, v9, v10, none, none] ∧ As K H1 H' way r own rs TL i due ws) ?_ ?_ ⟨none, none, .non, _, rfl, A0⟩
  · rintro σ H3 ⟨v9, v10, due, ws, rfl, A⟩
    refine ⟨⟨_, look_lst (look_of_lst (A.ex _ _ hL)), by simp⟩, n4 _ _ (seq_ fun N5 n5 => ?_)⟩
    have x3 := e1.trans A.ex
    have W3 := W.ex x3
    have Ww3 := Ww.ex x3
    have G3 := G.ex A.ex
    simp only [tAsg, cCall, tCons, tNil, cVar, List.getElem?_cons_zero, List.getElem?_cons_succ]
    rcases A.due with ⟨rfl, all⟩ | ⟨i0, t, x, wv, a1, rfl, a3, a4, a5, a6, a7, a8, a9⟩
    · have ew : ws = (rowsOf way c u s1).map (·.2) := by
        rw [hr]
        refine List.ext_getElem (by rw [List.length_map, A.len]) fun j p1 p2 => ?_
        have p3 : j < r.length := by rw [← A.len]; exact p1
        rw [List.getElem_map]
        exact all j r[j] ws[j] (by simp [p3]) (by simp [p1])
      refine ⟨rfl, (by first | rfl | trivial), said_told (n := n + 13) (H0 := H) (fun Q' E' q => s_done_good (n := n + 6) W3 g h5 hn hC hown hm1 hm2 Ww3 hwl ne1 ne2 hk1 hw x3 G3 (by rw [← ew]; exact A.tl) q) fun f x H4 x4 k4 => n5 _ _ (seq_ fun N6 n6 => ifS_ fun A1 B1 hA hB => ?_)⟩
      simp only [cTest, tOp, tC, cVar, gName, oIs, decide_true, if_true, List.set_cons_zero, List.set_cons_succ, List.getElem?_cons_zero, List.getElem?_cons_succ]
      refine hA _ ?_
      simp only [tRet, tOp, tC, cVar, List.set_cons_zero, List.set_cons_succ, List.getElem?_cons_zero, List.getElem?_cons_succ]
      rw [ix_tup (look_of_tup k4) (v := .str "told") rfl]
      refine eq_scal rfl rfl rfl ?_
      exact h H4 x4
    · refine ⟨rfl, (by first | rfl | trivial), said_bad (n := n + 13) (v := wv) hx (rso x (List.mem_of_getElem? a4)) (fun Q' E' q => s_done_bad (n := n + 6) (s1 := s1) (i := i0) hx.aW W3 g hown hs1 Ww3 hw G3 A.tl (by rw [hr]; exact ⟨A.len, ⟨x, wv, a4, a5, a7⟩, a9⟩) fun x' v' q1 q2 => ?_) fun f H4 e4 hf k4 => n5 _ _ (seq_ fun N6 n6 => ifS_ fun A1 B1 hA hB => ?_)⟩
      · rw [hr, a4] at q1
        rw [a5] at q2
        cases q1; cases q2
        exact q
      simp only [cTest, tOp, tC, cVar, gName, oIs, reduceCtorEq, decide_false, Bool.false_eq_true, if_false, List.set_cons_zero, List.set_cons_succ, List.getElem?_cons_zero, List.getElem?_cons_succ]
      refine hB _ ?_
      simp only [tNext]
      refine n6 _ _ ?_
      simp only [tRet, cAnd, tOp, tC, cVar, List.set_cons_zero, List.set_cons_succ, List.getElem?_cons_zero, List.getElem?_cons_succ]
      rw [ix_tup (look_of_tup k4) (v := .str x.1) rfl, ix_tup (look_of_tup (e4 _ _ a3)) (v := .str x.1) rfl]
      refine eq_scal rfl rfl rfl ?_
      simp only [decide_true, oTru, cUn, tC]
      rw [ix_tup (look_of_tup k4) (v := .bl true) rfl]
      simp only [oIs, decide_true, oTru, cCall, tCons, tNil, tOp, tC, cVar, List.getElem?_cons_zero, List.getElem?_cons_succ]
      rw [ix_tup (look_of_tup k4) (v := wv) rfl, ix_tup (look_of_tup (e4 _ _ a3)) (v := wv) rfl]
      refine ⟨rfl, (by first | rfl | trivial), s_law_same (n := n) hx.oV hx.oW hx.aW hx.aV (a6.ex e4) fun H' q => h H' ?_⟩
      rcases q with q | ⟨a, xs, rfl, q1, q2⟩
      · exact (x3.trans e4).trans q
      · have ha : H a = none := by
          rcases a8 a rfl with ⟨z, _⟩ | ⟨o, z, zz⟩
          · exact Ex.none e1 z
          · rw [e4 _ _ z] at q1; cases q1; exact absurd rfl (zz _)
        exact fun b o e => q2 b o (ne_of_none e ha) (e4 _ _ (x3 _ _ e))
  · rintro i σ H3 hi ⟨v9, v10, due, ws, rfl, A⟩ R hR
    have hL3 := A.ex _ _ hL
    have hir : i < r.length := by omega
    have hiw : i < ws.length := by rw [A.len]; exact hir
    refine ⟨⟨ts.map V.ref, .ref ts[i], look_lst (look_of_lst hL3), by simp [hi]⟩, ?_⟩
    rintro x H4 ⟨U, y, rfl, hU, rfl, hy⟩
    have hy2 := hy _ (look_lst (look_of_lst hL3))
    rw [List.getElem?_map, List.getElem?_eq_getElem hi] at hy2
    cases hy2
    have e4 : Ex H3 (upd H3 U (.tup [.int (i : Nat), .ref ts[i]])) := Ex.refl.new hU
    have k4 : (upd H3 U (.tup [.int (i : Nat), .ref ts[i]])) U = some (.tup [.int (i : Nat), .ref ts[i]]) := upd_same
    generalize upd H3 U (.tup [.int (i : Nat), .ref ts[i]]) = H4 at e4 k4 ⊢
    have A4 := A.up e4
    have hri : r[i]? = some r[i] := by simp [hir]
    have kt := A4.ex _ _ (ht i ts[i] r[i] (by simp [hi]) hri)
    refine tup2_ (look_of_tup k4) ?_
    simp only [List.set_cons_zero, List.set_cons_succ]
    refine ifS_ fun A1 B1 hA hB => ?_
    have goB : B1 H4 := hB _ (by
      simp only [tNext]
      exact hR _ _ ⟨_, _, due, ws, rfl, A4.next⟩)
    have goA : A1 H4 := hA _ (seq_ fun N6 n6 => by
      simp only [tAsg, cCall, tCons, tNil, tOp, tC, cVar, List.getElem?_cons_zero, List.getElem?_cons_succ]
      rw [ix_tup (look_of_tup kt) (v := .str (r[i]).1) rfl]
      refine ⟨cmul_of (by decide) (by omega), ?_⟩
      simp only [oAdd]
      have x4 := e1.trans A4.ex
      refine ⟨cdiv_of (by omega) (by omega), rfl, (by first | rfl | trivial), s_law_bad (n := n + 10) hx.oV hx.oW (W.ex x4) g h5 hn hC2 (x4 _ _ hnl) h0 h4 hu4 (rso _ (List.getElem_mem hir)) fun v H5 e5 od bd fl => ?_⟩
      have A5 := A4.up e5
      have f := fl_of A4.ex A4.tl od fl
      have hnn : NoNest H5 ws := rows_nest (G.ex A5.ex) (by rw [hr]; exact A.len) hiw (by rw [hr]; exact A.rest)
      simp only [gSub, cVar, List.getElem?_cons_zero, List.getElem?_cons_succ]
      refine set_lst A5.tl hiw (n6 _ _ (ifS_ fun A2 B2 hA2 hB2 => ?_))
      simp only [tOr, cTest, tOp, tC, cVar, oIs, List.getElem?_cons_zero, List.getElem?_cons_succ]
      have go2 : due = .non ∨ way = 5 → A2 (upd H5 TL (.lst (ws.set i v))) := fun c7 => hA2 _ (by
        simp only [tAsg, tTup, tCons, tNil, tOp, tC, cVar, List.getElem?_cons_zero, List.getElem?_cons_succ]
        rw [ix_tup (look_of_tup (ls_keep A5.tl (e5 _ _ kt) fun _ z => nomatch z)) (v := .str (r[i]).1) rfl, ix_lst (look_of_lst upd_same) (v := v) (by rw [atI_nat]; simp [hiw])]
        refine ⟨by simp only [sizeLine_eq, List.length_cons, List.length_nil]; omega, fun t ht => ?_⟩
        simp only [gName, List.set_cons_zero, List.set_cons_succ]
        exact hR _ _ ⟨_, _, _, _, rfl, A5.put hnn hri hiw od bd f c7 ht⟩)
      by_cases z : due = .non
      · rw [show decide (due = .non) = true from decide_eq_true z]
        simp only [if_true]
        exact go2 (.inl z)
      · rw [show decide (due = .non) = false from decide_eq_false z]
        simp only [Bool.false_eq_true, if_false]
        refine eq_scal rfl rfl rfl ?_
        by_cases z5 : way = 5
        · rw [show decide (V.int way = V.int 5) = true from by rw [z5]; rfl]
          simp only [if_true]
          exact go2 (.inr z5)
        · rw [show decide (V.int way = V.int 5) = false from by simpa using z5]
          simp only [Bool.false_eq_true, if_false]
          refine hB2 _ ?_
          simp only [tNext]
          exact hR _ _ ⟨_, _, due, _, rfl, A5.keep hnn z5 z⟩)
    simp only [tOr, cTest, tOp, tC, cVar, List.getElem?_cons_zero, List.getElem?_cons_succ]
    refine ⟨cdiv_of (by decide) (by decide), by decide, ?_⟩
    refine eq_scal rfl rfl rfl ?_
    by_cases c1 : cell / 32 % 3 = 1
    · rw [show decide (V.int (cell / 32 % 3) = V.int 1) = true from by rw [c1]; rfl]
      simp only [if_true]
      exact goA
    · rw [show decide (V.int (cell / 32 % 3) = V.int 1) = false from by simpa using c1]
      simp only [Bool.false_eq_true, if_false]
      refine ⟨by decide, ?_⟩
      refine eq_scal rfl rfl rfl ?_
      cases decide (V.int (cell % 4) = V.int (i : Int))
      · exact goB
      · exact goA
end
end WR.L

set_option Elab.async false
set_option linter.all false
set_option maxRecDepth 100000
set_option maxHeartbeats 4000000
namespace WR.L
open PySem PySem.Spec PyProof.Rows L2
section
variable {K : PySem.W.Frag} {n : Nat} {H H' : Hp} {Q : VK} {E : XK} {v : V} {nms : List Str} {C : Int} {own : Str} {rs : RwG R3} {wr : RwG R2w}
theorem str_viewG {S : Nat} {p d : Addr} (W : VAt K H p d own rs) (g : GdR nms C own rs) (h5 : nms.length = 5) (hn : ∀ s ∈ nms, isNm s = true) (hC : C ≤ 10 ^ 9) (h : ∀ ts H', GTold rs ts → Ex H H' → Q (.str (Txt.join "; " (ts.map rowS))) H') : bStrG (gg K (SP K (S+3))) [.ref p] H Q := by
  obtain ⟨⟨dx, hp⟩, _⟩ := id W
  unfold bStrG
  simp only [ins_ins hp]
  exact spc_R (cs_str K _) rfl (s_str W g h5 hn hC h)
/-- what both tell -/
def Tells (H : Hp) (T : Addr) (ts : RwG R3) (us : RwG R2w) : Prop := ∃ q qw, H T = some (.lst [.ref q, .ref qw, .str (Txt.join "; " (ts.map rowS))]) ∧ GAt enc3 H q ts ∧ GAt encw H qw us
theorem Tells.ex {T : Addr} {ts : RwG R3} {us : RwG R2w} (x : Ex H H') (h : Tells H T ts us) : Tells H' T ts us := by
  obtain ⟨q, qw, a, b, c⟩ := h
  exact ⟨q, qw, x _ _ a, b.ex x, c.ex x⟩
theorem tell3 {W : WX} {σ : L2.St} {p d w dw : Addr} {R : VK} (h2 : σ[2]? = some (some (.ref p))) (h4 : σ[4]? = some (some (.ref w))) (V : VAt K H p d own rs) (g : GdR nms C own rs) (h5 : nms.length = 5) (hn : ∀ s ∈ nms, isNm s = true) (hC : C ≤ 10 ^ 9) (Ww : WrAt K H w dw wr) (hwl : wr.length < 64) (wnd : (wr.map (·.1)).Nodup)
    (h : ∀ ts us T H', GTold rs ts → GTold wr us → Ex H H' → H T = none → Tells H' T ts us → R (.ref T) H') :
    (tLst (tCons (mC (gg K (SP K (n+3))) "told" 0 0 [] (cVar 2) tNil tNil W) (tCons (mC (gg K (SP K (n+3))) "told" 0 0 [] (cVar 4) tNil tNil W) (tCons (tCB (bStrG (gg K (SP K (n+3)))) (tCons (cVar 2) tNil)) tNil)))) σ H R := by
  have lr := g.len h5
  obtain ⟨⟨dxp, hpp⟩, _⟩ := id V
  refine lst_ (cons_ ?_)
  refine mC_ownR (c_told_0 K _) ?_ fun P P' hh q => mono_var hh q
  simp only [tNil, cVar, h2]
  refine ⟨p, dxp, _, rfl, hpp, lk2 rfl rfl, rfl, (by first | rfl | trivial), s_told (n := n + 1) V (by omega) g.nd fun ts q H1 ht e1 hq g1 => ?_⟩
  have V1 := V.ex e1
  have W1 := Ww.ex e1
  obtain ⟨⟨dxw, hpw⟩, _⟩ := id W1
  refine cons_ ?_
  refine mC_ownL (c_told_0 K _) ?_ fun P P' hh q => mono_var hh q
  simp only [tNil, cVar, h4]
  refine ⟨w, dxw, _, rfl, hpw, lk1 (by decide +kernel), rfl, (by first | rfl | trivial), wr_told (n := n + 2) W1 hwl wnd fun us qw H2 hu e2 hqw g2 => ?_⟩
  refine cons_ ?_
  simp only [tCB, tCons, tNil, cVar, h2]
  refine str_viewG (S := n) (V1.ex e2) g h5 hn hC fun ts' H3 ht' e3 => ?_
  have E1 := ht.uniq ht'
  subst E1
  refine ⟨by simp only [sizeLine_eq, List.length_cons, List.length_nil]; omega, fun T hT => ?_⟩
  have x3 := (e1.trans e2).trans e3
  refine h ts us T _ ht hu (x3.trans (Ex.refl.new hT)) (Ex.none x3 hT) ⟨q, qw, upd_same, (((g1.ex e2).ex e3).ex (Ex.refl.new hT)), ((g2.ex e3).ex (Ex.refl.new hT))⟩
theorem s_alike3 {T1 T2 : Addr} {ts : RwG R3} {us : RwG R2w} (a : Tells H T1 ts us) (b : Tells H T2 ts us) (hl : ts.length ≤ 900) (nd : (ts.map (·.1)).Nodup) (hok : ∀ s ∈ ts.map (·.1), okS s) (hl2 : us.length ≤ 900) (nd2 : (us.map (·.1)).Nodup) (hok2 : ∀ s ∈ us.map (·.1), okS s)
    (h : ∀ H', Ex H H' → Q (.bl true) H') : SP K (n+4) "_law_alike" [.ref T1, .ref T2] H Q E := by
  obtain ⟨q1, w1, a1, a2, a3⟩ := a
  obtain ⟨q2, w2, b1, b2, b3⟩ := b
  refine s_alike_seq (N := 3) false (look_of_lst a1) (look_of_lst b1) (by decide) rfl rfl (by rw [a1]; simp) (by rw [b1]; simp) (fun i x y H4 R2 hi ex ey e4 hR2 => ?_) h
  match i, hi, ex, ey with
  | 0, _, ex, ey => cases ex; cases ey; exact s_alike_dictG (a2.ex e4) (b2.ex e4) hl nd hok (fun r t1 t2 H1 R y1 y2 q => el3 r t1 t2 H1 R y1 y2 q) hR2
  | 1, _, ex, ey => cases ex; cases ey; exact s_alike_dictG (a3.ex e4) (b3.ex e4) hl2 nd2 hok2 (fun r t1 t2 H1 R y1 y2 q => elw r t1 t2 H1 R y1 y2 q) hR2
  | 2, _, ex, ey => cases ex; cases ey; exact s_alike_str (hR2 _ Ex.refl)
/-- a talk of two views of one name -/
theorem s_done_twice {p1 d1 p2 d2 w TL : Addr} {A B : RwG R3} (W1 : VAt K H p1 d1 own A) (W2 : VAt K H p2 d2 own B) (hTL : H TL = some (.lst [.ref p1, .ref p2])) (r : Rf K H "Twice" (.str own) E) : SP K (n+3) "_law_done" [.int 4, .ref p1, .ref w, .ref TL] H Q E := by
  refine o__law_done ?_
  unfold r__law_done
  have LT := look_of_lst (K := K) hTL
  refine skipN_ rfl (by decide) (skipN_ rfl (by decide) (skipN_ rfl (by decide) (skipN_ rfl (by decide) (takeN_ rfl fun D' hD' => ?_))))
  simp only [tRet, cCall, tCons, tNil, tOp, tC, cVar, List.getElem?_cons_zero, List.getElem?_cons_succ]
  rw [ix_lst LT (v := .ref p1) rfl, ix_lst LT (v := .ref p2) rfl]
  exact ⟨rfl, rfl, s_talk_twice W1 W2 r⟩
end
end WR.L

set_option Elab.async false
set_option linter.all false
set_option maxRecDepth 100000
set_option maxHeartbeats 4000000
namespace WR.L
open PySem PySem.Spec PyProof.Rows L2
section
variable {K : PySem.W.Frag} {n : Nat} {H H' : Hp} {Q : VK} {E : XK} {v : V} {nms : List Str} {C : Int} {own : Str} {rs : RwG R3} {wr : RwG R2w}
theorem word_ix {c m : Int} (hm : 0 < m) : ∃ wd : Str, wd ∈ wrds ∧ atI ([.str "here", .str "silent", .str "gone"] : List V) (c / m % 3) = some (.str wd) := by
  have h1 : 0 ≤ c / m % 3 := Int.emod_nonneg _ (by decide)
  have h2 : c / m % 3 < 3 := Int.emod_lt_of_pos _ (by decide)
  generalize c / m % 3 = z at h1 h2
  have : z = 0 ∨ z = 1 ∨ z = 2 := by omega
  rcases this with rfl | rfl | rfl
  · exact ⟨"here", by decide +kernel, rfl⟩
  · exact ⟨"silent", by decide +kernel, rfl⟩
  · exact ⟨"gone", by decide +kernel, rfl⟩
/-- between two of the hearings -/
structure He_ (K : PySem.W.Frag) (H : Hp) (p d : Addr) (s0 s1 s2 s3 s4 : Str) (rs : RwG R3) (i : Nat) : Prop where
  V : VAt K H p d s0 rs
  g : GdR [s0, s1, s2, s3, s4] 10 s0 rs
  a1 : 1 ≤ i → ∃ r, gget rs s1 = some r
  no : ∀ j (s : Str), i < j → [s0, s1, s2, s3, s4][j]? = some s → gget rs s = none
theorem law_hear {W : WX} {D : Ends} {a nl p d : Addr} {ns : List Int} {ob : Obj} {s0 s1 s2 s3 s4 s : Str} {i : Nat} {v4 v5 v6 v7 v8 : Option V} (hi : i < 3) (hs : [s0, s1, s2, s3, s4][i+1]? = some s) (hne : s ≠ s0) (hn : isNm s = true) (hne2 : ∀ j (t : Str), i + 1 < j → [s0, s1, s2, s3, s4][j]? = some t → t ≠ s) (ha : H a = some (.frz ob (.lst (ns.map V.int)))) (hnl : H nl = some (.lst ([s0, s1, s2, s3, s4].map V.str))) (T : He_ K H p d s0 s1 s2 s3 s4 rs i) 
    (h : ∀ rs' H', He_ K H' p d s0 s1 s2 s3 s4 rs' (i+1) → Exd d H H' → D.nx [some (.ref a), some (.ref nl), some (.ref p), some (.int ((i + 1 : Nat) : Int)), v4, v5, v6, v7, v8] H') :
    (tDrop (mC (gg K (SP K (n+4))) "hear" 4 0 [] (cVar 2) (tCons (tOp (oIx K) (cVar 1) (cVar 3)) (tCons (cVar 3) (tCons (cVar 3) (tCons (tOp (oIx K) (tLst (tCons (tC (.str "here")) (tCons (tC (.str "silent")) (tCons (tC (.str "gone")) tNil)))) (tOp oMod (tOp oFdiv (cCall (SP K (n+4) "_law_cell_at") 2 0 (fun vs _ => vs) (tCons (cVar 0) (tCons (tC (.int 1)) tNil)) tNil W) (tOp (oIx K) (tLst (tCons (tC (.int 1)) (tCons (tC (.int 3)) (tCons (tC (.int 9)) tNil)))) (tOp oSub (cVar 3) (tC (.int 1))))) (tC (.int 3)))) tNil)))) tNil W)) D
      [some (.ref a), some (.ref nl), some (.ref p), some (.int ((i + 1 : Nat) : Int)), v4, v5, v6, v7, v8] H := by
  obtain ⟨⟨dxp, hpp⟩, _⟩ := id T.V
  simp only [tDrop]
  refine mC_own (c_hear_4 K _) ?_ fun P P' hh q => mono_var hh q
  simp only [cVar, List.getElem?_cons_zero, List.getElem?_cons_succ]
  refine ⟨p, dxp, _, rfl, hpp, lk2 rfl rfl, ?_⟩
  refine cons_ ?_
  simp only [tOp, cVar, List.getElem?_cons_zero, List.getElem?_cons_succ]
  rw [ix_lst (look_of_lst hnl) (v := .str s) (by rw [atI_nat, List.getElem?_map, hs]; rfl)]
  refine cons_ ?_
  simp only [cVar, List.getElem?_cons_zero, List.getElem?_cons_succ]
  refine cons_ ?_
  simp only [cVar, List.getElem?_cons_zero, List.getElem?_cons_succ]
  refine cons_ ?_
  simp only [tOp]
  refine lst_ ?_
  simp only [tCons, tNil, tC]
  refine ⟨by simp only [sizeLine_eq, List.length_cons, List.length_nil]; omega, fun l1 hl1 => ?_⟩
  have e1 : Ex H (upd H l1 (.lst [.str "here", .str "silent", .str "gone"])) := Ex.refl.new hl1
  have k1 : (upd H l1 (.lst [.str "here", .str "silent", .str "gone"])) l1 = some (.lst [.str "here", .str "silent", .str "gone"]) := upd_same
  generalize upd H l1 (.lst [.str "here", .str "silent", .str "gone"]) = H1 at e1 k1 ⊢
  simp only [cCall, tCons, tNil, tC, cVar, List.getElem?_cons_zero, List.getElem?_cons_succ]
  refine ⟨rfl, (by first | rfl | trivial), ?_⟩
  refine s_cell (k := 1) (ns := ns) (by unfold look; rw [e1 _ _ ha]) ?_
  generalize ns.getD 1 0 = c
  refine lst_ ?_
  simp only [tCons, tNil, tC]
  refine ⟨by simp only [sizeLine_eq, List.length_cons, List.length_nil]; omega, fun l2 hl2 => ?_⟩
  have e2 : Ex H1 (upd H1 l2 (.lst [.int 1, .int 3, .int 9])) := Ex.refl.new hl2
  have k2 : (upd H1 l2 (.lst [.int 1, .int 3, .int 9])) l2 = some (.lst [.int 1, .int 3, .int 9]) := upd_same
  generalize upd H1 l2 (.lst [.int 1, .int 3, .int 9]) = H2 at e2 k2 ⊢
  simp only [cVar, tC, oSub, List.getElem?_cons_zero, List.getElem?_cons_succ]
  obtain ⟨m, hm0, hm1, hm⟩ : ∃ m : Int, 0 < m ∧ m < 10 ∧ atI ([.int 1, .int 3, .int 9] : List V) (((i + 1 : Nat) : Int) - 1) = some (.int m) := by
    rw [show ((i + 1 : Nat) : Int) - 1 = (i : Int) from by omega, atI_nat]
    match i, hi with
    | 0, _ => exact ⟨1, by decide, by decide, rfl⟩
    | 1, _ => exact ⟨3, by decide, by decide, rfl⟩
    | 2, _ => exact ⟨9, by decide, by decide, rfl⟩
  rw [ix_lst (look_of_lst k2) (v := .int m) hm]
  refine ⟨cdiv_of hm0 (by omega), ?_⟩
  refine ⟨by decide, ?_⟩
  obtain ⟨wd, hwd, hwi⟩ := word_ix (c := c) hm0
  rw [ix_lst (look_of_lst (e2 _ _ k1)) (v := .str wd) hwi]
  refine ⟨rfl, rfl, ?_⟩
  have x2 := e1.trans e2
  obtain ⟨ro, ho⟩ := T.g.own
  have l5 := T.g.len rfl
  have hno := T.no (i+1) s (by omega) hs
  have hrow : heardF s0 rs s (((i + 1 : Nat) : Int), ((i + 1 : Nat) : Int), wd) = (((i + 1 : Nat) : Int), ((i + 1 : Nat) : Int), wd) := by
    unfold heardF
    rw [if_neg hne, hno]
  refine s_hear (n := n) (T.V.ex x2) (fun r hr => (T.g.row r hr).2.2.2.2) ho (by omega) (nm_len hn) hn ⟨by omega, by omega⟩ (by omega) hwd fun H3 V3 x3 => ?_
  rw [hrow] at V3
  refine h _ H3 ⟨V3, T.g.put (List.mem_of_getElem? hs) ⟨⟨by show (0:Int) ≤ ((i + 1 : Nat) : Int); omega, by show ((i + 1 : Nat) : Int) ≤ 255; omega⟩, by show (1:Int) ≤ ((i + 1 : Nat) : Int); omega, by show ((i + 1 : Nat) : Int) ≤ 10; omega, hwd⟩, fun _ => ?_, fun j t hj ht => ?_⟩ fun b o nb e => x3 _ _ nb (x2 _ _ e)
  · by_cases z : i = 0
    · subst z
      have : s1 = s := Option.some.inj hs
      subst this
      exact ⟨_, by rw [gput_get, if_pos rfl]⟩
    · obtain ⟨r, hr⟩ := T.a1 (by omega)
      rw [gput_get]
      by_cases q : s1 = s
      · exact ⟨_, by rw [if_pos q]⟩
      · exact ⟨r, by rw [if_neg q]; exact hr⟩
  · rw [gput_get, if_neg (hne2 j t hj ht)]
    exact T.no j t (by omega) ht
end
end WR.L

set_option Elab.async false
set_option linter.all false
set_option maxRecDepth 100000
set_option maxHeartbeats 4000000
namespace WR.L
open PySem PySem.Spec PyProof.Rows L2
section
variable {K : PySem.W.Frag} {n : Nat} {H H' : Hp} {Q : VK} {E : XK} {v : V} {nms : List Str} {C : Int} {own : Str} {rs : RwG R3} {wr : RwG R2w}
theorem call_ {sp : Sp} {n m : Nat} {arr : List V → List V → List V} {t tk : TA} {W : WX} {σ : L2.St} (h : t σ H fun vs H1 => tk σ H1 fun zs H2 => vs.length = n ∧ zs.length = m ∧ sp (arr vs zs) H2 Q (fun cls d H' => W cls d σ H')) : cCall sp n m arr t tk W σ H Q := h
theorem con_ {x : V} {t : TA} {σ : L2.St} {R : List V → Hp → Prop} (h : t σ H fun xs H1 => R (x :: xs) H1) : tCons (tC x) t σ H R := h
theorem cva_ {i : Nat} {x : V} {t : TA} {σ : L2.St} {R : List V → Hp → Prop} (e : σ[i]? = some (some x)) (h : t σ H fun xs H1 => R (x :: xs) H1) : tCons (cVar i) t σ H R := cons_ (var_ e h)
theorem nil_ {σ : L2.St} {R : List V → Hp → Prop} (h : R [] H) : tNil σ H R := h
theorem s_law {a : Addr} {ns : List Int} {ob : Obj} (hx : Hx K) (ha : H a = some (.frz ob (.lst (ns.map V.int)))) (hns : ns.length ≤ 63) (h : ∀ H', Q (.bl true) H') : SP K (n+16) "law" [.ref a] H Q E := by
  refine o_law ?_
  unfold r_law
  refine seq_ fun N1 h1 => ?_
  simp only [tAsg, cCall, tCons, tNil, tC, cVar, List.getElem?_cons_zero, List.getElem?_cons_succ]
  refine ⟨rfl, (by first | rfl | trivial), ?_⟩
  refine s_cell (k := 0) (ns := ns) (by unfold look; rw [ha]) ?_
  refine ⟨rfl, (by first | rfl | trivial), ?_⟩
  refine s_law_names fun nms nl H1 h5 hok ndn e1 hn hnH => h1 _ _ (seq_ fun N2 h2 => ?_)
  obtain ⟨s0, s1, s2, s3, s4, rfl⟩ : ∃ s0 s1 s2 s3 s4, nms = [s0, s1, s2, s3, s4] := by
    match nms, h5 with
    | [s0, s1, s2, s3, s4], _ => exact ⟨s0, s1, s2, s3, s4, rfl⟩
  have hok0 := hok s0 (by simp)
  have nn : ∀ {i j : Nat} {s t : Str}, [s0, s1, s2, s3, s4][i]? = some s → [s0, s1, s2, s3, s4][j]? = some t → i ≠ j → s ≠ t := fun {i j s t} hi hj hij z => by
    subst z
    exact hij ((List.getElem?_inj (List.getElem?_eq_some_iff.mp hi).1 ndn).mp (hi.trans hj.symm))
  simp only [tAsg, gName, List.set_cons_zero, List.set_cons_succ]
  refine mk_view0 (n := n + 11) (own := s0) (place := 3) (fun P hP => ?_) hok0 ⟨by decide, by decide⟩ fun p d H2 e2 hp hd hpd V0 => h2 _ _ (seq_ fun N3 h3 => .inl ?_)
  · simp only [tCons, tNil, tOp, tC, cVar, List.getElem?_cons_zero, List.getElem?_cons_succ]
    rw [ix_lst (look_of_lst hn) (v := .str s0) rfl]
    exact hP
  have ha2 := e2 _ _ (e1 _ _ ha)
  have hn2 := e2 _ _ hn
  have T0 : He_ K H2 p d s0 s1 s2 s3 s4 [(s0, ((3, 1, "here") : R3))] 0 := ⟨V0, by
    refine ⟨by simp, fun r hr => ?_, ⟨_, by simp [gget]; rfl⟩⟩
    rw [List.mem_singleton] at hr
    subst hr
    exact ⟨by simp, ⟨by show (0:Int) ≤ 3; decide, by show (3:Int) ≤ 255; decide⟩, by show (1:Int) ≤ 1; decide, by show (1:Int) ≤ 10; decide, here_w⟩, fun z => absurd z (by decide), fun j s hj hs => by
      have : s0 ≠ s := nn (i := 0) (j := j) rfl hs (by omega)
      simp [gget, this]⟩
  simp only [gName, cFor, cRng2, tCons, tNil, tC, List.set_cons_zero, List.set_cons_succ]
  refine ⟨⟨by decide, by decide, by decide, by decide⟩, ?_⟩
  refine lp_inv (n := 3) (fun i σ H' => ∃ v3 rs, σ = [some (.ref a), some (.ref nl), some (.ref p), v3, none, none, none, none, none] ∧ H' a = some (.frz ob (.lst (ns.map V.int))) ∧ H' nl = some (.lst ([s0, s1, s2, s3, s4].map V.str)) ∧ He_ K H' p d s0 s1 s2 s3 s4 rs i) ?_ ?_ ⟨none, _, rfl, ha2, hn2, T0⟩
  · rintro σ H3 ⟨v3, rs, rfl, ha3, hn3, T3⟩
    refine ⟨Nat.le_refl _, h3 _ _ (seq_ fun N4 h4 => ?_)⟩
    obtain ⟨V3, g3, hs1, hno⟩ := T3
    obtain ⟨r1, hr1⟩ := hs1 (by decide)
    have hs4 := hno 4 s4 (by decide) rfl
    simp only [tAsg]
    refine mk_wr (n := n + 14) fun w dw H4 e4 hw hdw hwd W0 => ?_
    refine h4 _ _ (seq_ fun N5 h5' => ?_)
    have hn4 := e4 _ _ hn3
    obtain ⟨⟨dxw, hpw⟩, _⟩ := id W0
    simp only [tDrop, gName, List.set_cons_zero, List.set_cons_succ]
    refine mC_own (c_seen_1 K _) ?_ fun P P' hh q => mono_var hh q
    simp only [tCons, tNil, tOp, tC, cVar, List.getElem?_cons_zero, List.getElem?_cons_succ]
    refine ⟨w, dxw, _, rfl, hpw, lk1 (by decide +kernel), ?_⟩
    rw [ix_lst (look_of_lst hn4) (v := .str s2) rfl]
    refine ⟨rfl, rfl, wr_seen (n := n + 11) (s := s2) W0 (by decide) (hok s2 (by simp)) fun H5 W5 x5 => h5' _ _ (seq_ fun N6 h6 => ?_)⟩
    generalize hwr : gput ([] : RwG R2w) s2 (cnt [] s2 + 1, 5) = wr at W5
    have wr1 : wr = [(s2, ((cnt [] s2 + 1, 5) : R2w))] := by rw [← hwr]; rfl
    have hwl : wr.length < 64 := by rw [wr1]; simp
    have wnd : (wr.map (·.1)).Nodup := by rw [wr1]; simp
    have wok : ∀ us, GTold wr us → us.length ≤ 900 ∧ (us.map (·.1)).Nodup ∧ ∀ s ∈ us.map (·.1), okS s := fun us hu => ⟨by rw [hu.len]; omega, by
      have := hu.len
      match us, this with
      | [_], _ => simp
      | [], q => simp
      | _ :: _ :: _, q => rw [wr1] at q; simp at q, fun s hs => by
      obtain ⟨r, hr, rfl⟩ := List.mem_map.mp hs
      have := hu.mem wnd hr
      rw [wr1, List.mem_singleton] at this
      subst this
      exact nm_ok (hok s2 (by simp))⟩
    have x35 : Ex H3 H5 := fun b o e => x5 b o (ne_of_none e hdw) (e4 _ _ e)
    have V5 := V3.ex x35
    have ha5 := x35 _ _ ha3
    have hn5 := x35 _ _ hn3
    have l5 := g3.len rfl
    have tok : ∀ ts, GTold rs ts → ts.length ≤ 900 ∧ (ts.map (·.1)).Nodup ∧ ∀ s ∈ ts.map (·.1), okS s := fun ts ht => ⟨by rw [ht.len]; omega, GTold.nd g3.nd ht, fun s hs => by
      obtain ⟨r, hr, rfl⟩ := List.mem_map.mp hs
      exact nm_ok (hok _ (g3.told ht r hr).1)⟩
    simp only [tAsg]
    refine tell3 (n := n + 12) rfl rfl V5 g3 rfl hok (by decide) W5 hwl wnd fun ts us TT H6 hts hus e6 hTT T6 => h6 _ _ (seq_ fun N7 h7 => .inl ?_)
    obtain ⟨tl, tnd, tk⟩ := tok ts hts
    obtain ⟨ul, und, uk⟩ := wok us hus
    have V6 := V5.ex e6
    have W6 := W5.ex e6
    have ha6 := e6 _ _ ha5
    have hn6 := e6 _ _ hn5
    -- what is told again
    have again : ∀ {W : WX} {σ : L2.St} {H7 : Hp} {R : VK}, σ[2]? = some (some (.ref p)) → σ[4]? = some (some (.ref w)) → VAt K H7 p d s0 rs → WrAt K H7 w dw wr → (∀ T' H8, Ex H7 H8 → Tells H8 T' ts us → R (.ref T') H8) →
        (tLst (tCons (mC (gg K (SP K (n+15))) "told" 0 0 [] (cVar 2) tNil tNil W) (tCons (mC (gg K (SP K (n+15))) "told" 0 0 [] (cVar 4) tNil tNil W) (tCons (tCB (bStrG (gg K (SP K (n+15)))) (tCons (cVar 2) tNil)) tNil)))) σ H7 R := by
      intro W σ H7 R q2 q4 V7 W7 hR
      refine tell3 (n := n + 12) q2 q4 V7 g3 rfl hok (by decide) W7 hwl wnd fun ts' us' T H8 hts' hus' e8 hT T8 => ?_
      have E1 := hts.uniq hts'
      have E2 := hus.uniq hus'
      subst E1 E2
      exact hR T H8 e8 T8
    simp only [gName, List.set_cons_zero, List.set_cons_succ]
    simp only [cFor, cIter, frzE, tOp, tLst, tSl, cPart, oSl, tCons, tNil, tC, cVar, List.getElem?_cons_zero, List.getElem?_cons_succ]
    rw [show look K H6 a = some (.lst (ns.map V.int)) from by unfold look; rw [ha6]]
    intro l8 hl8
    have e8 : Ex H6 (upd H6 l8 (.lst (cutV (ns.map V.int) (some 2) (some 42)))) := Ex.refl.new hl8
    have k8 : (upd H6 l8 (.lst (cutV (ns.map V.int) (some 2) (some 42)))) l8 = some (.lst (cutV (ns.map V.int) (some 2) (some 42))) := upd_same
    have ci : ∀ v ∈ cutV (ns.map V.int) (some 2) (some 42), ∃ c, v = V.int c := fun v hv => by
      have := List.mem_of_mem_drop (List.mem_of_mem_take hv)
      obtain ⟨c, _, rfl⟩ := List.mem_map.mp this
      exact ⟨c, rfl⟩
    have cl : (cutV (ns.map V.int) (some 2) (some 42)).length ≤ 63 := by
      unfold cutV
      rw [List.length_take, List.length_drop, List.length_map]
      omega
    generalize cutV (ns.map V.int) (some 2) (some 42) = cs at e8 k8 ci cl ⊢
    generalize upd H6 l8 (.lst cs) = H8 at e8 k8 ⊢
    simp only [cCall, tCons, tNil, tC, cVar, List.getElem?_cons_zero, List.getElem?_cons_succ]
    refine ⟨rfl, (by first | rfl | trivial), ?_⟩
    refine s_cell (k := 1) (ns := ns) (by unfold look; rw [e8 _ _ ha6]) ?_
    generalize ns.getD 1 0 = c1
    refine ⟨by simp only [sizeLine_eq, List.length_cons, List.length_nil]; omega, fun l9 hl9 => ?_⟩
    have e9 : Ex H8 (upd H8 l9 (.lst [.int c1])) := Ex.refl.new hl9
    have k9 : (upd H8 l9 (.lst [.int c1])) l9 = some (.lst [.int c1]) := upd_same
    generalize upd H8 l9 (.lst [.int c1]) = H9 at e9 k9 ⊢
    simp only [oAdd, e9 _ _ k8, k9]
    refine ⟨by simp only [sizeLine_eq, List.length_cons, List.length_nil]; omega, fun l10 hl10 => ?_⟩
    have e10 : Ex H9 (upd H9 l10 (.lst (cs ++ [.int c1]))) := Ex.refl.new hl10
    have k10 : (upd H9 l10 (.lst (cs ++ [.int c1]))) l10 = some (.lst (cs ++ [.int c1])) := upd_same
    simp only [upd_same, look_of_lst upd_same]
    have ci2 : ∀ v ∈ cs ++ [V.int c1], ∃ c, v = V.int c := fun v hv => by
      rcases List.mem_append.mp hv with q | q
      · exact ci v q
      · rw [List.mem_singleton] at q; exact ⟨_, q⟩
    have cl2 : (cs ++ [V.int c1]).length ≤ 64 := by simp; omega
    generalize cs ++ [V.int c1] = xs at e10 k10 ci2 cl2 ⊢
    generalize upd H9 l10 (.lst xs) = H10 at e10 k10 ⊢
    have x10 := (e8.trans e9).trans e10
    refine lp_inv (n := xs.length) (fun j σ H' => (∃ v3 v6 v8, σ = [some (.ref a), some (.ref nl), some (.ref p), v3, some (.ref w), some (.ref TT), v6, none, v8]) ∧ Ex H10 H') ?_ ?_ ⟨⟨_, _, _, rfl⟩, Ex.refl⟩
    · rintro σ H11 ⟨⟨v3, v6, v8, rfl⟩, e11⟩
      refine ⟨itl_stop (e11 _ _ k10) (Nat.le_refl _), h7 _ _ (seq_ fun N8 h8 => .inl ?_)⟩
      have x11 := x10.trans e11
      have V11 := V6.ex x11
      have W11 := W6.ex x11
      have T11 := T6.ex x11
      have hn11 := x11 _ _ hn6
      obtain ⟨⟨dxp, hpp⟩, _⟩ := id V11
      simp only [cFor, cIter, frzE]
      refine lst_ (cons_ ?_)
      simp only [cVar, List.getElem?_cons_zero, List.getElem?_cons_succ]
      refine cons_ ?_
      refine mC_ownR (c_copied_0 K _) ?_ fun P P' hh q => mono_var hh q
      simp only [tNil, cVar, List.getElem?_cons_zero, List.getElem?_cons_succ]
      refine ⟨p, dxp, _, rfl, hpp, lk2 rfl rfl, rfl, (by first | rfl | trivial), s_copied (n := n + 10) V11 g3 hok0 fun pc dc H12 e12 hpc hdc Vc => ?_⟩
      refine cons_ ?_
      refine mk_view0 (n := n + 11) (own := s0) (place := 9) (fun P hP => ?_) hok0 ⟨by decide, by decide⟩ fun pv dv H13 e13 hpv hdv hpdv Vv => ?_
      · simp only [tCons, tNil, tOp, tC, cVar, List.getElem?_cons_zero, List.getElem?_cons_succ]
        rw [ix_lst (look_of_lst (e12 _ _ hn11)) (v := .str s0) rfl]
        exact hP
      simp only [tNil]
      refine ⟨by simp only [sizeLine_eq, List.length_cons, List.length_nil]; omega, fun l14 hl14 => ?_⟩
      have e14 : Ex H13 (upd H13 l14 (.lst [.ref p, .ref pc, .ref pv])) := Ex.refl.new hl14
      have k14 : (upd H13 l14 (.lst [.ref p, .ref pc, .ref pv])) l14 = some (.lst [.ref p, .ref pc, .ref pv]) := upd_same
      simp only [upd_same, look_of_lst upd_same]
      generalize upd H13 l14 (.lst [.ref p, .ref pc, .ref pv]) = H14 at e14 k14 ⊢
      have x14 := (e12.trans e13).trans e14
      have twins : ∀ (j : Nat) (y : V), ([.ref p, .ref pc, .ref pv] : List V)[j]? = some y → ∃ q dq rq, y = .ref q ∧ VAt K H14 q dq s0 rq := fun j y hy => by
        match j, hy with
        | 0, hy => cases hy; exact ⟨_, _, _, rfl, V11.ex x14⟩
        | 1, hy => cases hy; exact ⟨_, _, _, rfl, Vc.ex (e13.trans e14)⟩
        | 2, hy => cases hy; exact ⟨_, _, _, rfl, Vv.ex e14⟩
      generalize hys : ([.ref p, .ref pc, .ref pv] : List V) = ys at k14 twins
      have yl : ys.length = 3 := by rw [← hys]; rfl
      refine lp_inv (n := ys.length) (fun j σ H' => (∃ v7, σ = [some (.ref a), some (.ref nl), some (.ref p), v3, some (.ref w), some (.ref TT), v6, v7, v8]) ∧ Ex H14 H') ?_ ?_ ⟨⟨_, rfl⟩, Ex.refl⟩
      · rintro σ H15 ⟨⟨v7, rfl⟩, e15⟩
        refine ⟨itl_stop (e15 _ _ k14) (Nat.le_refl _), h8 _ _ ?_⟩
        have x15 := (x14.trans e15)
        simp only [tRet, cCall]
        refine cons_ (again rfl rfl (V11.ex x15) (W11.ex x15) fun T' H16 e16 T16 => ?_)
        simp only [tCons, tNil, cVar, List.getElem?_cons_zero, List.getElem?_cons_succ]
        exact ⟨rfl, (by first | rfl | trivial), s_alike3 (n := n + 11) T16 ((T11.ex x15).ex e16) tl tnd tk ul und uk fun H' e => h H'⟩
      · rintro j σ H15 hj ⟨⟨v7, rfl⟩, e15⟩ R hR
        refine ⟨itl_go (e15 _ _ k14) hj, ?_⟩
        intro x H16 hy
        obtain ⟨rfl, hx2⟩ := itl_yld (e15 _ _ k14) hy
        obtain ⟨q, dq, rq, rfl, Vq⟩ := twins j x hx2
        have x15 := x14.trans e15
        have V15 := V11.ex x15
        have Vq15 := Vq.ex e15
        have hn15 := x15 _ _ hn11
        try simp only [gName, List.set_cons_zero, List.set_cons_succ]
        refine ifS_ fun A1 B1 hA hB => ?_
        simp only [tNot, cTru, cCall]
        refine cons_ (call_ (con_ (cva_ rfl (cva_ rfl (cons_ (lst_ (cva_ rfl (cva_ rfl (nil_ ?_)))))))))
        refine ⟨by simp only [sizeLine_eq, List.length_cons, List.length_nil]; omega, fun l16 hl16 => ?_⟩
        have e16 : Ex H16 (upd H16 l16 (.lst [.ref p, .ref q])) := Ex.refl.new hl16
        have k16 : (upd H16 l16 (.lst [.ref p, .ref q])) l16 = some (.lst [.ref p, .ref q]) := upd_same
        generalize upd H16 l16 (.lst [.ref p, .ref q]) = H17 at e16 k16 ⊢
        refine ⟨rfl, (by first | rfl | trivial), said_twice (n := n + 14) (v := .str s0) hx (fun Q' E' rr => s_done_twice (n := n + 11) (V15.ex e16) (Vq15.ex e16) k16 rr) fun f H18 e18 hf k18 => ?_⟩
        simp only [tTup, tCons, tNil, tOp, tC, cVar, List.getElem?_cons_zero, List.getElem?_cons_succ]
        rw [ix_lst (look_of_lst (e18 _ _ (e16 _ _ hn15))) (v := .str s0) rfl]
        refine ⟨by simp only [sizeLine_eq, List.length_cons, List.length_nil]; omega, fun f2 hf2 => ?_⟩
        have e19 : Ex H18 (upd H18 f2 (.tup [.str "twice", .str s0, .bl true])) := Ex.refl.new hf2
        have k19 : (upd H18 f2 (.tup [.str "twice", .str s0, .bl true])) f2 = some (.tup [.str "twice", .str s0, .bl true]) := upd_same
        generalize upd H18 f2 (.tup [.str "twice", .str s0, .bl true]) = H19 at e19 k19 ⊢
        have k18' := e19 _ _ k18
        refine ⟨rfl, (by first | rfl | trivial), s_alike_seq (n := n + 14) (N := 3) true (look_of_tup k18') (look_of_tup k19) (by decide) rfl rfl (by rw [k18']; simp) (by rw [k19]; simp) (fun i x y H4 R2 hi ex ey e4 hR2 => ?_) fun H20 e20 => ?_⟩
        · match i, hi, ex, ey with
          | 0, _, ex, ey => cases ex; cases ey; exact s_alike_str (hR2 _ Ex.refl)
          | 1, _, ex, ey => cases ex; cases ey; exact s_alike_str (hR2 _ Ex.refl)
          | 2, _, ex, ey => cases ex; cases ey; exact s_alike_bl (hR2 _ Ex.refl)
        · simp only [oTru, Bool.not_true, Bool.false_eq_true, if_false]
          refine hB _ ?_
          simp only [tNext]
          exact hR _ _ ⟨⟨_, rfl⟩, (((e15.trans e16).trans e18).trans e19).trans e20⟩
    · rintro j σ H11 hj ⟨⟨v3, v6, v8, rfl⟩, e11⟩ R hR
      refine ⟨itl_go (e11 _ _ k10) hj, ?_⟩
      intro x H12 hy
      obtain ⟨rfl, hx2⟩ := itl_yld (e11 _ _ k10) hy
      obtain ⟨cc, rfl⟩ := ci2 x (List.mem_of_getElem? hx2)
      have x11 := x10.trans e11
      have V11 := V6.ex x11
      have W11 := W6.ex x11
      have T11 := T6.ex x11
      have hn11 := x11 _ _ hn6
      simp only [gName, List.set_cons_zero, List.set_cons_succ]
      refine seq_ fun N8 h8 => ?_
      simp only [tAsg, cCall, tCons, tNil, tC, cVar, List.getElem?_cons_zero, List.getElem?_cons_succ]
      refine ⟨rfl, (by first | rfl | trivial), s_law_row (n := n + 14) (m := 2) (by decide) (by decide) fun ms ml H13 hms e13 kml hml => h8 _ _ (seq_ fun N9 h9 => ifS_ fun A1 B1 hA hB => ?_)⟩
      obtain ⟨m0, m1, rfl⟩ : ∃ m0 m1, ms = [m0, m1] := by
        match ms, hms with
        | [m0, m1], _ => exact ⟨m0, m1, rfl⟩
      simp only [tNot, cTru, cCall, tCons, tNil, tOp, tC, cVar, gName, List.set_cons_zero, List.set_cons_succ, List.getElem?_cons_zero, List.getElem?_cons_succ]
      rw [ix_lst (look_of_lst kml) (v := .int m0) rfl]
      refine ⟨by decide, ?_⟩
      dsimp only
      rw [ix_lst (look_of_lst kml) (v := .int m1) rfl]
      refine ⟨rfl, (by first | rfl | trivial), s_law_asked (n := n) (s1 := s1) (s2 := s2) (u4 := s4) hx (V11.ex e13) g3 rfl hok (by decide) (by decide) (e13 _ _ hn11) rfl rfl rfl rfl hs4 (nn (i := 1) (j := 0) rfl rfl (by decide)) (nn (i := 0) (j := 2) rfl rfl (by decide)) hr1 (W11.ex e13) (by omega) (Int.emod_nonneg _ (by decide)) fun H14 e14 => ?_⟩
      simp only [oTru, Bool.not_true, Bool.false_eq_true, if_false]
      refine hB _ ?_
      simp only [tNext]
      refine h9 _ _ (ifS_ fun A2 B2 hA2 hB2 => ?_)
      have x14 := e13.trans e14
      simp only [tNot, cTru, cCall]
      refine cons_ (again rfl rfl (V11.ex x14) (W11.ex x14) fun T' H16 e16 T16 => ?_)
      simp only [tCons, tNil, cVar, List.getElem?_cons_zero, List.getElem?_cons_succ]
      refine ⟨rfl, (by first | rfl | trivial), s_alike3 (n := n + 11) T16 ((T11.ex x14).ex e16) tl tnd tk ul und uk fun H17 e17 => ?_⟩
      simp only [oTru, Bool.not_true, Bool.false_eq_true, if_false]
      refine hB2 _ ?_
      simp only [tNext]
      exact hR _ _ ⟨⟨_, _, _, rfl⟩, ((e11.trans x14).trans e16).trans e17⟩
  · rintro i σ H3 hi ⟨v3, rs, rfl, ha3, hn3, T3⟩ R hR
    refine ⟨hi, ?_⟩
    intro x H4 hy
    obtain ⟨rfl, rfl⟩ := itr_yld hy
    rw [show (1 : Int) + (i : Int) = ((i + 1 : Nat) : Int) from by omega]
    simp only [gName, List.set_cons_zero, List.set_cons_succ]
    obtain ⟨s, hs⟩ : ∃ s, [s0, s1, s2, s3, s4][i+1]? = some s := by
      match i, hi with
      | 0, _ => exact ⟨_, rfl⟩
      | 1, _ => exact ⟨_, rfl⟩
      | 2, _ => exact ⟨_, rfl⟩
    refine law_hear (n := n + 11) hi hs (nn hs (j := 0) rfl (by omega)) (hok s (List.mem_of_getElem? hs)) (fun j t hj ht => nn ht hs (by omega)) ha3 hn3 T3 fun rs' H5 T5 x5 => hR _ _ ⟨_, rs', rfl, x5 _ _ (fun z => ?_) ha3, x5 _ _ (fun z => ?_) hn3, T5⟩
    · obtain ⟨kv, hd3, _⟩ := T3.V.2
      rw [← z, ha3] at hd3; cases hd3
    · obtain ⟨kv, hd3, _⟩ := T3.V.2
      rw [← z, hn3] at hd3; cases hd3
end
theorem law_ok : LawY y 40 24 := by
  intro K hex H a ns hl hO ha
  obtain ⟨o, ha⟩ := ha
  exact s_law (n := 8) (ns := ns) (hx_of hex) ha hl fun H' => rfl
end WR.L

set_option maxHeartbeats 0
namespace WR.L
open PySem PySem.Spec PyProof.Rows L2
theorem yok : SyOk y where
  sc := by decide +kernel
  cps := List.forall_mem_cons.mpr ⟨⟨d_is_whole, rfl, rfl, kb1⟩, List.forall_mem_cons.mpr ⟨⟨d_is_any_whole, rfl, rfl, kb2⟩, List.forall_mem_cons.mpr ⟨⟨d_is_name, rfl, rfl, kb3⟩, List.forall_mem_cons.mpr ⟨⟨d_is_place, rfl, rfl, kb4⟩, List.forall_mem_cons.mpr ⟨⟨d_need_place, rfl, rfl, kb5⟩, List.forall_mem_cons.mpr ⟨⟨d_need_name, rfl, rfl, kb6⟩, List.forall_mem_cons.mpr ⟨⟨d_is_number, rfl, rfl, kb18⟩, List.forall_mem_cons.mpr ⟨⟨d_is_word, rfl, rfl, kb19⟩, List.forall_mem_cons.mpr ⟨⟨d_rank_of, rfl, rfl, kb20⟩, List.forall_mem_cons.mpr ⟨⟨d_later, rfl, rfl, kb21⟩, List.forall_mem_cons.mpr ⟨⟨d_in_order, rfl, rfl, kb22⟩, List.forall_mem_cons.mpr ⟨⟨d_talk, rfl, rfl, kb38⟩, List.forall_mem_cons.mpr ⟨⟨d__law_cell_at, rfl, rfl, kb39⟩, List.forall_mem_cons.mpr ⟨⟨d__law_row, rfl, rfl, kb40⟩, List.forall_mem_cons.mpr ⟨⟨d__law_alike, rfl, rfl, kb41⟩, List.forall_mem_cons.mpr ⟨⟨d__law_names, rfl, rfl, kb42⟩, List.forall_mem_cons.mpr ⟨⟨d__law_said, rfl, rfl, kb43⟩, List.forall_mem_cons.mpr ⟨⟨d__law_done, rfl, rfl, kb44⟩, List.forall_mem_cons.mpr ⟨⟨d__law_good, rfl, rfl, kb45⟩, List.forall_mem_cons.mpr ⟨⟨d__law_bad, rfl, rfl, kb46⟩, List.forall_mem_cons.mpr ⟨⟨d__law_same, rfl, rfl, kb47⟩, List.forall_mem_cons.mpr ⟨⟨d__law_asked, rfl, rfl, kb48⟩, List.forall_mem_cons.mpr ⟨⟨d_law, rfl, rfl, kb49⟩, fun c h => nomatch h⟩⟩⟩⟩⟩⟩⟩⟩⟩⟩⟩⟩⟩⟩⟩⟩⟩⟩⟩⟩⟩⟩⟩
  cms := List.forall_mem_cons.mpr ⟨⟨by decide +kernel, d_Wrongs___len__, rfl, rfl, kb8⟩, List.forall_mem_cons.mpr ⟨⟨by decide +kernel, d_Wrongs___eq__, rfl, rfl, kb9⟩, List.forall_mem_cons.mpr ⟨⟨by decide +kernel, d_Wrongs___str__, rfl, rfl, kb10⟩, List.forall_mem_cons.mpr ⟨⟨by decide +kernel, d_Wrongs___repr__, rfl, rfl, kb11⟩, List.forall_mem_cons.mpr ⟨⟨by decide +kernel, d_Wrongs_seen, rfl, rfl, kb12⟩, List.forall_mem_cons.mpr ⟨⟨by decide +kernel, d_Wrongs_seen, rfl, rfl, kb13⟩, List.forall_mem_cons.mpr ⟨⟨by decide +kernel, d_Wrongs_count_of, rfl, rfl, kb14⟩, List.forall_mem_cons.mpr ⟨⟨by decide +kernel, d_Wrongs_count_of, rfl, rfl, kb15⟩, List.forall_mem_cons.mpr ⟨⟨by decide +kernel, d_Wrongs_told, rfl, rfl, kb16⟩, List.forall_mem_cons.mpr ⟨⟨by decide +kernel, d_Wrongs_copied, rfl, rfl, kb17⟩, List.forall_mem_cons.mpr ⟨⟨by decide +kernel, d_View___len__, rfl, rfl, kb26⟩, List.forall_mem_cons.mpr ⟨⟨by decide +kernel, d_View___eq__, rfl, rfl, kb27⟩, List.forall_mem_cons.mpr ⟨⟨by decide +kernel, d_View___str__, rfl, rfl, kb28⟩, List.forall_mem_cons.mpr ⟨⟨by decide +kernel, d_View___repr__, rfl, rfl, kb29⟩, List.forall_mem_cons.mpr ⟨⟨by decide +kernel, d_View_told, rfl, rfl, kb30⟩, List.forall_mem_cons.mpr ⟨⟨by decide +kernel, d_View_own, rfl, rfl, kb31⟩, List.forall_mem_cons.mpr ⟨⟨by decide +kernel, d_View_hear, rfl, rfl, kb32⟩, List.forall_mem_cons.mpr ⟨⟨by decide +kernel, d_View_hear, rfl, rfl, kb33⟩, List.forall_mem_cons.mpr ⟨⟨by decide +kernel, d_View_put_right, rfl, rfl, kb34⟩, List.forall_mem_cons.mpr ⟨⟨by decide +kernel, d_View_silence, rfl, rfl, kb35⟩, List.forall_mem_cons.mpr ⟨⟨by decide +kernel, d_View_join, rfl, rfl, kb36⟩, List.forall_mem_cons.mpr ⟨⟨by decide +kernel, d_View_copied, rfl, rfl, kb37⟩, fun c h => nomatch h⟩⟩⟩⟩⟩⟩⟩⟩⟩⟩⟩⟩⟩⟩⟩⟩⟩⟩⟩⟩⟩⟩
  cks := List.forall_mem_cons.mpr ⟨⟨by decide +kernel, d_Wrongs___init__, rfl, rfl, kb7⟩, List.forall_mem_cons.mpr ⟨⟨by decide +kernel, d_View___init__, rfl, rfl, kb23⟩, List.forall_mem_cons.mpr ⟨⟨by decide +kernel, d_View___init__, rfl, rfl, kb24⟩, List.forall_mem_cons.mpr ⟨⟨by decide +kernel, d_View___init__, rfl, rfl, kb25⟩, fun c h => nomatch h⟩⟩⟩⟩
  ats := by decide +kernel
  nes := by decide +kernel
  xcs := List.forall_mem_cons.mpr ⟨⟨rfl, rfl, rfl, by decide +kernel, by kernel_rfl, by decide +kernel, by decide +kernel, by decide +kernel, fun _ _ _ _ _ _ us hl => match us, hl with | [_, _], _ => rfl⟩, List.forall_mem_cons.mpr ⟨⟨rfl, rfl, rfl, by decide +kernel, by kernel_rfl, by decide +kernel, by decide +kernel, by decide +kernel, fun _ _ _ _ _ _ us hl => match us, hl with | [_, _], _ => rfl⟩, List.forall_mem_cons.mpr ⟨⟨rfl, rfl, rfl, by decide +kernel, by kernel_rfl, by decide +kernel, by decide +kernel, by decide +kernel, fun _ _ _ _ _ _ us hl => match us, hl with | [_, _], _ => rfl⟩, List.forall_mem_cons.mpr ⟨⟨rfl, rfl, rfl, by decide +kernel, by kernel_rfl, by decide +kernel, by decide +kernel, by decide +kernel, fun _ _ _ _ _ _ us hl => match us, hl with | [_, _], _ => rfl⟩, List.forall_mem_cons.mpr ⟨⟨rfl, rfl, rfl, by decide +kernel, by kernel_rfl, by decide +kernel, by decide +kernel, by decide +kernel, fun _ _ _ _ _ _ us hl => match us, hl with | [_, _], _ => rfl⟩, List.forall_mem_cons.mpr ⟨⟨rfl, rfl, rfl, by decide +kernel, by kernel_rfl, by decide +kernel, by decide +kernel, by decide +kernel, fun _ _ _ _ _ _ us hl => match us, hl with | [_, _], _ => rfl⟩, List.forall_mem_cons.mpr ⟨⟨rfl, rfl, rfl, by decide +kernel, by kernel_rfl, by decide +kernel, by decide +kernel, by decide +kernel, fun _ _ _ _ _ _ us hl => match us, hl with | [_, _], _ => rfl⟩, fun c h => nomatch h⟩⟩⟩⟩⟩⟩⟩
abbrev R : PySem.W.OpenRow := PySem.W.OpenLaw.row PySem.Challenge.rw_peersmeet_k25_views_refused
theorem run (w : World) : HandSHeadRun.RunEq R (PySem.W.view R.prog [45]) (hkY y) (obY y) 9000 ("Absent" :: "HERE" :: "LETTERS" :: "NoName" :: "NoNumber" :: "NoPlace" :: "NoView" :: "NoWord" :: "NotThere" :: "PeerError" :: "RING" :: "SILENT" :: "TURNS" :: "Twice" :: "View" :: "WORDS" :: "Wrongs" :: "_law_alike" :: "_law_asked" :: "_law_bad" :: "_law_cell_at" :: "_law_done" :: "_law_good" :: "_law_names" :: "_law_row" :: "_law_said" :: "_law_same" :: "_wall" :: "in_order" :: "is_any_whole" :: "is_name" :: "is_number" :: "is_place" :: "is_whole" :: "is_word" :: "later" :: "need_name" :: "need_place" :: "rank_of" :: "talk" :: []) w := by
  intro os
  kernel_rfl
end WR.L
open PySem PySem.W PySem.Calls PyProof.Rows
theorem PySem.Challenge.cw_peersmeet_k25_views_refused_holds : PySem.Challenge.rw_peersmeet_k25_views_refused.Holds := by
  w_on; o_law
  refine HandSHeadRun.head_any (r := OpenLaw.row PySem.Challenge.rw_peersmeet_k25_views_refused) (q := view (OpenLaw.row PySem.Challenge.rw_peersmeet_k25_views_refused).prog [45]) (H := WR.hkY WR.L.y) (ob := WR.obY WR.L.y) (M := 9000) (loose := ("Absent" :: "HERE" :: "LETTERS" :: "NoName" :: "NoNumber" :: "NoPlace" :: "NoView" :: "NoWord" :: "NotThere" :: "PeerError" :: "RING" :: "SILENT" :: "TURNS" :: "Twice" :: "View" :: "WORDS" :: "Wrongs" :: "_law_alike" :: "_law_asked" :: "_law_bad" :: "_law_cell_at" :: "_law_done" :: "_law_good" :: "_law_names" :: "_law_row" :: "_law_said" :: "_law_same" :: "_wall" :: "in_order" :: "is_any_whole" :: "is_name" :: "is_number" :: "is_place" :: "is_whole" :: "is_word" :: "later" :: "need_name" :: "need_place" :: "rank_of" :: "talk" :: [])) (d := HandSHeadRun.topDef (OpenLaw.row PySem.Challenge.rw_peersmeet_k25_views_refused).prog 45) (kwd := []) (WR.obY_eq WR.L.y)
    (by kernel_rfl) (fun s => by kernel_rfl) WR.L.run (by kernel_rfl) (by kernel_rfl) (by kernel_rfl) (by rfl) (by first | assumption | decide +kernel) (by decide +kernel) ⟨rfl, rfl, rfl, rfl, rfl, by decide +kernel⟩ ?hw ?hc
  case hw => w_witness2
  case hc => exact WR.walkY (l := PySem.Challenge.rw_peersmeet_k25_views_refused) WR.L.y 40 24 WR.L.d_law WR.L.yok (by decide +kernel) rfl rfl rfl rfl ⟨_, List.mem_of_getElem? (i := 22) rfl, rfl⟩ (fun _ _ _ _ _ _ us hl => match us, hl with | [_], _ => rfl) rfl (by kernel_rfl) (by kernel_rfl) ⟨rfl, by decide, by decide⟩ WR.L.law_ok

