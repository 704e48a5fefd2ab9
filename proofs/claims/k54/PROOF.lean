import PyProof.Rows.All
import Wide.All
import OpenK.AllK
import Wide.FinOn
import HandS.ForMost
import PyProof.StrBlock2
import HandS.Exc
import HandS.Wide
import HandS.Defaults
import HandS.IsInst
import HandS.TupAny
import HandS.WordsExc
import HandS.Ends
import HandS.ExcInit
import HandS.ExcField
import HandS.TryMany
import HandS.Codes
import KE.KIsAll
import HandS.Deep
import HandS.More
import HandS.Conv
import HandS.Finally
import HandS.Replace
import HandS.SortInts
import HandS.FStr
import HandS.DictComp
import HandS.DictEq
import KE.KEqDict
import KE.KCallOwn
import PyProof.InstNe
import PyProof.Rows.TmSorted
import PyProof.ReprRoads
import PyProof.CallFns
import KE.KDictList
import HandS.ListItems
import HandS.Flow
import HandS.Style
import HandS.Head0
import HandS.Head1
import HandS.Head2
import HandS.HeadEnd
import HandS.HeadHook1
import HandS.HeadHook2
import HandS.HeadHook3
import HandS.HeadHook4
import HandS.WordsDict
import PyProof.Rows.SortStr
import PySem.Challenge.RW_peersmeet_k54_roads_bear_letters
import PyProof.ReprBulk
set_option Elab.async false
set_option linter.all false
set_option maxRecDepth 100000
set_option maxHeartbeats 4000000
namespace WR
open PySem PySem.Spec PyProof.Rows L2

abbrev St := L2.St
/-! ## 1. the tracked view of an object -/
def absVs : List Value → Option (List V)
  | [] => some []
  | u :: us => match absV u, absVs us with
    | some v, some vs => some (v :: vs)
    | _, _ => none
theorem absV_rel {u : Value} {v : V} (h : absV u = some v) : RelV v u := by
  cases u <;> simp [absV] at h <;> subst h <;> first | rfl | exact ⟨_, rfl⟩
theorem absVs_rel : ∀ {us : List Value} {vs : List V}, absVs us = some vs → Vals vs us
  | [], vs, h => by cases h; exact .nil
  | u :: us, vs, h => by
    unfold absVs at h
    cases e1 : absV u with
    | none => rw [e1] at h; simp at h
    | some v =>
      cases e2 : absVs us with
      | none => rw [e1, e2] at h; simp at h
      | some w => rw [e1, e2] at h; cases h; exact .cons (absV_rel e1) (absVs_rel e2)

/-- a list or tuple of the written part -/
def kobj (K : PySem.W.Frag) (a : Addr) : Option HO :=
  match K.lookup a with
  | some o => match o.data with
    | .seq its _ => if its.size ≤ sizeLine then
        match absVs its.toList with
        | some vs => if (o.cls == .type "list") = true ∧ o.dict = none then some (.lst vs) else if (o.cls == .type "tuple") = true then some (.tup vs) else none
        | none => none
      else none
    | _ => none
  | none => none
/-- what is to be read at a -/
def look (K : PySem.W.Frag) (H : Hp) (a : Addr) : Option HO :=
  match H a with
  | some (.frz _ u) => some u
  | some o => some o
  | none => kobj K a

theorem kobj_lst {K : PySem.W.Frag} {H : Hp} {a : Addr} {xs : List V} (h : kobj K a = some (.lst xs)) : SqL K H a xs := by
  unfold kobj at h
  split at h
  · rename_i o ho
    split at h
    · rename_i its n hd
      split at h
      · rename_i hz
        split at h
        · rename_i vs hv
          split at h
          · rename_i hc
            cases h
            exact .inr ⟨o, its, n, ho, beq_iff_eq.mp hc.1, hc.2, hd, hz, absVs_rel hv⟩
          · split at h <;> cases h
        · cases h
      · cases h
    · cases h
  · cases h
theorem kobj_tup {K : PySem.W.Frag} {H : Hp} {a : Addr} {xs : List V} (h : kobj K a = some (.tup xs)) : SqT K H a xs := by
  unfold kobj at h
  split at h
  · rename_i o ho
    split at h
    · rename_i its n hd
      split at h
      · rename_i hz
        split at h
        · rename_i vs hv
          split at h
          · cases h
          · split at h
            · rename_i hc
              cases h
              exact .inr ⟨o, its, n, ho, beq_iff_eq.mp hc, hd, hz, absVs_rel hv⟩
            · cases h
        · cases h
      · cases h
    · cases h
  · cases h
theorem look_rd {K : PySem.W.Frag} {H : Hp} {a : Addr} {u : HO} (h : look K H a = some u) : Rd H a u ∨ (H a = none ∧ kobj K a = some u) := by
  unfold look at h
  split at h
  · rename_i o v e; cases h; exact .inl (.inr ⟨_, e⟩)
  · rename_i o hn e; cases h; exact .inl (.inl e)
  · rename_i e; exact .inr ⟨e, h⟩
theorem look_lst {K : PySem.W.Frag} {H : Hp} {a : Addr} {xs : List V} (h : look K H a = some (.lst xs)) : SqL K H a xs := by
  rcases look_rd h with r | ⟨_, r⟩
  · exact .inl r
  · exact kobj_lst r
theorem look_tup {K : PySem.W.Frag} {H : Hp} {a : Addr} {xs : List V} (h : look K H a = some (.tup xs)) : SqT K H a xs := by
  rcases look_rd h with r | ⟨_, r⟩
  · exact .inl r
  · exact kobj_tup r
theorem kobj_no {K : PySem.W.Frag} {a : Addr} {u : HO} (h : kobj K a = some u) : (∃ xs, u = .lst xs) ∨ ∃ xs, u = .tup xs := by
  unfold kobj at h
  split at h
  · split at h
    · split at h
      · split at h
        · split at h
          · cases h; exact .inl ⟨_, rfl⟩
          · split at h
            · cases h; exact .inr ⟨_, rfl⟩
            · cases h
        · cases h
      · cases h
    · cases h
  · cases h
theorem look_dK {K : PySem.W.Frag} {H : Hp} {a : Addr} {kvs : List (Key × V)} (h : look K H a = some (.dK kvs)) : Rd H a (.dK kvs) := by
  rcases look_rd h with r | ⟨_, r⟩
  · exact r
  · rcases kobj_no r with ⟨_, e⟩ | ⟨_, e⟩ <;> cases e
theorem look_of {K : PySem.W.Frag} {H : Hp} {a : Addr} {u : HO} (h : H a = some u) (hu : ∀ o w, u ≠ .frz o w) : look K H a = some u := by
  unfold look
  rw [h]
  cases u <;> first | rfl | exact absurd rfl (hu _ _)
theorem look_of_lst {K : PySem.W.Frag} {H : Hp} {a : Addr} {xs : List V} (h : H a = some (.lst xs)) : look K H a = some (.lst xs) := look_of h fun _ _ z => nomatch z
theorem look_of_tup {K : PySem.W.Frag} {H : Hp} {a : Addr} {xs : List V} (h : H a = some (.tup xs)) : look K H a = some (.tup xs) := look_of h fun _ _ z => nomatch z
theorem look_of_dK {K : PySem.W.Frag} {H : Hp} {a : Addr} {kvs : List (Key × V)} (h : H a = some (.dK kvs)) : look K H a = some (.dK kvs) := look_of h fun _ _ z => nomatch z
theorem look_ne {K : PySem.W.Frag} {H : Hp} {a b : Addr} {o : HO} (h : b ≠ a) : look K (upd H a o) b = look K H b := by
  unfold look; rw [upd_ne h]
theorem look_same {K : PySem.W.Frag} {H : Hp} {a : Addr} {o : HO} (ho : ∀ u w, o ≠ .frz u w) : look K (upd H a o) a = some o := look_of upd_same ho

/-! ## 2. weakenings -/
section
variable {X : Cx}
theorem PE_imp {e : Expr} {t t' : TE} (h : PE X e t) (k : ∀ σ H Q, t' σ H Q → t σ H Q) : PE X e t' := ⟨fun pins s σ H Q I q => h.run pins s σ H Q I (k σ H Q q)⟩
theorem PT_imp {e : Expr} {t t' : TT} (h : PT X e t) (k : ∀ σ H Q, t' σ H Q → t σ H Q) : PT X e t' := ⟨fun pins s σ H Q I q => h.run pins s σ H Q I (k σ H Q q)⟩
theorem PS_imp {e : Stmt} {t t' : TS} (h : PS X e t) (k : ∀ D σ H, t' D σ H → t D σ H) : PS X e t' := ⟨fun pins s σ H D I q => h.run pins s σ H D I (k D σ H q)⟩
theorem PSs_imp {e : List Stmt} {t t' : TS} (h : PSs X e t) (k : ∀ D σ H, t' D σ H → t D σ H) : PSs X e t' := ⟨fun pins s σ H D I q => h.run pins s σ H D I (k D σ H q)⟩
theorem OpR_imp {f : Value → Value → Sem Value} {r r' : R2} (h : OpR X f r) (k : ∀ x y H Q, r' x y H Q → r x y H Q) : OpR X f r' := fun pins s σ H x y v u Q I rx ry q => h pins s σ H x y v u Q I rx ry (k x y H Q q)
theorem CallR_imp {f : Value} {r r' : List V → Hp → VK → Prop} (h : CallR X f r) (k : ∀ xs H Q, r' xs H Q → r xs H Q) : CallR X f r' := fun pins s σ H xs us Q I rx q => h pins s σ H xs us Q I rx (k xs H Q q)
theorem MtR_imp {id : String} {r r' : V → List V → Hp → VK → Prop} (h : MtR X id r) (k : ∀ x xs H Q, r' x xs H Q → r x xs H Q) : MtR X id r' := fun pins s σ H x xs v us Q I rx rs q => h pins s σ H x xs v us Q I rx rs (k x xs H Q q)
end

/-! ## 3. operators by values -/
def oAdd (K : PySem.W.Frag) : R2 := fun x y H Q => match x, y with
  | .int i, .int j => Q (.int (i + j)) H
  | .str a, .str b => a.length + b.length ≤ sizeLine ∧ Q (.str (a ++ b)) H
  | .ref p, .ref q => match H p, H q with
    | some (.lst xs), some (.lst ys) => xs.length + ys.length ≤ sizeLine ∧ ∀ n, H n = none → Q (.ref n) (upd H n (.lst (xs ++ ys)))
    | some (.tup xs), some (.tup ys) => xs.length + ys.length ≤ sizeLine ∧ (xs = [] → Q (.ref q) H) ∧ (xs ≠ [] → ys = [] → Q (.ref p) H) ∧ (xs ≠ [] → ys ≠ [] → ∀ n, H n = none → Q (.ref n) (upd H n (.tup (xs ++ ys))))
    | _, _ => False
  | _, _ => False
def oSub : R2 := fun x y H Q => match x, y with
  | .int i, .int j => Q (.int (i - j)) H
  | _, _ => False
def oMul : R2 := fun x y H Q => match x, y with
  | .int i, .int j => CMulW i j ∧ Q (.int (i * j)) H
  | .str a, .int j => PySem.MulOk a j ∧ Q (.str (Txt.mul a j)) H
  | _, _ => False
def oFdiv : R2 := fun x y H Q => match x, y with
  | .int i, .int j => CDivW i j ∧ Q (.int (i / j)) H
  | _, _ => False
def oMod : R2 := fun x y H Q => match x, y with
  | .int i, .int j => 0 < j ∧ Q (.int (i % j)) H
  | _, _ => False
def oPow : R2 := fun x y H Q => match x, y with
  | .int i, .int j => CPow i j ∧ Q (.int (i ^ j.toNat)) H
  | _, _ => False
def oShl : R2 := fun x y H Q => match x, y with
  | .int i, .int j => CPow i j ∧ Q (.int (i * 2 ^ j.toNat)) H
  | _, _ => False
def oLt : R2 := fun x y H Q => match x, y with
  | .int i, .int j => Q (.bl (decide (i < j))) H
  | .str a, .str b => Q (.bl (decide (a.cps.toList < b.cps.toList))) H
  | _, _ => False
def oLe : R2 := fun x y H Q => match x, y with
  | .int i, .int j => Q (.bl (decide (i ≤ j))) H
  | .str a, .str b => Q (.bl (!decide (b.cps.toList < a.cps.toList))) H
  | _, _ => False
def oGt : R2 := fun x y H Q => match x, y with
  | .int i, .int j => Q (.bl (decide (j < i))) H
  | .str a, .str b => Q (.bl (decide (b.cps.toList < a.cps.toList))) H
  | _, _ => False
def oGe : R2 := fun x y H Q => match x, y with
  | .int i, .int j => Q (.bl (decide (j ≤ i))) H
  | .str a, .str b => Q (.bl (!decide (a.cps.toList < b.cps.toList))) H
  | _, _ => False
def oEq (K : PySem.W.Frag) : R2 := fun x y H Q => (scal x y = true ∧ Q (.bl (decide (x = y))) H) ∨ rEqD K x y H Q
def oNe (K : PySem.W.Frag) : R2 := fun x y H Q => (scal x y = true ∧ Q (.bl (!decide (x = y))) H) ∨ rNeD K x y H Q
def oIs : R2 := fun x y H Q => y = .non ∧ Q (.bl (decide (x = .non))) H
def oIsNot : R2 := fun x y H Q => y = .non ∧ Q (.bl (!decide (x = .non))) H
section
variable {X : Cx}
theorem r_add : OpR X (binaryOp .Add) (oAdd X.K) := by
  refine OpR_imp (op_add.or (op_add_str.or (op_cat.or op_catA))) fun x y H Q h => ?_
  unfold oAdd at h
  split at h
  · exact .inl ⟨_, _, rfl, rfl, h⟩
  · exact .inr (.inl ⟨_, _, rfl, rfl, h.1, h.2⟩)
  · split at h
    · rename_i hp hq
      exact .inr (.inr (.inl ⟨_, _, _, _, rfl, rfl, hp, hq, h.1, h.2⟩))
    · rename_i hp hq
      exact .inr (.inr (.inr ⟨_, _, _, _, rfl, rfl, .of hp, .of hq, h.1, h.2.1, h.2.2.1, h.2.2.2⟩))
    · exact h.elim
  · exact h.elim
theorem r_sub : OpR X (binaryOp .Sub) oSub := OpR_imp op_sub fun x y H Q h => by
  unfold oSub at h
  split at h
  · exact ⟨_, _, rfl, rfl, h⟩
  · exact h.elim
theorem r_mul : OpR X (binaryOp .Mult) oMul := by
  intro pins s σ H x y v u Q I rx ry h
  unfold oMul at h
  split at h
  · exact op_mulW pins s σ H _ _ v u Q I rx ry ⟨_, _, rfl, rfl, h.1, h.2⟩
  · obtain ⟨t1, rfl⟩ := rx
    obtain ⟨t2, rfl⟩ := ry
    exact PySem.SB.mul h.1 fun t' k => ⟨.str _, H, I.tok _, ⟨_, rfl⟩, h.2⟩
  · exact h.elim
theorem r_fdiv : OpR X (binaryOp .FloorDiv) oFdiv := OpR_imp op_fdivW fun x y H Q h => by
  unfold oFdiv at h
  split at h
  · exact ⟨_, _, rfl, rfl, h.1, h.2⟩
  · exact h.elim
theorem r_mod : OpR X (binaryOp .Mod) oMod := OpR_imp op_mod fun x y H Q h => by
  unfold oMod at h
  split at h
  · exact ⟨_, _, rfl, rfl, h.1, h.2⟩
  · exact h.elim
theorem r_pow : OpR X (binaryOp .Pow) oPow := OpR_imp op_pow fun x y H Q h => by
  unfold oPow at h
  split at h
  · exact ⟨_, _, rfl, rfl, h.1, h.2⟩
  · exact h.elim
theorem r_shl : OpR X (binaryOp .LShift) oShl := OpR_imp op_shl fun x y H Q h => by
  unfold oShl at h
  split at h
  · exact ⟨_, _, rfl, rfl, h.1, h.2⟩
  · exact h.elim
theorem r_lt : OpR X (compareOp .Lt) oLt := OpR_imp (op_lt.or op_lt_str) fun x y H Q h => by
  unfold oLt at h
  split at h
  · exact .inl ⟨_, _, rfl, rfl, h⟩
  · exact .inr ⟨_, _, rfl, rfl, h⟩
  · exact h.elim
theorem r_le : OpR X (compareOp .LtE) oLe := OpR_imp (op_le.or op_le_str) fun x y H Q h => by
  unfold oLe at h
  split at h
  · exact .inl ⟨_, _, rfl, rfl, h⟩
  · exact .inr ⟨_, _, rfl, rfl, h⟩
  · exact h.elim
theorem r_gt : OpR X (compareOp .Gt) oGt := OpR_imp (op_gt.or op_gt_str) fun x y H Q h => by
  unfold oGt at h
  split at h
  · exact .inl ⟨_, _, rfl, rfl, h⟩
  · exact .inr ⟨_, _, rfl, rfl, h⟩
  · exact h.elim
theorem r_ge : OpR X (compareOp .GtE) oGe := OpR_imp (op_ge.or op_ge_str) fun x y H Q h => by
  unfold oGe at h
  split at h
  · exact .inl ⟨_, _, rfl, rfl, h⟩
  · exact .inr ⟨_, _, rfl, rfl, h⟩
  · exact h.elim
theorem r_eq (hu : X.A.units + 64 < cLine) : OpR X (compareOp .Eq) (oEq X.K) := op_eq.or (op_eqD hu)
theorem r_ne (hu : X.A.units + 64 < cLine) : OpR X (compareOp .NotEq) (oNe X.K) := op_ne.or (op_neD hu)
theorem r_is : OpR X (compareOp .Is) oIs := op_isN
theorem r_isnot : OpR X (compareOp .IsNot) oIsNot := op_notN
end
end WR

set_option Elab.async false
set_option linter.all false
set_option maxRecDepth 100000
set_option maxHeartbeats 4000000
namespace WR
open PySem PySem.Spec PyProof.Rows L2

/-! ## a def's promise where no repr is under way (so that repr of lists may be asked) -/
structure FnW (P : Program) (w : World) (K : PySem.W.Frag) (mg : Str → Option Value) (base : Heap) (CX : CXT) (k : Nat) (f : Addr) (fd : FuncData) (ps : List Str) (sp : Sp) : Prop where
  len : ∀ vs H Q E, sp vs H Q E → vs.length = ps.length
  run : ∀ (A : Around) (outer : List Env) (s : Shared) (H : Hp) (args : Args) (us : List Value) (vs : List V) (Q : VK) (E : XK), Room k A → A.guards = some [] →
    Env0 P w K mg base A outer s H → BindsTo s fd args (ps.zip us) → Vals vs us → sp vs H Q E → codeAny (model P w) A (.call (.ref f) args) (CR CX outer P w H s Q E) s
theorem FnW.false_ {P : Program} {w : World} {K : PySem.W.Frag} {mg : Str → Option Value} {base : Heap} {CX : CXT} {k : Nat} {f : Addr} {fd : FuncData} {ps : List Str} : FnW P w K mg base CX k f fd ps (fun _ _ _ _ => False) :=
  ⟨fun _ _ _ _ z => z.elim, fun _ _ _ _ _ _ _ _ _ _ _ _ _ _ z => z.elim⟩
theorem gd_make {A : Around} (g : A.guards = some []) (C : Addr) (us : List Value) (kw : List (Str × Value)) : (A.under (.builtin "type.__call__" ⟨.ref C :: us, kw⟩)).guards = some [] := by
  have e : (A.under (.builtin "type.__call__" ⟨.ref C :: us, kw⟩)).guards = A.guards := by
    first
      | rfl
      | simp [Around.under, Code.guards, Code.isGuard, guardIds, pushGuards, g]
  rw [e, g]
section
variable {CX : CXT} {P : Program} {w : World} {K : PySem.W.Frag} {mg : Str → Option Value} {base : Heap} {N ps : List Str} {k : Nat} {sp : Sp} {x qual : Str} {params : Arguments} {body : List Stmt} {scope : Scope} {dvs : List V} {kws : List (Str × V)} {f : Addr} {fd : FuncData}
/-- from the reading of its body -/
theorem fnW_of (F : FunD K x qual params body scope dvs kws f fd) (S : FnScope N ps scope) (len : ∀ vs H Q E, sp vs H Q E → vs.length = ps.length)
    (hbody : ∀ (cdv : Value) (A : Around) (outer : List Env) (s : Shared) (H : Hp) (vs : List V) (Q : VK) (E : XK), Room k (A.deeper (envOfC qual scope s.heap.objs.size f cdv)) → A.guards = some [] → sp vs H Q E →
      ∃ t, PSs (cxOf CX P w K mg base N qual scope f cdv A outer s H E) body t ∧ t { nx := fun _ H' => Q .non H', rt := Q } (start N vs) H) : FnW P w K mg base CX (k + 1) f fd ps sp := by
  obtain ⟨oc, od, dV, kV, doc, pm, an, cdv, ct, osl, rfl, lk, hcd, _, _⟩ := F.ex
  constructor
  · exact len
  intro A outer s H args us vs Q E room gd env binds rel want
  have KX : K.In s.heap := env.mod.kin.keeps fun b o z => (env.bs b o z).1
  have nolim : s.heap.NoLimit := env.mod.nolimit.keeps fun b o z => (env.bs b o z).1
  have known : ∀ y ∈ ps.zip us, scope.names.lookup y.1 = some .local ∨ (scope.names.lookup y.1 = some .cell ∧ ((cellsFrom (s.heap.objs.size + 1) scope.names []).lookup y.1).isSome = true) := by
    rintro ⟨n, v⟩ hy
    cases S.par n (List.of_mem_zip hy).1 with
    | inl q => exact .inl q
    | inr q => exact .inr ⟨q, PySem.W.cellsFrom_some _ _ _ (.inl q)⟩
  apply codeAny_call_function room.depth (KX _ _ lk) rfl S.co S.gen rfl (PySem.W.codeRec_of KX hcd)
  apply binds
  apply wpAny_newFunctionEnv_cells S.kind known
  rintro env' rfl s1 inc
  refine ⟨nolim.keeps inc.toInCall.keep, codeAny_func ?_⟩
  obtain ⟨t, ht, hq⟩ := hbody cdv A outer s H vs Q E (room.deeper _) gd want
  have start_ok : Inv (cxOf CX P w K mg base N qual scope f cdv A outer s H E) [] (start N vs) H s1 := inv_start S room.hd env (len _ _ _ _ want) rel inc
  refine wpAny_mono (ht.run [] s1 (start N vs) H _ start_ok hq) ?_ (fun _ _ z => z)
  intro fl s' got
  have back : ∀ {σ' : St} {H' : Hp} {v : V} {u : Value}, Inv (cxOf CX P w K mg base N qual scope f cdv A outer s H E) [] σ' H' s' → RelV v u → Q v H' → CE outer P w H s Q u s' := by
    intro σ' H' v u J rv q
    exact ⟨v, H', J.os, J.bare, J.base, J.hok, rv, q⟩
  match fl, got with
  | .ret u, ⟨v, σ', H', J, rv, q⟩ => exact back J rv q
  | .next, ⟨σ', H', J, q⟩ => exact back (v := .non) (u := .none) J rfl q
  | .brk, ⟨_, _, _, q⟩ => exact q.elim
  | .cont, ⟨_, _, _, q⟩ => exact q.elim
end
/-- the law's call: the script is an object of its own, known to the object -/
theorem lawW_call {P : Program} {w : World} {K : PySem.W.Frag} {mg mb : Str → Option Value} {CX : CXT} {k : Nat} {fa a : Addr} {fd : FuncData} {x : Str} {sp : Sp} {s₁ : Shared} {vs : List Value} {ns : List Int}
    (KX : K.In s₁.heap) (hns : s₁.heap.Ns mainGlobals mg) (hb : s₁.heap.Ns builtinsNs mb) (hbb : ∀ x : Str, x ≠ "__name__" → mb x = bootBuiltins x) (hlim : s₁.heap.NoLimit) (hg : s₁.gens = #[])
    (ha : s₁.heap.get? a = some { cls := .type "list", data := .seq vs.toArray }) (hi : IntsAre vs ns) (hl : ns.length ≤ sizeLine) (hr : Room k callerA) (hK : K.lookup a = none)
    (F : ∀ base : Heap, K.In base → base.Ns mainGlobals mg → FnW P w K mg base CX k fa fd [x] sp) (hbind : ∀ (s : Shared) (u : Value), BindsTo s fd ⟨[u], []⟩ [(x, u)])
    (hsp : ∀ H : Hp, Only H → (∃ o, H a = some (.frz o (.lst (ns.map V.int)))) → sp [.ref a] H (fun v _ => v = .bl true) fun _ _ _ => False)
    (hCX : ∀ H e s', CX [] H s₁ (fun _ _ _ => False) e s' → False) :
    codeAny (model P w) callerA (.call (.ref fa) ⟨[.ref a], []⟩) (fun r s' => r = .ok (.ret (.bool true)) ∧ OldK s₁.heap s'.heap ∧ s'.os = s₁.os ∧ AllBare s'.gens) s₁ := by
  have rel := vals_ints hi
  let H : Hp := fun b => if b = a then some (.frz { cls := .type "list", data := .seq vs.toArray } (.lst (ns.map V.int))) else none
  have Ha : H a = some (.frz { cls := .type "list", data := .seq vs.toArray } (.lst (ns.map V.int))) := if_pos rfl
  have Hn : ∀ {b : Addr}, b ≠ a → H b = none := fun z => if_neg z
  have only : Only H := fun b => by
    by_cases z : b = a
    · subst z; exact .inr ⟨_, _, Ha⟩
    · exact .inl (Hn z)
  have hok : HOk P w H s₁.heap := fun b u z => by
    by_cases e : b = a
    · subst e
      rw [Ha] at z; cases z
      exact ⟨ha, by rw [List.length_map]; exact hl, vs, _, rel, ha⟩
    · rw [Hn e] at z; cases z
  have hid : ∀ {b : Addr} {o : Obj}, s₁.heap.get? b = some o → b ≠ a → (hidT s₁.heap H).get? b = some o := fun z n => hidT_get z (Hn n)
  have nsK : ∀ {b : Addr} {m : Str → Option Value}, s₁.heap.Ns b m → (hidT s₁.heap H).Ns b m := by
    rintro b m ⟨o, es, ep, z, dd, r⟩
    refine ⟨o, es, ep, hid z ?_, dd, r⟩
    rintro rfl
    rw [ha] at z; cases z; cases dd
  have KB : K.In (hidT s₁.heap H) := fun b o z => hid (KX b o z) fun e => by rw [e, hK] at z; cases z
  have M : Mod K mg (hidT s₁.heap H) := by
    obtain ⟨mc, l1, l2⟩ := hlim
    exact ⟨KB, nsK hns, ⟨mb, nsK hb, hbb⟩, ⟨mc, nsK l1, l2⟩⟩
  have env : Env0 P w K mg (hidT s₁.heap H) callerA [] s₁ H := by
    refine ⟨rfl, M, fun b o z => of_hidT z, Nat.le_of_eq (hidT_size _ _), trivial, ?_, hok, .of_eq hg⟩
    intro b hb
    exact absurd (show b ∈ ([] : List Addr) from hb) (by simp)
  refine codeAny_mono ((F _ KB (nsK hns)).run callerA [] s₁ H ⟨[.ref a], []⟩ [.ref a] [.ref a] _ _ hr rfl env (hbind s₁ (.ref a)) (.cons rfl .nil) (hsp H only ⟨_, Ha⟩)) ?_
  intro r s' got
  match r, got with
  | .error e, got => exact (hCX H e s' got).elim
  | .ok .next, got => exact False.elim got
  | .ok .brk, got => exact False.elim got
  | .ok .cont, got => exact False.elim got
  | .ok (.ret u), got =>
    obtain ⟨v, H', os, bare, un, hok', ru, q⟩ := got
    obtain rfl : v = .bl true := q
    obtain rfl : u = Value.bool true := ru
    refine ⟨rfl, OldK.of_keep fun b o z => ?_, os, bare⟩
    by_cases e : b = a
    · subst e
      rw [ha] at z; cases z
      exact (hok' b _ (un.frzs b _ _ Ha)).1
    · exact un.keep b o z (Hn e) (fun m => absurd (show b ∈ ([] : List Addr) from m) (by simp)) (by simp)
end WR

set_option Elab.async false
set_option linter.all false
set_option maxRecDepth 100000
set_option maxHeartbeats 4000000
/-! ## own exception classes over ValueError, KeyError, LookupError, made by an own __init__(self, x): B.__init__(self, text); self.f = x -/
namespace WRX
open PySem PySem.W PySem.Calls PyProof.Rows PySem.HandSPX
/-- B.__init__ is BaseException's -/
structure XIn (B initId : String) : Prop where
  plain : plainId initId = true
  entry : entryFor table initId = some Builtin.«BaseException.__init__»
  split : splitId initId = some (B, "__init__")
  kind : builtinKind initId = some .slot
  row : Manifest.signature? initId = some ⟨.positional, "*", B, .self, [⟨"args", .varPos, false⟩]⟩
  noStar : (B != "*") = true
inductive XB where | val | key | loo
  deriving DecidableEq
/-- the built-in class -/
def XB.nm : XB → String | .val => "ValueError" | .key => "KeyError" | .loo => "LookupError"
/-- the class that brings __new__ -/
def XB.mk : XB → String | .val => "ValueError" | .key => "LookupError" | .loo => "LookupError"
def XB.new : XB → String | .val => "ValueError.__new__" | .key => "LookupError.__new__" | .loo => "LookupError.__new__"
def XB.ini : XB → String | .val => "ValueError.__init__" | .key => "KeyError.__init__" | .loo => "LookupError.__init__"
def XB.tail : XB → List Value
  | .val => [.type "ValueError", .type "Exception", .type "BaseException", .type "object"]
  | .key => [.type "KeyError", .type "LookupError", .type "Exception", .type "BaseException", .type "object"]
  | .loo => [.type "LookupError", .type "Exception", .type "BaseException", .type "object"]
theorem xin (b : XB) : XIn b.nm b.ini := by
  cases b
  · exact ⟨by decide +kernel, F.excCall_ValueError.initEntry, by kernel_rfl, by kernel_rfl, by kernel_rfl, by decide +kernel⟩
  · exact ⟨by decide +kernel, entryFor_alias (id' := "BaseException.__init__") (by rw [fastTable_eq_tree]; kernel_rfl) (by first | rfl | decide +kernel) (by decide +kernel) (by rw [fastTable_eq_tree]; kernel_rfl),
      by kernel_rfl, by kernel_rfl, by kernel_rfl, by decide +kernel⟩
  · exact ⟨by decide +kernel, F.excCall_LookupError.initEntry, by kernel_rfl, by kernel_rfl, by kernel_rfl, by decide +kernel⟩
theorem xbase (b : XB) : ∃ ini bmB, ExcBaseFacts b.mk b.new ini bmB := by
  cases b
  · exact ⟨_, _, F.excBase_ValueError⟩
  · exact ⟨_, _, F.excBase_LookupError⟩
  · exact ⟨_, _, F.excBase_LookupError⟩
def isRf : Value → Bool
  | .ref _ => true
  | _ => false
/-- own classes, then the built-in tail -/
def tailB (b : XB) (l : List Value) : Bool := decide (l.dropWhile isRf = b.tail)
theorem tail_split {b : XB} {l : List Value} (h : tailB b l = true) : ∃ rs, l = rs ++ b.tail ∧ ∀ r ∈ rs, isRf r = true := by
  have e : l.dropWhile isRf = b.tail := of_decide_eq_true h
  refine ⟨l.takeWhile isRf, ?_, fun r hr => ?_⟩
  · rw [← e, List.takeWhile_append_dropWhile]
  · have aux : ∀ m : List Value, r ∈ m.takeWhile isRf → isRf r = true := by
      intro m
      induction m with
      | nil => intro z; cases z
      | cons x m ih =>
        intro z
        rw [List.takeWhile_cons] at z
        split at z
        · rcases List.mem_cons.mp z with rfl | z
          · assumption
          · exact ih z
        · cases z
    exact aux l hr
theorem rfs_has {X : String} : ∀ {rs : List Value}, (∀ r ∈ rs, isRf r = true) → rs.contains (.type X) = false
  | [], _ => rfl
  | r :: rs, h => by
    have h1 := h r (List.mem_cons_self ..)
    rw [List.contains_cons, rfs_has fun q hq => h q (List.mem_cons_of_mem _ hq), Bool.or_false]
    cases r <;> first | rfl | (simp [isRf] at h1; done)
theorem tail_has {b : XB} {l : List Value} (h : tailB b l = true) (X : String) : l.contains (.type X) = b.tail.contains (.type X) := by
  obtain ⟨rs, rfl, hr⟩ := tail_split h
  rw [List.contains_eq_any_beq, List.any_append, ← List.contains_eq_any_beq, ← List.contains_eq_any_beq, rfs_has hr, Bool.false_or]
theorem tail_pass {b : XB} (self : Value) {l : List Value} (h : tailB b l = true) : refuseLoop self "__setattr__" l = pure () := by
  obtain ⟨rs, rfl, hr⟩ := tail_split h
  induction rs with
  | nil => cases b <;> kernel_rfl
  | cons r rs ih =>
    have h1 := hr r (List.mem_cons_self ..)
    cases r <;> first | (simp [isRf] at h1; done) | skip
    rw [List.cons_append, refuseLoop_ref]
    have h2 : tailB b (rs ++ b.tail) = true := by
      have : ((.ref _ :: rs) ++ b.tail).dropWhile isRf = b.tail := of_decide_eq_true h
      rw [List.cons_append, List.dropWhile_cons] at this
      exact decide_eq_true this
    exact ih (fun q hq => hr q (List.mem_cons_of_mem _ hq)) h2
theorem tail_ne {b : XB} {l : List Value} (h : tailB b l = true) : l.isEmpty = false := by
  obtain ⟨rs, rfl, hr⟩ := tail_split h
  cases rs <;> cases b <;> rfl
section
variable {M : Model} {A : Around} {E : Value → Shared → Prop} {h : Heap} {g : Array GenState} {d : Drawn} {t : Nat} {os : OsState}
variable {nm q : Str} {C N : Addr} {bs bm bmB : List Value} {hdct : Bool} {sn : List Str} {sub : List Value} {ab : Bool} {col : Option Bool} {dd : Option Addr} {k0 k1 k2 k3 k5 : Option Value} {B newId initId : String}
theorem xm_check (F : ExcBaseFacts B newId initId bmB) (hB : bm.contains (.type B) = true) {rest : List Value} {Q : Unit → Shared → Prop}
    (hC : h.get? C = some (excClassObj nm q C N bs bm hdct sn sub ab col dd k0 k1 k2 k3 k5 newId)) (hq : Q () ⟨h, g, d, t, os⟩) :
    wpAny M A (checkBuiltinCall newId ⟨.ref C :: rest, []⟩) Q E ⟨h, g, d, t, os⟩ := by
  have into : (Value.ref C :: bm).contains (.type B) = true := by simp only [List.contains_cons, hB, Bool.or_true]
  have star := F.noStar
  simp only [checkBuiltinCall, F.newSplit, F.newKind, F.newRow]
  repeat (first
    | refine wpAny_loadPart_at hC ?_
    | (refine wpAny_isSubtype_exc hC ?_; rw [into])
    | refine wpAny_staticBase_exc hC ?_
    | refine wpAny_madeBy_exc hC ?_
    | simp only [bne_self_eq_false, Bool.false_eq_true, if_false]
    | wp_step)
  exact hq
theorem xm_check_init (J : XIn B initId) (hB : bm.contains (.type B) = true) {e : Addr} {oe : Obj} {rest : List Value} {Q : Unit → Shared → Prop}
    (hC : h.get? C = some (excClassObj nm q C N bs bm hdct sn sub ab col dd k0 k1 k2 k3 k5 newId)) (he : h.get? e = some oe) (hcls : oe.cls = .ref C) (hq : Q () ⟨h, g, d, t, os⟩) :
    wpAny M A (checkBuiltinCall initId ⟨.ref e :: rest, []⟩) Q E ⟨h, g, d, t, os⟩ := by
  have into : (Value.ref C :: bm).contains (.type B) = true := by simp only [List.contains_cons, hB, Bool.or_true]
  have star := J.noStar
  simp only [checkBuiltinCall, J.split, J.kind, J.row]
  repeat (first
    | (with_reducible refine wpAny_loadPart_at he ?_; rw [hcls])
    | with_reducible refine wpAny_loadPart_at hC ?_
    | (with_reducible refine wpAny_isSubtype_exc hC ?_; rw [into])
    | wp_step)
  refine wpAny_onRaise ?_
  have star_ok : ∀ (a b : String) (n : Nat), Bind.check ⟨.positional, "*", B, .self, [⟨"args", .varPos, false⟩]⟩ a b n (List.map (fun x => x.fst) ({ pos := Value.ref e :: rest } : Args).kw) = pure () :=
    fun a b n => check_star_args _ _ _ _ _ _
  rw [star_ok]
  exact wpAny_pure hq
end
section
variable {prog : Program} {w : World} {A : Around} {E : Value → Shared → Prop} {R : Result → Shared → Prop} {h : Heap} {g : Array GenState} {d : Drawn} {t : Nat} {os : OsState}
variable {nm q : Str} {C N : Addr} {bs bm bmB : List Value} {hdct : Bool} {sn : List Str} {sub : List Value} {ab : Bool} {col : Option Bool} {dd : Option Addr} {k0 k1 k2 k3 k5 : Option Value} {B newId initId : String}
theorem xm_new (F : ExcBaseFacts B newId initId bmB) (hB : bm.contains (.type B) = true) (hA : bm.contains (.type "AttributeError") = false) (hN : bm.contains (.type "NameError") = false) {rest : List Value}
    (hC : h.get? C = some (excClassObj nm q C N bs bm hdct sn sub ab col dd k0 k1 k2 k3 k5 newId))
    (hq : R (.ok (.ret (.ref (h.objs.size + 1)))) ⟨(h.push (kdv_tup rest)).push (excO C h.objs.size), g, d, t, os⟩) (hrest : rest.length ≤ sizeLine) :
    codeAny (model prog w) A (.builtin newId ⟨.ref C :: rest, []⟩) R ⟨h, g, d, t, os⟩ := by
  have hends := F.ends
  have b1 : (Value.ref C :: bm).contains (.type B) = true := by simp only [List.contains_cons, hB, Bool.or_true]
  have b2 : (Value.ref C :: bm).contains (.type "AttributeError") = false := by simp only [List.contains_cons, hA]; rfl
  have b3 : (Value.ref C :: bm).contains (.type "NameError") = false := by simp only [List.contains_cons, hN]; rfl
  apply codeAny_builtinAt F.entry
  unfold Builtin.«BaseException.__new__»
  refine PySem.wpAt_bind ?_
  show PySem.wpAt _ _ _ (stack >>= _) _ _ _
  refine PySem.wpAt_bind (PySem.wpAt_stack fun p below => PySem.wpAt_of_wpAny ?_)
  wp_walk
  apply PySem.wpAt_of_wpAny
  rw [F.owner]
  repeat (first
    | with_reducible refine wpAny_madeHere_exc F.canon hC ?_
    | with_reducible refine wpAny_loadPart_at hC ?_
    | (with_reducible refine wpAny_isSubtype_exc hC ?_; first | rw [b1] | rw [b2] | rw [b3])
    | wp_step)
  show R _ _
  rw [Heap.size_push]
  exact hq
theorem xm_type_call (F : ExcBaseFacts B newId initId bmB) (hB : bm.contains (.type B) = true) (hA : bm.contains (.type "AttributeError") = false) (hN : bm.contains (.type "NameError") = false) {rest : List Value} {fI : Addr} {Q : Fin → Shared → Prop}
    (hC : h.get? C = some (excClassObj nm q C N bs bm hdct sn sub ab col dd k0 k1 k2 k3 k5 newId))
    (hi : Looks (model prog w) h (typeLookup (.ref C) "__init__") (some (.ref fI))) (hb : ∀ self, Looks (model prog w) h (bindSpecial (.ref fI) self) (.ref fI, [self])) (hrest : rest.length ≤ sizeLine)
    (hq : codeAny (model prog w) A (.call (.ref fI) ⟨.ref (h.objs.size + 1) :: rest, []⟩)
      (fun r s' => match r with | .ok (.ret v) => v = .none ∧ Q (.done (.ret (.ref (h.objs.size + 1)))) s' | .ok _ => False | .error e => E e s')
      ⟨(h.push (kdv_tup rest)).push (excO C h.objs.size), g, d, t, os⟩) :
    wpAny (model prog w) A (Builtin.«type.__call__» ⟨.ref C :: rest, []⟩) Q E ⟨h, g, d, t, os⟩ := by
  repeat (first
    | with_reducible refine wpAny_loadPart_at hC ?_
    | with_reducible refine wpAny_madeBy_exc hC ?_
    | wp_step)
  apply codeAny_call_builtin_code (Code.quiet_builtin _ F.quiet)
  apply xm_check F hB hC
  refine xm_new F hB hA hN hC ?_ hrest
  show wpAny _ _ _ _ _ _
  have k : ∀ b o, h.get? b = some o → ((h.push (kdv_tup rest)).push (excO C h.objs.size)).get? b = some o := fun b o z => Heap.get?_push_of_some _ (Heap.get?_push_of_some _ z)
  have C1 := k _ _ hC
  have new_ : ((h.push (kdv_tup rest)).push (excO C h.objs.size)).get? (h.objs.size + 1) = some (excO C h.objs.size) := by heap_get
  have self_ : (Value.ref C :: bm).contains (.ref C) = true := by simp
  have i1 := hi.keeps k
  have b1 := (hb (.ref (h.objs.size + 1))).keeps k
  unfold isInstance
  repeat (first
    | with_reducible refine wpAny_loadPart_at new_ ?_
    | (with_reducible refine wpAny_isSubtype_exc C1 ?_; rw [self_])
    | wp_step)
  show wpAny _ _ (typeLookup (.ref C) _) _ _ _
  refine i1.at (wpAny_holding (wpAny_bind (b1.at (wpAny_bind (wpAny_call (codeAny_mono hq fun r s' z => ?_))))))
  rcases r with e | (v | _ | _ | _) <;> first | exact z | exact False.elim z | skip
  obtain ⟨rfl, z⟩ := z
  first
    | exact wpAny_pure (wpAny_pure z)
    | (wp_walk; exact z)
theorem xm_call (F : ExcBaseFacts B newId initId bmB) (hB : bm.contains (.type B) = true) (hA : bm.contains (.type "AttributeError") = false) (hN : bm.contains (.type "NameError") = false) {rest : List Value} {fI : Addr}
    (hC : h.get? C = some (excClassObj nm q C N bs bm hdct sn sub ab col dd k0 k1 k2 k3 k5 newId))
    (hi : Looks (model prog w) h (typeLookup (.ref C) "__init__") (some (.ref fI))) (hb : ∀ self, Looks (model prog w) h (bindSpecial (.ref fI) self) (.ref fI, [self])) (hrest : rest.length ≤ sizeLine)
    (hq : codeAny (model prog w) (A.under (.builtin "type.__call__" ⟨.ref C :: rest, []⟩)) (.call (.ref fI) ⟨.ref (h.objs.size + 1) :: rest, []⟩) (InitBack (h.objs.size + 1) R)
      ⟨(h.push (kdv_tup rest)).push (excO C h.objs.size), g, d, t, os⟩) :
    codeAny (model prog w) A (.call (.ref C) ⟨rest, []⟩) R ⟨h, g, d, t, os⟩ := by
  have l1 := tc_lookup
  have l2 := tc_bind (.ref C)
  have ty : (⟨h, g, d, t, os⟩ : Shared).TypeIs (.ref C) "type" := ⟨_, hC, rfl⟩
  apply codeAny_of_tree
  show wpAny _ _ (callAny (.ref C) _) _ _ _
  repeat (any_goals (first
    | assumption
    | with_reducible refine wpAny_loadPart_at hC ?_
    | wp_step))
  refine ⟨rfl, codeAny_call_builtin_at (Code.quiet_builtin _ (by decide +kernel)) entry_typeCall (wpAny_check_type_call_sub hC (xm_type_call F hB hA hN hC hi hb hrest ?_))⟩
  refine codeAny_mono hq fun r s' z => ?_
  rcases r with e | (v | _ | _ | _) <;> exact z
/-- B.__init__(e, ..): the args are laid anew -/
theorem xm_init (J : XIn B initId) (hB : bm.contains (.type B) = true) {e t0 : Addr} {rest : List Value}
    (hC : h.get? C = some (excClassObj nm q C N bs bm hdct sn sub ab col dd k0 k1 k2 k3 k5 newId)) (he : h.get? e = some (excO C t0)) (hrest : rest.length ≤ sizeLine)
    (hq : ∀ h' t1, (∀ b o, b ≠ e → h.get? b = some o → h'.get? b = some o) → h'.get? e = some (excO C t1) → R (.ok (.ret .none)) ⟨h', g, d, t, os⟩) :
    codeAny (model prog w) A (.call (.builtin initId) ⟨.ref e :: rest, []⟩) R ⟨h, g, d, t, os⟩ := by
  apply codeAny_call_builtin J.plain J.entry
  apply xm_check_init J hB hC he rfl
  wp_walk
  apply hq _ h.objs.size
  · intro b o hb ho
    rw [Heap.get?_update_other _ _ (Ne.symm hb)]
    exact Heap.get?_push_of_some _ ho
  · rw [Heap.get?_update_self _ (Heap.get?_push_of_some _ he) rfl]
    rfl
end
section
open Builtin Builtin.ObjectAttr
variable {prog : Program} {w : World} {A : Around} {R : Result → Shared → Prop} {hp : Heap} {g : Array GenState} {d : Drawn} {t : Nat} {os : OsState}
/-- the first field of an exception that has no dict yet -/
theorem xm_osa {K : W.Frag} {b : XB} {name : Str} {tk : Tok} {v : Value} {x C : Addr} {fv : Array Value} {cd : ClassData}
    (X : K.In hp) (hx : hp.get? x = some { cls := .ref C, data := .fields fv }) (hcd : W.clsIn K C = some cd) (hm : tailB b cd.mro = true) (hh : cd.hasDict = true) (ha : W.findIn K (.ref C) name = some none)
    (hq : ∀ h' tk' dx, (∀ b o, b ≠ x → hp.get? b = some o → h'.get? b = some o) → hp.objs.size ≤ dx → dx ≠ x → h'.get? x = some { cls := .ref C, dict := some dx, data := .fields fv } →
      h'.Ns1 dx (fun y => if y = name then some v else none) → R (.ok (.ret .none)) ⟨h', g, d, tk', os⟩) :
    codeAny (model prog w) A (.call (.builtin "object.__setattr__") ⟨[.ref x, .str name tk, v], []⟩) R ⟨hp, g, d, t, os⟩ := by
  have I : W.InstAt hp x { cls := .ref C, data := .fields fv } C none := ⟨hx, rfl, rfl, trivial⟩
  have SF := F.store_object
  have ne := tail_ne hm
  have hob : cd.mro.contains (.type "object") = true := by
    rw [tail_has hm]
    cases b <;> decide +kernel
  have apart : x ≠ hp.objs.size := Nat.ne_of_lt (Heap.lt_size hx)
  have into : W.mroIn K C (.type "object") = some true := by
    unfold W.mroIn
    rw [hcd, Option.bind_some, ne, hob]
    rfl
  have sub : W.Looks (model prog w) hp (isInstance (.ref x) (.type "object")) true := I.type.andThen (W.looks_mroIn X into)
  apply codeAny_call_builtin SF.slot.plain SF.entry
  apply @W.check_slot (model prog w) _ _ ⟨hp, g, d, t, os⟩ "object.__setattr__" "object" "__setattr__" (.ref x) [.str name tk, v] [] _ SF.kind SF.split sub (SF.args (.ref x) (.str name tk) v)
  have hmr : W.Looks (model prog w) hp (mroOf (.ref C)) cd.mro := (W.looks_clsIn X hcd).andThen .now
  have none_ : W.Looks (model prog w) hp (storeTaker? none) none := .now
  have cls_ : W.Looks (model prog w) hp (classData C) cd := W.looks_clsIn X hcd
  rw [W.osa_eq, refuse_eq]
  apply wpAny_bind
  apply wpAny_bind
  refine I.type.at (wpAny_bind (hmr.at ?_))
  rw [tail_pass _ hm]
  refine wpAny_pure (wpAny_bind (I.type.at (wpAny_bind ((W.looks_findIn X ha).at (wpAny_bind (none_.at ?_))))))
  show wpAny _ _ (storeInOwnDict (.ref x) (.ref C) (.str name tk) name v false) _ _ _
  obtain ⟨nm, bs, mro, ns, qn, hd, sn, sb, ab, col, del⟩ := cd
  dsimp only at hh
  subst hh
  unfold storeInOwnDict ownDictForStores
  repeat (first
    | with_reducible refine store_in_new ?_ ?_
    | with_reducible refine wpAny_loadPart_at hx ?_
    | with_reducible refine cls_.at ?_
    | wp_step)
  · exact ⟨_, #[], _, (Heap.get?_update_ne _ _ _ _ apart.symm).trans (Heap.get?_push_at rfl rfl), rfl, fun e he => absurd he (by simp), fun _ => rfl⟩
  · intro h' tk' hn' hs
    have hx1 : (hp.push { cls := .type "dict", data := .dict #[] }).get? x = some { cls := .ref C, data := .fields fv } := Heap.get?_push_of_some _ hx
    apply hq h' tk' hp.objs.size
    · intro b o hb ho
      exact (hs.2 b (Nat.ne_of_lt (Heap.lt_size ho))).trans ((Heap.get?_update_ne _ _ _ _ hb).trans (Heap.get?_push_of_some _ ho))
    · exact Nat.le_refl _
    · exact apart.symm
    · exact (hs.2 x apart).trans (Heap.get?_update_self _ hx1 rfl)
    · exact hn'
end
end WRX

set_option Elab.async false
set_option linter.all false
set_option maxRecDepth 100000
set_option maxHeartbeats 4000000
namespace WR
open PySem PySem.Spec PyProof.Rows L2
open WRX (XB tailB)
/-! ## own exceptions, made by C(e) where C's __init__ says B.__init__(self, text); self.f = x -/
/-- what the written part says of such a class -/
structure XcC (K : PySem.W.Frag) (b : XB) (C : Addr) : Prop where
  cls : ∃ nm q N bs bm sn sub ab col dd k0 k1 k2 k3 k5, K.lookup C = some (excClassObj nm q C N bs bm true sn sub ab col dd k0 k1 k2 k3 k5 b.new) ∧ tailB b bm = true
  sa : PySem.W.findIn K (.ref C) "__setattr__" = some (some (.builtin "object.__setattr__"))
  exC : PySem.W.subIn K (.ref C) (.type "BaseException") = some true
  tyC : PySem.W.typeIn K (.ref C) = some (.type "type")
  kC : PySem.W.keepIn K (.ref C) = true
def xcO (b : XB) (C : Addr) (o : Obj) : Bool := match o with
  | ⟨.type t, _, .cls ⟨_, _, .ref C' :: bm, _, _, true, _, _, _, _, false⟩, sl⟩ => (t == "type") && (decide (C' = C) && (tailB b bm && (match sl.toList with
    | [_, _, _, _, some (.builtin id), _] => id == b.new
    | _ => false)))
  | _ => false
theorem xcO_ok {b : XB} {C : Addr} {o : Obj} (h : xcO b C o = true) : ∃ nm q N bs bm sn sub ab col dd k0 k1 k2 k3 k5, o = excClassObj nm q C N bs bm true sn sub ab col dd k0 k1 k2 k3 k5 b.new ∧ tailB b bm = true := by
  unfold xcO at h
  split at h
  · simp only [Bool.and_eq_true, decide_eq_true_eq, beq_iff_eq] at h
    obtain ⟨rfl, rfl, h2, h3⟩ := h
    split at h3
    · rename_i e
      have e3 := beq_iff_eq.mp h3
      subst e3
      have e5 : ∀ {sl : Array (Option Value)} {l : List (Option Value)}, sl.toList = l → sl = l.toArray := fun z => Array.ext' z
      rw [e5 e]
      exact ⟨_, _, _, _, _, _, _, _, _, _, _, _, _, _, _, rfl, h2⟩
    · cases h3
  · cases h
def xcB (K : PySem.W.Frag) (b : XB) (C : Addr) : Bool := (match K.lookup C with | some o => xcO b C o | none => false) && (decide (PySem.W.findIn K (.ref C) "__setattr__" = some (some (.builtin "object.__setattr__"))) &&
  (decide (PySem.W.subIn K (.ref C) (.type "BaseException") = some true) && (decide (PySem.W.typeIn K (.ref C) = some (.type "type")) && PySem.W.keepIn K (.ref C))))
theorem xcB_ok {K : PySem.W.Frag} {b : XB} {C : Addr} (h : xcB K b C = true) : XcC K b C := by
  unfold xcB at h
  simp only [Bool.and_eq_true, decide_eq_true_eq] at h
  obtain ⟨h1, h2, h3, h4, h5⟩ := h
  refine ⟨?_, h2, h3, h4, h5⟩
  split at h1
  · rename_i o e
    obtain ⟨nm, q, N, bs, bm, sn, sub, ab, col, dd, k0, k1, k2, k3, k5, rfl, ht⟩ := xcO_ok h1
    exact ⟨nm, q, N, bs, bm, sn, sub, ab, col, dd, k0, k1, k2, k3, k5, e, ht⟩
  · cases h1
section
variable {X : Cx} {pins : List (Addr × Obj)} {σ : St} {H : Hp} {s : Shared} {a C dx P : Addr} {f : Str} {y : V} {u : Value} {fs : List (Str × V)} {b : XB}
/-- self.f = y, the first one -/
theorem ox_set {Q : Unit → Shared → Prop} {E : Value → Shared → Prop} {A : Around} (T : XcC X.K b C) (I : Inv X pins σ H s) (e : H a = some (exo a C none)) (hno : PySem.W.findIn X.K (.ref C) f = some none) (ry : RelV y u)
    (h : ∀ dx s', H dx = none → dx ≠ a → Inv X pins σ (upd (upd H dx (exd dx [(f, y)])) a (exo a C (some dx))) s' → Q () s') : wpAny (model X.prog X.w) A (setAttr (.ref a) f u) Q E s := by
  obtain ⟨nm, q, N, bs, bm, sn, sub, ab, col, dd, k0, k1, k2, k3, k5, hC, hbm⟩ := T.cls
  have data : PySem.W.clsIn X.K C = some { name := nm, bases := bs, mro := .ref C :: bm, ns := N, qualname := q, hasDict := true, slotNames := sn, subclasses := sub, abstract := ab, collection := col, hasDel := false } := by
    unfold PySem.W.clsIn
    rw [hC] <;> rfl
  obtain ⟨t1, there⟩ := exo_at I.hok e
  obtain ⟨hp, g, d, t, os⟩ := s
  have tl : tailB b (.ref C :: bm) = true := by
    unfold tailB
    rw [List.dropWhile_cons]
    exact hbm
  apply PySem.W.set_plain I.kIn (ox := { cls := .ref C, dict := none, data := .fields #[.ref t1, .none, .none, .none, .bool false, .none] }) (od := none) ⟨there, rfl, rfl, trivial⟩ T.sa
  apply WRX.xm_osa I.kIn there data tl rfl hno
  intro h' tk' dx keep far apart ox ns
  have free : H dx = none := I.hok.fresh far
  have low : ∀ {c : Addr} {o : Obj}, hp.get? c = some o → c ≠ dx := fun z => Nat.ne_of_lt (Nat.lt_of_lt_of_le (Heap.lt_size z) far)
  have not_a : ∀ {c : Addr}, H c = none → c ≠ a := by
    rintro c n rfl
    rw [e] at n
    cases n
  have un : Un X.fs [] H (upd (upd H dx (exd dx [(f, y)])) a (exo a C (some dx))) hp h' := by
    constructor
    · intro c o z n _ _
      exact keep c o (not_a n) z
    · intro c o z n _ _
      exact ⟨o.slots, keep c o (not_a n) z⟩
    · intro c o z n _
      rw [upd_ne (not_a n), upd_ne (low z)]
      exact n
    · intro c o z _
      by_cases q : c = a
      · subst q
        exact ⟨_, ox⟩
      · exact ⟨o, keep c o q z⟩
    · intro c xs z
      rw [upd_ne (at_ne e z exo_tup), upd_ne (ne_of_none z free)]
      exact z
    · intro c o v z
      rw [upd_ne (at_ne e z exo_frz), upd_ne (ne_of_none z free)]
      exact z
    · intro c ps z
      refine ⟨#[], ?_⟩
      rw [upd_ne (at_ne e z exo_tbl), upd_ne (ne_of_none z free), z]
      simp
  refine h dx _ free apart (I.un (t' := tk') un ?_)
  intro c o z
  by_cases q : c = a
  · subst q
    rw [upd_same] at z
    cases z
    exact exo_ok ox
  rw [upd_ne q] at z
  by_cases q2 : c = dx
  · subst q2
    rw [upd_same] at z
    cases z
    exact exd_ok ns (relO_put (fs := []) ry fun _ => True.intro)
  rw [upd_ne q2] at z
  refine (I.hok c o z).stay ?_ ?_ ?_
  · intro c2 v hc k
    refine keep c2 v ?_ k
    rcases hc with rfl | hc
    · exact q
    · exact at_ne e hc exo_own
  · intro c2 hc
    rw [upd_ne (at_ne e hc exo_own), upd_ne (ne_of_none hc free)]
    exact hc
  · intro c2 xs hc
    rw [upd_ne (at_ne e hc exo_tup), upd_ne (ne_of_none hc free)]
    exact hc
/-- B.__init__(self, ..) -/
theorem ox_init {us : List Value} {Q : Value → Shared → Prop} (T : XcC X.K b C) (I : Inv X pins σ H s) (e : H a = some (exo a C none)) (hl : us.length ≤ sizeLine) (h : ∀ s', Inv X pins σ H s' → Q .none s') :
    wpAny (model X.prog X.w) X.A (call (.builtin b.ini) (.ref a :: us)) Q X.xe s := by
  obtain ⟨nm, q, N, bs, bm, sn, sub, ab, col, dd, k0, k1, k2, k3, k5, hC, hbm⟩ := T.cls
  obtain ⟨t1, there⟩ := exo_at I.hok e
  obtain ⟨hp, g, d, t, os⟩ := s
  have into : bm.contains (.type b.nm) = true := by
    rw [WRX.tail_has hbm]
    cases b <;> decide +kernel
  refine wpAny_call (WRX.xm_init (WRX.xin b) into (I.kIn _ _ hC) there hl fun h' t2 keep ox => ?_)
  have J := I.write (t' := t) (x := a) (e := a) (o := exo a C none) (by rw [e]; exact True.intro) (.inl rfl) keep ⟨_, ox⟩ (exo_ok ox)
  have same : upd H a (exo a C none) = H := funext fun c => by
    by_cases q : c = a
    · rw [q, upd_same, e]
    · rw [upd_ne q]
  rw [same] at J
  exact h _ J
/-- attributes of the class P are read plainly, its __init__ is B's -/
structure XpC (K : PySem.W.Frag) (b : XB) (P : Addr) : Prop where
  rd : PySem.W.readsIn K P (.type "type") = true
  ga : PySem.W.specialIn K (.ref P) "__getattribute__" = some (some (.builtin "type.__getattribute__"))
  ini : ∃ r, PySem.W.findCls K (.ref P) (.type "type") "__init__" = some r ∧ r = .val (.builtin b.ini)
def isV (r : Option PySem.W.CFound) (id : String) : Bool := match r with
  | some (.val (.builtin i)) => i == id
  | _ => false
def xpB (K : PySem.W.Frag) (b : XB) (P : Addr) : Bool := PySem.W.readsIn K P (.type "type") && (decide (PySem.W.specialIn K (.ref P) "__getattribute__" = some (some (.builtin "type.__getattribute__"))) &&
  isV (PySem.W.findCls K (.ref P) (.type "type") "__init__") b.ini)
theorem xpB_ok {K : PySem.W.Frag} {b : XB} {P : Addr} (h : xpB K b P = true) : XpC K b P := by
  unfold xpB at h
  simp only [Bool.and_eq_true, decide_eq_true_eq] at h
  refine ⟨h.1, h.2.1, ?_⟩
  have h3 := h.2.2
  unfold isV at h3
  split at h3
  · rename_i i e
    exact ⟨_, e, by rw [beq_iff_eq.mp h3]⟩
  · cases h3
end
/-- what it promises -/
def spX (b : XB) (K : PySem.W.Frag) (f : Str) : Sp := fun vs H Q _ => ∃ a y C, vs = [.ref a, y] ∧ XcC K b C ∧ PySem.W.findIn K (.ref C) f = some none ∧ H a = some (exo a C none) ∧ ∀ dx, H dx = none → dx ≠ a → Q .non (upd (upd H dx (exd dx [(f, y)])) a (exo a C (some dx)))
end WR

set_option Elab.async false
set_option linter.all false
set_option maxRecDepth 100000
set_option maxHeartbeats 4000000
namespace WR
open PySem PySem.Spec PyProof.Rows L2

/-! ## 4. what the text's names mean -/
/-- a def of the module, called with n written values and the keywords ks; arr puts them (and the defaults) in the parameters' order -/
structure FnI where
  name : Str
  n : Nat
  ks : List Str
  arr : List V → List V → List V
  sp : Sp
/-- a method of the class at cls (n, ks, arr: behind self) -/
structure MtI where
  cls : Addr
  name : Str
  n : Nat
  ks : List Str
  arr : List V → List V → List V
  sp : Sp
/-- a class whose instances are made by an own __init__ (n, ks, arr: behind self) -/
structure MkI where
  name : Str
  cls : Addr
  n : Nat
  ks : List Str
  arr : List V → List V → List V
  sp : Sp
/-- an own exception class whose __init__ keeps its one value under f -/
structure XcI where
  name : Str
  C : Addr
  f : Str
structure G where
  K : PySem.W.Frag
  fns : List FnI
  cons : List (Str × V)
  blt : List Str
  mts : List MtI
  mks : List MkI
  ats : List (Str × List Addr)
  nes : List (Str × Addr) := []
  xcs : List XcI := []

/-- sys.modules stands in the written part, a dict -/
def isDctO (o : Obj) : Bool := match o.data with
  | .dict _ _ => true
  | _ => false
def sysB (K : PySem.W.Frag) : Bool := match K.lookup sysModules with
  | some o => isDctO o
  | none => false
def basics : List String := ["NoneType", "bool", "int", "str", "list", "tuple", "dict"]
/-- what an own class must say, so that != and isinstance ask rightly -/
def ownB (K : PySem.W.Frag) (C : Addr) : Bool := decide (PySem.W.findIn K (.ref C) "__ne__" = some (some (.builtin "object.__ne__"))) && (decide (PySem.W.findIn K (.ref C) "__class__" = some (some (.builtin "object.__class__"))) &&
  (decide (PySem.W.specialIn K (.builtin "object.__class__") "__get__" = some (some (.builtin "getset_descriptor.__get__"))) && (decide (PySem.W.takesIn K (.builtin "object.__class__") = some true) && (decide (PySem.W.mroIn K C (.type "object") = some true) &&
  (decide (PySem.W.kitOne K (.ref C) (.ref C) = some true) && basics.all fun n => decide (PySem.W.kitOne K (.type n) (.ref C) = some false))))))
/-- .. and that they mean it -/
structure GOk (g : G) (P : Program) (w : World) (mg : Str → Option Value) (base : Heap) (lev : Nat) : Prop where
  fns : ∀ f ∈ g.fns, ∃ fa fd ps gf, mg f.name = some (.ref fa) ∧ PySem.W.keepIn g.K (.ref fa) = true ∧ FnW P w g.K mg base (L2.CX P w) lev fa fd ps f.sp ∧ KBn g.K fd ps f.n f.ks gf f.arr
  cons : ∀ p ∈ g.cons, ∃ u, mg p.1 = some u ∧ RelV p.2 u
  blt : ∀ x ∈ g.blt, mg x = none
  mts : ∀ m ∈ g.mts, ∃ fa fd ps gf, Cls g.K m.cls ∧ Meth g.K m.cls m.name fa ∧ FnW P w g.K mg base (L2.CX P w) lev fa fd ps m.sp ∧ KBn g.K fd ps (m.n + 1) m.ks gf (fun vs zs => match vs with | v :: r => v :: m.arr r zs | [] => [])
  mks : ∀ m ∈ g.mks, ∃ fa fd ps gf, mg m.name = some (.ref m.cls) ∧ Mk g.K m.cls fa ∧ FnW P w g.K mg base (L2.CX P w) lev fa fd ps m.sp ∧ KBn g.K fd ps (m.n + 1) m.ks gf (fun vs zs => match vs with | v :: r => v :: m.arr r zs | [] => [])
  ats : ∀ p ∈ g.ats, ∀ C ∈ p.2, Cls g.K C ∧ NoAttr g.K C p.1
  nes : ∀ p ∈ g.nes, ownB g.K p.2 = true
  nec : ∀ p ∈ g.nes, Cls g.K p.2
  sys : sysB g.K = true
  xcs : ∀ x ∈ g.xcs, ∃ b fI fd px, mg x.name = some (.ref x.C) ∧ XcC g.K b x.C ∧ XfC g.K x.C ∧ PySem.W.findIn g.K (.ref x.C) x.f = some none ∧ PySem.W.findIn g.K (.ref x.C) "__init__" = some (some (.ref fI)) ∧
    PySem.W.typeIn g.K (.ref fI) = some (.type "function") ∧ FnOk P w g.K mg base (L2.CX P w) 1 fI fd ["self", px] (spX b g.K x.f) ∧ Binds g.K fd ["self", px] []

/-- where an expression is read -/
structure COk (g : G) (lev : Nat) (X : Cx) (N : List Str) (sc : Scope) (W : WX) : Prop where
  gok : GOk g X.prog X.w X.mg X.base lev
  hK : X.K = g.K
  hN : X.N = N
  hsc : X.env.scope = sc
  nd : X.N.Nodup
  calm : X.calm = true
  tk : Takes X W
  room : Room (lev + 1) X.A
  gd : X.A.guards = some []
  room2 : Room 2 X.A
/-- the same without what suites lack -/
structure BOk (g : G) (X : Cx) (N : List Str) (sc : Scope) : Prop where
  gok : ∃ lev, GOk g X.prog X.w X.mg X.base lev
  hK : X.K = g.K
  hN : X.N = N
  hsc : X.env.scope = sc
  nd : X.N.Nodup
  gd : X.A.guards = some []
  un : X.A.units + 200 < cLine
theorem COk.b {g : G} {lev : Nat} {X : Cx} {N : List Str} {sc : Scope} {W : WX} (c : COk g lev X N sc W) : BOk g X N sc := ⟨⟨lev, c.gok⟩, c.hK, c.hN, c.hsc, c.nd, c.gd, by have := c.room.un; omega⟩

theorem COk.hu {g : G} {lev : Nat} {X : Cx} {N : List Str} {sc : Scope} {W : WX} (c : COk g lev X N sc W) : X.A.units + 64 < cLine := c.room.units
theorem COk.hu1 {g : G} {lev : Nat} {X : Cx} {N : List Str} {sc : Scope} {W : WX} (c : COk g lev X N sc W) : X.A.units + 1 < cLine := hu_of c.room
theorem COk.room0 {g : G} {lev : Nat} {X : Cx} {N : List Str} {sc : Scope} {W : WX} (c : COk g lev X N sc W) : Room lev X.A := c.room.mono (Nat.le_succ _)

/-! ## 5. names -/
def ix? : List Str → Str → Option Nat
  | [], _ => none
  | y :: r, x => if decide (y = x) = true then some 0 else (ix? r x).map (· + 1)
theorem ix_get : ∀ {N : List Str} {x : Str} {i : Nat}, ix? N x = some i → N[i]? = some x
  | [], x, i, h => by cases h
  | y :: r, x, i, h => by
    unfold ix? at h
    split at h
    · rename_i e; cases h; simp [of_decide_eq_true e]
    · cases e : ix? r x with
      | none => rw [e] at h; cases h
      | some j => rw [e] at h; cases h; simpa using ix_get e
def plainName (x : Str) : Bool := !(x == ("__debug__" : Str)) && (!(x == ("__classdict__" : Str)) && !decide (x = "__name__"))
theorem plain_d {x : Str} (h : plainName x = true) : (x == ("__debug__" : Str)) = false := by unfold plainName at h; simp only [Bool.and_eq_true, Bool.not_eq_true'] at h; exact h.1
theorem plain_c {x : Str} (h : plainName x = true) : (x == ("__classdict__" : Str)) = false := by unfold plainName at h; simp only [Bool.and_eq_true, Bool.not_eq_true'] at h; exact h.2.1
theorem plain_n {x : Str} (h : plainName x = true) : x ≠ "__name__" := by unfold plainName at h; simp only [Bool.and_eq_true, Bool.not_eq_true', decide_eq_false_iff_not] at h; exact h.2.2

def cVar (i : Nat) : TE := fun σ H Q => match σ[i]? with
  | some (some v) => Q v H
  | _ => False
/-- the built-in classes as values -/
def bltTy (x : Str) : Option String := match bootBuiltins x with
  | some (.type n) => some n
  | _ => none
theorem bltTy_boot {x : Str} {n : String} (h : bltTy x = some n) : bootBuiltins x = some (.type n) := by
  unfold bltTy at h
  split at h
  · rename_i e; cases h; exact e
  · cases h
def tName (g : G) (N : List Str) (sc : Scope) (x : Str) : Option TE :=
  if plainName x = true then
    match sc.names.lookup x with
    | some .local | some .cell | some .free => (ix? N x).map cVar
    | some .globalImplicit => match g.cons.lookup x with
      | some v => some (tC v)
      | none => if x ∈ g.blt then (bltTy x).map fun n => tC (.ty n) else none
    | _ => none
  else none

section
variable {g : G} {lev : Nat} {X : Cx} {N : List Str} {sc : Scope} {W : WX}
theorem cVar_ok {i : Nat} {x : Str} {pos : Pos} (hN : X.N[i]? = some x) (hv : Vis X.env.scope x) (h1 : plainName x = true) : PE X (.Name x pos) (cVar i) :=
  PE_imp (pe_var hN hv (plain_d h1) (plain_c h1)) fun σ H Q q => by
    unfold cVar at q
    split at q
    · rename_i v e; exact ⟨v, e, q⟩
    · exact q.elim
theorem lookup_mem {α : Type} : ∀ {l : List (Str × α)} {x : Str} {v : α}, l.lookup x = some v → (x, v) ∈ l := fun h => PySem.mem_of_lookup h
theorem tName_ok {x : Str} {pos : Pos} {t : TE} (h : tName g N sc x = some t) (c : BOk g X N sc) : PE X (.Name x pos) t := by
  obtain ⟨lev, gok⟩ := c.gok
  unfold tName at h
  split at h
  · rename_i hp
    have vis : ∀ k, sc.names.lookup x = some k → (k = .local ∨ k = .cell ∨ k = .free) → (ix? N x).map cVar = some t → PE X (.Name x pos) t := fun k hk hkk h => by
      cases e : ix? N x with
      | none => rw [e] at h; cases h
      | some i =>
        rw [e] at h; cases h
        refine cVar_ok (by rw [c.hN]; exact ix_get e) ?_ hp
        unfold Vis
        rw [c.hsc, hk]
        rcases hkk with rfl | rfl | rfl <;> simp
    split at h
    · rename_i e; exact vis _ e (by simp) h
    · rename_i e; exact vis _ e (by simp) h
    · rename_i e; exact vis _ e (by simp) h
    · rename_i e
      have hg : Gl X x := by unfold Gl Env.kindOf; rw [c.hsc]; exact e
      split at h
      · rename_i v ev
        cases h
        obtain ⟨u, h1, h2⟩ := gok.cons _ (lookup_mem ev)
        exact pe_glob hg h1 h2 (plain_d hp)
      · split at h
        · rename_i hb
          cases e2 : bltTy x with
          | none => rw [e2] at h; cases h
          | some n =>
            rw [e2] at h; cases h
            exact pe_bltn hg (gok.blt x hb) (bltTy_boot e2) (v := .ty n) rfl (plain_n hp) (plain_d hp)
        · cases h
    · cases h
  · cases h
end

/-! ## 6. argument lists -/
def notStar : Expr → Bool
  | .Starred _ _ => false
  | _ => true
theorem star_of {e : Expr} {es : List Expr} {env : Env} (h : notStar e = true) : starEach (e :: es) env = (false, eval e env) :: starEach es env := by
  cases e <;> first | rfl | exact absurd h Bool.false_ne_true
theorem star_all : ∀ {es : List Expr} {env : Env} {pos : Pos}, es.all notStar = true → (backTo pos (starEach es env)).any (·.1) = false
  | [], _, _, _ => rfl
  | e :: es, env, pos, h => by
    rw [List.all_cons, Bool.and_eq_true] at h
    rw [star_of h.1]
    show (false || (backTo pos (starEach es env)).any (·.1)) = false
    rw [star_all h.2]; rfl
theorem star_all' : ∀ {es : List Expr} {env : Env} {pos : Pos}, es.all notStar = true → (backTo pos (starEach es env)).all (fun x => !x.1) = true
  | [], _, _, _ => rfl
  | e :: es, env, pos, h => by
    rw [List.all_cons, Bool.and_eq_true] at h
    rw [star_of h.1]
    show (true && (backTo pos (starEach es env)).all (fun x => !x.1)) = true
    rw [star_all' h.2]; rfl
def kwNames : List Keyword → Option (List Str)
  | [] => some []
  | ⟨some x, _, _⟩ :: r => (kwNames r).map (x :: ·)
  | ⟨none, _, _⟩ :: _ => none
theorem kw_all : ∀ {kws : List Keyword} {ks : List Str} {env : Env} {pos : Pos}, kwNames kws = some ks →
    (backToKw pos (keywordEach kws env)).all (·.1.isSome) = true ∧ (backToKw pos (keywordEach kws env)).any (·.1.isNone) = false ∧ (backToKw pos (keywordEach kws env)).filterMap (·.1) = ks ∧ ks.length = kws.length
  | [], ks, _, _, h => by cases h; exact ⟨rfl, rfl, rfl, rfl⟩
  | ⟨some x, v, p⟩ :: r, ks, env, pos, h => by
    unfold kwNames at h
    cases e : kwNames r with
    | none => rw [e] at h; cases h
    | some l =>
      rw [e] at h; cases h
      obtain ⟨h1, h2, h3, h4⟩ := kw_all (env := env) (pos := pos) e
      refine ⟨?_, ?_, ?_, by simp [h4]⟩
      · show (true && (backToKw pos (keywordEach r env)).all (·.1.isSome)) = true
        rw [h1]; rfl
      · show (false || (backToKw pos (keywordEach r env)).any (·.1.isNone)) = false
        rw [h2]; rfl
      · show x :: (backToKw pos (keywordEach r env)).filterMap (·.1) = x :: l
        rw [h3]
  | ⟨none, _, _⟩ :: _, _, _, _, h => by cases h

/-! ## 7. calls of own defs -/
section
variable {X : Cx} {lev : Nat} {fa : Addr} {fd : FuncData} {ps ks : List Str} {sp : Sp} {x : Str} {n : Nat} {p pos apos : Pos} {es : List Expr} {kws : List Keyword} {t tk : TA} {gf : List Value → List Value → List Value} {arr : List V → List V → List V} {W : WX}
theorem run_own {pins : List (Addr × Obj)} {σ : St} {H : Hp} {s : Shared} {Q : VK} {us ws : List Value} {vs zs : List V} (F : FnW X.prog X.w X.K X.mg X.base (L2.CX X.prog X.w) lev fa fd ps sp) (hr : Room lev X.A) (gd : X.A.guards = some []) (hb : KBn X.K fd ps n ks gf arr) (tkx : Takes X W)
    (I : Inv X pins σ H s) (r : Vals vs us) (rz : Vals zs ws) (l1 : vs.length = n) (l2 : zs.length = ks.length) (h : sp (arr vs zs) H Q (fun cls d H' => W cls d σ H')) : wpAny (model X.prog X.w) X.A (call (.ref fa) us (ks.zip ws)) (EP X pins σ Q) X.xe s := by
  have r2 := hb.rel r rz
  refine wpAny_call (codeAny_mono (F.run X.A X.stack s H ⟨us, ks.zip ws⟩ (gf us ws) (arr vs zs) Q _ hr gd I.env0 (hb.to s us ws I.kIn (r.length.symm.trans l1) (rz.length.symm.trans l2)) r2 h) fun r s' hq => ?_)
  cases r with
  | error e => exact tkx e s' (XE.of_call I (fun _ _ _ h => h) hq)
  | ok fl =>
    cases fl with
    | ret u => exact I.after hq
    | next => exact False.elim hq
    | brk => exact False.elim hq
    | cont => exact False.elim hq
def cCall (sp : Sp) (n m : Nat) (arr : List V → List V → List V) (t tk : TA) (W : WX) : TE := fun σ H Q => t σ H fun vs H1 => tk σ H1 fun zs H2 => vs.length = n ∧ zs.length = m ∧ sp (arr vs zs) H2 Q (fun cls d H' => W cls d σ H')
/-- what is called keeps its arguments in a plain way -/
def Keeps (X : Cx) (f : Value) : Prop := ∀ h : Heap, X.K.In h → ∃ k, (k = Keeper.frame ∨ k = Keeper.machine ∨ k = Keeper.boundFrame) ∧ PySem.W.Looks (model X.prog X.w) h (keeperOf f) k
theorem keeps_ref {f : Value} (hk : PySem.W.keepIn X.K f = true) : Keeps X f := fun h k => PySem.W.keeps_K hk h k
theorem keeps_blt {id : String} : Keeps X (.builtin id) := fun h k => ⟨.machine, by simp, PySem.W.Looks.of_pure rfl⟩
theorem keeps_ty {T : String} : Keeps X (.type T) := fun h k => ⟨.machine, by simp, PySem.W.Looks.of_pure rfl⟩
/-- values of the arguments, then of the keywords, of any call -/
theorem args_of {f : Value} {first : List Value} {pins : List (Addr × Obj)} {s : Shared} {σ : St} {H : Hp} {Q : Value → Shared → Prop} {R : List V → List V → Hp → Prop}
    (hk : Keeps X f) (hnil : es = [] → t = tNil) (hstar : es.all notStar = true) (hkw : kwNames kws = some ks) (ha : PA X es t) (hw : PK X kws tk) (I : Inv X pins σ H s)
    (q : t σ H fun vs H1 => tk σ H1 fun zs H2 => R vs zs H2)
    (hf : ∀ vs zs us ws s2 H2, Inv X pins σ H2 s2 → Vals vs us → Vals zs ws → R vs zs H2 → wpAny (model X.prog X.w) X.A (call f (first ++ us) (ks.zip ws)) Q X.xe s2) :
    wpAny (model X.prog X.w) X.A (callWith pos f first (backTo pos (starEach es X.env)) (backToKw pos (keywordEach kws X.env))) Q X.xe s := by
  obtain ⟨k1, k2, k3, k4⟩ := kw_all (env := X.env) (pos := pos) hkw
  cases es with
  | nil =>
    refine PySem.W.callWith_of (P := X.K.In) (by rw [k2]; rfl) hk (PyProof.Rows.evalArgs_kw2_nil k1 ?_)
    rw [hnil rfl] at q
    refine thn (hw.run pos pins s σ H _ I q) fun ws s2 ⟨zs, H2, I2, rz, q2⟩ => ⟨I2.kIn, ?_⟩
    rw [k3]
    exact hf [] zs [] ws s2 H2 I2 .nil rz q2
  | cons e es =>
    rw [List.all_cons, Bool.and_eq_true] at hstar
    refine PySem.W.callWith_of (P := X.K.In) ?_ hk (PyProof.Rows.evalArgs_kw2 k1 ?_ (star_of hstar.1))
    rotate_left
    · refine thn (ha.run pos pins s σ H _ I q) fun us s1 ⟨vs, H1, I1, r, q1⟩ => ?_
      refine thn (hw.run pos pins s1 σ H1 _ I1 q1) fun ws s2 ⟨zs, H2, I2, rz, q2⟩ => ⟨I2.kIn, ?_⟩
      rw [k3]
      exact hf vs zs us ws s2 H2 I2 r rz q2
    · rw [k2, star_all (by rw [List.all_cons, hstar.1, hstar.2]; rfl)]; rfl

/-- f(..) -/
theorem pe_own (F : FnW X.prog X.w X.K X.mg X.base (L2.CX X.prog X.w) lev fa fd ps sp) (hr : Room lev X.A) (gd : X.A.guards = some []) (hb : KBn X.K fd ps n ks gf arr) (tkx : Takes X W) (hg : Gl X x) (hm : X.mg x = some (.ref fa)) (hk : PySem.W.keepIn X.K (.ref fa) = true)
    (hx : plainName x = true) (hnil : es = [] → t = tNil) (hstar : es.all notStar = true) (hkw : kwNames kws = some ks) (ha : PA X es t) (hw : PK X kws tk) : PE X (.Call (.Name x p) es kws pos) (cCall sp n ks.length arr t tk W) := by
  refine ⟨fun pins s σ H Q I h => ?_⟩
  refine wpAny_Call_Name_kw (ld_glob I hg hm ?_ (plain_d hx))
  refine args_of (first := []) (R := fun vs zs H2 => vs.length = n ∧ zs.length = ks.length ∧ sp (arr vs zs) H2 Q (fun cls d H' => W cls d σ H')) (keeps_ref hk) hnil hstar hkw ha hw I h fun vs zs us ws s2 H2 I2 r rz q => ?_
  exact run_own F hr gd hb tkx I2 r rz q.1 q.2.1 q.2.2
end

/-! ## 8. method calls: any receiver -/
def baseOk : Expr → Bool
  | .Call (.Name _ _) [] [] _ => false
  | _ => true
theorem base_of {o : Expr} {a : Str} {env : Env} {w : Sem Value} (h : baseOk o = true) : attributeBase o a env w = w := by
  unfold attributeBase
  split
  · exact absurd h Bool.false_ne_true
  · rfl
section
variable {prog : Program} {w : World} {A : Around} {E : Value → Shared → Prop} {s : Shared}
theorem meth_gen {o : Expr} {name : Str} {apos pos : Pos} {es : List Expr} {kws : List Keyword} {ks : List Str} {env : Env} {Q : Value → Shared → Prop} (hb : baseOk o = true) (hstar : es.all notStar = true) (hkw : kwNames kws = some ks) (hfew : es.length + kws.length < 29)
    (hline : (apos.endLine == pos.line) = true)
    (h : wpAny (model prog w) A (eval o env) (fun ov s₁ => ∀ pl, wpAny (model prog w) A (getMethod ov name pl) (fun fx s₂ => wpAny (model prog w) A (callWith pos fx.1 fx.2 (backTo pos (starEach es env)) (backToKw pos (keywordEach kws env))) Q E s₂) E s₁) E s) :
    wpAny (model prog w) A (eval (.Call (.Attribute o name apos) es kws pos) env) Q E s := by
  rw [arm_eval_Call, base_of hb]
  refine wpAny_bind (wpAny_mono h (fun ov s₁ h₁ => ?_) fun _ _ e => e)
  refine wpAny_bind (wpAny_standAt ?_)
  obtain ⟨k1, k2, k3, k4⟩ := kw_all (env := env) (pos := pos) hkw
  have hform : methodCallForm (es.length + kws.length) (backTo pos (starEach es env)) (backToKw pos (keywordEach kws env)) = true := by
    unfold methodCallForm
    rw [star_all' hstar, k1]
    simp only [Bool.true_and, decide_eq_true_eq]
    split <;> omega
  have hpos : methodCallPos true o env apos pos = pure pos := by unfold methodCallPos; simp [hline]
  unfold methodCall
  rw [hform]
  refine wpAny_bind (wpAny_holding ?_)
  unfold calleeOf
  rw [if_pos rfl]
  refine wpAny_mono (h₁ _) (fun fx s₂ h₂ => ?_) fun _ _ e => e
  exact wpAny_bind (wpAny_of_eq hpos h₂)
end

/-! ### what a built-in's method does -/
/-- the methods of built-in types that are carried: type, name -/
structure BM where
  T : String
  name : Str
  id : String
  r : V → List V → Hp → VK → Prop
/-- .. rightly, where X is -/
structure BMOk (X : Cx) (b : BM) : Prop where
  pa : PlainAttrs b.T
  slot : Slot b.T b.name b.id
  ty : typeOf (.builtin b.id) = pure (.type "method_descriptor")
  run : MtR X b.id b.r
end WR

set_option Elab.async false
set_option linter.all false
set_option maxRecDepth 100000
set_option maxHeartbeats 4000000
namespace WR
open PySem PySem.Spec PyProof.Rows L2
open WRX (XB tailB)
section
variable {X : Cx} {pins : List (Addr × Obj)} {σ : St} {H : Hp} {s : Shared} {a C dx P : Addr} {f : Str} {y : V} {u : Value} {fs : List (Str × V)} {b : XB}
/-- the reading of B.__init__(self, ..) -/
def tXI (b : XB) (K : PySem.W.Frag) (ta : TA) : TE := fun σ H Q => ta σ H fun vs H1 => ∃ (a C : Addr) (ws : List V), vs = .ref a :: ws ∧ ws.length ≤ 1000 ∧ XcC K b C ∧ H1 a = some (exo a C none) ∧ Q .non H1
theorem handed_b (b : XB) : PySem.W.handedIn (.builtin b.ini) = true := by cases b <;> decide +kernel
theorem pe_xinit {B : Str} {p1 p2 pos : Pos} {es : List Expr} {ta : TA} (hg : Gl X B) (hx : plainName B = true) (hm : X.mg B = some (.ref P)) (R : XpC X.K b P) (hstar : es.all notStar = true) (hfew : es.length < 29) (hline : (p2.endLine == pos.line) = true) (hnil : es = [] → ta = tNil) (ha : PA X es ta) :
    PE X (.Call (.Attribute (.Name B p1) "__init__" p2) es [] pos) (tXI b X.K ta) := by
  refine ⟨fun pins s σ H Q I h => ?_⟩
  refine meth_gen (ks := []) rfl hstar rfl hfew hline (ld_glob I hg hm ?_ (plain_d hx))
  intro pl
  obtain ⟨r, e, rfl⟩ := R.ini
  refine PySem.W.method_cls I.kIn R.ga (PySem.W.cls_value I.kIn R.rd e (handed_b _) ?_)
  refine args_of (tk := tNil) (ks := []) (first := []) (R := fun vs zs H2 => zs = [] ∧ ∃ (a C : Addr) (ws : List V), vs = .ref a :: ws ∧ ws.length ≤ 1000 ∧ XcC X.K b C ∧ H2 a = some (exo a C none) ∧ Q .non H2) keeps_blt hnil hstar rfl ha pk_nil (I.tok _)
    (?_ : ta σ H fun vs H1 => tNil σ H1 fun zs H2 => zs = [] ∧ _) ?_
  · have e : (fun (vs : List V) (H1 : Hp) => tNil σ H1 fun zs H2 => zs = [] ∧ ∃ (a C : Addr) (ws : List V), vs = .ref a :: ws ∧ ws.length ≤ 1000 ∧ XcC X.K b C ∧ H2 a = some (exo a C none) ∧ Q .non H2) = fun vs H2 => ∃ (a C : Addr) (ws : List V), vs = .ref a :: ws ∧ ws.length ≤ 1000 ∧ XcC X.K b C ∧ H2 a = some (exo a C none) ∧ Q .non H2 := by
      funext vs H1
      exact propext ⟨fun z => z.2, fun z => ⟨rfl, z⟩⟩
    rw [e]
    exact h
  · rintro vs zs us ws s2 H2 I2 r rz ⟨rfl, a, C, ys, rfl, hl, T, ea, q⟩
    cases rz
    cases r with
    | @cons _ u0 _ ur ra rw' =>
      obtain rfl : u0 = Value.ref a := ra
      refine ox_init T I2 ea ?_ fun s' J => ⟨.non, H2, J, rfl, q⟩
      rw [← Paired.length rw', sizeLine_eq]
      omega
/-- the reading of self.f = e -/
def tXs (b : XB) (K : PySem.W.Frag) (f : Str) (to te : TE) : TS := fun D σ H => te σ H fun y H1 => to σ H1 fun x H2 => ∃ a C : Addr, x = .ref a ∧ XcC K b C ∧ PySem.W.findIn K (.ref C) f = some none ∧
  H2 a = some (exo a C none) ∧ ∀ dx, H2 dx = none → dx ≠ a → D.nx σ (upd (upd H2 dx (exd dx [(f, y)])) a (exo a C (some dx)))
theorem ps_xs {o e : Expr} {to te : TE} {p' pos : Pos} (ho : PE X o to) (he : PE X e te) (hs : swapsWith e (some (.Attribute o f p')) pos.line X.env = pure false) : PS X (.Assign [.Attribute o f p'] e pos) (tXs b X.K f to te) := by
  refine ⟨fun pins s σ H D I h => ?_⟩
  refine plainObj_wpAny_Assign_Attribute (thn (he.run pins s σ H _ I h) fun v s1 z1 => ?_) hs
  obtain ⟨y, H1, I1, r1, q1⟩ := z1
  refine thn (ho.run pins s1 σ H1 _ I1 q1) fun u s2 z2 => ?_
  obtain ⟨x, H2, I2, r2, a, C, rfl, T, hno, ea, q⟩ := z2
  obtain rfl : u = Value.ref a := r2
  exact ox_set T I2 ea hno r1 fun dx s' n ne J => ⟨σ, _, J, q dx n ne⟩
end

/-! ### the __init__ -/
/-- the body of such an __init__: the base's name, the field, what is stored -/
def xBody : List Stmt → Option (Str × Str × Str)
  | [.Expr (.Call (.Attribute (.Name B _) i p2) [.Name s _, .Constant (.str _) _ _] [] pos) _, .Assign [.Attribute (.Name s' _) f _] (.Name x _) _] =>
    if i = "__init__" ∧ s = "self" ∧ s' = "self" ∧ (p2.endLine == pos.line) = true then some (B, f, x) else none
  | _ => none
theorem xBody_ok {l : List Stmt} {B f x : Str} (h : xBody l = some (B, f, x)) : ∃ p1 p2 p3 m j p4 pos p5 p6 p7 p8 p9, l = [.Expr (.Call (.Attribute (.Name B p1) "__init__" p2) [.Name "self" p3, .Constant (.str m) j p4] [] pos) p5, .Assign [.Attribute (.Name "self" p6) f p7] (.Name x p8) p9] ∧ (p2.endLine == pos.line) = true := by
  unfold xBody at h
  split at h
  · split at h
    · rename_i hc
      obtain ⟨rfl, rfl, rfl, hl⟩ := hc
      cases h
      exact ⟨_, _, _, _, _, _, _, _, _, _, _, _, rfl, hl⟩
    · cases h
  · cases h
section
variable {Pr : Program} {w : World} {K : PySem.W.Frag} {mg : Str → Option Value} {base : Heap} {b : XB} {fI P : Addr} {fd : FuncData} {nm qual B f x : Str} {params : Arguments} {body : List Stmt} {scope : Scope} {dvs : List V} {kws : List (Str × V)}
theorem xinit_ok (F : FunD K nm qual params body scope dvs kws fI fd) (S : FnScope ["self", x] ["self", x] scope) (hb : xBody body = some (B, f, x)) (hx : plainName x = true) (hB : plainName B = true) (hsc : scope.names.lookup B = some .globalImplicit) (hm : mg B = some (.ref P)) (R : XpC K b P) :
    FnOk Pr w K mg base (L2.CX Pr w) 1 fI fd ["self", x] (spX b K f) := by
  obtain ⟨p1, p2, p3, m, j, p4, pos, p5, p6, p7, p8, p9, rfl, hl⟩ := xBody_ok hb
  refine F.ok (k := 0) S (fun vs H Q E z => ?_) fun cdv A outer s H vs Q E hr z => ?_
  · obtain ⟨a, y, C, rfl, _⟩ := z
    rfl
  obtain ⟨a, y, C, rfl, T, hno, ea, q⟩ := z
  have vis : ∀ n : Str, n ∈ (["self", x] : List Str) → Vis scope n := fun n hn => by
    unfold Vis
    rcases S.par n hn with z | z <;> rw [z] <;> simp
  have ix0 : (["self", x] : List Str)[0]? = some ("self" : Str) := rfl
  have ix1 : (["self", x] : List Str)[1]? = some x := rfl
  have self_ : ∀ p, PE (cxOf (L2.CX Pr w) Pr w K mg base ["self", x] qual scope fI cdv A outer s H E) (.Name "self" p) (cVar 0) := fun p => cVar_ok ix0 (vis _ (List.mem_cons_self ..)) (by decide)
  have x_ : ∀ p, PE (cxOf (L2.CX Pr w) Pr w K mg base ["self", x] qual scope fI cdv A outer s H E) (.Name x p) (cVar 1) := fun p => cVar_ok ix1 (vis _ (List.mem_cons_of_mem _ (List.mem_cons_self ..))) hx
  have c1 := pe_xinit (X := cxOf (L2.CX Pr w) Pr w K mg base ["self", x] qual scope fI cdv A outer s H E) (b := b) (P := P) (B := B) (p1 := p1) (p2 := p2) (pos := pos) (es := [.Name "self" p3, .Constant (.str m) j p4])
    hsc hB hm R rfl (by show 2 < 29; decide) hl (fun z => nomatch z) (pa_cons (self_ p3) (pa_cons (pe_str (x := m) (j := j) (pos := p4)) pa_nil (star_of rfl)) (star_of rfl))
  refine ⟨_, pss_cons (ps_expr c1 rfl) (pss_one (ps_xs (b := b) (f := f) (self_ p6) (x_ p8) rfl)), ?_⟩
  refine ⟨a, C, [.str m], rfl, (by show 1 ≤ 1000; decide), T, ea, ?_⟩
  refine ⟨a, C, rfl, T, hno, ea, fun dx n ne => ?_⟩
  exact q dx n ne
end
/-! ### C(e), to be raised -/
def tMkX (C : Addr) (f : Str) (te : TE) : St → Hp → XK → Prop := fun σ H Q => te σ H fun v H1 => ∀ d, H1 d = none → Q (.ref C) (some d) (upd H1 d (.xd [(f, v)]))
section
variable {X : Cx} {b : XB} {C fI : Addr} {fd : FuncData} {x f px : Str} {p pos : Pos} {e : Expr} {te : TE}
theorem xb_facts (b : XB) : ∃ ini bmB, ExcBaseFacts b.mk b.new ini bmB := WRX.xbase b
theorem pmk_x (T : XcC X.K b C) (hno : PySem.W.findIn X.K (.ref C) f = some none) (iC : PySem.W.findIn X.K (.ref C) "__init__" = some (some (.ref fI))) (tI : PySem.W.typeIn X.K (.ref fI) = some (.type "function"))
    (F1 : FnOk X.prog X.w X.K X.mg X.base (L2.CX X.prog X.w) 1 fI fd ["self", px] (spX b X.K f)) (hr : Room 2 X.A) (hb : Binds X.K fd ["self", px] []) (hg : Gl X x) (hx : plainName x = true) (hm : X.mg x = some (.ref C)) (hst : notStar e = true) (he : PE X e te) :
    PMk X (.Call (.Name x p) [e] [] pos) (tMkX C f te) := by
  intro pins s σ H Q I h
  obtain ⟨nm, q, N, bs, bm, sn, sub, ab, col, dd, k0, k1, k2, k3, k5, hC, hbm⟩ := T.cls
  obtain ⟨ini, bmB, F⟩ := xb_facts b
  have c1 : bm.contains (.type b.mk) = true := by
    rw [WRX.tail_has hbm]
    cases b <;> decide +kernel
  have c2 : bm.contains (.type "AttributeError") = false := by
    rw [WRX.tail_has hbm]
    cases b <;> decide +kernel
  have c3 : bm.contains (.type "NameError") = false := by
    rw [WRX.tail_has hbm]
    cases b <;> decide +kernel
  refine wpAny_Call_Name_kw (ld_glob I hg hm ?_ (plain_d hx))
  have hpl : (backTo pos (starEach ([] : List Expr) X.env)).any (·.1) = false := rfl
  refine PySem.W.callWith_K (h₀ := X.base) I.ok.mod.kin T.kC ?_ (star_of hst) hpl
  refine thn ((pa_cons he pa_nil (star_of hst)).run pos pins s σ H _ I (show tCons te tNil σ H fun vs H1 => ∃ v, vs = [v] ∧ ∀ d, H1 d = none → Q (.ref C) (some d) (upd H1 d (.xd [(f, v)])) from ?_)) fun us s1 z => ?_
  · have e0 : (fun (v : V) (H1 : Hp) => tNil σ H1 fun xs H2 => ∃ v', v :: xs = [v'] ∧ ∀ d, H2 d = none → Q (.ref C) (some d) (upd H2 d (.xd [(f, v')]))) = fun v H1 => ∀ d, H1 d = none → Q (.ref C) (some d) (upd H1 d (.xd [(f, v)])) := by
      funext v H1
      refine propext ⟨fun z => ?_, fun z => ⟨v, rfl, z⟩⟩
      obtain ⟨v', ev, z⟩ := z
      cases ev
      exact z
    show te σ H (fun v H1 => tNil σ H1 fun xs H2 => ∃ v', v :: xs = [v'] ∧ ∀ d, H2 d = none → Q (.ref C) (some d) (upd H2 d (.xd [(f, v')])))
    rw [e0]
    exact h
  obtain ⟨vs, H1, I1, r1, v, rfl, q1⟩ := z
  obtain ⟨u, rfl, ru⟩ := vals1 r1
  refine ⟨I1.kIn, ?_⟩
  show wpAny _ _ (call (.ref C) [u]) _ _ _
  obtain ⟨hp, g, dr, tk, os⟩ := s1
  have big : hp.objs.size ≤ hp.objs.size + 1 := Nat.le_succ _
  have fresh1 : H1 (hp.objs.size + 1) = none := I1.hok.fresh big
  have keep : ∀ c o, hp.get? c = some o → ((hp.push (PySem.W.kdv_tup [u])).push (PySem.HandSPX.excO C hp.objs.size)).get? c = some o := fun c o z => Heap.get?_push_of_some _ (Heap.get?_push_of_some _ z)
  have new_ : ((hp.push (PySem.W.kdv_tup [u])).push (PySem.HandSPX.excO C hp.objs.size)).get? (hp.objs.size + 1) = some (PySem.HandSPX.excO C hp.objs.size) := by heap_get
  have I2 : Inv X pins σ (upd H1 (hp.objs.size + 1) (exo (hp.objs.size + 1) C none)) ⟨(hp.push (PySem.W.kdv_tup [u])).push (PySem.HandSPX.excO C hp.objs.size), g, dr, tk, os⟩ :=
    I1.laid (t' := tk) (a := hp.objs.size + 1) (o := exo (hp.objs.size + 1) C none) (h' := (hp.push (PySem.W.kdv_tup [u])).push (PySem.HandSPX.excO C hp.objs.size)) keep big (exo_ok new_)
  have r2 : Vals [V.ref (hp.objs.size + 1), v] [Value.ref (hp.objs.size + 1), u] := .cons rfl (.cons ru .nil)
  have hq : spX b X.K f [V.ref (hp.objs.size + 1), v] (upd H1 (hp.objs.size + 1) (exo (hp.objs.size + 1) C none)) (fun z H2 => z = .non ∧ ∃ d, H2 (hp.objs.size + 1) = some (exo (hp.objs.size + 1) C (some d)) ∧ H2 d = some (exd d [(f, v)]) ∧ H1 d = none ∧ Q (.ref C) (some d) (upd (del H2 (hp.objs.size + 1)) d (.xd [(f, v)]))) (fun _ _ _ => False) := by
    refine ⟨_, _, C, rfl, T, hno, upd_same, fun dx n ne => ⟨rfl, dx, upd_same, ?_, ?_, ?_⟩⟩
    · rw [upd_ne ne, upd_same]
    · rw [upd_ne ne] at n
      exact n
    · rw [upd_ne ne] at n
      have same : upd (del (upd (upd (upd H1 (hp.objs.size + 1) (exo (hp.objs.size + 1) C none)) dx (exd dx [(f, v)])) (hp.objs.size + 1) (exo (hp.objs.size + 1) C (some dx))) (hp.objs.size + 1)) dx (.xd [(f, v)]) = upd H1 dx (.xd [(f, v)]) := by
        funext c
        by_cases z : c = dx
        · subst z
          rw [upd_same, upd_same]
        · rw [upd_ne z, upd_ne z]
          by_cases z2 : c = hp.objs.size + 1
          · subst z2
            rw [del_same, fresh1]
          · rw [del_ne z2, upd_ne z2, upd_ne z, upd_ne z2]
      rw [same]
      exact q1 dx n
  have hl : ([Value.ref (hp.objs.size + 1), u] ++ []).length = (["self", px] : List Str).length := rfl
  refine wpAny_call (WRX.xm_call F c1 c2 c3 (I1.kIn _ _ hC) (PySem.W.looks_findIn I1.kIn iC) (fun self => PySem.W.bind_fn I1.kIn self tI) (by show 1 ≤ _; rw [sizeLine_eq]; decide)
    (codeAny_mono (F1.run _ X.stack _ _ ⟨[Value.ref (hp.objs.size + 1), u], []⟩ [Value.ref (hp.objs.size + 1), u] _ _ (fun _ _ _ => False) (hr.make C [u] []) (I2.env0.make C [u] []) (by
      have z := hb _ [Value.ref (hp.objs.size + 1), u] I2.kIn hl
      rw [List.append_nil] at z
      exact z) r2 hq) fun r s' got => ?_))
  cases r with
  | error er => obtain ⟨_, _, _, _, _, _, _, _, _, _, _, _, z⟩ := got; exact z.elim
  | ok fl =>
    cases fl with
    | ret u' =>
      obtain ⟨z, H2, os2, bare2, un2, hok2, rv, rfl, d, ea, ed, hd1, q2⟩ := got
      obtain ⟨h2, g2, d2, t2, os'⟩ := s'
      exact ⟨rv, mk_end (raises_own T.exC T.tyC) I1 big keep un2 hok2 os2 bare2 ea ed hd1 q2⟩
    | next => exact False.elim got
    | brk => exact False.elim got
    | cont => exact False.elim got
end
end WR

set_option Elab.async false
set_option linter.all false
set_option maxRecDepth 100000
set_option maxHeartbeats 4000000
namespace WR
open PySem PySem.Spec PyProof.Rows L2

/-! ## 9. subscripts, slices, in -/
def keyOf : V → Option Key
  | .int i => some (.inl i)
  | .str s => some (.inr s)
  | _ => none
theorem keyOf_kV {y : V} {k : Key} (h : keyOf y = some k) : y = kV k := by
  cases y <;> cases h <;> rfl
/-- a dict's look at a key -/
def oGet (H : Hp) (p : Addr) (y : V) (R : Option V → Prop) : Prop := match H p with
  | some (.dK kvs) | some (.frz _ (.dK kvs)) => (match keyOf y with
      | some k => R (valV kvs k)
      | none => False)
  | some (.dT kvs) | some (.frz _ (.dT kvs)) => ∃ k b, y = .ref b ∧ H b = some (.tup (k.map kV)) ∧ R (valV kvs k)
  | _ => False
theorem oGet_dget {H : Hp} {p : Addr} {y : V} {R : Option V → Prop} (h : oGet H p y R) : ∃ o, DGet H p y o ∧ R o := by
  unfold oGet at h
  split at h
  · rename_i kvs e
    split at h
    · rename_i k ek
      exact ⟨_, .inl ⟨kvs, k, .inl e, keyOf_kV ek, rfl⟩, h⟩
    · exact h.elim
  · rename_i ob kvs e
    split at h
    · rename_i k ek
      exact ⟨_, .inl ⟨kvs, k, .inr ⟨ob, e⟩, keyOf_kV ek, rfl⟩, h⟩
    · exact h.elim
  · rename_i kvs e
    obtain ⟨k, b, rfl, eb, h⟩ := h
    exact ⟨_, .inr ⟨kvs, k, b, .inl e, rfl, eb, rfl⟩, h⟩
  · rename_i ob kvs e
    obtain ⟨k, b, rfl, eb, h⟩ := h
    exact ⟨_, .inr ⟨kvs, k, b, .inr ⟨ob, e⟩, rfl, eb, rfl⟩, h⟩
  · exact h.elim
def oIx (K : PySem.W.Frag) : R2 := fun x y H Q => match x with
  | .ref p => (match look K H p with
    | some (.lst xs) => (match y with
        | .int i => (match atI xs i with
            | some v => Q v H
            | none => False)
        | _ => False)
    | some (.tup xs) => (match y with
        | .int i => (match atI xs i with
            | some v => Q v H
            | none => False)
        | _ => False)
    | _ => oGet H p y fun o => match o with
        | some v => Q v H
        | none => False)
  | .str z => (match y with
    | .int i => z.length ≤ sizeLine ∧ (match atI z.cps.toList i with
        | some c => Q (.str ⟨#[c]⟩) H
        | none => False)
    | _ => False)
  | _ => False
def oIn (K : PySem.W.Frag) (neg : Bool) : R2 := fun x y H Q => match y with
  | .str z => (match x with
    | .str s => (match s.cps.toList with
        | [c] => Q (.bl (neg ^^ decide (c ∈ z.cps.toList))) H
        | _ => Q (.bl (neg ^^ !(Builtin.Str.occurrences z s 0 z.length 1).isEmpty)) H)
    | _ => False)
  | .ref p => (match look K H p with
    | some (.lst xs) => (flatV x = true ∧ xs.all flatV = true ∧ Q (.bl (neg ^^ inV x xs)) H) ∨
        ∃ d ds, Dp K H x d ∧ Dp K H y (.list ds) ∧ SeqAt.shaped d = true ∧ SeqAt.shaped (.list ds) = true ∧ Q (.bl (neg ^^ ds.any fun z => PyData.eqv z d)) H
    | some (.tup xs) => flatV x = true ∧ xs.all flatV = true ∧ Q (.bl (neg ^^ inV x xs)) H
    | _ => oGet H p x fun o => Q (.bl (neg ^^ o.isSome)) H)
  | _ => False
section
variable {X : Cx}
theorem ix_dict (hu : X.A.units + 1 < cLine) : IxR X (fun x y H Q => ∃ a v, x = .ref a ∧ DGet H a y (some v) ∧ Q v H) := by
  intro value slice pins s σ H x y v u Q I rx ry h hs
  obtain ⟨a, v', rfl, g, q⟩ := h
  cases rx
  exact tail_any (dict_typeIs I g) PySem.F.slot_dict_getitem.lookup (d_getItem hu I g ry fun w' s3 I3 rw' => ⟨v', H, I3, rw', q⟩) hs
theorem r_ix (hu : X.A.units + 1 < cLine) : IxR X (oIx X.K) := by
  intro value slice pins s σ H x y v u Q I rx ry h hs
  unfold oIx at h
  split at h
  · rename_i p
    split at h
    · rename_i xs e
      split at h
      · split at h
        · rename_i ea
          exact ix_seq value slice pins s σ H _ _ v u Q I rx ry (.inl ⟨_, _, _, _, rfl, rfl, look_lst e, ea, h⟩) hs
        · exact h.elim
      · exact h.elim
    · rename_i xs e
      split at h
      · split at h
        · rename_i ea
          exact ix_seq value slice pins s σ H _ _ v u Q I rx ry (.inr (.inl ⟨_, _, _, _, rfl, rfl, look_tup e, ea, h⟩)) hs
        · exact h.elim
      · exact h.elim
    · obtain ⟨o, g, h⟩ := oGet_dget h
      cases o with
      | none => exact h.elim
      | some w => exact ix_dict hu value slice pins s σ H _ _ v u Q I rx ry ⟨_, _, rfl, g, h⟩ hs
  · split at h
    · obtain ⟨hz, h⟩ := h
      split at h
      · rename_i ea
        exact ix_seq value slice pins s σ H _ _ v u Q I rx ry (.inr (.inr ⟨_, _, _, rfl, rfl, hz, ea, h⟩)) hs
      · exact h.elim
    · exact h.elim
  · exact h.elim
theorem xf (b : Bool) : (false ^^ b) = b := by cases b <;> rfl
theorem xt (b : Bool) : (true ^^ b) = !b := by cases b <;> rfl
theorem one_of {s : Str} {c : Nat} (h : s.cps.toList = [c]) : s = ⟨#[c]⟩ := by
  obtain ⟨cps⟩ := s
  have : cps = #[c] := by
    apply Array.ext'
    exact h
  subst this; rfl
theorem r_in (hu : X.A.units + 65 < cLine) : OpR X (compareOp .In) (oIn X.K false) := by
  intro pins s σ H x y v u Q I rx ry h
  unfold oIn at h
  split at h
  · split at h
    · split at h
      · rename_i c e
        rw [xf] at h
        rw [one_of e] at rx
        exact op_in_sign pins s σ H _ _ v u Q I rx ry ⟨_, _, rfl, rfl, h⟩
      · rw [xf] at h
        exact op_in_str pins s σ H _ _ v u Q I rx ry ⟨_, _, rfl, rfl, h⟩
    · exact h.elim
  · split at h
    · rename_i xs e
      rcases h with ⟨h1, h2, h⟩ | ⟨d, ds, h1, h2, h3, h4, h⟩
      · rw [xf] at h
        exact op_in_seq pins s σ H _ _ v u Q I rx ry ⟨_, _, rfl, .inl (look_lst e), h1, h2, h⟩
      · rw [xf] at h
        exact op_inD hu pins s σ H _ _ v u Q I rx ry ⟨d, ds, h1, h2, h3, h4, h⟩
    · rename_i xs e
      obtain ⟨h1, h2, h⟩ := h
      rw [xf] at h
      exact op_in_seq pins s σ H _ _ v u Q I rx ry ⟨_, _, rfl, .inr (look_tup e), h1, h2, h⟩
    · obtain ⟨o, g, h⟩ := oGet_dget h
      rw [xf] at h
      cases ry
      exact d_in (by omega) I g rx fun s' I' => ⟨.bl _, H, I', rfl, h⟩
  · exact h.elim
theorem r_notin (hu : X.A.units + 65 < cLine) : OpR X (compareOp .NotIn) (oIn X.K true) := by
  intro pins s σ H x y v u Q I rx ry h
  unfold oIn at h
  split at h
  · split at h
    · split at h
      · rename_i c e
        rw [xt] at h
        rw [one_of e] at rx
        exact op_notIn_sign pins s σ H _ _ v u Q I rx ry ⟨_, _, rfl, rfl, h⟩
      · rw [xt] at h
        exact op_notin_str pins s σ H _ _ v u Q I rx ry ⟨_, _, rfl, rfl, h⟩
    · exact h.elim
  · split at h
    · rename_i xs e
      rcases h with ⟨h1, h2, h⟩ | ⟨d, ds, h1, h2, h3, h4, h⟩
      · rw [xt] at h
        exact op_notIn_seq pins s σ H _ _ v u Q I rx ry ⟨_, _, rfl, .inl (look_lst e), h1, h2, h⟩
      · rw [xt] at h
        exact op_notInD hu pins s σ H _ _ v u Q I rx ry ⟨d, ds, h1, h2, h3, h4, h⟩
    · rename_i xs e
      obtain ⟨h1, h2, h⟩ := h
      rw [xt] at h
      exact op_notIn_seq pins s σ H _ _ v u Q I rx ry ⟨_, _, rfl, .inr (look_tup e), h1, h2, h⟩
    · obtain ⟨o, g, h⟩ := oGet_dget h
      rw [xt] at h
      cases ry
      exact d_notIn (by omega) I g rx fun s' I' => ⟨.bl _, H, I', rfl, h⟩
  · exact h.elim
/-- x[lo:hi] -/
def oSl (K : PySem.W.Frag) : V → Option Int → Option Int → Hp → VK → Prop := fun x lo hi H Q => match x with
  | .str z => z.length ≤ sizeLine ∧ Q (.str (cutS z lo hi)) H
  | .ref a => (match look K H a with
    | some (.lst xs) => ∀ p, H p = none → Q (.ref p) (upd H p (.lst (cutV xs lo hi)))
    | some (.tup xs) => (HT.sIx xs.length 0 lo = 0 ∧ HT.sIx xs.length xs.length hi = xs.length → Q (.ref a) H) ∧ (¬ (HT.sIx xs.length 0 lo = 0 ∧ HT.sIx xs.length xs.length hi = xs.length) → ∀ p, H p = none → Q (.ref p) (upd H p (.tup (cutV xs lo hi))))
    | _ => False)
  | _ => False
theorem r_sl : L2.SlR X (oSl X.K) := by
  intro pins s σ H x v vl vu lo hi sl Q I rx hs pl pu h
  unfold oSl at h
  split at h
  · exact sl_str pins s σ H _ v vl vu lo hi sl Q I rx hs pl pu ⟨_, rfl, h.1, h.2⟩
  · split at h
    · rename_i e
      exact sl_list pins s σ H _ v vl vu lo hi sl Q I rx hs pl pu ⟨_, _, rfl, look_lst e, h⟩
    · rename_i e
      exact sl_tupA pins s σ H _ v vl vu lo hi sl Q I rx hs pl pu ⟨_, _, rfl, look_tup e, h.1, h.2⟩
    · exact h.elim
  · exact h.elim
end

/-! ## 10. truth -/
def oTru (K : PySem.W.Frag) (x : V) (H : Hp) : Option Bool := match x with
  | .non => some false
  | .bl b => some b
  | .int i => some (i != 0)
  | .str y => if y.length ≤ sizeLine then some ((y.length : Int) != 0) else none
  | .ref p => (match look K H p with
    | some (.lst xs) => some (!xs.isEmpty)
    | some (.tup xs) => some (!xs.isEmpty)
    | _ => (match H p with
      | some (.dK kvs) => some (!kvs.isEmpty)
      | _ => none))
  | _ => none
theorem oTru_ok {K : PySem.W.Frag} {x : V} {H : Hp} {b : Bool} (h : oTru K x H = some b) : TruV K x H b := by
  unfold oTru at h
  split at h
  · cases h; exact rfl
  · cases h; exact rfl
  · cases h; exact rfl
  · split at h
    · rename_i hz; cases h; exact ⟨hz, rfl⟩
    · cases h
  · split at h
    · rename_i e; cases h; exact .inl ⟨_, look_lst e, rfl⟩
    · rename_i e; cases h; exact .inr (.inl ⟨_, look_tup e, rfl⟩)
    · split at h
      · rename_i e; cases h; exact .inr (.inr ⟨_, e, rfl⟩)
      · cases h
  · cases h
def cTru (K : PySem.W.Frag) (t : TE) : TT := fun σ H Q => t σ H fun x H1 => match oTru K x H1 with
  | some b => Q b H1
  | none => False

/-! ## 11. built-in functions -/
abbrev RC := List V → Hp → VK → Prop
def tyN (K : PySem.W.Frag) (H : Hp) (x : V) : Option String := match x with
  | .non => some "NoneType"
  | .bl _ => some "bool"
  | .int _ => some "int"
  | .str _ => some "str"
  | .ref p => (match look K H p with
    | some (.lst _) => some "list"
    | some (.tup _) => some "tuple"
    | some (.dK _) => some "dict"
    | _ => (match H p with
      | some (.dT _) => some "dict"
      | _ => none))
  | _ => none
theorem kobj_lstO {K : PySem.W.Frag} {a : Addr} {xs : List V} (h : kobj K a = some (.lst xs)) : ∃ o, K.lookup a = some o ∧ o.cls = .type "list" := by
  have z := kobj_lst (H := fun _ => none) h
  rcases z with z | ⟨o, its, n, e, c, _⟩
  · rcases z with z | ⟨_, z⟩ <;> cases z
  · exact ⟨o, e, c⟩
theorem kobj_tupO {K : PySem.W.Frag} {a : Addr} {xs : List V} (h : kobj K a = some (.tup xs)) : ∃ o, K.lookup a = some o ∧ o.cls = .type "tuple" := by
  have z := kobj_tup (H := fun _ => none) h
  rcases z with z | ⟨o, its, n, e, c, _⟩
  · rcases z with z | ⟨_, z⟩ <;> cases z
  · exact ⟨o, e, c⟩
theorem tyN_ok {K : PySem.W.Frag} {H : Hp} {x : V} {n : String} (h : tyN K H x = some n) : TyX K H x (.type n) := by
  unfold tyN at h
  split at h
  · cases h; exact .base .non
  · cases h; exact .base (.bl _)
  · cases h; exact .base (.int _)
  · cases h; exact .base (.str _)
  · split at h
    · rename_i e; cases h
      rcases look_rd e with (r | ⟨o, r⟩) | ⟨_, r⟩
      · exact .base (.lst r)
      · exact .base (.frz r)
      · obtain ⟨o, h1, h2⟩ := kobj_lstO r; exact .kList h1 h2
    · rename_i e; cases h
      rcases look_rd e with (r | ⟨o, r⟩) | ⟨_, r⟩
      · exact .base (.tup r)
      · exact .fTuple r
      · obtain ⟨o, h1, h2⟩ := kobj_tupO r; exact .kTuple h1 h2
    · rename_i e; cases h
      rcases look_dK e with r | ⟨o, r⟩
      · exact .base (.dK r)
      · exact .fDict r
    · split at h
      · rename_i e; cases h; exact .base (.dT e)
      · cases h
  · cases h
/-- isinstance(x, T), isinstance(x, (T, ..)), T built-in; of own classes by the written part -/
def allTy : List V → Option (List String)
  | [] => some []
  | .ty n :: r => (allTy r).map (n :: ·)
  | _ :: _ => none
def kitBs (n : String) : List String → Option Bool
  | [] => some false
  | T :: r => match kitB n T with
    | some true => some true
    | some false => kitBs n r
    | none => none
def bIsi (K : PySem.W.Frag) : RC := fun xs H Q => match xs with
  | [x, .ty T] => (match tyN K H x with
    | some n => (match kitB n T with
        | some b => Q (.bl b) H
        | none => False)
    | none => rIsi K xs H Q)
  | [x, .ref c] => (match H c with
    | some (.tup cs) => (match tyN K H x, allTy cs with
        | some n, some ts => (match kitBs n ts with
            | some b => Q (.bl b) H
            | none => False)
        | _, _ => rIsiT K xs H Q)
    | _ => rIsi K xs H Q)
  | _ => False
theorem allTy_cls : ∀ {cs : List V} {ts : List String}, allTy cs = some ts → Paired ClsV cs (ts.map Value.type)
  | [], ts, h => by cases h; exact .nil
  | c :: r, ts, h => by
    cases c <;> first | (simp only [allTy] at h; done) | skip
    all_goals try (cases h; done)
    rename_i n
    simp only [allTy] at h
    cases e : allTy r with
    | none => rw [e] at h; cases h
    | some l => rw [e] at h; cases h; exact .cons (.ty _) (allTy_cls e)
theorem kitBs_ok {K : PySem.W.Frag} {n : String} : ∀ {ts : List String} {b : Bool}, kitBs n ts = some b → PySem.W.kitAny K (.type n) (ts.map Value.type) = some b
  | [], b, h => by cases h; exact kitAny_nil
  | T :: r, b, h => by
    unfold kitBs at h
    split at h
    · rename_i e; cases h; exact kitAny_cons (kit_ty e) (fun z => nomatch z) fun _ => rfl
    · rename_i e; exact kitAny_cons (kit_ty e) (fun _ => kitBs_ok h) (fun z => nomatch z)
    · cases h
def bLen (K : PySem.W.Frag) : RC := fun xs H Q => match xs with
  | [.str y] => y.length ≤ sizeLine ∧ Q (.int y.length) H
  | [.ref p] => (match look K H p with
    | some (.lst ys) => Q (.int ys.length) H
    | some (.tup ys) => Q (.int ys.length) H
    | _ => (match H p with
      | some (.dK kvs) => Q (.int kvs.length) H
      | _ => False))
  | _ => False
def bAbs : RC := fun xs H Q => match xs with
  | [.int i] => Q (.int (if i < 0 then -i else i)) H
  | _ => False
def bMax : RC := fun xs H Q => match xs with
  | [.int i, .int j] => Q (.int (if j > i then j else i)) H
  | _ => False
def bMin : RC := fun xs H Q => match xs with
  | [.int i, .int j] => Q (.int (if j < i then j else i)) H
  | _ => False
def bOrd : RC := fun xs H Q => match xs with
  | [.str x] => x.length = 1 ∧ Q (.int (x.cps.getD 0 0 : Nat)) H
  | _ => False
def bInt : RC := fun xs H Q => match xs with
  | [.int i] => Q (.int i) H
  | [.bl k] => Q (.int (if k then 1 else 0)) H
  | [.str a] => a.length ≤ 640 ∧ (match PySem.intText? a with
    | some n => Q (.int n) H
    | none => False)
  | _ => False
def bStrOf : RC := fun xs H Q => match xs with
  | [.int i] => i.natAbs.log2 < 1920 ∧ Q (.str (toString i)) H
  | _ => False
def bAll (K : PySem.W.Frag) : RC := fun xs H Q => ∃ (a : Addr) (bs : List Bool), xs = [V.ref a] ∧ look K H a = some (.lst (bs.map V.bl)) ∧ Q (.bl (bs.all id)) H
def bAny (K : PySem.W.Frag) : RC := fun xs H Q => ∃ (a : Addr) (bs : List Bool), xs = [V.ref a] ∧ look K H a = some (.lst (bs.map V.bl)) ∧ Q (.bl (bs.any id)) H
def bSum (K : PySem.W.Frag) : RC := fun xs H Q => ∃ (a : Addr) (ns : List Int), xs = [V.ref a] ∧ look K H a = some (.lst (ns.map V.int)) ∧ Q (.int ns.sum) H
def bList (K : PySem.W.Frag) : RC := fun xs H Q => match xs with
  | [.ref p] => (match look K H p with
    | some (.lst ys) => ∀ l, H l = none → Q (.ref l) (upd H l (.lst ys))
    | some (.tup ys) => ∀ l, H l = none → Q (.ref l) (upd H l (.lst ys))
    | some (.dK kvs) => ∀ l, H l = none → Q (.ref l) (upd H l (.lst (kvs.map fun kv => kV kv.1)))
    | _ => False)
  | _ => False
def bTuple (K : PySem.W.Frag) : RC := fun xs H Q => match xs with
  | [.ref p] => (match look K H p with
    | some (.lst ys) => ∀ l, H l = none → Q (.ref l) (upd H l (.tup ys))
    | some (.tup ys) => Q (.ref p) H
    | _ => False)
  | _ => False
def bDict (K : PySem.W.Frag) : RC := fun xs H Q => match xs with
  | [.ref p] => (match look K H p with
    | some (.dK kvs) => ∀ l, H l = none → Q (.ref l) (upd H l (.dK kvs))
    | some (.lst ys) => ∃ (ps : List Addr) (kvs : List (Key × V)), ys = ps.map V.ref ∧ Paired (fun p kv => SqT K H p [kV kv.1, kv.2]) ps kvs ∧ ∀ l, H l = none → Q (.ref l) (upd H l (.dK (mergeK [] kvs)))
    | _ => False)
  | _ => False
section
variable {X : Cx}
theorem b_isi : CallR X (.builtin "isinstance") (bIsi X.K) := by
  refine CallR_imp (call_isi.or call_isiT) fun xs H Q h => ?_
  unfold bIsi at h
  split at h
  · split at h
    · rename_i n e
      split at h
      · rename_i b eb
        exact .inl ⟨_, _, _, _, b, rfl, .ty _, tyN_ok e, kit_ty eb, h⟩
      · exact h.elim
    · exact .inl h
  · split at h
    · rename_i cs ec
      split at h
      · rename_i n ts e1 e2
        split at h
        · rename_i b eb
          exact .inr ⟨_, _, _, _, _, b, rfl, ec, allTy_cls e2, tyN_ok e1, kitBs_ok eb, h⟩
        · exact h.elim
      · exact .inr h
    · exact .inl h
  · exact h.elim
theorem b_len : CallR X (.builtin "len") (bLen X.K) := by
  refine CallR_imp (call_len.or call_lenD) fun xs H Q h => ?_
  unfold bLen at h
  split at h
  · exact .inl ⟨_, _, rfl, ⟨h.1, rfl⟩, h.2⟩
  · split at h
    · rename_i e; exact .inl ⟨_, _, rfl, .inl ⟨_, look_lst e, rfl⟩, h⟩
    · rename_i e; exact .inl ⟨_, _, rfl, .inr ⟨_, look_tup e, rfl⟩, h⟩
    · split at h
      · rename_i e; exact .inr ⟨_, _, rfl, e, h⟩
      · exact h.elim
  · exact h.elim
theorem b_abs : CallR X (.builtin "abs") bAbs := CallR_imp call_abs fun xs H Q h => by
  unfold bAbs at h; split at h
  · exact ⟨_, rfl, h⟩
  · exact h.elim
theorem b_max (hc : X.calm = true) : CallR X (.builtin "max") bMax := CallR_imp (call_max2 hc) fun xs H Q h => by
  unfold bMax at h; split at h
  · exact ⟨_, _, rfl, h⟩
  · exact h.elim
theorem b_min (hc : X.calm = true) : CallR X (.builtin "min") bMin := CallR_imp (call_min2 hc) fun xs H Q h => by
  unfold bMin at h; split at h
  · exact ⟨_, _, rfl, h⟩
  · exact h.elim
theorem b_ord : CallR X (.builtin "ord") bOrd := CallR_imp call_ord fun xs H Q h => by
  unfold bOrd at h; split at h
  · exact ⟨_, rfl, h.1, h.2⟩
  · exact h.elim
theorem b_int : CallR X (.type "int") bInt := CallR_imp (call_int1.or call_int_str) fun xs H Q h => by
  unfold bInt at h; split at h
  · exact .inl (.inl ⟨_, rfl, h⟩)
  · exact .inl (.inr ⟨_, rfl, h⟩)
  · obtain ⟨hz, h⟩ := h
    split at h
    · rename_i e; exact .inr ⟨_, _, rfl, e, hz, h⟩
    · exact h.elim
  · exact h.elim
theorem b_str : CallR X (.type "str") bStrOf := CallR_imp call_str_int fun xs H Q h => by
  unfold bStrOf at h; split at h
  · exact ⟨_, rfl, h.1, h.2⟩
  · exact h.elim
theorem b_all (hc : X.calm = true) : CallR X (.builtin "all") (bAll X.K) := CallR_imp (cr_all hc) fun xs H Q ⟨a, bs, e, l, q⟩ => ⟨a, bs, e, look_lst l, q⟩
theorem b_any (hc : X.calm = true) : CallR X (.builtin "any") (bAny X.K) := CallR_imp (cr_any hc) fun xs H Q ⟨a, bs, e, l, q⟩ => ⟨a, bs, e, look_lst l, q⟩
theorem b_sum (hc : X.calm = true) : CallR X (.builtin "sum") (bSum X.K) := CallR_imp (cr_sum hc) fun xs H Q ⟨a, bs, e, l, q⟩ => ⟨a, bs, e, look_lst l, q⟩
theorem b_list (hc : X.calm = true) : CallR X (.type "list") (bList X.K) := CallR_imp (call_list_of.or (call_listD hc)) fun xs H Q h => by
  unfold bList at h
  split at h
  · split at h
    · rename_i e; exact .inl ⟨_, _, rfl, .inl (look_lst e), h⟩
    · rename_i e; exact .inl ⟨_, _, rfl, .inr (look_tup e), h⟩
    · rename_i e; exact .inr ⟨_, _, rfl, look_dK e, h⟩
    · exact h.elim
  · exact h.elim
theorem b_tuple : CallR X (.type "tuple") (bTuple X.K) := CallR_imp call_tuple_of fun xs H Q h => by
  unfold bTuple at h
  split at h
  · split at h
    · rename_i e; exact ⟨_, _, rfl, .inl ⟨look_lst e, h⟩⟩
    · rename_i e; exact ⟨_, _, rfl, .inr ⟨look_tup e, h⟩⟩
    · exact h.elim
  · exact h.elim
theorem b_dict (hc : X.calm = true) : CallR X (.type "dict") (bDict X.K) := CallR_imp (call_dictD.or (call_dictP hc)) fun xs H Q h => by
  unfold bDict at h
  split at h
  · split at h
    · rename_i e; exact .inl ⟨_, _, rfl, look_dK e, h⟩
    · rename_i e
      obtain ⟨ps, kvs, rfl, hp, q⟩ := h
      exact .inr ⟨_, ps, kvs, rfl, look_lst e, hp, q⟩
    · exact h.elim
  · exact h.elim
end
end WR

set_option Elab.async false
set_option linter.all false
set_option maxRecDepth 100000
set_option maxHeartbeats 4000000
namespace WR
open PySem PySem.Spec PyProof.Rows L2

/-! ## 12. methods of built-in types -/
abbrev RM := V → List V → Hp → VK → Prop
def mAppend : RM := fun x vs H Q => match x, vs with
  | .ref l, [y] => (match H l with
    | some (.lst xs) => xs.length < sizeLine ∧ Q .non (upd H l (.lst (xs ++ [y])))
    | _ => False)
  | _, _ => False
def mExtend : RM := fun x vs H Q => match x, vs with
  | .ref l, [.ref b] => (match H l, H b with
    | some (.lst xs), some (.lst zs) => xs.length + zs.length ≤ sizeLine ∧ Q .non (upd H l (.lst (xs ++ zs)))
    | _, _ => False)
  | _, _ => False
def mPopL : RM := fun x vs H Q => match x, vs with
  | .ref l, [] => (match H l with
    | some (.lst xs) => (match xs[xs.length - 1]? with
        | some y => Q y (upd H l (.lst xs.dropLast))
        | none => False)
    | _ => False)
  | .ref l, [.int i] => (match H l with
    | some (.lst xs) => -(2 ^ 63) ≤ i ∧ i < 2 ^ 63 ∧ (match seqIndex? i xs.length with
        | some k => (match xs[k]? with
          | some y => Q y (upd H l (.lst (xs.eraseIdx k)))
          | none => False)
        | none => False)
    | _ => False)
  | _, _ => False
def mReverse : RM := fun x vs H Q => match x, vs with
  | .ref l, [] => (match H l with
    | some (.lst xs) => Q .non (upd H l (.lst xs.reverse))
    | _ => False)
  | _, _ => False
def mClearL : RM := fun x vs H Q => match x, vs with
  | .ref l, [] => (match H l with
    | some (.lst xs) => Q .non (upd H l (.lst []))
    | _ => False)
  | _, _ => False
def mInsert : RM := fun x vs H Q => match x, vs with
  | .ref l, [.int i, y] => (match H l with
    | some (.lst xs) => xs.length < sizeLine ∧ 0 ≤ i ∧ i < 2 ^ 63 ∧ Q .non (upd H l (.lst (xs.take i.toNat ++ [y] ++ xs.drop i.toNat)))
    | _ => False)
  | _, _ => False
def mIndexL (K : PySem.W.Frag) : RM := fun x vs H Q => match x, vs with
  | .ref l, [y] => (match look K H l with
    | some (.lst ys) => flatV y = true ∧ ys.all flatV = true ∧ ∃ (j : Nat) (z : V), ys[j]? = some z ∧ eqV z y = true ∧ (∀ (m : Nat) (z' : V), m < j → ys[m]? = some z' → eqV z' y = false) ∧ Q (.int (j : Nat)) H
    | _ => False)
  | _, _ => False
def mGetD : RM := fun x vs H Q => match x, vs with
  | .ref a, [y] => oGet H a y fun o => Q (o.getD .non) H
  | .ref a, [y, d] => oGet H a y fun o => Q (o.getD d) H
  | _, _ => False
def mPopD : RM := fun x vs H Q => match x, vs with
  | .ref a, [y] => (match H a, keyOf y with
    | some (.dK kvs), some k => (match valV kvs k with
        | some v => Q v (upd H a (.dK (dropK kvs k)))
        | none => False)
    | _, _ => False)
  | .ref a, [y, d] => (match H a, keyOf y with
    | some (.dK kvs), some k => (match valV kvs k with
        | some v => Q v (upd H a (.dK (dropK kvs k)))
        | none => Q d H)
    | _, _ => False)
  | _, _ => False
def mClearD : RM := fun x vs H Q => match x, vs with
  | .ref a, [] => (match H a with
    | some (.dK kvs) => Q .non (upd H a (.dK []))
    | _ => False)
  | _, _ => False
def mJoin (K : PySem.W.Frag) : RM := fun x vs H Q => match x, vs with
  | .str a, [.ref p] => ∃ ys : List Str, (look K H p = some (.lst (ys.map V.str)) ∨ look K H p = some (.tup (ys.map V.str))) ∧ (ys.map (·.length)).sum + ys.length * a.length ≤ 16777216 ∧ Q (.str (Txt.join a ys)) H
  | _, _ => False
def mSplit : RM := fun x vs H Q => match x, vs with
  | .str a, [.str b] => (b.length == 0) = false ∧ a.length + 2 ≤ sizeLine ∧ ∀ p, H p = none → Q (.ref p) (upd H p (.lst ((Txt.split a b).map V.str)))
  | _, _ => False
def mPartition : RM := fun x vs H Q => match x, vs with
  | .str a, [.str b] => (b.length == 0) = false ∧ a.length ≤ sizeLine ∧ ∀ p, H p = none → Q (.ref p) (upd H p (.tup [.str (Txt.partition a b).1, .str (Txt.partition a b).2.1, .str (Txt.partition a b).2.2]))
  | _, _ => False
def mIndexS : RM := fun x vs H Q => match x, vs with
  | .str a, [.str b] => (match Builtin.Str.occurrences a b 0 a.length 1 with
    | i :: _ => Q (.int (i : Nat)) H
    | [] => False)
  | _, _ => False
def mEnds : RM := fun x vs H Q => match x, vs with
  | .str a, [.str b] => Q (.bl (Txt.endswith a b)) H
  | _, _ => False
def mCountS : RM := fun x vs H Q => match x, vs with
  | .str a, [.str b] => Q (.int (Txt.count a b)) H
  | _, _ => False
def mUpper : RM := fun x vs H Q => match x, vs with
  | .str a, [] => a.length ≤ 5592405 ∧ Q (.str (Txt.upper a)) H
  | _, _ => False
section
variable {X : Cx}
theorem m_append : MtR X "list.append" mAppend := MtR_imp mt_append fun x vs H Q h => by
  unfold mAppend at h; split at h
  · split at h
    · rename_i e; exact ⟨_, _, _, rfl, rfl, e, h.1, h.2⟩
    · exact h.elim
  · exact h.elim
theorem m_extend : MtR X "list.extend" mExtend := MtR_imp mt_extend fun x vs H Q h => by
  unfold mExtend at h; split at h
  · split at h
    · rename_i e f; exact ⟨_, _, _, _, rfl, rfl, e, f, h.1, h.2⟩
    · exact h.elim
  · exact h.elim
theorem m_popL : MtR X "list.pop" mPopL := MtR_imp (MtR.or mt_pop mt_popAt) fun x vs H Q h => by
  unfold mPopL at h; split at h
  · split at h
    · rename_i e
      split at h
      · rename_i f; exact .inl ⟨_, _, _, rfl, rfl, e, f, h⟩
      · exact h.elim
    · exact h.elim
  · split at h
    · rename_i e
      obtain ⟨h1, h2, h⟩ := h
      split at h
      · rename_i f
        split at h
        · rename_i g; exact .inr ⟨_, _, _, _, _, rfl, rfl, e, h1, h2, f, g, h⟩
        · exact h.elim
      · exact h.elim
    · exact h.elim
  · exact h.elim
theorem m_reverse : MtR X "list.reverse" mReverse := MtR_imp mt_reverse fun x vs H Q h => by
  unfold mReverse at h; split at h
  · split at h
    · rename_i e; exact ⟨_, _, rfl, rfl, e, h⟩
    · exact h.elim
  · exact h.elim
theorem m_clearL : MtR X "list.clear" mClearL := MtR_imp mt_clear fun x vs H Q h => by
  unfold mClearL at h; split at h
  · split at h
    · rename_i e; exact ⟨_, _, rfl, rfl, e, h⟩
    · exact h.elim
  · exact h.elim
theorem m_insert : MtR X "list.insert" mInsert := MtR_imp mt_insert fun x vs H Q h => by
  unfold mInsert at h; split at h
  · split at h
    · rename_i e; exact ⟨_, _, _, _, rfl, rfl, e, h.1, h.2.1, h.2.2.1, h.2.2.2⟩
    · exact h.elim
  · exact h.elim
theorem m_indexL : MtR X "list.index" (mIndexL X.K) := MtR_imp mt_index fun x vs H Q h => by
  unfold mIndexL at h; split at h
  · split at h
    · rename_i e
      obtain ⟨h1, h2, j, z, h3, h4, h5, q⟩ := h
      exact ⟨_, _, _, j, z, rfl, rfl, look_lst e, h1, h2, h3, h4, h5, q⟩
    · exact h.elim
  · exact h.elim
theorem m_getD (hu : X.A.units + 1 < cLine) : MtR X "dict.get" mGetD := by
  intro pins s σ H x vs v us Q I rx rs h
  unfold mGetD at h
  split at h
  · obtain ⟨o, g, q⟩ := oGet_dget h
    cases rx
    obtain ⟨u, rfl, ru⟩ := vals1 rs
    exact d_get1 hu I g ru fun w' s' I' r' => ⟨_, H, I', r', q⟩
  · obtain ⟨o, g, q⟩ := oGet_dget h
    cases rx
    obtain ⟨u, u2, rfl, ru, ru2⟩ := vals2 rs
    exact d_get2 hu I g ru ru2 fun w' s' I' r' => ⟨_, H, I', r', q⟩
  · exact h.elim
theorem m_popD : MtR X "dict.pop" mPopD := by
  intro pins s σ H x vs v us Q I rx rs h
  unfold mPopD at h
  split at h
  · split at h
    · rename_i k e ek
      split at h
      · rename_i el
        cases rx
        obtain ⟨u, rfl, ru⟩ := vals1 rs
        rw [keyOf_kV ek] at ru
        exact d_pop (more := []) I e ru el (.inl rfl) fun w' s' I' r' => ⟨_, _, I', r', h⟩
      · exact h.elim
    · exact h.elim
  · split at h
    · rename_i k e ek
      cases rx
      obtain ⟨u, u2, rfl, ru, ru2⟩ := vals2 rs
      rw [keyOf_kV ek] at ru
      split at h
      · rename_i el
        exact d_pop I e ru el (.inr ⟨_, rfl⟩) fun w' s' I' r' => ⟨_, _, I', r', h⟩
      · rename_i el
        exact d_popD I e ru el fun s' I' => ⟨_, _, I', ru2, h⟩
    · exact h.elim
  · exact h.elim
theorem m_clearD : MtR X "dict.clear" mClearD := MtR_imp mtd_clear fun x vs H Q h => by
  unfold mClearD at h; split at h
  · split at h
    · rename_i e; exact ⟨_, _, rfl, rfl, e, h⟩
    · exact h.elim
  · exact h.elim
theorem m_join : MtR X "str.join" (mJoin X.K) := MtR_imp mt_join fun x vs H Q h => by
  unfold mJoin at h; split at h
  · obtain ⟨ys, e, hz, q⟩ := h
    exact ⟨_, _, ys, rfl, rfl, e.elim (fun e => .inl (look_lst e)) (fun e => .inr (look_tup e)), hz, q⟩
  · exact h.elim
theorem m_split : MtR X "str.split" mSplit := MtR_imp mt_split fun x vs H Q h => by
  unfold mSplit at h; split at h
  · exact ⟨_, _, rfl, rfl, h.1, h.2.1, h.2.2⟩
  · exact h.elim
theorem m_partition : MtR X "str.partition" mPartition := MtR_imp mt_partition fun x vs H Q h => by
  unfold mPartition at h; split at h
  · exact ⟨_, _, rfl, rfl, h.1, h.2.1, h.2.2⟩
  · exact h.elim
theorem m_indexS : MtR X "str.index" mIndexS := MtR_imp mt_sindex fun x vs H Q h => by
  unfold mIndexS at h; split at h
  · split at h
    · rename_i e; exact ⟨_, _, _, _, rfl, rfl, e, h⟩
    · exact h.elim
  · exact h.elim
theorem m_ends : MtR X "str.endswith" mEnds := MtR_imp mt_endswith fun x vs H Q h => by
  unfold mEnds at h; split at h
  · exact ⟨_, _, rfl, rfl, h⟩
  · exact h.elim
theorem m_countS : MtR X "str.count" mCountS := MtR_imp mt_count fun x vs H Q h => by
  unfold mCountS at h; split at h
  · exact ⟨_, _, rfl, rfl, h⟩
  · exact h.elim
theorem m_upper : MtR X "str.upper" mUpper := MtR_imp mt_upper fun x vs H Q h => by
  unfold mUpper at h; split at h
  · exact ⟨_, rfl, rfl, h.1, h.2⟩
  · exact h.elim
end
/-- the table -/
def bms (K : PySem.W.Frag) : List BM := [
  ⟨"list", "append", "list.append", mAppend⟩, ⟨"list", "extend", "list.extend", mExtend⟩, ⟨"list", "pop", "list.pop", mPopL⟩, ⟨"list", "reverse", "list.reverse", mReverse⟩, ⟨"list", "clear", "list.clear", mClearL⟩,
  ⟨"list", "insert", "list.insert", mInsert⟩, ⟨"list", "index", "list.index", mIndexL K⟩,
  ⟨"dict", "get", "dict.get", mGetD⟩, ⟨"dict", "pop", "dict.pop", mPopD⟩, ⟨"dict", "clear", "dict.clear", mClearD⟩,
  ⟨"str", "join", "str.join", mJoin K⟩, ⟨"str", "split", "str.split", mSplit⟩, ⟨"str", "partition", "str.partition", mPartition⟩, ⟨"str", "index", "str.index", mIndexS⟩, ⟨"str", "endswith", "str.endswith", mEnds⟩,
  ⟨"str", "count", "str.count", mCountS⟩, ⟨"str", "upper", "str.upper", mUpper⟩]
theorem bms_ok {X : Cx} (hu : X.A.units + 1 < cLine) : ∀ b ∈ bms X.K, BMOk X b := by
  intro b hb
  simp only [bms, List.mem_cons, List.not_mem_nil, or_false] at hb
  rcases hb with rfl | rfl | rfl | rfl | rfl | rfl | rfl | rfl | rfl | rfl | rfl | rfl | rfl | rfl | rfl | rfl | rfl
  · exact ⟨PySem.F.plainAttrs_list, PySem.F.slot_list_append, PySem.F.type_list_append, m_append⟩
  · exact ⟨PySem.F.plainAttrs_list, PySem.F.slot_list_extend, PySem.F.type_list_extend, m_extend⟩
  · exact ⟨PySem.F.plainAttrs_list, PySem.F.slot_list_pop, PySem.F.type_list_pop, m_popL⟩
  · exact ⟨PySem.F.plainAttrs_list, PySem.F.slot_list_reverse, PySem.F.type_list_reverse, m_reverse⟩
  · exact ⟨PySem.F.plainAttrs_list, PySem.F.slot_list_clear, PySem.F.type_list_clear, m_clearL⟩
  · exact ⟨PySem.F.plainAttrs_list, PySem.F.slot_list_insert, PySem.F.type_list_insert, m_insert⟩
  · exact ⟨PySem.F.plainAttrs_list, PySem.F.slot_list_index, PySem.F.type_list_index, m_indexL⟩
  · exact ⟨PySem.F.plainAttrs_dict, PySem.F.slot_dict_get, PySem.F.type_dict_get, m_getD hu⟩
  · exact ⟨PySem.F.plainAttrs_dict, PySem.F.slot_dict_pop, PySem.F.type_dict_pop, m_popD⟩
  · exact ⟨PySem.F.plainAttrs_dict, PySem.F.slot_dict_clear, PySem.F.type_dict_clear, m_clearD⟩
  · exact ⟨PySem.F.plainAttrs_str, PySem.F.slot_str_join, PySem.F.type_str_join, m_join⟩
  · exact ⟨PySem.F.plainAttrs_str, PySem.F.slot_str_split, PySem.F.type_str_split, m_split⟩
  · exact ⟨PySem.F.plainAttrs_str, PySem.F.slot_str_partition, PySem.F.type_str_partition, m_partition⟩
  · exact ⟨PySem.F.plainAttrs_str, PySem.F.slot_str_index, PySem.F.type_str_index, m_indexS⟩
  · exact ⟨PySem.F.plainAttrs_str, PySem.F.slot_str_endswith, PySem.F.type_str_endswith, m_ends⟩
  · exact ⟨PySem.F.plainAttrs_str, PySem.F.slot_str_count, PySem.F.type_str_count, m_countS⟩
  · exact ⟨PySem.F.plainAttrs_str, PySem.F.slot_str_upper, PySem.F.type_str_upper, m_upper⟩

/-! ## 13. a method's call, by what the receiver is -/
def tyB (K : PySem.W.Frag) (H : Hp) (x : V) : Option String := match x with
  | .str _ => some "str"
  | .ref p => (match look K H p with
    | some (.lst _) => some "list"
    | _ => (match H p with
      | some (.dK _) => some "dict"
      | some (.dT _) => some "dict"
      | some (.set _ _) => some "set"
      | _ => none))
  | _ => none
theorem tyB_ok {K : PySem.W.Frag} {H : Hp} {x : V} {T : String} (h : tyB K H x = some T) : tyV K T x H := by
  unfold tyB at h
  split at h
  · cases h; exact rfl
  · split at h
    · rename_i e; cases h; exact .inl ⟨rfl, _, look_lst e⟩
    · split at h
      · rename_i e; cases h; exact .inr (.inr (.inl ⟨rfl, .inl ⟨_, e⟩⟩))
      · rename_i e; cases h; exact .inr (.inr (.inl ⟨rfl, .inr ⟨_, e⟩⟩))
      · rename_i e; cases h; exact .inr (.inr (.inr ⟨rfl, _, _, e⟩))
      · cases h
  · cases h
def insOf (H : Hp) (x : V) : Option (Addr × Addr × List (Str × V)) := match x with
  | .ref a => (match H a with
    | some (.ins C dx fs) => some (a, C, fs)
    | _ => none)
  | _ => none
theorem insOf_ok {H : Hp} {x : V} {a C : Addr} {fs : List (Str × V)} (h : insOf H x = some (a, C, fs)) : ∃ dx, x = .ref a ∧ H a = some (.ins C dx fs) := by
  unfold insOf at h
  split at h
  · split at h
    · rename_i e; cases h; exact ⟨_, rfl, e⟩
    · cases h
  · cases h
def cMeth (K : PySem.W.Frag) (m : Str) (n nk : Nat) (cands : List MtI) (bs : List BM) (ta : TE) (t tk : TA) (W : WX) : TE := fun σ H Q => ta σ H fun x H1 =>
  match insOf H1 x with
  | some (_, C, fs) => fs.lookup m = none ∧ ∃ c ∈ cands, c.cls = C ∧ t σ H1 fun vs H2 => tk σ H2 fun zs H3 => vs.length = n ∧ zs.length = nk ∧ c.sp (x :: c.arr vs zs) H3 Q (fun cls d H' => W cls d σ H')
  | none => (match tyB K H1 x with
    | some T => (match bs.find? (fun b => b.T == T) with
      | some b => nk = 0 ∧ t σ H1 fun vs H2 => b.r x vs H2 Q
      | none => False)
    | none => False)
section
variable {g : G} {lev : Nat} {X : Cx} {N : List Str} {sc : Scope} {W : WX}
theorem pe_methG {o : Expr} {m : Str} {apos pos : Pos} {es : List Expr} {kws : List Keyword} {ks : List Str} {ta : TE} {t tk : TA} {cands : List MtI} {bs : List BM} (c : COk g lev X N sc W) (hb : baseOk o = true) (hstar : es.all notStar = true) (hkw : kwNames kws = some ks)
    (hfew : es.length + kws.length < 29) (hline : (apos.endLine == pos.line) = true) (hc : ∀ i ∈ cands, i ∈ g.mts ∧ i.name = m ∧ i.n = es.length ∧ i.ks = ks) (hbs : ∀ b ∈ bs, BMOk X b ∧ b.name = m)
    (hnil : es = [] → t = tNil) (hknil : kws = [] → tk = tNil) (ho : PE X o ta) (ha : PA X es t) (hw : PK X kws tk) : PE X (.Call (.Attribute o m apos) es kws pos) (cMeth g.K m es.length ks.length cands bs ta t tk W) := by
  refine ⟨fun pins s σ H Q I h => ?_⟩
  refine meth_gen hb hstar hkw hfew hline (thn (ho.run pins s σ H _ I h) fun ov s1 ⟨x, H1, I1, rx, q1⟩ pl => ?_)
  dsimp only at q1
  split at q1
  · rename_i a C fs e
    obtain ⟨l, i, hi, hC, q1⟩ := q1
    obtain ⟨dx, rfl, ea⟩ := insOf_ok e
    obtain ⟨hm, hn, hnn, hks⟩ := hc i hi
    obtain ⟨fa, fd, ps, gf, cl, me, F, kb⟩ := c.gok.mts i hm
    rw [hC] at cl me
    rw [hn] at me
    rw [hnn, hks] at kb
    rw [← c.hK] at cl me F kb
    cases rx
    refine getmeth_ok I1 ea cl me l ?_
    refine args_of (first := [.ref a]) (R := fun vs zs H2 => vs.length = es.length ∧ zs.length = ks.length ∧ i.sp (.ref a :: i.arr vs zs) H2 Q (fun cls d H' => W cls d σ H')) (keeps_ref me.kp) hnil hstar hkw ha hw I1 q1 fun vs zs us ws s2 H2 I2 r rz q => ?_
    exact run_own (vs := .ref a :: vs) (us := .ref a :: us) F c.room0 c.gd kb c.tk I2 (.cons rfl r) rz (by rw [List.length_cons, q.1]) q.2.1 q.2.2
  · split at q1
    · rename_i T eT
      split at q1
      · rename_i b eb
        obtain ⟨hz, q1⟩ := q1
        have hbm : b ∈ bs := List.mem_of_find?_eq_some eb
        have hT : b.T = T := by have := List.find?_some eb; exact beq_iff_eq.mp this
        obtain ⟨ok, hn⟩ := hbs b hbm
        obtain ⟨h1, h2⟩ := tyV_is I1 rx (by rw [c.hK]; exact tyB_ok eT)
        have hkz : ks = [] := List.length_eq_zero_iff.mp hz
        subst hkz
        have hkws : kws = [] := by
          have := (kw_all (env := X.env) (pos := pos) hkw).2.2.2
          exact List.length_eq_zero_iff.mp this.symm
        subst hkws
        rw [hknil rfl] at hw
        refine getMethod_builtin (T := T) (id := b.id) h1 (hT ▸ ok.pa) (hn ▸ hT ▸ ok.slot) ok.ty h2 ?_
        refine args_of (tk := tNil) (ks := []) (first := [ov]) (R := fun vs zs H2 => zs = [] ∧ b.r x vs H2 Q) keeps_blt hnil hstar hkw ha hw I1 (?_ : t σ H1 fun vs H2 => tNil σ H2 fun zs H3 => zs = [] ∧ b.r x vs H3 Q) fun vs zs us ws s2 H2 I2 r rz q => ?_
        · have e : (fun (vs : List V) (H2 : Hp) => tNil σ H2 fun zs H3 => zs = [] ∧ b.r x vs H3 Q) = fun vs H2 => b.r x vs H2 Q := by
            funext vs H2
            exact propext ⟨fun z => z.2, fun z => ⟨rfl, z⟩⟩
          rw [e]
          exact q1
        · obtain ⟨rfl, q⟩ := q
          exact ok.run pins s2 σ H2 x vs ov us Q I2 rx r q
      · exact q1.elim
    · exact q1.elim
end
end WR

set_option Elab.async false
set_option linter.all false
set_option maxRecDepth 100000
set_option maxHeartbeats 4000000
namespace WR
open PySem PySem.Spec PyProof.Rows L2

theorem ownB_ok {K : PySem.W.Frag} {C : Addr} (h : ownB K C = true) : PySem.W.findIn K (.ref C) "__ne__" = some (some (.builtin "object.__ne__")) ∧ PySem.W.findIn K (.ref C) "__class__" = some (some (.builtin "object.__class__")) ∧
    PySem.W.specialIn K (.builtin "object.__class__") "__get__" = some (some (.builtin "getset_descriptor.__get__")) ∧ PySem.W.takesIn K (.builtin "object.__class__") = some true ∧ PySem.W.mroIn K C (.type "object") = some true ∧
    PySem.W.kitOne K (.ref C) (.ref C) = some true ∧ ∀ n ∈ basics, PySem.W.kitOne K (.type n) (.ref C) = some false := by
  unfold ownB at h
  simp only [Bool.and_eq_true, decide_eq_true_eq, List.all_eq_true] at h
  obtain ⟨h1, h2, h3, h4, h5, h6, h7⟩ := h
  exact ⟨h1, h2, h3, h4, h5, h6, h7⟩
/-! ## the text's own specials: len, ==, !=, str, bool of an own class's instances -/
/-! ## dicts compared deeply -/
inductive DpKv (K : PySem.W.Frag) (H : Hp) : List (Key × V) → List (Key × PyData) → Prop
  | nil : DpKv K H [] []
  | cons {k : Key} {v : V} {d : PyData} {kvs : List (Key × V)} {ds : List (Key × PyData)} (h : Dp K H v d) (s : SeqAt.shaped d = true) (r : DpKv K H kvs ds) : DpKv K H ((k, v) :: kvs) ((k, d) :: ds)
def dat (es : List (Key × PyData)) (k : Key) : Option PyData := (es.find? fun p => decide (p.1 = k)).map (·.2)
def eqKv (ds es : List (Key × PyData)) : Bool := ds.all fun p => match dat es p.1 with | some e => PyData.eqv p.2 e | none => false
theorem DpKv.len {K : PySem.W.Frag} {H : Hp} {ks : List (Key × V)} {ds : List (Key × PyData)} (h : DpKv K H ks ds) : ks.length = ds.length := by
  induction h with
  | nil => rfl
  | cons _ _ _ ih => simp [ih]
theorem DpKv.get {K : PySem.W.Frag} {H : Hp} {k : Key} {ks : List (Key × V)} {ds : List (Key × PyData)} (h : DpKv K H ks ds) : (valV ks k = none ∧ dat ds k = none) ∨ ∃ v d, valV ks k = some v ∧ dat ds k = some d ∧ Dp K H v d ∧ SeqAt.shaped d = true := by
  induction h with
  | nil => exact .inl ⟨rfl, rfl⟩
  | @cons k' v d kvs ds h s r ih =>
    by_cases e : k' = k
    · exact .inr ⟨v, d, valV_pos e, by simp [dat, e], h, s⟩
    · rw [valV_neg e]
      have : dat ((k', d) :: ds) k = dat ds k := by simp [dat, List.find?_cons, e]
      rw [this]; exact ih
theorem hits_deep {X : Cx} {pins : List (Addr × Obj)} {σ : St} {H : Hp} {s : Shared} {A : Around} {ls : List (Key × V)} {vb : List (Key × Value)} {es : List (Key × PyData)} (I : Inv X pins σ H s) (hu : A.in1.units + 64 < cLine) (rb : KV ls vb) (he : DpKv X.K H ls es) :
    ∀ {ks : List (Key × V)} {va : List (Key × Value)} {ds : List (Key × PyData)}, KV ks va → DpKv X.K H ks ds → PySem.W.KeqHits A.in1 s vb va (eqKv ds es) := by
  intro ks va ds ra hd
  induction hd generalizing va with
  | nil => cases ra; exact .nil
  | @cons k v d kvs ds h sh r ih =>
    cases ra with
    | @cons _ q _ vr h1 t =>
      obtain ⟨k', u⟩ := q
      obtain ⟨rfl, ru⟩ := h1
      have rl := rb.val k
      rcases he.get (k := k) with ⟨a, b⟩ | ⟨y, e, a, b, hy, se⟩
      · rw [a] at rl
        have hn : valueAt vb k = none := by
          cases q : valueAt vb k with
          | none => rfl
          | some w => rw [q] at rl; exact rl.elim
        have e : eqKv ((k, d) :: ds) es = false := by simp [eqKv, b]
        rw [e]
        exact .miss hn
      · rw [a] at rl
        obtain ⟨w, hw, rw'⟩ : ∃ w, valueAt vb k = some w ∧ RelV y w := by
          cases q : valueAt vb k with
          | none => rw [q] at rl; exact rl.elim
          | some w => rw [q] at rl; exact ⟨w, rfl, rl⟩
        have e1 : eqKv ((k, d) :: ds) es = (PyData.eqv d e && eqKv ds es) := by simp [eqKv, b]
        rw [e1]
        obtain ⟨as, r1⟩ := Dp.reads I d v u h ru
        obtain ⟨bs, r2⟩ := Dp.reads I e y w hy rw'
        exact .hit hw (PySem.W.keq_at r1 r2 sh se hu) (ih t)
def rEqDD (K : PySem.W.Frag) : R2 := fun x y H Q => ∃ a b ks ls ds es, x = .ref a ∧ y = .ref b ∧ H a = some (.dK ks) ∧ H b = some (.dK ls) ∧ DpKv K H ks ds ∧ DpKv K H ls es ∧ Q (.bl (ks.length == ls.length && eqKv ds es)) H
def rNeDD (K : PySem.W.Frag) : R2 := fun x y H Q => ∃ a b ks ls ds es, x = .ref a ∧ y = .ref b ∧ H a = some (.dK ks) ∧ H b = some (.dK ls) ∧ DpKv K H ks ds ∧ DpKv K H ls es ∧ Q (.bl (!(ks.length == ls.length && eqKv ds es))) H
theorem op_eqDD {X : Cx} (hu : X.A.units + 65 < cLine) : OpR X (compareOp .Eq) (rEqDD X.K) := by
  intro pins s σ H x y v u Q I rx ry h
  obtain ⟨a, b, ks, ls, ds, es, rfl, rfl, ea, eb, hd, he, q⟩ := h
  obtain rfl : v = Value.ref a := rx
  obtain rfl : u = Value.ref b := ry
  obtain ⟨_, ya, va, ra, da⟩ := (show ObjOk X.prog X.w H s.heap a (.dK ks) from I.hok a _ ea)
  obtain ⟨_, yb, vb, rb, db⟩ := (show ObjOk X.prog X.w H s.heap b (.dK ls) from I.hok b _ eb)
  refine PySem.W.keq_eq (knd := mixKind X.prog X.w) ya yb da db (by omega) (fun _ => hits_deep I (by show X.A.units + 1 + 64 < _; omega) rb he ra hd) ⟨.bl _, H, I, ?_, q⟩
  rw [ra.length, rb.length]
  rfl
theorem op_neDD {X : Cx} (hu : X.A.units + 65 < cLine) : OpR X (compareOp .NotEq) (rNeDD X.K) := by
  intro pins s σ H x y v u Q I rx ry h
  obtain ⟨a, b, ks, ls, ds, es, rfl, rfl, ea, eb, hd, he, q⟩ := h
  obtain rfl : v = Value.ref a := rx
  obtain rfl : u = Value.ref b := ry
  obtain ⟨_, ya, va, ra, da⟩ := (show ObjOk X.prog X.w H s.heap a (.dK ks) from I.hok a _ ea)
  obtain ⟨_, yb, vb, rb, db⟩ := (show ObjOk X.prog X.w H s.heap b (.dK ls) from I.hok b _ eb)
  refine PySem.W.keq_ne (knd := mixKind X.prog X.w) ya yb da db (by omega) (fun _ => hits_deep I (by show X.A.units + 1 + 64 < _; omega) rb he ra hd) ⟨.bl _, H, I, ?_, q⟩
  rw [ra.length, rb.length]
  rfl
/-- own methods that fit -/
def cands (g : G) (m : Str) (n : Nat) : List MtI := g.mts.filter fun i => decide (i.name = m) && (decide (i.n = n) && decide (i.ks = []))
theorem cands_ok {g : G} {m : Str} {n : Nat} {c : MtI} (h : c ∈ cands g m n) : c ∈ g.mts ∧ c.name = m ∧ c.n = n ∧ c.ks = [] := by
  unfold cands at h
  have := List.mem_filter.mp h
  simp only [Bool.and_eq_true, decide_eq_true_eq] at this
  exact ⟨this.1, this.2.1, this.2.2.1, this.2.2.2⟩
/-- what an own special of the class at C does with these values; no exception leaves it -/
def spc (g : G) (m : Str) (C : Addr) (x : V) (vs : List V) (H : Hp) (Q : VK) : Prop := ∃ c ∈ cands g m vs.length, c.cls = C ∧ c.sp (x :: c.arr vs []) H Q (fun _ _ _ => False)
def bLenG (g : G) : RC := fun xs H Q => match xs with
  | [x] => (match insOf H x with
    | some (_, C, _) => spc g "__len__" C x [] H fun v H' => match v with
        | .int n => (0 ≤ n ∧ n < 2 ^ 63) ∧ Q (.int n) H'
        | _ => False
    | none => bLen g.K xs H Q)
  | _ => False
def bStrG (g : G) : RC := fun xs H Q => match xs with
  | [x] => (match insOf H x with
    | some (_, C, _) => spc g "__str__" C x [] H fun v H' => match v with
        | .str y => Q (.str y) H'
        | _ => False
    | none => bStrOf xs H Q)
  | _ => False
def bBoolG (g : G) : RC := fun xs H Q => match xs with
  | [.int i] => Q (.bl (i != 0)) H
  | [.bl b] => Q (.bl b) H
  | [x] => (match insOf H x with
    | some (_, C, _) => (∃ cs, g.ats.lookup ("__bool__" : Str) = some cs ∧ C ∈ cs) ∧ spc g "__len__" C x [] H fun v H' => match v with
        | .int n => (0 ≤ n ∧ n < 2 ^ 63) ∧ Q (.bl (n != 0)) H'
        | _ => False
    | none => False)
  | _ => False
def eqOk (g : G) (C : Addr) (H : Hp) (y : V) : Prop := (tyN g.K H y).isSome = true ∨ ∃ b fs, insOf H y = some (b, C, fs)
def oEqG (g : G) : R2 := fun x y H Q => match insOf H x with
  | some (_, C, _) => eqOk g C H y ∧ spc g "__eq__" C x [y] H fun v H' => match v with
      | .bl b => Q (.bl b) H'
      | _ => False
  | none => oEq g.K x y H Q ∨ rEqDD g.K x y H Q
def oNeG (g : G) : R2 := fun x y H Q => match insOf H x with
  | some (_, C, _) => (∃ p ∈ g.nes, p.2 = C) ∧ eqOk g C H y ∧ spc g "__eq__" C x [y] H fun v H' => match v with
      | .bl b => Q (.bl (!b)) H'
      | _ => False
  | none => oNe g.K x y H Q ∨ rNeDD g.K x y H Q

section
variable {g : G} {lev : Nat} {X : Cx} {N : List Str} {sc : Scope} {W : WX}
theorem room_in3 {k : Nat} {A : Around} (r : Room (k + 1) A) : Room k A.in1.in1.in1 :=
  ⟨r.hd, by have := r.dp; show A.depth + 3 * k + 5 < _; omega, by have := r.un; show A.units + 1 + 1 + 1 + 16 * k + 200 < _; omega⟩
theorem room_in2 {k : Nat} {A : Around} (r : Room (k + 1) A) : Room k A.in1.in1 :=
  ⟨r.hd, by have := r.dp; show A.depth + 3 * k + 5 < _; omega, by have := r.un; show A.units + 1 + 1 + 16 * k + 200 < _; omega⟩
/-- an own def called somewhere below, no exception leaving it -/
theorem run_below {A : Around} {fa : Addr} {fd : FuncData} {ps : List Str} {sp : Sp} {n : Nat} {gf : List Value → List Value → List Value} {arr : List V → List V → List V} {pins : List (Addr × Obj)} {σ : St} {H : Hp} {s : Shared} {Q : VK} {us : List Value} {vs : List V}
    (hr : Room lev A) (gd : A.guards = some []) (hfr : A.frames = X.A.frames) (F : FnW X.prog X.w X.K X.mg X.base (L2.CX X.prog X.w) lev fa fd ps sp) (hb : KBn X.K fd ps n [] gf arr)
    (I : Inv X pins σ H s) (r : Vals vs us) (l1 : vs.length = n) (h : sp (arr vs []) H Q (fun _ _ _ => False)) {E : Value → Shared → Prop} : wpAny (model X.prog X.w) A (call (.ref fa) us) (EP X pins σ Q) E s := by
  have r2 := hb.rel r (zs := []) (ws := []) .nil
  have e0 : Env0 X.prog X.w X.K X.mg X.base A X.stack s H := by
    have e := I.env0
    exact ⟨by rw [hfr]; exact e.frames, e.mod, e.bs, e.bsz, e.funs, e.frf, e.hok, e.bare⟩
  refine wpAny_call (codeAny_mono (F.run A X.stack s H ⟨us, []⟩ (gf us []) (arr vs []) Q _ hr gd e0 (hb.to s us [] I.kIn (r.length.symm.trans l1) rfl) r2 h) fun r s' hq => ?_)
  cases r with
  | error e => obtain ⟨_, _, _, _, _, _, _, _, _, _, _, _, z⟩ := hq; exact z.elim
  | ok fl =>
    cases fl with
    | ret u => exact I.after hq
    | next => exact False.elim hq
    | brk => exact False.elim hq
    | cont => exact False.elim hq
/-- an own special's parts -/
theorem spc_get (c : COk g lev X N sc W) {m : Str} {C a : Addr} {vs : List V} {us : List Value} {H : Hp} {Q : VK} (h : spc g m C (.ref a) vs H Q) : ∃ fa, PySem.W.findIn X.K (.ref C) m = some (some (.ref fa)) ∧ PySem.W.isFn X.K (.ref fa) = true ∧ Cls X.K C ∧
    ∀ {A : Around} {pins : List (Addr × Obj)} {σ : St} {s : Shared} {E : Value → Shared → Prop}, Room lev A → A.guards = some [] → A.frames = X.A.frames → Inv X pins σ H s → Vals vs us → wpAny (model X.prog X.w) A (call (.ref fa) (.ref a :: us)) (EP X pins σ Q) E s := by
  obtain ⟨i, hi, hC, q⟩ := h
  obtain ⟨i1, i2, i3, i4⟩ := cands_ok hi
  obtain ⟨fa, fd, ps, gf, cl, me, F, kb⟩ := c.gok.mts i i1
  rw [hC] at cl me
  rw [i2] at me
  rw [i3, i4] at kb
  rw [← c.hK] at cl me F kb
  refine ⟨fa, me.at_, me.fn, cl, fun hr gd hf I r => ?_⟩
  exact run_below (vs := .ref a :: vs) hr gd hf F kb I (.cons rfl r) (by rw [List.length_cons]) q
theorem b_lenG (c : COk g lev X N sc W) (hl : CallR X (.builtin "len") (bLen g.K)) : CallR X (.builtin "len") (bLenG g) := by
  intro pins s σ H xs us Q I r h
  unfold bLenG at h
  split at h
  · rename_i x
    split at h
    · rename_i a C fs e
      obtain ⟨dx, rfl, ea⟩ := insOf_ok e
      obtain ⟨u, rfl, ru⟩ := vals1 r
      cases ru
      obtain ⟨fa, h1, h2, cl, run⟩ := spc_get (us := []) c h
      obtain ⟨mA, J, _⟩ := ins_get I.hok ea
      obtain ⟨od, J, _⟩ := J.look
      obtain ⟨m, hF⟩ := I.fr
      refine PySem.W.len_K hF I.ok.mod.kin J h1 h2 (wpAny_mono (run (c.room.in1) c.gd rfl I .nil) (fun u s' z => ?_) fun _ _ z => z)
      obtain ⟨v, H', I', rv, q⟩ := z
      cases v <;> first | exact q.elim | skip
      obtain ⟨t, rfl⟩ := rv
      exact ⟨q.1, ⟨.int _, H', I'.tok _, ⟨_, rfl⟩, q.2⟩⟩
    · exact hl pins s σ H _ us Q I r h
  · exact h.elim
theorem b_strG (c : COk g lev X N sc W) : CallR X (.type "str") (bStrG g) := by
  intro pins s σ H xs us Q I r h
  unfold bStrG at h
  split at h
  · rename_i x
    split at h
    · rename_i a C fs e
      obtain ⟨dx, rfl, ea⟩ := insOf_ok e
      obtain ⟨u, rfl, ru⟩ := vals1 r
      cases ru
      obtain ⟨fa, h1, h2, cl, run⟩ := spc_get (us := []) c h
      obtain ⟨mA, J, _⟩ := ins_get I.hok ea
      obtain ⟨od, J, _⟩ := J.look
      refine PySem.W.kso_call (by have := c.room.un; show X.A.units + 1 + 1 < _; omega) I.kIn J h1 h2 (wpAny_mono (run (room_in2 c.room) c.gd rfl I .nil) (fun u s' z => ?_) fun _ _ z => z)
      obtain ⟨v, H', I', rv, q⟩ := z
      cases v <;> first | exact q.elim | skip
      obtain ⟨t, rfl⟩ := rv
      exact ⟨.str _, H', I', ⟨_, rfl⟩, q⟩
    · exact b_str pins s σ H _ us Q I r h
  · exact h.elim
/-! ### == and != -/
theorem sub_no {K : PySem.W.Frag} {C : Addr} {n : String} {H : Hp} {x : V} (h : tyN K H x = some n) : PySem.W.notFirst K C (.type n) = true := by
  have key : ∀ m : String, m ∈ ["NoneType", "bool", "int", "str", "list", "tuple", "dict"] → PySem.W.notFirst K C (.type m) = true := by
    intro m hm
    simp only [List.mem_cons, List.not_mem_nil, or_false] at hm
    rcases hm with rfl | rfl | rfl | rfl | rfl | rfl | rfl <;> (first | rfl | kernel_rfl)
  refine key n ?_
  unfold tyN at h
  split at h
  all_goals try (cases h <;> simp)
  split at h
  all_goals try (cases h <;> simp)
  split at h <;> cases h <;> simp
theorem eq_looks {pins : List (Addr × Obj)} {σ : St} {H : Hp} {s : Shared} {C : Addr} {y : V} {v : Value} (c : COk g lev X N sc W) (I : Inv X pins σ H s) (ry : RelV y v) (h : eqOk g C H y) :
    ∃ tb, PySem.W.Looks (model X.prog X.w) s.heap (typeOf v) tb ∧ PySem.W.notFirst X.K C tb = true := by
  rcases h with h | ⟨b, fs, h⟩
  · cases e : tyN g.K H y with
    | none => rw [e] at h; cases h
    | some n =>
      have e2 := e
      rw [← c.hK] at e
      obtain ⟨P, Z, p, _⟩ := kit_of I ry (tyN_ok e)
      exact ⟨_, Z.ty _ _ I.kIn p, sub_no e⟩
  · obtain ⟨dx, rfl, ea⟩ := insOf_ok h
    cases ry
    obtain ⟨mA, J, _⟩ := ins_get I.hok ea
    obtain ⟨od, J, _⟩ := J.look
    exact ⟨_, J.type, by simp [PySem.W.notFirst]⟩
theorem r_eqG (c : COk g lev X N sc W) (ho : OpR X (compareOp .Eq) (oEq g.K)) : OpR X (compareOp .Eq) (oEqG g) := by
  intro pins s σ H x y v u Q I rx ry h
  unfold oEqG at h
  split at h
  · rename_i a C fs e
    obtain ⟨dx, rfl, ea⟩ := insOf_ok e
    cases rx
    obtain ⟨hy, h⟩ := h
    obtain ⟨tb, hb, hn⟩ := eq_looks c I ry hy
    obtain ⟨fa, h1, h2, cl, run⟩ := spc_get (us := [u]) c h
    obtain ⟨mA, J, _⟩ := ins_get I.hok ea
    obtain ⟨od, J, _⟩ := J.look
    obtain ⟨m, hF⟩ := I.fr
    show wpAny (model X.prog X.w) X.A (richCompare .Eq (.ref a) u) _ _ _
    refine PySem.W.cmp_K (op := .Eq) (by have := c.room.un; omega) hF I.ok.mod.kin J hb hn h1 h2 (wpAny_mono (run c.room0 c.gd rfl I (.cons ry .nil)) (fun r s' z => ?_) fun _ _ z => z)
    obtain ⟨w, H', I', rv, q⟩ := z
    cases w <;> first | exact q.elim | skip
    cases rv
    exact ⟨.bl _, H', I', rfl, q⟩
  · rcases h with h | h
    · exact ho pins s σ H x y v u Q I rx ry h
    · rw [← c.hK] at h
      exact op_eqDD (by have := c.room.un; omega) pins s σ H x y v u Q I rx ry h
end
end WR
namespace PySem.W
open PySem PySem.Spec PySem.Calls PyProof.Rows PySem.Builtin
section
variable {prog : Program} {w : World} {A : Around} {E : Value → Shared → Prop} {s : Shared} {K : Frag} {x C L f : Addr} {h₀ : Heap} {m : Str → Option Value} {ox : Obj} {od : Option Obj} {name : Str} {b tb : Value}
theorem wr_ifBoundB {M : Model} {id : String} {args : List Value} {Q : Option Value → Shared → Prop} (X : K.In s.heap) (I : InstAt s.heap x ox C od) (hs : findIn K (.ref C) name = some (some (.builtin id))) (hb : ∀ self, bindSpecial (.builtin id) self = pure (.builtin id, [self]))
    (h : wpAny M A (call (.builtin id) (.ref x :: args)) (fun v => Q (some v)) E s) : wpAny M A (callSpecialIfBound? (.ref x) name args) Q E s := by
  simp only [callSpecialIfBound?, bindSpecialIfBound?]
  refine wpAny_holding (wpAny_bind (wpAny_bind (wpAny_bind (I.type.here ((looks_findIn X hs).here ?_)))))
  refine wpAny_bind (wpAny_askSetting (wpAny_ite ?_))
  have fin : wpAny M A (call (.builtin id) ([.ref x] ++ args) >>= fun v => pure (some v)) Q E s := wpAny_bind (wpAny_mono h (fun v s' h' => wpAny_pure h') fun _ _ h' => h')
  split
  · exact wpAny_bind ((Looks.of_pure (hb _)).here (wpAny_pure (by exact fin)))
  · exact wpAny_tryCatch (wpAny_bind ((Looks.of_pure (hb _)).here (wpAny_pure (by exact fin))))
theorem wr_ne {Q : Value → Shared → Prop} (hu : A.units + 1 < cLine) (X : K.In s.heap) (I : InstAt s.heap x ox C od) (hb : Looks (model prog w) s.heap (typeOf b) tb) (hn : notFirst K C tb = true)
    (hne : findIn K (.ref C) "__ne__" = some (some (.builtin "object.__ne__"))) (hm : Looks (model prog w) s.heap (isInstance (.ref x) (.type "object")) true) (hs : findIn K (.ref C) "__eq__" = some (some (.ref f))) (hf : isFn K (.ref f) = true)
    (h : wpAny (model prog w) A.in1 (call (.ref f) [.ref x, b]) (fun v s' => ∃ r, v = .bool r ∧ Q (.bool (!r)) s') E s) : wpAny (model prog w) A (richCompare .NotEq (.ref x) b) Q E s := by
  have one : wpAny (model prog w) A (tryCompare (.ref x) "__ne__" b) (fun r s' => ∃ v, r = some v ∧ Q v s') E s := by
    unfold tryCompare
    refine wpAny_bind (wr_ifBoundB (id := "object.__ne__") X I hne PySem.F.slot_zip_ne.bind (wpAny_call (codeAny_call_builtin PySem.F.slot_zip_ne.plain F.cmpEntry_ne (check_slot F.cmpKind_ne F.cmpSplit_ne hm (F.cmpArgs_ne _ _) ?_))))
    unfold Builtin.«object.__ne__»
    refine wpAny_bind (m := slotArgs "__ne__" 1 _) (wpAny_pure ?_)
    refine wpAny_bind (wpAny_cRoomFor hu ?_)
    refine wpAny_bind (m := callSpecialIfBound? (.ref x) (Str.ofString "__eq__") [b]) (ifBound_K X I hs hf (wpAny_mono h (fun v s' hv => ?_) fun _ _ e => e))
    obtain ⟨r, rfl, hq⟩ := hv
    refine wpAny_bind (m := truthy (.bool r)) (wpAny_truthy_bool ?_)
    first | exact wpAny_pure ⟨_, rfl, wpAny_pure ⟨_, rfl, hq⟩⟩ | exact wpAny_pure (wpAny_pure ⟨_, rfl, hq⟩) | exact wpAny_pure ⟨_, rfl, hq⟩ | exact wpAny_pure ⟨_, rfl, wpAny_pure hq⟩
  unfold richCompare
  simp only [oneThing_ref]
  refine wpAny_holding (wpAny_bind (wpAny_cRoomFor (Nat.lt_of_succ_lt hu) ?_))
  refine wpAny_bind (I.type.here (wpAny_bind (hb.here ?_)))
  rw [cmpInfo_NotEq]
  dsimp only
  split
  · rename_i q
    have e : subIn K tb (.ref C) = some false := by
      rcases Bool.or_eq_true_iff.mp hn with e | e
      · rw [beq_iff_eq.mp e] at q; simp at q
      · exact beq_iff_eq.mp e
    refine wpAny_bind ((looks_subIn X e).here ?_)
    simp only [Bool.false_eq_true, if_false]
    refine wpAny_bind (wpAny_mono one (fun r s' z => ?_) fun _ _ e => e)
    obtain ⟨v, rfl, hq⟩ := z
    exact wpAny_pure hq
  · refine wpAny_bind (wpAny_pure ?_)
    simp only [Bool.false_eq_true, if_false]
    refine wpAny_bind (wpAny_mono one (fun r s' z => ?_) fun _ _ e => e)
    obtain ⟨v, rfl, hq⟩ := z
    exact wpAny_pure hq
theorem wr_truthy {Q : Bool → Shared → Prop} (X : K.In s.heap) (I : InstAt s.heap x ox C od) (hb : findIn K (.ref C) "__bool__" = some none) (hs : findIn K (.ref C) "__len__" = some (some (.ref f))) (hf : isFn K (.ref f) = true)
    (h : wpAny (model prog w) A.in1 (call (.ref f) [.ref x]) (fun r s' => ∃ n u, r = .int n u ∧ (0 ≤ n ∧ n < 2 ^ 63) ∧ Q (n != 0) { s' with toks := s'.toks + 1 }) E s) : wpAny (model prog w) A (truthy (.ref x)) Q E s := by
  have key : wpAny (model prog w) A (runValue (.builtin "len" ⟨[.ref x], []⟩)) (fun r s' => ∃ n t, r = .int n t ∧ Q (n != 0) s') E s := by
    refine wpAny_runValue (codeAny_builtin entry_len ?_)
    rw [Around.under_plainId plain_len _]
    unfold Builtin.«len»
    refine wpAny_bind (m := oneArg "len" _) (wpAny_pure ?_)
    refine wpAny_bind (m := callSpecial? (.ref x) (Str.ofString "__len__")) (special_fn X I hs (beq_iff_eq.mp hf) (wpAny_mono h (fun r s' hr => ?_) fun _ _ y => y))
    obtain ⟨n, u, rfl, ⟨h0, h1⟩, hq⟩ := hr
    refine wpAny_bind (wpAny_holding (wpAny_pure ?_))
    refine wpAny_bind (wpAny_letGo ?_)
    show wpAny _ _ (if n < 0 then _ else _) _ _ _
    rw [if_neg (by omega)]
    show wpAny _ _ (if n ≥ 2 ^ 63 then _ else _) _ _ _
    rw [if_neg (by omega)]
    exact wpAny_bind (wpAny_mkInt (wpAny_pure ⟨_, _, rfl, hq⟩))
  unfold truthy
  refine wpAny_bind (m := callSpecial? (.ref x) (Str.ofString "__bool__")) ?_
  refine wpAny_bind (wpAny_bind (I.type.here ((looks_findIn X hb).here ?_)))
  refine wpAny_pure ?_
  refine wpAny_bind (wpAny_bind (I.type.here ((looks_findIn X hs).here ?_)))
  show wpAny _ _ (if (some (Value.ref f)).isNone = true then _ else _) _ _ _
  rw [if_neg (by simp)]
  refine wpAny_bind (m := runValue _) (wpAny_mono key (fun v s' hv => ?_) fun _ _ e => e)
  obtain ⟨n, t, rfl, hq⟩ := hv
  exact wpAny_pure hq
theorem wr_bool {Q : Value → Shared → Prop} (h : wpAny (model prog w) A.in1.in1 (truthy (.ref x)) (fun b s' => Q (.bool b) s') E s) : wpAny (model prog w) A (call (.type "bool") [.ref x]) Q E s := by
  refine callType_newIn F.called_bool (by decide) (F.typeCall_bool_1 _) (F.newCall_bool_1 _) (fun obj => F.args_object_init_2 obj _) F.entry_bool_new (S := fun A R s => wpAny (model prog w) A.in1 (truthy (.ref x)) (fun b s' => R (.ok (.ret (.bool b))) s') (fun e s' => R (.error e) s') s) (MeetsIn.of_wp fun A R s hq => ?_) ?_
  · obtain ⟨hp, g, d, tk, os⟩ := s
    have f1 := F.conv_sub_bool
    repeat (any_goals (first | assumption | (refine wpAny_mono hq (fun b s' hb => ?_) fun _ _ e => e) | wp_step))
    all_goals first | exact ⟨_, rfl, hb⟩ | exact hb | skip
  · exact wpAny_mono h (fun b s' hb => ⟨rfl, hb⟩) fun _ _ e => e
end
end PySem.W

namespace WR
open PySem PySem.Spec PyProof.Rows L2
section
variable {g : G} {lev : Nat} {X : Cx} {N : List Str} {sc : Scope} {W : WX}
theorem r_neG (c : COk g lev X N sc W) (ho : OpR X (compareOp .NotEq) (oNe g.K)) : OpR X (compareOp .NotEq) (oNeG g) := by
  intro pins s σ H x y v u Q I rx ry h
  unfold oNeG at h
  split at h
  · rename_i a C fs e
    obtain ⟨dx, rfl, ea⟩ := insOf_ok e
    cases rx
    obtain ⟨⟨p, hp, hC⟩, hy, h⟩ := h
    subst hC
    have hne := (ownB_ok (c.gok.nes p hp)).1
    rw [← c.hK] at hne
    obtain ⟨tb, hb, hn⟩ := eq_looks c I ry hy
    obtain ⟨fa, h1, h2, cl, run⟩ := spc_get (us := [u]) c h
    obtain ⟨mA, J, _⟩ := ins_get I.hok ea
    obtain ⟨od, J, _⟩ := J.look
    show wpAny (model X.prog X.w) X.A (richCompare .NotEq (.ref a) u) _ _ _
    have hm : PySem.W.Looks (model X.prog X.w) s.heap (isInstance (.ref a) (.type "object")) true := by
      obtain ⟨cd, hc, ho⟩ := PySem.W.any_some cl.po
      have ne : cd.mro.isEmpty = false := by cases q : cd.mro with | nil => rw [q] at ho; cases ho | cons _ _ => rfl
      exact J.type.andThen (PySem.W.looks_mroIn I.kIn (by unfold PySem.W.mroIn; rw [hc, Option.bind_some, if_neg (by rw [ne]; decide), PySem.W.only_has ho]))
    refine PySem.W.wr_ne (by have := c.room.un; omega) I.kIn J hb hn hne hm h1 h2 (wpAny_mono (run c.room.in1 c.gd rfl I (.cons ry .nil)) (fun r s' z => ?_) fun _ _ z => z)
    obtain ⟨w, H', I', rv, q⟩ := z
    cases w <;> first | exact q.elim | skip
    cases rv
    exact ⟨_, rfl, .bl _, H', I', rfl, q⟩
  · rcases h with h | h
    · exact ho pins s σ H x y v u Q I rx ry h
    · rw [← c.hK] at h
      exact op_neDD (by have := c.room.un; omega) pins s σ H x y v u Q I rx ry h
theorem b_boolG (c : COk g lev X N sc W) : CallR X (.type "bool") (bBoolG g) := by
  intro pins s σ H xs us Q I r h
  unfold bBoolG at h
  split at h
  · exact call_bool1 pins s σ H _ us Q I r (.inl ⟨_, rfl, h⟩)
  · exact call_bool1 pins s σ H _ us Q I r (.inr ⟨_, rfl, h⟩)
  · split at h
    · rename_i x _ _ a C fs e
      obtain ⟨dx, rfl, ea⟩ := insOf_ok e
      obtain ⟨u, rfl, ru⟩ := vals1 r
      cases ru
      obtain ⟨⟨cs, hl, hC⟩, h⟩ := h
      obtain ⟨_, hb⟩ := c.gok.ats _ (lookup_mem hl) _ hC
      rw [← c.hK] at hb
      obtain ⟨fa, h1, h2, cl, run⟩ := spc_get (us := []) c h
      obtain ⟨mA, J, _⟩ := ins_get I.hok ea
      obtain ⟨od, J, _⟩ := J.look
      refine PySem.W.wr_bool (PySem.W.wr_truthy I.kIn J hb h1 h2 (wpAny_mono (run (room_in3 c.room) c.gd rfl I .nil) (fun u s' z => ?_) fun _ _ z => z))
      obtain ⟨v, H', I', rv, q⟩ := z
      cases v <;> first | exact q.elim | skip
      obtain ⟨t, rfl⟩ := rv
      exact ⟨_, _, rfl, q.1, ⟨.bl _, H', I'.tok _, rfl, q.2⟩⟩
    · exact h.elim
  · exact h.elim

/-- isinstance(x, D), D an own class -/
def bIsO (g : G) (D : Addr) : RC := fun xs H Q => match xs with
  | [x, .ref D'] => D' = D ∧ (match insOf H x with
    | some (_, C, _) => (∃ p ∈ g.nes, p.2 = C) ∧ ((C = D ∧ Q (.bl true) H) ∨ (PySem.W.kitOne g.K (.ref C) (.ref D) = some false ∧ Q (.bl false) H))
    | none => (tyN g.K H x).isSome = true ∧ Q (.bl false) H)
  | _ => False
theorem tyN_basic {K : PySem.W.Frag} {H : Hp} {x : V} {n : String} (h : tyN K H x = some n) : n ∈ basics := by
  unfold tyN at h
  split at h
  all_goals try (cases h <;> simp [basics])
  split at h
  all_goals try (cases h <;> simp [basics])
  split at h <;> cases h <;> simp [basics]
theorem b_isO (c : COk g lev X N sc W) {D : Str × Addr} (hD : D ∈ g.nes) : CallR X (.builtin "isinstance") (bIsO g D.2) := by
  refine CallR_imp call_isi fun xs H Q h => ?_
  rw [c.hK]
  unfold bIsO at h
  split at h
  · obtain ⟨rfl, h⟩ := h
    have hcl := c.gok.nec D hD
    obtain ⟨k1, k2, k3, k4, k5, k6, k7⟩ := ownB_ok (c.gok.nes D hD)
    split at h
    · rename_i a C fs e
      obtain ⟨dx, rfl, ea⟩ := insOf_ok e
      obtain ⟨⟨p, hp, rfl⟩, h⟩ := h
      obtain ⟨m1, m2, m3, m4, m5, m6, m7⟩ := ownB_ok (c.gok.nes p hp)
      rcases h with ⟨hC, h⟩ | ⟨hk, h⟩
      · rw [hC] at ea
        exact ⟨_, _, _, _, true, rfl, .own _, .base (.ins ea hcl k2 k3 k4 k5), k6, h⟩
      · rcases c.gok.nec p hp with cl
        exact ⟨_, _, _, _, false, rfl, .own _, .base (.ins ea cl m2 m3 m4 m5), hk, h⟩
    · cases e : tyN g.K H _ with
      | none => rw [e] at h; cases h.1
      | some n => exact ⟨_, _, _, _, false, rfl, .own _, tyN_ok e, k7 n (tyN_basic e), h.2⟩
  · exact h.elim
/-! ### sorted -/
def allStr : List V → Option (List Str)
  | [] => some []
  | .str x :: r => (allStr r).map (x :: ·)
  | _ => none
def allInt : List V → Option (List Int)
  | [] => some []
  | .int x :: r => (allInt r).map (x :: ·)
  | _ => none
theorem allStr_ok : ∀ {vs : List V} {ss : List Str}, allStr vs = some ss → vs = ss.map V.str
  | [], ss, h => by cases h; rfl
  | v :: r, ss, h => by
    cases v <;> simp [allStr] at h
    obtain ⟨l, hl, rfl⟩ := h
    rw [allStr_ok hl]; rfl
theorem allInt_ok : ∀ {vs : List V} {ss : List Int}, allInt vs = some ss → vs = ss.map V.int
  | [], ss, h => by cases h; rfl
  | v :: r, ss, h => by
    cases v <;> simp [allInt] at h
    obtain ⟨l, hl, rfl⟩ := h
    rw [allInt_ok hl]; rfl
theorem allStr_map : ∀ ss : List Str, allStr (ss.map V.str) = some ss
  | [] => rfl
  | x :: r => by show (allStr (r.map V.str)).map (x :: ·) = _; rw [allStr_map r]; rfl
theorem allInt_map : ∀ ss : List Int, allInt (ss.map V.int) = some ss
  | [] => rfl
  | x :: r => by show (allInt (r.map V.int)).map (x :: ·) = _; rw [allInt_map r]; rfl
def keysS : List (Key × V) → Option (List Str)
  | [] => some []
  | (.inr x, _) :: r => (keysS r).map (x :: ·)
  | _ => none
theorem keysS_ok : ∀ {kvs : List (Key × V)} {ss : List Str}, keysS kvs = some ss → kvs.map (·.1) = ss.map Sum.inr
  | [], ss, h => by cases h; rfl
  | (k, v) :: r, ss, h => by
    cases k with
    | inl i => simp [keysS] at h
    | inr x =>
      simp [keysS] at h
      obtain ⟨l, hl, rfl⟩ := h
      rw [List.map_cons, List.map_cons, keysS_ok hl]
/-- sorted(..) of texts, of whole numbers, of a dict's text keys -/
def bSorted (K : PySem.W.Frag) : RC := fun xs H Q => match xs with
  | [.ref a] => (match look K H a with
    | some (.lst vs) => (match allStr vs with
      | some ss => ss.length < 64 ∧ ∀ ys : List Str, ys.Perm ss → sortedS ys = true → ∀ p, H p = none → Q (.ref p) (upd H p (.lst (ys.map V.str)))
      | none => (match allInt vs with
        | some ns => ∀ ys : List Int, ys.Perm ns → ys.Pairwise (· ≤ ·) → ∀ p, H p = none → Q (.ref p) (upd H p (.lst (ys.map V.int)))
        | none => False))
    | some (.dK kvs) => (match keysS kvs with
      | some ss => ss.length < 64 ∧ ∀ ys : List Str, ys.Perm ss → sortedS ys = true → ∀ p, H p = none → Q (.ref p) (upd H p (.lst (ys.map V.str)))
      | none => False)
    | _ => False)
  | _ => False
theorem b_sorted (hc : X.calm = true) : CallR X (.builtin "sorted") (bSorted X.K) := by
  refine CallR_imp (cr_sortedS.or (cr_sortedI.or (call_sortedD hc))) fun xs H Q h => ?_
  unfold bSorted at h
  split at h
  · split at h
    · rename_i vs e
      split at h
      · rename_i ss es
        rw [allStr_ok es] at e
        exact .inl ⟨_, ss, rfl, look_lst e, h.1, fun ys p h1 h2 h3 => h.2 ys h1 h2 p h3⟩
      · split at h
        · rename_i ns es
          rw [allInt_ok es] at e
          exact .inr (.inl ⟨_, ns, rfl, look_lst e, fun ys p h1 h2 h3 => h ys h1 h2 p h3⟩)
        · exact h.elim
    · rename_i kvs e
      split at h
      · rename_i ss es
        exact .inr (.inr ⟨_, kvs, ss, rfl, look_dK e, keysS_ok es, h.1, fun ys p h1 h2 h3 => h.2 ys h1 h2 p h3⟩)
      · exact h.elim
    · exact h.elim
  · exact h.elim
end

/-! ### f'..', dict comprehensions -/
def cFmt (te : TE) : TE := fun σ H Q => te σ H fun x H1 => match x with
  | .str y => y.length ≤ sizeLine ∧ Q (.str y) H1
  | .int i => i.natAbs.log2 < 1920 ∧ Q (.str (toString i)) H1
  | _ => False
/-- the texts one behind the other -/
def cJs : List TE → Str → St → Hp → (Str → Hp → Prop) → Prop
  | [], acc, _, H, Q => Q acc H
  | t :: ts, acc, σ, H, Q => t σ H fun x H1 => match x with
    | .str y => (acc ++ y).length ≤ sizeLine ∧ cJs ts (acc ++ y) σ H1 Q
    | _ => False
/-- a dict comprehension's turns -/
def lpd (J : It) (g : TG) (tt : TT) (tk tv : TE) (vs : List Nat) (σ : St) (D : Addr) (Q : VK) : Nat → Nat → Hp → Prop
  | 0, i, H => J.stop i H ∧ Q (.ref D) H
  | n + 1, i, H => (J.stop i H ∧ Q (.ref D) H) ∨ (J.go i H ∧ ∀ x H', J.yld i H x H' → g x (wipe σ vs) H' fun σ2 H2 => wipe σ2 vs = wipe σ vs ∧ tt σ2 H2 fun b H3 =>
      if b = true then tk σ2 H3 fun y H4 => tv σ2 H4 fun z H5 => ∃ kvs k, y = kV k ∧ H5 D = some (.dK kvs) ∧ kvs.length < sizeLine ∧ lpd J g tt tk tv vs σ D Q n (i + 1) (upd H5 D (.dK (putK kvs k z)))
      else lpd J g tt tk tv vs σ D Q n (i + 1) H3)
def cDc (wi : TI) (g : TG) (tt : TT) (tk tv : TE) (vs : List Nat) : TE := fun σ H Q => wi σ H fun J H1 => ∀ D, H1 D = none → ∃ n, lpd J g tt tk tv vs σ D Q n 0 (upd H1 D (.dK []))
end WR

set_option Elab.async false
set_option linter.all false
set_option maxRecDepth 100000
set_option maxHeartbeats 4000000
namespace WR
open PySem PySem.Spec PyProof.Rows L2

/-! ## repr of data at any depth -/
def kD : Key → PyData
  | .inl i => .int i
  | .inr s => .str s
mutual
inductive Dx (K : PySem.W.Frag) (H : Hp) : V → PyData → Prop
  | non : Dx K H .non .none
  | bl (b : Bool) : Dx K H (.bl b) (.bool b)
  | int (i : Int) : Dx K H (.int i) (.int i)
  | str (x : Str) : Dx K H (.str x) (.str x)
  | lst {a : Addr} {xs : List V} {ds : List PyData} : look K H a = some (.lst xs) → DxAll K H xs ds → Dx K H (.ref a) (.list ds)
  | tup {a : Addr} {xs : List V} {ds : List PyData} : look K H a = some (.tup xs) → DxAll K H xs ds → Dx K H (.ref a) (.tuple ds)
  | dic {a : Addr} {kvs : List (Key × V)} {ds : List (PyData × PyData)} : Rd H a (.dK kvs) → DxKv K H kvs ds → Dx K H (.ref a) (.dict ds)
inductive DxAll (K : PySem.W.Frag) (H : Hp) : List V → List PyData → Prop
  | nil : DxAll K H [] []
  | cons {v : V} {vs : List V} {d : PyData} {ds : List PyData} : Dx K H v d → DxAll K H vs ds → DxAll K H (v :: vs) (d :: ds)
inductive DxKv (K : PySem.W.Frag) (H : Hp) : List (Key × V) → List (PyData × PyData) → Prop
  | nil : DxKv K H [] []
  | cons {k : Key} {v : V} {kvs : List (Key × V)} {d : PyData} {ds : List (PyData × PyData)} : Dx K H v d → DxKv K H kvs ds → DxKv K H ((k, v) :: kvs) ((kD k, d) :: ds)
end
theorem sys_dict {K : PySem.W.Frag} (h : sysB K = true) : ∃ o es n, K.lookup sysModules = some o ∧ o.data = .dict es n := by
  unfold sysB at h
  split at h
  · rename_i o e
    unfold isDctO at h
    split at h
    · rename_i es n hd
      exact ⟨o, es, n, e, hd⟩
    · cases h
  · cases h
section
variable {X : Cx} {pins : List (Addr × Obj)} {σ : St} {H : Hp} {s : Shared}
/-- nothing tracked stands at sys.modules, and no list of the written part -/
theorem sys_free (I : Inv X pins σ H s) (hs : sysB X.K = true) : H sysModules = none := by
  obtain ⟨o, es, n, e, _⟩ := sys_dict hs
  exact (I.bs _ o (I.ok.mod.kin _ _ e)).2
theorem sys_lst (I : Inv X pins σ H s) (hs : sysB X.K = true) {a : Addr} {u : HO} (h : look X.K H a = some u) : sysModules ≠ a := by
  rintro rfl
  have n := sys_free I hs
  unfold look at h
  rw [n] at h
  obtain ⟨o, es, m, e, hd⟩ := sys_dict hs
  unfold kobj at h
  rw [e] at h
  simp only [hd] at h
  cases h
theorem key_reads {k : Key} {u : Value} (h : keyIs k u = true) : Reads s.heap u (kD k) [] := by
  rcases keyIs_shape h with ⟨i, t, rfl, rfl⟩ | ⟨x, t, rfl, rfl⟩
  · exact .int i t
  · exact .str x t
mutual
theorem Dx.reads (I : Inv X pins σ H s) (hs : sysB X.K = true) : ∀ (d : PyData) (v : V) (u : Value), Dx X.K H v d → RelV v u → ∃ as, Reads s.heap u d as ∧ sysModules ∉ as
  | .none, _, _, h, r => by
    cases h; cases r
    exact ⟨[], .none, by simp⟩
  | .bool b, _, _, h, r => by
    cases h; cases r
    exact ⟨[], .bool b, by simp⟩
  | .int i, _, _, h, r => by
    cases h
    obtain ⟨t, rfl⟩ := r
    exact ⟨[], .int i t, by simp⟩
  | .str x, _, _, h, r => by
    cases h
    obtain ⟨t, rfl⟩ := r
    exact ⟨[], .str x t, by simp⟩
  | .list ds, _, _, h, r => by
    cases h with
    | lst e ha =>
      cases r
      obtain ⟨its, rv, ⟨o, n, ho, hc, _, hd⟩, _⟩ := I.list (look_lst e)
      obtain ⟨as, hr, ns⟩ := Dx.readsAll I hs ds _ its ha rv
      refine ⟨_, .list ho hc hd hr, ?_⟩
      intro m
      rcases List.mem_cons.mp m with m | m
      · exact sys_lst I hs e m
      · exact ns m
  | .tuple ds, _, _, h, r => by
    cases h with
    | tup e ha =>
      cases r
      obtain ⟨its, rv, ⟨o, ho, hc, n, hd⟩, _⟩ := I.tuple (look_tup e)
      obtain ⟨as, hr, ns⟩ := Dx.readsAll I hs ds _ its ha rv
      exact ⟨as, .tuple ho hc hd hr, ns⟩
  | .dict ds, _, _, h, r => by
    cases h with
    | dic e ha =>
      rename_i a kvs
      cases r
      have ok : ObjOk X.prog X.w H s.heap a (.dK kvs) := by
        rcases e with e | ⟨ob, e⟩
        · exact I.hok _ _ e
        · exact (show ObjOk X.prog X.w H s.heap a (.frz ob (.dK kvs)) from I.hok _ _ e).2
      obtain ⟨_, na, vs, kv, o, es, ep, ho, hx, hd, hk, hp, _⟩ := ok
      obtain ⟨as, bs, r1, r2, n1, n2⟩ := Dx.readsKv I hs ds kvs vs es.toList ha kv hp
      refine ⟨_, .dict ho hx.1 hd r1 r2, ?_⟩
      have na' : sysModules ≠ a := fun z => by rw [← z] at na; simp at na
      simp only [List.cons_append, List.mem_cons, List.mem_append, not_or]
      exact ⟨na', n1, n2⟩
theorem Dx.readsAll (I : Inv X pins σ H s) (hs : sysB X.K = true) : ∀ (ds : List PyData) (vs : List V) (us : List Value), DxAll X.K H vs ds → Vals vs us → ∃ as, ReadsAll s.heap us ds as ∧ sysModules ∉ as
  | [], _, _, h, r => by
    cases h; cases r
    exact ⟨[], .nil, by simp⟩
  | d :: ds, _, _, h, r => by
    cases h with
    | cons h1 h2 =>
      cases r with
      | cons r1 r2 =>
        obtain ⟨as, q1, n1⟩ := Dx.reads I hs d _ _ h1 r1
        obtain ⟨bs, q2, n2⟩ := Dx.readsAll I hs ds _ _ h2 r2
        exact ⟨_, .cons q1 q2, fun m => (List.mem_append.mp m).elim n1 n2⟩
theorem Dx.readsKv (I : Inv X pins σ H s) (hs : sysB X.K = true) : ∀ (ds : List (PyData × PyData)) (kvs : List (Key × V)) (vs : List (Key × Value)) (es : List DictEntry), DxKv X.K H kvs ds → KV kvs vs → Pairs (mixKind X.prog X.w) es vs →
    ∃ as bs, ReadsAll s.heap (es.map (·.key)) (ds.map (·.1)) as ∧ ReadsAll s.heap (es.map (·.val)) (ds.map (·.2)) bs ∧ sysModules ∉ as ∧ sysModules ∉ bs
  | [], kvs, vs, es, h, r, p => by
    cases h; cases r; cases p
    exact ⟨[], [], .nil, .nil, by simp, by simp⟩
  | (kd, d) :: ds, kvs, vs, es, h, r, p => by
    cases h with
    | cons h1 h2 =>
      cases r with
      | cons r1 r2 =>
        cases p with
        | cons p1 p2 p3 =>
          obtain ⟨e1, r1⟩ := r1
          obtain ⟨as, bs, q1, q2, n1, n2⟩ := Dx.readsKv I hs ds _ _ _ h2 r2 p3
          obtain ⟨cs, q3, n3⟩ := Dx.reads I hs d _ _ h1 r1
          rw [← p2] at q3
          rw [← e1] at p1
          refine ⟨_, _, .cons (key_reads p1) q1, .cons q3 q2, ?_, ?_⟩
          · simpa using n1
          · exact fun m => (List.mem_append.mp m).elim n3 n2
end
end
/-! ### repr -/
def bRepr (K : PySem.W.Frag) : RC := fun xs H Q => ∃ x d, xs = [x] ∧ Dx K H x d ∧ d.showable = true ∧ d.depth ≤ 40 ∧ d.shown.length ≤ sizeLine ∧ Q (.str d.shown) H
theorem b_repr {X : Cx} (gd : X.A.guards = some []) (hu : X.A.units + 64 < cLine) (hs : sysB X.K = true) : CallR X (.builtin "repr") (bRepr X.K) := by
  intro pins s σ H xs us Q I r h
  obtain ⟨x, d, rfl, hx, h1, h2, h3, q⟩ := h
  obtain ⟨u, rfl, ru⟩ := vals1 r
  obtain ⟨as, rd, ns⟩ := Dx.reads I hs d x u hx ru
  cases rd with
  | none => exact PySem.P.repr_of_none ⟨.str _, H, I.tok _, ⟨_, rfl⟩, q⟩
  | bool b => exact PySem.P.repr_of_bool ⟨.str _, H, I.tok _, ⟨_, rfl⟩, q⟩
  | int i t => exact PySem.P.repr_of_int (by simpa [PyData.showable] using h1) ⟨.str _, H, I.tok _, ⟨_, rfl⟩, q⟩
  | str y t => exact PySem.P.repr_of_str ⟨.str _, H, I.tok _, ⟨_, rfl⟩, q⟩ h3
  | list e1 e2 e3 e4 => exact repr_of_reads' (.list e1 e2 e3 e4) h1 (fun _ => ns) gd (by omega) (fun _ _ z => z) (fun h' u tk k => ⟨.str _, H, I.kept (t' := tk) k, ⟨_, rfl⟩, q⟩) h3
  | tuple e1 e2 e3 e4 => exact repr_of_reads' (.tuple e1 e2 e3 e4) h1 (fun _ => ns) gd (by omega) (fun _ _ z => z) (fun h' u tk k => ⟨.str _, H, I.kept (t' := tk) k, ⟨_, rfl⟩, q⟩) h3
  | dict e1 e2 e3 e4 e5 => exact repr_of_reads' (.dict e1 e2 e3 e4 e5) h1 (fun _ => ns) gd (by omega) (fun _ _ z => z) (fun h' u tk k => ⟨.str _, H, I.kept (t' := tk) k, ⟨_, rfl⟩, q⟩) h3
end WR

set_option Elab.async false
set_option linter.all false
set_option maxRecDepth 100000
set_option maxHeartbeats 4000000
namespace WR
open PySem PySem.Spec PyProof.Rows L2

/-! ## list(d.values()), list(d.items()) -/
def cLV (te : TE) : TE := fun σ H Q => te σ H fun x H1 => match x with
  | .ref d => (match H1 d with
    | some (.dK kvs) => ∀ p, H1 p = none → Q (.ref p) (upd H1 p (.lst (kvs.map (·.2))))
    | _ => False)
  | _ => False
section
variable {X : Cx} {e : Expr} {te : TE} {p apos cpos pos : Pos}
theorem kv_vals {kvs : List (Key × V)} {vs : List (Key × Value)} (kv : KV kvs vs) : Vals (kvs.map (·.2)) (vs.map (·.2)) := by
  induction kv with
  | nil => exact .nil
  | cons h t ih => exact .cons h.2 ih
theorem pe_listVals (hc : X.calm = true) (he : PE X e te) (hg : Gl X "list") (hm : X.mg "list" = none) (hv : bootBuiltins "list" = some (.type "list")) (hbase : attributeBase e "values" X.env (eval e X.env) = eval e X.env) (hline : (apos.endLine == cpos.line) = true) :
    PE X (.Call (.Name "list" p) [.Call (.Attribute e "values" apos) [] [] cpos] [] pos) (cLV te) := by
  constructor
  intro pins s σ H Q I want
  have hs : starEach [.Call (.Attribute e "values" apos) [] [] cpos] X.env = (false, eval (.Call (.Attribute e "values" apos) [] [] cpos) X.env) :: starEach [] X.env := rfl
  refine wpAny_Call_Name_kw (ld_blt I hg hm hv (PyProof.Rows.callWith_type1 ?_ hs rfl))
  rw [hs]
  show wpAny _ _ (spliced ((false, eval (.Call (.Attribute e "values" apos) [] [] cpos) X.env) :: backTo pos (starEach [] X.env))) _ _ s
  apply Calls.spliced_cons
  apply wpAny_Call_method (T := "dict") (id := "dict.values") hbase rfl hline F.plainAttrs_dict F.slot_dict_values F.type_dict_values
  refine thn (he.run pins s σ H _ I want) fun u s1 got => ?_
  obtain ⟨x, H1, I1, rx, q⟩ := got
  try dsimp only at q
  split at q
  · rename_i d
    split at q
    · rename_i kvs hd
      obtain rfl : u = Value.ref d := rx
      obtain ⟨hz, hs0, vs, kv, hdo⟩ := I1.hok d _ hd
      obtain ⟨ep, hat⟩ := hdo.dictAt
      have lk : kvs.length = vs.length := Paired.length kv
      have I2 : Inv X pins σ H1 { s1 with heap := s1.heap.push { cls := .type "dict_values", data := .fields #[.ref d] } } := I1.kept (t' := s1.toks) fun b ob q => Heap.get?_push_of_some _ q
      refine ⟨hdo.typeIs, hdo.mapOf.noDict, ?_⟩
      show wpAny _ _ (callWith cpos (.builtin "dict.values") [.ref d] [] []) _ X.xe s1
      refine method_meetsIn F.slot_dict_values F.entry_dict_values rfl (PySem.evalArgs_none ⟨rfl, hdo.typeIs, F.args_dict_values_1 _, _, meets_dict_values (mixKind X.prog X.w) d hs0, ⟨vs, hdo⟩, ?_⟩)
      refine Calls.spliced_nil ?_
      refine PySem.W.kdl_call (PySem.W.kdl_values (knd := mixKind X.prog X.w) (kvs := vs) (ep := ep)) (I1.ok.hd hc) ⟨⟨_, Heap.get?_push_size _ rfl, rfl, rfl⟩, hat.push _⟩ (by omega) fun h' tk acc c keep hS items => ?_
      have el : acc.toList = vs.map (·.2) := by
        apply List.ext_getElem?
        intro j
        by_cases hj : j < acc.size
        · have e1 : acc[j]? = some acc[j] := Array.getElem?_eq_getElem hj
          obtain ⟨k, e2⟩ := items.2 j _ e1
          rw [Array.getElem?_toList, e1, List.getElem?_map, e2]
          rfl
        · have hl := items.1
          rw [List.getElem?_eq_none (by simpa using hj), List.getElem?_eq_none (by rw [List.length_map]; omega)]
      have fresh : H1 ({ s1 with heap := s1.heap.push { cls := .type "dict_values", data := .fields #[.ref d] } } : Shared).heap.objs.size = none := I2.hok.fresh (Nat.le_refl _)
      refine ⟨.ref _, _, I2.laid (t' := tk) (o := .lst (kvs.map (·.2))) keep (Nat.le_refl _) ?_, rfl, q _ fresh⟩
      refine ⟨by rw [List.length_map]; exact hz, acc.toList, c, ?_, ?_⟩
      · rw [el]
        exact kv_vals kv
      · rw [Array.toArray_toList]
        exact hS
    · exact q.elim
  · exact q.elim
end
def cLI (te : TE) : TE := LiI.tListItems te
end WR

set_option Elab.async false
set_option linter.all false
set_option maxRecDepth 100000
set_option maxHeartbeats 4000000
namespace WR
open PySem PySem.Spec PyProof.Rows L2

/-! ## 14. the translation of expressions -/
abbrev OE := Option (WX → TE)
abbrev FE := List Str → Scope → Expr → OE
abbrev FT := List Str → Scope → Expr → Option (WX → TT)

def opR (K : PySem.W.Frag) : Operator → Option R2
  | .Add => some (oAdd K)
  | .Sub => some oSub
  | .Mult => some oMul
  | .FloorDiv => some oFdiv
  | .Mod => some oMod
  | .Pow => some oPow
  | .LShift => some oShl
  | _ => none
def cmpR (g : G) : CmpOp → Option R2
  | .Lt => some oLt
  | .LtE => some oLe
  | .Gt => some oGt
  | .GtE => some oGe
  | .Eq => some (oEqG g)
  | .NotEq => some (oNeG g)
  | .In => some (oIn g.K false)
  | .NotIn => some (oIn g.K true)
  | .Is => some oIs
  | .IsNot => some oIsNot
def notSet : Expr → Bool
  | .Set _ _ _ => false
  | _ => true
theorem notSet_b {op : CmpOp} {e : Expr} (h : notSet e = true) : behindInMarks op e = false := by
  cases e <;> first | rfl | exact absurd h Bool.false_ne_true
theorem notSet_l {o o' : CmpOp} {b e : Expr} (h : notSet e = true) : lastMarks [o, o'] [b, e] = false := notSet_b (op := o') h

def tArgs (f : Expr → OE) : List Expr → Option (WX → TA)
  | [] => some fun _ => tNil
  | e :: es => if notStar e = true then match f e, tArgs f es with
      | some te, some t => some fun W => tCons (te W) (t W)
      | _, _ => none
    else none
def tKws (f : Expr → OE) : List Keyword → Option (WX → TA)
  | [] => some fun _ => tNil
  | k :: ks => match f k.value, tKws f ks with
      | some te, some t => some fun W => tCons (te W) (t W)
      | _, _ => none
def cAnd (K : PySem.W.Frag) (ta tb : TE) : TE := fun σ H Q => ta σ H fun x H1 => match oTru K x H1 with
  | some true => tb σ H1 Q
  | some false => Q x H1
  | none => False
def cOr (K : PySem.W.Frag) (ta tb : TE) : TE := fun σ H Q => ta σ H fun x H1 => match oTru K x H1 with
  | some true => Q x H1
  | some false => tb σ H1 Q
  | none => False
def cNot (K : PySem.W.Frag) (ta : TE) : TE := fun σ H Q => ta σ H fun x H1 => match oTru K x H1 with
  | some b => Q (.bl (!b)) H1
  | none => False
def cTest (t : TE) : TT := fun σ H Q => t σ H fun x H1 => match x with
  | .bl k => Q k H1
  | _ => False
def tBool (K : PySem.W.Frag) (f : Expr → OE) (isAnd : Bool) : List Expr → OE
  | [] => none
  | [e] => f e
  | e :: es => match f e, tBool K f isAnd es with
    | some ta, some tb => some fun W => if isAnd then cAnd K (ta W) (tb W) else cOr K (ta W) (tb W)
    | _, _ => none
def tBoolT (f : Expr → Option (WX → TT)) (isAnd : Bool) : List Expr → Option (WX → TT)
  | [] => none
  | [e] => f e
  | e :: es => match f e, tBoolT f isAnd es with
    | some ta, some tb => some fun W => if isAnd then tAnd (ta W) (tb W) else tOr (ta W) (tb W)
    | _, _ => none
/-- comparisons a op b op' c -/
def cChain (r r' : R2) (ta tb tc : TE) : TE := fun σ H Q => ta σ H fun x H1 => tb σ H1 fun y H2 => r x y H2 fun z H3 => match z with
  | .bl true => tc σ H3 fun w' H4 => r' y w' H4 Q
  | .bl false => Q (.bl false) H3
  | _ => False
def cUn (ta : TE) : TE := fun σ H Q => ta σ H fun x H1 => match x with
  | .int i => Q (.int (-i)) H1
  | _ => False
def cPart (t : TE) : TO := fun σ H Q => t σ H fun x H1 => match x with
  | .int i => Q (some i) H1
  | _ => False
def tPartO (f : Expr → OE) : Option Expr → Option (WX → TO)
  | none => some fun _ => tNoPart
  | some e => match f e with
    | some t => some fun W => cPart (t W)
    | none => none
/-- built-in functions by name -/
def bltTab (g : G) : List (Str × Value × RC) := [("repr", .builtin "repr", bRepr g.K), ("len", .builtin "len", bLenG g), ("isinstance", .builtin "isinstance", bIsi g.K), ("all", .builtin "all", bAll g.K), ("any", .builtin "any", bAny g.K), ("sum", .builtin "sum", bSum g.K),
  ("abs", .builtin "abs", bAbs), ("max", .builtin "max", bMax), ("min", .builtin "min", bMin), ("ord", .builtin "ord", bOrd), ("int", .type "int", bInt), ("str", .type "str", bStrG g), ("list", .type "list", bList g.K), ("tuple", .type "tuple", bTuple g.K), ("dict", .type "dict", bDict g.K),
  ("bool", .type "bool", bBoolG g), ("sorted", .builtin "sorted", bSorted g.K)]
def bltR (g : G) (x : Str) : Option (Value × RC) := (bltTab g).lookup x
/-- isinstance(.., D), D an own class by its name -/
def isOwn (g : G) (sc : Scope) (x : Str) : List Expr → Option (Str × Addr)
  | [_, .Name c _] => if x = "isinstance" ∧ sc.names.lookup c = some .globalImplicit then g.nes.find? (fun p => decide (p.1 = c)) else none
  | _ => none
def cMk (C : Addr) (n m : Nat) (arr : List V → List V → List V) (sp : Sp) (t tk : TA) (W : WX) : TE := fun σ H Q => t σ H fun vs H1 => tk σ H1 fun zs H2 => vs.length = n ∧ zs.length = m ∧ ∀ x dx, H2 x = none → H2 dx = none → dx ≠ x →
  sp (.ref x :: arr vs zs) (upd (upd H2 dx (.own x)) x (.ins C dx [])) (fun v H3 => v = .non ∧ Q (.ref x) H3) (fun cls d H' => W cls d σ H')
def tCallName (g : G) (f : Expr → OE) (sc : Scope) (x : Str) (es : List Expr) (kws : List Keyword) : OE :=
  if plainName x = true ∧ sc.names.lookup x = some .globalImplicit then
    match kwNames kws, tArgs f es, tKws f kws with
    | some ks, some t, some tk => match g.fns.find? (fun i => decide (i.name = x) && decide (i.n = es.length) && decide (i.ks = ks)) with
      | some i => some fun W => cCall i.sp es.length ks.length i.arr (t W) (tk W) W
      | none => match g.mks.find? (fun i => decide (i.name = x) && decide (i.n = es.length) && decide (i.ks = ks)) with
        | some i => some fun W => cMk i.cls es.length ks.length i.arr i.sp (t W) (tk W) W
        | none => if x ∈ g.blt ∧ kws = [] ∧ es ≠ [] then match (match isOwn g sc x es with | some D => some (Value.builtin "isinstance", bIsO g D.2) | none => bltR g x) with
            | some (v, r) => if bootBuiltins x = some v then some fun W => tCB r (t W) else none
            | none => none
          else none
    | _, _, _ => none
  else none
/-- list(d.values()), list(d.items()) -/
def tListV (g : G) (f : Expr → OE) (sc : Scope) (x : Str) (es : List Expr) (kws : List Keyword) : OE := match es with
  | [.Call (.Attribute o m apos) [] [] cpos] => if x = "list" ∧ kws = [] ∧ sc.names.lookup x = some .globalImplicit ∧ x ∈ g.blt ∧ baseOk o = true ∧ (apos.endLine == cpos.line) = true then (match f o with
    | some t => if m = "values" then some fun W => cLV (t W) else if m = "items" then some fun W => cLI (t W) else none
    | none => none) else none
  | _ => none
/-- attributes of own classes -/
def cAttr (cands : List Addr) (f : Str) (ta : TE) : TE := fun σ H Q => ta σ H fun x H1 => match insOf H1 x with
  | some (_, C, fs) => C ∈ cands ∧ (match fs.lookup f with
    | some v => Q v H1
    | none => False)
  | none => False
def tPairsL (f : Expr → OE) : List (Option Expr) → List Expr → Option (List (WX → TE × TE))
  | [], [] => some []
  | some k :: ks, v :: vs => match f k, f v, tPairsL f ks vs with
    | some tk, some tv, some r => some ((fun W => (tk W, tv W)) :: r)
    | _, _, _ => none
  | _, _ => none
def tDict (f : Expr → OE) (ks : List (Option Expr)) (vs : List Expr) : OE := match ks, vs with
  | [], [] => some fun _ => tDNewK
  | ks, vs => if ks.length ≤ 15 then (match tPairsL f ks vs with
    | some trs => some fun W => tDisp (trs.map fun t => t W)
    | none => none) else none
end WR

set_option Elab.async false
set_option linter.all false
set_option maxRecDepth 100000
set_option maxHeartbeats 4000000
namespace WR
open PySem PySem.Spec PyProof.Rows L2

/-! ## 15. what a for walks; loops by turns -/
def cIter (K : PySem.W.Frag) (ta : TE) : TI := fun σ H R => ta σ H fun x H1 => match x with
  | .ref a => (match look K H1 a with
    | some (.lst _) => R (Itl K a) H1
    | some (.tup _) => R (Itt K a) H1
    | _ => (match H1 a with
      | some (.frz o (.dK kvs)) => R (Itk a o kvs) H1
      | some (.frz o (.dT kvs)) => R (Itkt a o kvs) H1
      | _ => False))
  | .str z => R (Its z) H1
  | _ => False
def cRng1 (ta : TA) : TI := fun σ H R => ta σ H fun vs H1 => match vs with
  | [.int j] => (-(2 ^ 62) ≤ j ∧ j < 2 ^ 62) ∧ R (Itr 0 j.toNat) H1
  | _ => False
def cRng2 (ta : TA) : TI := fun σ H R => ta σ H fun vs H1 => match vs with
  | [.int i, .int j] => (-(2 ^ 62) ≤ i ∧ i < 2 ^ 62 ∧ -(2 ^ 62) ≤ j ∧ j < 2 ^ 62) ∧ R (Itr i (j - i).toNat) H1
  | _ => False
def cRng3 (ta : TA) : TI := fun σ H R => ta σ H fun vs H1 => match vs with
  | [.int i, .int j, .int c] => ∃ n, RgC i j c n ∧ R (Itc i c n) H1
  | _ => False
def cEnum (K : PySem.W.Frag) (ta : TA) : TI := fun σ H R => ta σ H fun vs H1 => match vs with
  | [.ref a] => (match look K H1 a with
    | some (.lst _) => R (Ite K a) H1
    | _ => False)
  | _ => False
def cZip (K : PySem.W.Frag) (ta : TA) : TI := fun σ H R => ta σ H fun vs H1 => match vs with
  | [.ref a, .ref b] => (match look K H1 a, look K H1 b with
    | some (.lst _), some (.lst _) => R (Itz K a b) H1
    | _, _ => False)
  | _ => False
def cRev (K : PySem.W.Frag) (ta : TA) : TI := fun σ H R => ta σ H fun vs H1 => match vs with
  | [.ref a] => (match look K H1 a with
    | some (.lst xs) => R (Itv K a xs.length) H1
    | _ => False)
  | _ => False
def cDview (k : Nat) (td : TE) : TI := fun σ H R => td σ H fun x H1 => match x with
  | .ref d => (match H1 d with
    | some (.frz o (.dK kvs)) => R (if k = 0 then Itk d o kvs else if k = 1 then Itd d o kvs else Iti d o kvs) H1
    | _ => False)
  | _ => False
section
variable {X : Cx} {tg : Expr}
theorem PI_imp {l : Expr} {t t' : TI} (h : PI X tg l t) (k : ∀ σ H R, t' σ H R → t σ H R) : PI X tg l t' := ⟨fun pins s σ H R I q => h.run pins s σ H R I (k σ H R q)⟩
theorem pi_dyn {l : Expr} {tl : TE} (hl : PE X l tl) : PI X tg l (cIter X.K tl) := by
  refine ⟨fun pins s σ H R I h => ?_⟩
  refine thn (hl.run pins s σ H _ I h) fun v s1 ⟨x, H1, I1, r1, q1⟩ => ?_
  dsimp only at q1
  split at q1
  · rename_i a
    split at q1
    · rename_i xs e
      cases r1
      obtain ⟨its, rv, p, hz⟩ := I1.list (look_lst e)
      exact wpAny_pyIter_list p.isList (pi_one (tk := s1.toks) I1 _ (turn_list a _) ⟨_, Heap.get?_push_size _ rfl, rfl, rfl⟩ q1)
    · rename_i xs e
      cases r1
      obtain ⟨its, rv, p, hz⟩ := I1.tuple (look_tup e)
      exact wpAny_pyIter_tuple (show s1.heap.IsTuple a its.toArray from p) (pi_one (tk := s1.toks) I1 _ (turn_tuple a _) ⟨_, Heap.get?_push_size _ rfl, rfl, rfl⟩ q1)
    · split at q1
      · rename_i o kvs hd
        obtain rfl : v = Value.ref a := r1
        obtain ⟨hs, hgd, hx, es, ep, vs, hdt, hsz, kv, hm⟩ := I1.frzK hd
        refine iter_keys hs hgd hx hdt (pi_one (tk := s1.toks) I1 _ (turn_keys _ hdt) ⟨_, Heap.get?_push_size _ rfl, rfl, ?_⟩ q1)
        rw [hsz] <;> rfl
      · rename_i o kvs hd
        obtain rfl : v = Value.ref a := r1
        obtain ⟨hs, hgd, hx, es, ep, hdt, hsz, ent⟩ := I1.frzT hd
        refine iter_keys hs hgd hx hdt (pi_one (tk := s1.toks) I1 _ (turn_keysT _ hdt) ⟨_, Heap.get?_push_size _ rfl, rfl, ?_⟩ q1)
        rw [hsz] <;> rfl
      · exact q1.elim
  · rename_i x
    obtain ⟨t, rfl⟩ := r1
    cases ha : x.cps.all (· < 128)
    · exact wpAny_pyIter_wide ha (pi_one (tk := s1.toks) I1 _ (turn_str _ x t "str_iterator" (.inr rfl)) ⟨_, Heap.get?_push_size _ rfl, rfl, rfl⟩ q1)
    · exact wpAny_pyIter_ascii ha (pi_one (tk := s1.toks) I1 _ (turn_str _ x t "str_ascii_iterator" (.inl rfl)) ⟨_, Heap.get?_push_size _ rfl, rfl, rfl⟩ q1)
  · exact q1.elim
end

/-- a dict that is walked is locked from then on (where it isn't locked for the statement alone) -/
def frzE (t : TE) : TE := fun σ H Q => t σ H fun x H1 => match x with
  | .ref d => (match H1 d with
    | some (.dK kvs) => ∀ o, Q (.ref d) (upd H1 d (.frz o (.dK kvs)))
    | _ => Q (.ref d) H1)
  | x => Q x H1
theorem pe_frz {X : Cx} {e : Expr} {t : TE} (h : PE X e t) : PE X e (frzE t) := by
  refine ⟨fun pins s σ H Q I q => ?_⟩
  refine thn (h.run pins s σ H _ I q) fun v s1 ⟨x, H1, I1, r1, q1⟩ => ?_
  dsimp only at q1
  split at q1
  · split at q1
    · rename_i e
      obtain ⟨od, I2⟩ := I1.lock e trivial
      exact ⟨_, _, I2, r1, q1 od⟩
    · exact ⟨_, _, I1, r1, q1⟩
  · exact ⟨_, _, I1, r1, q1⟩
/-- a for's turns -/
def lp (J : It) (g : TG) (tb : TS) (D : Ends) : Nat → Nat → St → Hp → Prop
  | 0, i, σ, H => J.stop i H ∧ D.nx σ H
  | n + 1, i, σ, H => (J.stop i H ∧ D.nx σ H) ∨ (J.go i H ∧ ∀ x H', J.yld i H x H' → g x σ H' fun σ2 H2 => tb { D with nx := lp J g tb D n (i + 1), ct := lp J g tb D n (i + 1), bk := D.nx } σ2 H2)
def cFor (wi : TI) (g : TG) (tb : TS) : TS := fun D σ H => wi σ H fun J H1 => ∃ n, lp J g tb D n 0 σ H1
/-- TI's readings are monotone in what is wanted: asked of the very ones that are used -/
def MonoI (wi : TI) : Prop := ∀ σ H R R', (∀ J H', R J H' → R' J H') → wi σ H R → wi σ H R'
theorem lp_W {J : It} {g : TG} {tb : TS} {D : Ends} {σ : St} {H1 : Hp} (h : ∃ n, lp J g tb D n 0 σ H1) :
    ∃ W : Nat → Nat → St → Hp → Prop, (∃ m, W 0 m σ H1) ∧ ∀ i m σ H, W i m σ H →
      (J.stop i H ∧ D.nx σ H) ∨ (J.go i H ∧ ∃ N : St → Hp → Prop, (∀ σ' H', N σ' H' → ∃ m', m' < m ∧ W (i + 1) m' σ' H') ∧ ∀ x H', J.yld i H x H' → g x σ H' fun σ2 H2 => tb { D with nx := N, ct := N, bk := D.nx } σ2 H2) := by
  obtain ⟨n, h⟩ := h
  refine ⟨fun i m σ H => lp J g tb D m i σ H, ⟨n, h⟩, fun i m σ H w => ?_⟩
  cases m with
  | zero => exact .inl w
  | succ m =>
    rcases w with w | ⟨go, w⟩
    · exact .inl w
    · exact .inr ⟨go, lp J g tb D m (i + 1), fun σ' H' q => ⟨m, Nat.lt_succ_self _, q⟩, w⟩
/-- a comprehension's turns -/
def lpc (J : It) (g : TG) (tt : TT) (te : TE) (vs : List Nat) (σ : St) (D : Addr) (Q : VK) : Nat → Nat → Hp → Prop
  | 0, i, H => J.stop i H ∧ Q (.ref D) H
  | n + 1, i, H => (J.stop i H ∧ Q (.ref D) H) ∨ (J.go i H ∧ ∀ x H', J.yld i H x H' → g x (wipe σ vs) H' fun σ2 H2 => wipe σ2 vs = wipe σ vs ∧ tt σ2 H2 fun b H3 =>
      if b = true then te σ2 H3 fun y H4 => ∃ acc, H4 D = some (.lst acc) ∧ acc.length < sizeLine ∧ lpc J g tt te vs σ D Q n (i + 1) (upd H4 D (.lst (acc ++ [y]))) else lpc J g tt te vs σ D Q n (i + 1) H3)
def cLc (wi : TI) (g : TG) (tt : TT) (te : TE) (vs : List Nat) : TE := fun σ H Q => wi σ H fun J H1 => ∀ D, H1 D = none → ∃ n, lpc J g tt te vs σ D Q n 0 (upd H1 D (.lst []))
theorem lpc_W {J : It} {g : TG} {tt : TT} {te : TE} {vs : List Nat} {σ : St} {D : Addr} {Q : VK} {H1 : Hp} (h : ∃ n, lpc J g tt te vs σ D Q n 0 H1) :
    ∃ W : Nat → Nat → Hp → Prop, (∃ m, W 0 m H1) ∧ ∀ i m H, W i m H →
      (J.stop i H ∧ Q (.ref D) H) ∨ (J.go i H ∧ ∃ Nx : Hp → Prop, (∀ H', Nx H' → ∃ m', m' < m ∧ W (i + 1) m' H') ∧ ∀ x H', J.yld i H x H' → g x (wipe σ vs) H' fun σ2 H2 => wipe σ2 vs = wipe σ vs ∧ tt σ2 H2 fun b H3 =>
        if b = true then te σ2 H3 fun y H4 => ∃ acc, H4 D = some (.lst acc) ∧ acc.length < sizeLine ∧ Nx (upd H4 D (.lst (acc ++ [y]))) else Nx H3) := by
  obtain ⟨n, h⟩ := h
  refine ⟨fun i m H => lpc J g tt te vs σ D Q m i H, ⟨n, h⟩, fun i m H w => ?_⟩
  cases m with
  | zero => exact .inl w
  | succ m =>
    rcases w with w | ⟨go, w⟩
    · exact .inl w
    · exact .inr ⟨go, lpc J g tt te vs σ D Q m (i + 1), fun H' q => ⟨m, Nat.lt_succ_self _, q⟩, w⟩
/-- a while's turns -/
def lpw (c : TT) (tb : TS) (D : Ends) : Nat → St → Hp → Prop
  | 0, _, _ => False
  | n + 1, σ, H => c σ H fun b H1 => if b = true then tb { D with nx := lpw c tb D n, ct := lpw c tb D n, bk := D.nx } σ H1 else D.nx σ H1
def cWhile (c : TT) (tb : TS) : TS := fun D σ H => ∃ n, lpw c tb D n σ H
end WR

set_option Elab.async false
set_option linter.all false
set_option maxRecDepth 100000
set_option maxHeartbeats 4000000
namespace WR
open PySem PySem.Spec PyProof.Rows L2

/-! ## 16. readings closed upwards -/
def upE (t : TE) : TE := fun σ H Q => ∃ Q0 : VK, t σ H Q0 ∧ ∀ v H', Q0 v H' → Q v H'
def upT (t : TT) : TT := fun σ H Q => ∃ Q0 : Bool → Hp → Prop, t σ H Q0 ∧ ∀ v H', Q0 v H' → Q v H'
def upI (t : TI) : TI := fun σ H R => ∃ R0 : It → Hp → Prop, t σ H R0 ∧ ∀ J H', R0 J H' → R J H'
section
variable {X : Cx}
theorem PE_up {e : Expr} {t : TE} (h : PE X e t) : PE X e (upE t) := ⟨fun pins s σ H Q I ⟨Q0, q, k⟩ => thn (h.run pins s σ H Q0 I q) fun _ _ ⟨v, H', I', r, z⟩ => ⟨v, H', I', r, k v H' z⟩⟩
theorem PT_up {e : Expr} {t : TT} (h : PT X e t) : PT X e (upT t) := ⟨fun pins s σ H Q I ⟨Q0, q, k⟩ => thn (h.run pins s σ H Q0 I q) fun _ _ ⟨H', I', z⟩ => ⟨H', I', k _ H' z⟩⟩
theorem PI_up {tg l : Expr} {t : TI} (h : PI X tg l t) : PI X tg l (upI t) := ⟨fun pins s σ H R I ⟨R0, q, k⟩ => thn (h.run pins s σ H R0 I q) fun _ _ z => thn z fun _ _ ⟨it, fp, tn, J, H', a, b, c, d, e, f⟩ => ⟨it, fp, tn, J, H', a, b, c, d, e, k J H' f⟩⟩
theorem pe_and' {a b : Expr} {rest : List Expr} {pos : Pos} {ta tb : TE} (ha : PE X a ta) (hb : PE X (.BoolOp .And (b :: rest) pos) tb) : PE X (.BoolOp .And (a :: b :: rest) pos) (cAnd X.K ta tb) :=
  PE_imp (pe_andT (PE_up ha) hb) fun σ H Q h => ⟨_, h, fun x H1 q => by
    try dsimp only at q
    split at q
    · rename_i e; exact ⟨true, oTru_ok e, iteT q⟩
    · rename_i e; exact ⟨false, oTru_ok e, iteF q⟩
    · exact q.elim⟩
theorem pe_or' {a b : Expr} {rest : List Expr} {pos : Pos} {ta tb : TE} (ha : PE X a ta) (hb : PE X (.BoolOp .Or (b :: rest) pos) tb) : PE X (.BoolOp .Or (a :: b :: rest) pos) (cOr X.K ta tb) :=
  PE_imp (pe_orT (PE_up ha) hb) fun σ H Q h => ⟨_, h, fun x H1 q => by
    try dsimp only at q
    split at q
    · rename_i e; exact ⟨true, oTru_ok e, iteT q⟩
    · rename_i e; exact ⟨false, oTru_ok e, iteF q⟩
    · exact q.elim⟩
theorem pe_not' {a : Expr} {pos : Pos} {ta : TE} (ha : PE X a ta) : PE X (.UnaryOp .Not a pos) (cNot X.K ta) :=
  PE_imp (pe_notT (PE_up ha)) fun σ H Q h => ⟨_, h, fun x H1 q => by
    try dsimp only at q
    split at q
    · rename_i e; exact ⟨_, oTru_ok e, q⟩
    · exact q.elim⟩
theorem pe_neg' {a : Expr} {pos : Pos} {ta : TE} (ha : PE X a ta) : PE X (.UnaryOp .USub a pos) (cUn ta) :=
  PE_imp (pe_un un_neg (PE_up ha)) fun σ H Q h => ⟨_, h, fun x H1 q => by
    try dsimp only at q
    split at q
    · exact ⟨_, rfl, q⟩
    · exact q.elim⟩
theorem pt_tru' {e : Expr} {t : TE} (h : PE X e t) (he : ∀ whole, isTrue e X.env whole = (do let v ← whole; standAt e.pos; holding [v] (truthy v))) : PT X e (cTru X.K t) :=
  PT_imp (pt_truth (PE_up h) he) fun σ H Q h => ⟨_, h, fun x H1 q => by
    try dsimp only at q
    split at q
    · rename_i e; exact ⟨_, oTru_ok e, q⟩
    · exact q.elim⟩
theorem pt_cmp' {a b : Expr} {op : CmpOp} {r : R2} {pos : Pos} {ta tb : TE} (ho : OpR X (compareOp op) r) (ha : PE X a ta) (hb : PE X b tb) (hm : behindInMarks op b = false) : PT X (.Compare a [op] [b] pos) (cTest (tOp r ta tb)) := by
  refine PT_imp (pt_cmpR (r := fun x y H Q => ∃ Q0, r x y H Q0 ∧ ∀ v H', Q0 v H' → Q v H') (fun pins s σ H x y v u Q I rx ry ⟨Q0, q, k⟩ => thn (ho pins s σ H x y v u Q0 I rx ry q) fun _ _ ⟨v, H', I', r, z⟩ => ⟨v, H', I', r, k v H' z⟩) (PE_up ha) (PE_up hb) hm) fun σ H Q h => ?_
  refine ⟨_, h, fun x H1 q => ⟨_, q, fun y H2 q => ⟨_, q, fun z H3 q => ?_⟩⟩⟩
  try dsimp only at q
  split at q
  · exact ⟨_, rfl, q⟩
  · exact q.elim
theorem opUp {f : Value → Value → Sem Value} {r : R2} (ho : OpR X f r) : OpR X f (fun x y H Q => ∃ Q0 : VK, r x y H Q0 ∧ ∀ v H', Q0 v H' → Q v H') := fun pins s σ H x y v u Q I rx ry ⟨Q0, q, k⟩ => thn (ho pins s σ H x y v u Q0 I rx ry q) fun _ _ ⟨v, H', I', r, z⟩ => ⟨v, H', I', r, k v H' z⟩
theorem pe_chain' {a b c : Expr} {op op' : CmpOp} {r r' : R2} {pos : Pos} {ta tb tc : TE} (ho : OpR X (compareOp op) r) (ho' : OpR X (compareOp op') r') (ha : PE X a ta) (hb : PE X b tb) (hc : PE X c tc) (hm : lastMarks [op, op'] [b, c] = false) :
    PE X (.Compare a [op, op'] [b, c] pos) (cChain r r' ta tb tc) := by
  refine PE_imp (pe_chain (opUp ho) ho' (PE_up ha) (PE_up hb) hc hm) fun σ H Q h => ?_
  refine ⟨_, h, fun x H1 q => ⟨_, q, fun y H2 q => ⟨_, q, fun z H3 q => ?_⟩⟩⟩
  try dsimp only at q
  split at q
  · exact ⟨true, rfl, iteT q⟩
  · exact ⟨false, rfl, iteF q⟩
  · exact q.elim
theorem pt_chain' {a b c : Expr} {op op' : CmpOp} {r r' : R2} {pos : Pos} {ta tb tc : TE} (ho : OpR X (compareOp op) r) (ho' : OpR X (compareOp op') r') (ha : PE X a ta) (hb : PE X b tb) (hc : PE X c tc) (hm : lastMarks [op, op'] [b, c] = false) :
    PT X (.Compare a [op, op'] [b, c] pos) (cTest (cChain r r' ta tb tc)) := by
  refine PT_imp (pt_chain (opUp ho) (opUp ho') (PE_up ha) (PE_up hb) (PE_up hc) hm) fun σ H Q h => ?_
  refine ⟨_, h, fun x H1 q => ⟨_, q, fun y H2 q => ⟨_, q, fun z H3 q => ?_⟩⟩⟩
  try dsimp only at q
  split at q
  · refine ⟨true, rfl, iteT ?_⟩
    refine ⟨_, q, fun w H4 q => ⟨_, q, fun z2 H5 q => ?_⟩⟩
    try dsimp only at q
    split at q
    · exact ⟨_, rfl, q⟩
    · exact q.elim
  · exact ⟨false, rfl, iteF ⟨_, rfl, q⟩⟩
  · exact q.elim
theorem po_part' {e : Expr} {t : TE} (h : PE X e t) : PO X (some e) (cPart t) := by
  have z := po_some (PE_up h)
  refine ⟨fun pins s σ H Q I q => z.run pins s σ H Q I ⟨_, q, fun x H1 q => ?_⟩⟩
  try dsimp only at q
  split at q
  · exact ⟨_, rfl, q⟩
  · exact q.elim
/-- iterables -/
def upA (t : TA) : TA := fun σ H Q => ∃ Q0 : List V → Hp → Prop, t σ H Q0 ∧ ∀ v H', Q0 v H' → Q v H'
theorem PA_up {es : List Expr} {t : TA} (h : PA X es t) : PA X es (upA t) := ⟨fun ps pins s σ H Q I ⟨Q0, q, k⟩ => thn (h.run ps pins s σ H Q0 I q) fun _ _ ⟨v, H', I', r, z⟩ => ⟨v, H', I', r, k v H' z⟩⟩
theorem star1 {a : Expr} {env : Env} (h : notStar a = true) : starEach [a] env = [(false, eval a env)] := star_of h
theorem pi_rng1' {tg a : Expr} {ta : TA} {p pos : Pos} (hg : Gl X "range") (hm : X.mg "range" = none) (h1 : notStar a = true) (ha : PA X [a] ta) : PI X tg (.Call (.Name "range" p) [a] [] pos) (cRng1 ta) :=
  PI_imp (pi_range1 hg hm (PA_up ha) (star1 h1)) fun σ H R h => ⟨_, h, fun vs H1 q => by
    try dsimp only at q
    split at q
    · exact ⟨_, rfl, q.1.1, q.1.2, q.2⟩
    · exact q.elim⟩
theorem pi_rng2' {tg a b : Expr} {ta : TA} {p pos : Pos} (hg : Gl X "range") (hm : X.mg "range" = none) (h1 : notStar a = true) (h2 : notStar b = true) (ha : PA X [a, b] ta) : PI X tg (.Call (.Name "range" p) [a, b] [] pos) (cRng2 ta) :=
  PI_imp (pi_range2 hg hm (PA_up ha) ((star_of h1).trans (by rw [star1 h2])) (star1 h2)) fun σ H R h => ⟨_, h, fun vs H1 q => by
    try dsimp only at q
    split at q
    · exact ⟨_, _, rfl, q.1, q.2⟩
    · exact q.elim⟩
theorem pi_rng3' {tg a b c : Expr} {ta : TA} {p pos : Pos} (hg : Gl X "range") (hm : X.mg "range" = none) (h1 : notStar a = true) (h2 : notStar b = true) (h3 : notStar c = true) (ha : PA X [a, b, c] ta) : PI X tg (.Call (.Name "range" p) [a, b, c] [] pos) (cRng3 ta) :=
  PI_imp (pi_range3 hg hm (PA_up ha) (star_of h1) (star_all (by rw [List.all_cons, List.all_cons, h2, h3]; rfl))) fun σ H R h => ⟨_, h, fun vs H1 q => by
    try dsimp only at q
    split at q
    · obtain ⟨n, c, q⟩ := q; exact ⟨_, _, _, n, rfl, c, q⟩
    · exact q.elim⟩
theorem pi_enum' {a : Expr} {elts : List Expr} {kk : Nat} {ta : TA} {p pos tpos : Pos} (hg : Gl X "enumerate") (hm : X.mg "enumerate" = none) (h1 : notStar a = true) (ha : PA X [a] ta) : PI X (.Tuple elts kk tpos) (.Call (.Name "enumerate" p) [a] [] pos) (cEnum X.K ta) :=
  PI_imp (pi_enum hg hm (PA_up ha) (star1 h1)) fun σ H R h => ⟨_, h, fun vs H1 q => by
    try dsimp only at q
    split at q
    · split at q
      · rename_i e; exact ⟨_, _, rfl, look_lst e, q⟩
      · exact q.elim
    · exact q.elim⟩
theorem pi_zip' {a b : Expr} {elts : List Expr} {kk : Nat} {ta : TA} {p pos tpos : Pos} (hg : Gl X "zip") (hm : X.mg "zip" = none) (h1 : notStar a = true) (h2 : notStar b = true) (ha : PA X [a, b] ta) : PI X (.Tuple elts kk tpos) (.Call (.Name "zip" p) [a, b] [] pos) (cZip X.K ta) :=
  PI_imp (pi_zip hg hm (PA_up ha) (star_of h1) (star_all (by rw [List.all_cons, h2]; rfl))) fun σ H R h => ⟨_, h, fun vs H1 q => by
    try dsimp only at q
    split at q
    · split at q
      · rename_i e f; exact ⟨_, _, _, _, rfl, look_lst e, look_lst f, q⟩
      · exact q.elim
    · exact q.elim⟩
theorem pi_rev' {tg a : Expr} {ta : TA} {p pos : Pos} (hg : Gl X "reversed") (hm : X.mg "reversed" = none) (h1 : notStar a = true) (ha : PA X [a] ta) : PI X tg (.Call (.Name "reversed" p) [a] [] pos) (cRev X.K ta) :=
  PI_imp (pi_reversed hg hm (PA_up ha) (star1 h1)) fun σ H R h => ⟨_, h, fun vs H1 q => by
    try dsimp only at q
    split at q
    · split at q
      · rename_i e; exact ⟨_, _, rfl, look_lst e, q⟩
      · exact q.elim
    · exact q.elim⟩
theorem pi_view' {tg e : Expr} {td : TE} {apos cpos : Pos} {m : Str} {k : Nat} (he : PE X e td) (hb : baseOk e = true) (hl : (apos.endLine == cpos.line) = true) (hk : (m = "keys" ∧ k = 0) ∨ (m = "values" ∧ k = 1) ∨ (m = "items" ∧ k = 2 ∧ ∃ elts kk tpos, tg = .Tuple elts kk tpos)) :
    PI X tg (.Call (.Attribute e m apos) [] [] cpos) (cDview k td) := by
  rcases hk with ⟨rfl, rfl⟩ | ⟨rfl, rfl⟩ | ⟨rfl, rfl, elts, kk, tpos, rfl⟩
  · refine PI_imp (pi_keysM (PE_up he) (base_of hb) hl) fun σ H R h => ⟨_, h, fun x H1 q => ?_⟩
    try dsimp only at q
    split at q
    · split at q
      · rename_i e; exact ⟨_, _, _, rfl, e, q⟩
      · exact q.elim
    · exact q.elim
  · refine PI_imp (pi_values (PE_up he) (base_of hb) hl) fun σ H R h => ⟨_, h, fun x H1 q => ?_⟩
    try dsimp only at q
    split at q
    · split at q
      · rename_i e; exact ⟨_, _, _, rfl, e, q⟩
      · exact q.elim
    · exact q.elim
  · refine PI_imp (pi_items (PE_up he) (base_of hb) hl) fun σ H R h => ⟨_, h, fun x H1 q => ?_⟩
    try dsimp only at q
    split at q
    · split at q
      · rename_i e; exact ⟨_, _, _, rfl, e, q⟩
      · exact q.elim
    · exact q.elim
end
end WR

set_option Elab.async false
set_option linter.all false
set_option maxRecDepth 100000
set_option maxHeartbeats 4000000
namespace WR
open PySem PySem.Spec PyProof.Rows L2

/-! ## 17. targets -/
abbrev wNone : WX := fun _ _ _ _ => False
def cTupG (K : PySem.W.Frag) (n : Nat) (t : TGs) : TG := fun v σ H Q => match v with
  | .ref a => (match look K H a with
    | some (.tup xs) => xs.length = n ∧ t xs σ H Q
    | _ => False)
  | _ => False
/-- o[i] = v -/
def oSet : TSet := fun o i v H Q => match o with
  | .ref p => (match H p with
    | some (.lst xs) => (match i with
      | .int k => (match ixN xs.length k with
        | some j => Q (upd H p (.lst (xs.set j v)))
        | none => False)
      | _ => False)
    | some (.dK kvs) => (match keyOf i with
      | some k => kvs.length < sizeLine ∧ Q (upd H p (.dK (putK kvs k v)))
      | none => ∃ H', DPut H p i v H' ∧ Q H')
    | some (.dT kvs) => ∃ H', DPut H p i v H' ∧ Q H'
    | _ => False)
  | _ => False
def notSlice : Expr → Bool
  | .Slice _ _ _ _ => false
  | _ => true
mutual
def tG (K : PySem.W.Frag) (f : Expr → OE) (N : List Str) (sc : Scope) (okc : Str → Bool) : Nat → Expr → Option (WX → TG)
  | 0, _ => none
  | n + 1, .Name x _ => if plainName x = true then (match sc.names.lookup x with
      | some .local => (ix? N x).map fun i _ => gName i
      | some .cell => if okc x = true then (ix? N x).map fun i _ => gName i else none
      | _ => none) else none
  | n + 1, .Tuple es _ _ => if es.all notStar = true then (tGs K f N sc okc n es).map fun t W => cTupG K es.length (t W) else none
  | n + 1, .Subscript o i _ => if notSlice i = true then (match f o, f i with
      | some to, some ti => some fun W => gSub (to W) (ti W) oSet
      | _, _ => none) else none
  | _, _ => none
def tGs (K : PySem.W.Frag) (f : Expr → OE) (N : List Str) (sc : Scope) (okc : Str → Bool) : Nat → List Expr → Option (WX → TGs)
  | 0, _ => none
  | _ + 1, [] => some fun _ => gNil
  | n + 1, e :: es => if notStar e = true then (match tG K f N sc okc n e, tGs K f N sc okc n es with
      | some t, some u => some fun W => gCons (t W) (u W)
      | _, _ => none) else none
end
section
variable {X : Cx}
theorem r_set (hu : X.A.units + 1 < cLine) : PSet X oSet := by
  intro pins s σ H o i v ov iv u Q I ro ri rv h
  unfold oSet at h
  split at h
  · rename_i p
    have dput : ∀ H', DPut H p i v H' → Q H' → wpAny (model X.prog X.w) X.A (setItem ov iv u) (fun _ s' => ∃ H', Inv X pins σ H' s' ∧ Q H') X.xe s := fun H' g q => by
      cases ro
      exact d_setItem hu I g ri rv fun s' I' => ⟨H', I', q⟩
    split at h
    · rename_i xs e
      split at h
      · split at h
        · rename_i j ej
          exact set_list pins s σ H _ _ v ov iv u Q I ro ri rv ⟨_, _, _, j, rfl, rfl, e, ej, h⟩
        · exact h.elim
      · exact h.elim
    · rename_i kvs e
      split at h
      · rename_i k ek
        refine dput _ ?_ h.2
        rw [keyOf_kV ek]
        exact DPut.k e h.1
      · obtain ⟨H', g, q⟩ := h
        exact dput H' g q
    · obtain ⟨H', g, q⟩ := h
      exact dput H' g q
    · exact h.elim
  · exact h.elim
theorem assign_star {es : List Expr} {e : Expr} {env : Env} (h : notStar e = true) : assignEach (e :: es) env = (false, assign e env) :: assignEach es env := by
  cases e <;> first | rfl | exact absurd h Bool.false_ne_true
theorem assign_len : ∀ {es : List Expr} {env : Env}, (assignEach es env).length = es.length
  | [], _ => rfl
  | e :: es, env => by
    cases e <;> exact congrArg Nat.succ assign_len
theorem assign_none : ∀ {es : List Expr} {env : Env}, es.all notStar = true → (assignEach es env).findIdx? (·.1) = none
  | [], _, _ => rfl
  | e :: es, env, h => by
    rw [List.all_cons, Bool.and_eq_true] at h
    rw [assign_star h.1, List.findIdx?_cons]
    simp [assign_none h.2]
/-- expressions are read rightly at X -/
def SE (X : Cx) (W : WX) (f : Expr → OE) : Prop := ∀ e t, f e = some t → PE X e (t W)
def ST (X : Cx) (W : WX) (f : Expr → Option (WX → TT)) : Prop := ∀ e t, f e = some t → PT X e (t W)
theorem tArgs_ok {f : Expr → OE} {W : WX} (h : SE X W f) : ∀ {es : List Expr} {t : WX → TA}, tArgs f es = some t → PA X es (t W) ∧ es.all notStar = true ∧ (es = [] → t W = tNil)
  | [], t, e => by cases e; exact ⟨pa_nil, rfl, fun _ => rfl⟩
  | e :: es, t, q => by
    unfold tArgs at q
    split at q
    · rename_i hs
      split at q
      · rename_i te tr e1 e2
        cases q
        obtain ⟨p1, p2, p3⟩ := tArgs_ok h e2
        exact ⟨pa_cons (h _ _ e1) p1 (star_of hs), by rw [List.all_cons, hs, p2]; rfl, fun z => nomatch z⟩
      · cases q
    · cases q
theorem tKws_ok {f : Expr → OE} {W : WX} (h : SE X W f) : ∀ {es : List Keyword} {t : WX → TA}, tKws f es = some t → PK X es (t W) ∧ (es = [] → t W = tNil)
  | [], t, e => by cases e; exact ⟨pk_nil, fun _ => rfl⟩
  | ⟨nm, v, p⟩ :: es, t, q => by
    unfold tKws at q
    split at q
    · rename_i te tr e1 e2
      cases q
      obtain ⟨p1, p2⟩ := tKws_ok h e2
      exact ⟨pk_cons (h _ _ e1) p1, fun z => nomatch z⟩
    · cases q
theorem tBool_ok {f : Expr → OE} {W : WX} (h : SE X W f) (b : Bool) {pos : Pos} : ∀ {es : List Expr} {t : WX → TE}, tBool X.K f b es = some t → PE X (.BoolOp (if b then .And else .Or) es pos) (t W)
  | [], t, e => by cases e
  | [e], t, q => pe_one (h _ _ q)
  | e :: e2 :: es, t, q => by
    unfold tBool at q
    split at q
    · rename_i ta tb e1 e2
      cases q
      have hb := tBool_ok h b (pos := pos) e2
      cases b with
      | true => exact pe_and' (h _ _ e1) hb
      | false => exact pe_or' (h _ _ e1) hb
    · cases q
theorem tBoolT_ok {f : Expr → Option (WX → TT)} {W : WX} (h : ST X W f) (b : Bool) {pos : Pos} : ∀ {es : List Expr} {t : WX → TT}, tBoolT f b es = some t → PW X (.BoolOp (if b then .And else .Or) es pos) (t W)
  | [], t, e => by cases e
  | [e], t, q => by
    cases b with
    | true => exact pw_and1 (h _ _ q)
    | false => exact pw_or1 (h _ _ q)
  | e :: e2 :: es, t, q => by
    unfold tBoolT at q
    split at q
    · rename_i ta tb e1 e2
      cases q
      have hb := tBoolT_ok h b (pos := pos) e2
      cases b with
      | true => exact pw_and (h _ _ e1) hb
      | false => exact pw_or (h _ _ e1) hb
    · cases q
theorem tPairs_ok {f : Expr → OE} {W : WX} (h : SE X W f) {pos : Pos} : ∀ {ks : List (Option Expr)} {vs : List Expr} {trs : List (WX → TE × TE)}, tPairsL f ks vs = some trs → PPs X pos ks vs (trs.map fun t => t W) ∧ ks.all (·.isSome) = true ∧ ks.length = vs.length
  | [], [], trs, q => by cases q; exact ⟨pps_nil, rfl, rfl⟩
  | some k :: ks, v :: vs, trs, q => by
    unfold tPairsL at q
    split at q
    · rename_i tk tv r e1 e2 e3
      cases q
      obtain ⟨p1, p2, p3⟩ := tPairs_ok h (pos := pos) e3
      exact ⟨pps_cons (h _ _ e1) (h _ _ e2) p1, by rw [List.all_cons, p2]; rfl, by rw [List.length_cons, List.length_cons, p3]⟩
    · cases q
  | none :: _, _, _, q => by simp [tPairsL] at q
  | some _ :: _, [], _, q => by simp [tPairsL] at q
  | [], _ :: _, _, q => by simp [tPairsL] at q
theorem tPartO_ok {f : Expr → OE} {W : WX} (h : SE X W f) : ∀ {o : Option Expr} {t : WX → TO}, tPartO f o = some t → PO X o (t W)
  | none, t, q => by cases q; exact po_none
  | some e, t, q => by
    simp only [tPartO] at q
    split at q
    · rename_i te e1; cases q; exact po_part' (h _ _ e1)
    · cases q
end
section
variable {g : G} {lev : Nat} {X : Cx} {N : List Str} {sc : Scope} {W : WX} {f : Expr → OE} {okc : Str → Bool}
theorem pg_nm (c : COk g lev X N sc W) {x : Str} {pos : Pos} {k : NameKind} {i : Nat} (hk : sc.names.lookup x = some k) (hkk : k = .local ∨ k = .cell) (hf : X.fn x = true ∨ k = .local) (hi : ix? N x = some i) : PG X (.Name x pos) (gName i) := by
  refine pg_name c.nd (by rw [c.hN]; exact ix_get hi) ?_ ?_
  · unfold L2.Loc
    rw [c.hsc, hk]
    rcases hkk with rfl | rfl <;> simp
  · rw [c.hsc, hk]
    rcases hf with z | rfl
    · exact .inl z
    · exact .inr rfl
mutual
theorem tG_ok (c : COk g lev X N sc W) (h : SE X W f) (ho : ∀ x, okc x = true → X.fn x = true) : ∀ (n : Nat) (e : Expr) (t : WX → TG), tG g.K f N sc okc n e = some t → PG X e (t W)
  | 0, e, t, q => by simp [tG] at q
  | n + 1, e, t, q => by
    cases e with
    | Name x pos =>
      simp only [tG] at q
      split at q
      · split at q
        · rename_i hk
          obtain ⟨i, hi, rfl⟩ := Option.map_eq_some_iff.mp q
          exact pg_nm c hk (.inl rfl) (.inr rfl) hi
        · rename_i hk
          split at q
          · rename_i ok
            obtain ⟨i, hi, rfl⟩ := Option.map_eq_some_iff.mp q
            exact pg_nm c hk (.inr rfl) (.inl (ho _ ok)) hi
          · cases q
        · cases q
      · cases q
    | Tuple es kk pos =>
      simp only [tG] at q
      split at q
      · rename_i hs
        obtain ⟨u, hu, rfl⟩ := Option.map_eq_some_iff.mp q
        have z := tGs_ok c h ho n es _ hu
        refine ⟨fun pins s σ H v w Q I r hw => (pg_tup c.calm z assign_len (assign_none hs)).run pins s σ H v w Q I r ?_⟩
        simp only [cTupG] at hw
        split at hw
        · split at hw
          · rename_i e; exact ⟨_, _, rfl, by rw [c.hK]; exact look_tup e, hw.1, hw.2⟩
          · exact hw.elim
        · exact hw.elim
      · cases q
    | Subscript o i pos =>
      simp only [tG] at q
      split at q
      · rename_i hs
        split at q
        · rename_i e1 e2
          cases q
          refine pg_sub (h _ _ e1) (h _ _ e2) (r_set c.hu1) ?_
          intro v
          cases i <;> first | rfl | exact absurd hs Bool.false_ne_true
        · cases q
      · cases q
    | _ => simp [tG] at q
theorem tGs_ok (c : COk g lev X N sc W) (h : SE X W f) (ho : ∀ x, okc x = true → X.fn x = true) : ∀ (n : Nat) (es : List Expr) (t : WX → TGs), tGs g.K f N sc okc n es = some t → PGs X es (t W)
  | 0, e, t, q => by simp [tGs] at q
  | n + 1, [], t, q => by
    simp only [tGs] at q
    cases q
    exact pgs_nil
  | n + 1, e :: es, t, q => by
    simp only [tGs] at q
    split at q
    · rename_i hs
      split at q
      · rename_i e1 e2
        cases q
        exact pgs_cons (tG_ok c h ho n e _ e1) (tGs_ok c h ho n es _ e2) (by rw [assign_star hs]; rfl)
      · cases q
    · cases q
end
end
end WR

set_option Elab.async false
set_option linter.all false
set_option maxRecDepth 100000
set_option maxHeartbeats 4000000
namespace WR
open PySem PySem.Spec PyProof.Rows L2

/-! ## 18. expressions, tests, comprehensions: the whole translation -/
def isTup : Expr → Bool
  | .Tuple _ _ _ => true
  | _ => false
theorem isTup_ex {e : Expr} (h : isTup e = true) : ∃ a b c, e = .Tuple a b c := by
  cases e <;> first | exact ⟨_, _, _, rfl⟩ | exact absurd h Bool.false_ne_true
def tI1 (g : G) (f : Expr → OE) (sc : Scope) (tg : Expr) : Expr → Option (WX → TI)
  | .Call (.Name x _) es [] _ =>
    if sc.names.lookup x = some .globalImplicit ∧ x ∈ g.blt then
      (if x = "range" then (match es, tArgs f es with
        | [_], some t => some fun W => cRng1 (t W)
        | [_, _], some t => some fun W => cRng2 (t W)
        | [_, _, _], some t => some fun W => cRng3 (t W)
        | _, _ => none)
      else if x = "enumerate" ∧ isTup tg = true then (match es, tArgs f es with
        | [_], some t => some fun W => cEnum g.K (t W)
        | _, _ => none)
      else if x = "zip" ∧ isTup tg = true then (match es, tArgs f es with
        | [_, _], some t => some fun W => cZip g.K (t W)
        | _, _ => none)
      else if x = "reversed" then (match es, tArgs f es with
        | [_], some t => some fun W => cRev g.K (t W)
        | _, _ => none)
      else none)
    else none
  | .Call (.Attribute e m apos) [] [] cpos =>
    if baseOk e = true ∧ (apos.endLine == cpos.line) = true then (match f e with
      | some t => if m = "keys" then some fun W => cDview 0 (frzE (t W)) else if m = "values" then some fun W => cDview 1 (frzE (t W)) else if m = "items" ∧ isTup tg = true then some fun W => cDview 2 (frzE (t W)) else none
      | none => none)
    else none
  | _ => none
def tI (g : G) (f : Expr → OE) (sc : Scope) (tg iter : Expr) : Option (WX → TI) :=
  if notSet iter = true then (match tI1 g f sc tg iter with
    | some t => some t
    | none => (f iter).map fun t W => cIter g.K (frzE (t W)))
  else none
def ownOf (N : List Str) (scope : Scope) : List (Str × Nat) := scope.names.filterMap fun y => match y.2 with
  | .local | .cell => (ix? N y.1).map fun i => (y.1, i)
  | _ => none
def tIfs (f : Expr → Option (WX → TT)) : List Expr → Option (WX → TT)
  | [] => some fun _ => tYes
  | [e] => f e
  | _ => none
def okBlk (scope : Scope) (x : Str) : Bool := scope.names.lookup x == some .cell
/-- a comprehension, the dict that it may walk locked -/
def cLcL (wi : TI) (g : TG) (tt : TT) (te : TE) (vs : List Nat) : TE := fun σ H Q => cLc wi g tt te vs σ H Q ∨ tLockE (cLc wi g tt te vs) σ H Q
def cDcL (wi : TI) (g : TG) (tt : TT) (tk tv : TE) (vs : List Nat) : TE := fun σ H Q => cDc wi g tt tk tv vs σ H Q ∨ tLockE (cDc wi g tt tk tv vs) σ H Q
def tArts (f : Expr → OE) : List Expr → Option (List (WX → TE))
  | [] => some []
  | e :: es => match f e, tArts f es with
      | some te, some t => some (te :: t)
      | _, _ => none
def plainTest : Expr → Bool
  | .Name _ _ | .Call _ _ _ _ | .Attribute _ _ _ | .Subscript _ _ _ | .Constant _ _ _ | .BinOp _ _ _ _ => true
  | _ => false
mutual
def tE (g : G) : Nat → List Str → Scope → Expr → OE
  | 0, _, _, _ => none
  | n + 1, N, sc, e => match e with
    | .Constant c _ _ => (match c with
      | .int i => some fun _ => tC (.int i)
      | .bool b => some fun _ => tC (.bl b)
      | .none => some fun _ => tC .non
      | .str s => some fun _ => tC (.str s)
      | _ => none)
    | .Name x _ => (tName g N sc x).map fun t _ => t
    | .BinOp a op b _ => (match opR g.K op, tE g n N sc a, tE g n N sc b with
      | some r, some ta, some tb => some fun W => tOp r (ta W) (tb W)
      | _, _, _ => none)
    | .Compare a [op] [b] _ => if notSet b = true then (match cmpR g op, tE g n N sc a, tE g n N sc b with
      | some r, some ta, some tb => some fun W => tOp r (ta W) (tb W)
      | _, _, _ => none) else none
    | .Compare a [op, op'] [b, c] _ => if notSet c = true then (match cmpR g op, cmpR g op', tE g n N sc a, tE g n N sc b, tE g n N sc c with
      | some r, some r', some ta, some tb, some tc => some fun W => cChain r r' (ta W) (tb W) (tc W)
      | _, _, _, _, _ => none) else none
    | .BoolOp .And es _ => tBool g.K (tE g n N sc) true es
    | .BoolOp .Or es _ => tBool g.K (tE g n N sc) false es
    | .UnaryOp .Not a _ => (tE g n N sc a).map fun t W => cNot g.K (t W)
    | .UnaryOp .USub a _ => (tE g n N sc a).map fun t W => cUn (t W)
    | .IfExp c a b _ => (match tT g n N sc c, tE g n N sc a, tE g n N sc b with
      | some tc, some ta, some tb => some fun W => tIf (tc W) (ta W) (tb W)
      | _, _, _ => none)
    | .Call (.Name x _) es kws _ => (match tListV g (tE g n N sc) sc x es kws with
      | some t => some t
      | none => tCallName g (tE g n N sc) sc x es kws)
    | .Call (.Attribute o m apos) es kws pos => if baseOk o = true ∧ (apos.endLine == pos.line) = true ∧ es.length + kws.length < 29 then
        (match kwNames kws, tE g n N sc o, tArgs (tE g n N sc) es, tKws (tE g n N sc) kws with
        | some ks, some ta, some t, some tk => some fun W => cMeth g.K m es.length ks.length (g.mts.filter fun i => decide (i.name = m) && decide (i.n = es.length) && decide (i.ks = ks)) ((bms g.K).filter fun b => decide (b.name = m)) (ta W) (t W) (tk W) W
        | _, _, _, _ => none) else none
    | .List es _ => (tArgs (tE g n N sc) es).map fun t W => tLst (t W)
    | .Tuple es _ _ => (tArgs (tE g n N sc) es).map fun t W => tTup (t W)
    | .Dict ks vs _ => tDict (tE g n N sc) ks vs
    | .Subscript a (.Slice lo hi none _) _ => (match tE g n N sc a, tPartO (tE g n N sc) lo, tPartO (tE g n N sc) hi with
      | some ta, some tl, some th => some fun W => tSl (oSl g.K) (ta W) (tl W) (th W)
      | _, _, _ => none)
    | .Subscript a b _ => if notSlice b = true then (match tE g n N sc a, tE g n N sc b with
      | some ta, some tb => some fun W => tOp (oIx g.K) (ta W) (tb W)
      | _, _ => none) else none
    | .Attribute o a _ => if baseOk o = true then (match g.ats.lookup a, tE g n N sc o with
      | some cs, some to => some fun W => cAttr cs a (to W)
      | _, _ => none) else none
    | .ListComp elt [⟨tg, iter, ifs, 0⟩] scope _ =>
      if blkC N sc scope (ownOf N scope) = true then
        (match tI g (tE g n N sc) sc tg iter, tG g.K (tE g n N (relS scope sc)) N (relS scope sc) (okBlk scope) 12 tg, tIfs (tT g n N (relS scope sc)) ifs, tE g n N (relS scope sc) elt with
        | some wi, some gt, some tt, some te => some fun W => cLcL (wi W) (gt wNone) (tt wNone) (te wNone) ((ownOf N scope).map (·.2))
        | _, _, _, _ => none)
      else none
    | .DictComp kx vx [⟨tg, iter, ifs, 0⟩] scope _ =>
      if blkC N sc scope (ownOf N scope) = true then
        (match tI g (tE g n N sc) sc tg iter, tG g.K (tE g n N (relS scope sc)) N (relS scope sc) (okBlk scope) 12 tg, tIfs (tT g n N (relS scope sc)) ifs, tE g n N (relS scope sc) kx, tE g n N (relS scope sc) vx with
        | some wi, some gt, some tt, some tk, some tv => some fun W => cDcL (wi W) (gt wNone) (tt wNone) (tk wNone) (tv wNone) ((ownOf N scope).map (·.2))
        | _, _, _, _, _ => none)
      else none
    | .FormattedValue e cv none _ => if cv = -1 then (tE g n N sc e).map fun t W => cFmt (t W) else none
    | .JoinedStr (e1 :: e2 :: es) _ => (tArts (tE g n N sc) (e1 :: e2 :: es)).map fun ts W σ H Q => cJs (ts.map fun t => t W) Str.empty σ H fun out H1 => Q (.str out) H1
    | .JoinedStr [e1] _ => tE g n N sc e1
    | _ => none
def tT (g : G) : Nat → List Str → Scope → Expr → Option (WX → TT)
  | 0, _, _, _ => none
  | n + 1, N, sc, e => match e with
    | .Compare a [op] [b] _ => if notSet b = true then (match cmpR g op, tE g n N sc a, tE g n N sc b with
      | some r, some ta, some tb => some fun W => cTest (tOp r (ta W) (tb W))
      | _, _, _ => none) else none
    | .Compare a [op, op'] [b, c] _ => if notSet c = true then (match cmpR g op, cmpR g op', tE g n N sc a, tE g n N sc b, tE g n N sc c with
      | some r, some r', some ta, some tb, some tc => some fun W => cTest (cChain r r' (ta W) (tb W) (tc W))
      | _, _, _, _, _ => none) else none
    | .BoolOp .And es _ => tBoolT (tT g n N sc) true es
    | .BoolOp .Or es _ => tBoolT (tT g n N sc) false es
    | .UnaryOp .Not a _ => (tT g n N sc a).map fun t W => tNot (t W)
    | e => if plainTest e = true then (tE g n N sc e).map fun t W => cTru g.K (t W) else none
end
section
variable {g : G} {lev : Nat} {X : Cx} {N : List Str} {sc : Scope} {W : WX} {f : Expr → OE}
theorem tI1_ok (c : COk g lev X N sc W) (h : SE X W f) {tg iter : Expr} {t : WX → TI} (q : tI1 g f sc tg iter = some t) : PI X tg iter (t W) := by
  unfold tI1 at q
  split at q
  · rename_i x p es pos
    split at q
    · rename_i hx
      have hg : Gl X x := by unfold Gl Env.kindOf; rw [c.hsc]; exact hx.1
      have hm := c.gok.blt x hx.2
      split at q
      · rename_i e
        subst e
        split at q
        · rename_i e1; cases q
          obtain ⟨p1, p2, p3⟩ := tArgs_ok h e1
          simp only [List.all_cons, List.all_nil, Bool.and_true] at p2
          exact pi_rng1' hg hm p2 p1
        · rename_i e1; cases q
          obtain ⟨p1, p2, p3⟩ := tArgs_ok h e1
          simp only [List.all_cons, List.all_nil, Bool.and_true, Bool.and_eq_true] at p2
          exact pi_rng2' hg hm p2.1 p2.2 p1
        · rename_i e1; cases q
          obtain ⟨p1, p2, p3⟩ := tArgs_ok h e1
          simp only [List.all_cons, List.all_nil, Bool.and_true, Bool.and_eq_true] at p2
          exact pi_rng3' hg hm p2.1 p2.2.1 p2.2.2 p1
        · cases q
      · split at q
        · rename_i e
          obtain ⟨rfl, ht⟩ := e
          obtain ⟨a, b, d, rfl⟩ := isTup_ex ht
          split at q
          · rename_i e1; cases q
            obtain ⟨p1, p2, p3⟩ := tArgs_ok h e1
            simp only [List.all_cons, List.all_nil, Bool.and_true] at p2
            rw [← c.hK]
            exact pi_enum' hg hm p2 p1
          · cases q
        · split at q
          · rename_i e
            obtain ⟨rfl, ht⟩ := e
            obtain ⟨a, b, d, rfl⟩ := isTup_ex ht
            split at q
            · rename_i e1; cases q
              obtain ⟨p1, p2, p3⟩ := tArgs_ok h e1
              simp only [List.all_cons, List.all_nil, Bool.and_true, Bool.and_eq_true] at p2
              rw [← c.hK]
              exact pi_zip' hg hm p2.1 p2.2 p1
            · cases q
          · split at q
            · rename_i e
              subst e
              split at q
              · rename_i e1; cases q
                obtain ⟨p1, p2, p3⟩ := tArgs_ok h e1
                simp only [List.all_cons, List.all_nil, Bool.and_true] at p2
                rw [← c.hK]
                exact pi_rev' hg hm p2 p1
              · cases q
            · cases q
    · cases q
  · split at q
    · rename_i hb
      split at q
      · rename_i e1
        split at q
        · rename_i em; cases q; exact pi_view' (pe_frz (h _ _ e1)) hb.1 hb.2 (.inl ⟨em, rfl⟩)
        · split at q
          · rename_i em; cases q; exact pi_view' (pe_frz (h _ _ e1)) hb.1 hb.2 (.inr (.inl ⟨em, rfl⟩))
          · split at q
            · rename_i em; cases q; exact pi_view' (pe_frz (h _ _ e1)) hb.1 hb.2 (.inr (.inr ⟨em.1, rfl, isTup_ex em.2⟩))
            · cases q
      · cases q
    · cases q
  · cases q
theorem notSet_f {iter : Expr} {env : Env} {x : Value} (h : notSet iter = true) : foldedSetIterable iter env x = pure x := by
  cases iter <;> first | rfl | exact absurd h Bool.false_ne_true
theorem tI_ok (c : COk g lev X N sc W) (h : SE X W f) {tg iter : Expr} {t : WX → TI} (q : tI g f sc tg iter = some t) : PI X tg iter (t W) ∧ notSet iter = true := by
  unfold tI at q
  split at q
  · rename_i hs
    refine ⟨?_, hs⟩
    split at q
    · rename_i e; cases q; exact tI1_ok c h e
    · obtain ⟨u, hu, rfl⟩ := Option.map_eq_some_iff.mp q
      rw [← c.hK]
      exact pi_dyn (pe_frz (h _ _ hu))
  · cases q
theorem tIfs_ok {f : Expr → Option (WX → TT)} (h : ST X W f) : ∀ {es : List Expr} {t : WX → TT}, tIfs f es = some t → PTs X es (t W)
  | [], t, q => by cases q; exact pts_nil
  | [e], t, q => pts_one (h _ _ q)
  | _ :: _ :: _, t, q => by simp [tIfs] at q
theorem cok_blk (c : COk g lev X N sc W) {scope : Scope} {s : Shared} {H : Hp} {C : Addr} {cl : List (Str × Addr)} {fp : List Addr} : COk g lev (X.blk s H scope (compEnvC scope cl C X.env) fp) N (relS scope sc) wNone where
  gok := c.gok
  hK := c.hK
  hN := c.hN
  hsc := by
    have : (compEnvC scope cl C X.env).scope = relS scope X.env.scope := rfl
    exact this.trans (by rw [c.hsc])
  nd := c.nd
  calm := c.calm
  tk := takes0
  room := c.room
  gd := c.gd
  room2 := c.room2
theorem opR_ok (c : COk g lev X N sc W) {op : Operator} {r : R2} (h : opR g.K op = some r) : OpR X (binaryOp op) r := by
  unfold opR at h
  rw [← c.hK] at h
  split at h <;> cases h
  · exact r_add
  · exact r_sub
  · exact r_mul
  · exact r_fdiv
  · exact r_mod
  · exact r_pow
  · exact r_shl
theorem cmpR_ok (c : COk g lev X N sc W) {op : CmpOp} {r : R2} (h : cmpR g op = some r) : OpR X (compareOp op) r := by
  have hu := c.hu
  have hu5 : X.A.units + 65 < cLine := by have := c.room.un; omega
  unfold cmpR at h
  split at h <;> cases h
  · exact r_lt
  · exact r_le
  · exact r_gt
  · exact r_ge
  · exact r_eqG c (by rw [← c.hK]; exact r_eq hu)
  · exact r_neG c (by rw [← c.hK]; exact r_ne hu)
  · rw [← c.hK]; exact r_in hu5
  · rw [← c.hK]; exact r_notin hu5
  · exact r_is
  · exact r_isnot
theorem notSlice_ix {b : Expr} (h : notSlice b = true) : PlainIx b := fun o i => by
  cases b <;> first | rfl | exact absurd h Bool.false_ne_true
end
end WR

set_option Elab.async false
set_option linter.all false
set_option maxRecDepth 100000
set_option maxHeartbeats 4000000
namespace WR
open PySem PySem.Spec PyProof.Rows L2
section
variable {g : G} {lev : Nat} {X : Cx} {N : List Str} {sc : Scope} {W : WX} {f : Expr → OE}
theorem lpd_W {J : It} {g : TG} {tt : TT} {tk tv : TE} {vs : List Nat} {σ : St} {D : Addr} {Q : VK} {H1 : Hp} (h : ∃ n, lpd J g tt tk tv vs σ D Q n 0 H1) :
    ∃ W : Nat → Nat → Hp → Prop, (∃ m, W 0 m H1) ∧ ∀ i m H, W i m H →
      (J.stop i H ∧ Q (.ref D) H) ∨ (J.go i H ∧ ∃ Nx : Hp → Prop, (∀ H', Nx H' → ∃ m', m' < m ∧ W (i + 1) m' H') ∧ ∀ x H', J.yld i H x H' → g x (wipe σ vs) H' fun σ2 H2 => wipe σ2 vs = wipe σ vs ∧ tt σ2 H2 fun b H3 =>
        if b = true then tk σ2 H3 fun y H4 => tv σ2 H4 fun z H5 => ∃ kvs k, y = kV k ∧ H5 D = some (.dK kvs) ∧ kvs.length < sizeLine ∧ Nx (upd H5 D (.dK (putK kvs k z))) else Nx H3) := by
  obtain ⟨n, h⟩ := h
  refine ⟨fun i m H => lpd J g tt tk tv vs σ D Q m i H, ⟨n, h⟩, fun i m H w => ?_⟩
  cases m with
  | zero => exact .inl w
  | succ m =>
    rcases w with w | ⟨go, w⟩
    · exact .inl w
    · exact .inr ⟨go, lpd J g tt tk tv vs σ D Q m (i + 1), fun H' q => ⟨m, Nat.lt_succ_self _, q⟩, w⟩
theorem pe_fmt' {e : Expr} {te : TE} {pos : Pos} (he : PE X e te) : PE X (.FormattedValue e (-1) none pos) (cFmt te) :=
  PE_imp (pe_fmt (PE_up he)) fun σ H Q h => ⟨_, h, fun x H1 q => by
    try dsimp only at q
    split at q
    · exact .inl ⟨_, rfl, q⟩
    · exact .inr ⟨_, rfl, q⟩
    · exact q.elim⟩
theorem tArts_ok {f : Expr → OE} (h : SE X W f) : ∀ {es : List Expr} {ts : List (WX → TE)}, tArts f es = some ts → PJ X es (ts.map fun t => upE (t W))
  | [], ts, e => by cases e; exact .nil
  | e :: es, ts, q => by
    unfold tArts at q
    split at q
    · rename_i te tr e1 e2
      cases q
      exact .cons (PE_up (h _ _ e1)) (tArts_ok h e2)
    · cases q
theorem cJs_up {Wt : WX} : ∀ {ts : List (WX → TE)} {acc : Str} {σ : St} {H : Hp} {Q : Str → Hp → Prop}, cJs (ts.map fun t => t Wt) acc σ H Q → tJs (ts.map fun t => upE (t Wt)) acc σ H Q
  | [], acc, σ, H, Q, h => h
  | t :: ts, acc, σ, H, Q, h => ⟨_, h, fun x H1 q => by
    try dsimp only at q
    split at q
    · exact ⟨_, rfl, q.1, cJs_up q.2⟩
    · exact q.elim⟩
theorem pe_joined' {e1 e2 : Expr} {es : List Expr} {pos : Pos} {ts : List (WX → TE)} (h : PJ X (e1 :: e2 :: es) (ts.map fun t => upE (t W))) : PE X (.JoinedStr (e1 :: e2 :: es) pos) (fun σ H Q => cJs (ts.map fun t => t W) Str.empty σ H fun out H1 => Q (.str out) H1) :=
  PE_imp (pe_joined h) fun σ H Q q => cJs_up q
theorem bltR_ok (c : COk g lev X N sc W) {x : Str} {v : Value} {r : RC} (h : bltR g x = some (v, r)) : CallR X v r ∧ Keeps X v := by
  have hc := c.calm
  have hm := PySem.mem_of_lookup (show (bltTab g).lookup x = some (v, r) from h)
  simp only [bltTab, List.mem_cons, List.not_mem_nil, or_false, Prod.mk.injEq] at hm
  rcases hm with ⟨_, rfl, rfl⟩ | ⟨_, rfl, rfl⟩ | ⟨_, rfl, rfl⟩ | ⟨_, rfl, rfl⟩ | ⟨_, rfl, rfl⟩ | ⟨_, rfl, rfl⟩ | ⟨_, rfl, rfl⟩ | ⟨_, rfl, rfl⟩ | ⟨_, rfl, rfl⟩ | ⟨_, rfl, rfl⟩ | ⟨_, rfl, rfl⟩ | ⟨_, rfl, rfl⟩ | ⟨_, rfl, rfl⟩ | ⟨_, rfl, rfl⟩ | ⟨_, rfl, rfl⟩ | ⟨_, rfl, rfl⟩ | ⟨_, rfl, rfl⟩
  all_goals try rw [← c.hK]
  · exact ⟨b_repr c.gd c.hu (by rw [c.hK]; exact c.gok.sys), keeps_blt⟩
  · exact ⟨b_lenG c (by rw [← c.hK]; exact b_len), keeps_blt⟩
  · exact ⟨b_isi, keeps_blt⟩
  · exact ⟨b_all hc, keeps_blt⟩
  · exact ⟨b_any hc, keeps_blt⟩
  · exact ⟨b_sum hc, keeps_blt⟩
  · exact ⟨b_abs, keeps_blt⟩
  · exact ⟨b_max hc, keeps_blt⟩
  · exact ⟨b_min hc, keeps_blt⟩
  · exact ⟨b_ord, keeps_blt⟩
  · exact ⟨b_int, keeps_ty⟩
  · exact ⟨b_strG c, keeps_ty⟩
  · exact ⟨b_list hc, keeps_ty⟩
  · exact ⟨b_tuple, keeps_ty⟩
  · exact ⟨b_dict hc, keeps_ty⟩
  · exact ⟨b_boolG c, keeps_ty⟩
  · exact ⟨b_sorted hc, keeps_blt⟩
theorem pe_blt {x : Str} {p pos : Pos} {es : List Expr} {t : TA} {v : Value} {r : RC} (hc : CallR X v r) (hk : Keeps X v) (hg : Gl X x) (hm : X.mg x = none) (hv : bootBuiltins x = some v) (hx : plainName x = true) (hnil : es = [] → t = tNil) (hst : es.all notStar = true) (ha : PA X es t) :
    PE X (.Call (.Name x p) es [] pos) (tCB r t) := by
  refine ⟨fun pins s σ H Q I h => ?_⟩
  refine wpAny_Call_Name_kw (ld_blt I hg hm hv ?_ (plain_n hx) (plain_d hx))
  refine args_of (tk := tNil) (ks := []) (first := []) (R := fun vs zs H2 => zs = [] ∧ r vs H2 Q) hk hnil hst rfl ha pk_nil I (?_ : t σ H fun vs H2 => tNil σ H2 fun zs H3 => zs = [] ∧ r vs H3 Q) fun vs zs us ws s2 H2 I2 r1 rz q => ?_
  · have e : (fun (vs : List V) (H2 : Hp) => tNil σ H2 fun zs H3 => zs = [] ∧ r vs H3 Q) = fun vs H2 => r vs H2 Q := by
      funext vs H2
      exact propext ⟨fun z => z.2, fun z => ⟨rfl, z⟩⟩
    rw [e]
    exact h
  · obtain ⟨rfl, q⟩ := q
    exact hc pins s2 σ H2 vs us Q I2 r1 q
theorem pe_mk (c : COk g lev X N sc W) {i : MkI} {p pos : Pos} {es : List Expr} {kws : List Keyword} {t tk : TA} (hi : i ∈ g.mks) (hn : i.n = es.length) (hks : kwNames kws = some i.ks) (hg : Gl X i.name) (hx : plainName i.name = true) (hnil : es = [] → t = tNil) (hst : es.all notStar = true) (ha : PA X es t) (hw : PK X kws tk) :
    PE X (.Call (.Name i.name p) es kws pos) (cMk i.cls es.length i.ks.length i.arr i.sp t tk W) := by
  obtain ⟨fa, fd, ps, gf, hm, M, F, kb⟩ := c.gok.mks i hi
  rw [← c.hK] at M F kb
  rw [hn] at kb
  refine ⟨fun pins s σ H Q I h => ?_⟩
  refine wpAny_Call_Name_kw (ld_glob I hg hm ?_ (plain_d hx))
  refine args_of (first := []) (R := fun vs zs H2 => vs.length = es.length ∧ zs.length = i.ks.length ∧ ∀ x dx, H2 x = none → H2 dx = none → dx ≠ x → i.sp (.ref x :: i.arr vs zs) (upd (upd H2 dx (.own x)) x (.ins i.cls dx [])) (fun v H3 => v = .non ∧ Q (.ref x) H3) (fun cls d H' => W cls d σ H')) (keeps_ref M.kp) hnil hst hks ha hw I h fun vs zs us ws s2 H2 I2 r rz q => ?_
  obtain ⟨l1, l2, q⟩ := q
  have hq := q (s2.heap.objs.size + 1) s2.heap.objs.size (I2.hok.fresh (Nat.le_succ _)) (I2.hok.fresh (Nat.le_refl _)) (Nat.ne_of_lt (Nat.lt_succ_self _))
  have I3 := Inv.made (C := i.cls) I2
  have r2 : Vals (V.ref (s2.heap.objs.size + 1) :: vs) (Value.ref (s2.heap.objs.size + 1) :: us) := .cons rfl r
  have r3 := kb.rel r2 rz
  have e1 : (Value.ref (s2.heap.objs.size + 1) :: us).length = es.length + 1 := r2.length.symm.trans (congrArg Nat.succ l1)
  have e2 : ws.length = i.ks.length := rz.length.symm.trans l2
  refine wpAny_call (make_map (f := fa) (kw := i.ks.zip ws) I2.kIn M.makes M.init (beq_iff_eq.mp M.fn) (codeAny_mono (F.run _ X.stack _ _ ⟨Value.ref (s2.heap.objs.size + 1) :: us, i.ks.zip ws⟩ (gf (Value.ref (s2.heap.objs.size + 1) :: us) ws) _ _ _ (c.room.make i.cls us (i.ks.zip ws)) (gd_make c.gd i.cls us (i.ks.zip ws))
    (I3.env0.make i.cls us (i.ks.zip ws)) (kb.to _ (Value.ref (s2.heap.objs.size + 1) :: us) ws I3.kIn e1 e2) r3 hq) fun r s' hq' => ?_))
  cases r with
  | error e => exact c.tk e s' (XE.of_call I3 (fun _ _ _ h => h) hq')
  | ok fl =>
    cases fl with
    | ret u =>
      obtain ⟨v, H', I4, rv, ev, q3⟩ := I3.after hq'
      subst ev
      exact ⟨rv, ⟨V.ref (s2.heap.objs.size + 1), H', I4, rfl, q3⟩⟩
    | next => exact False.elim hq'
    | brk => exact False.elim hq'
    | cont => exact False.elim hq'
theorem tCallName_ok (c : COk g lev X N sc W) (h : SE X W f) {x : Str} {p pos : Pos} {es : List Expr} {kws : List Keyword} {t : WX → TE} (q : tCallName g f sc x es kws = some t) : PE X (.Call (.Name x p) es kws pos) (t W) := by
  unfold tCallName at q
  split at q
  · rename_i hx
    have hg : Gl X x := by unfold Gl Env.kindOf; rw [c.hsc]; exact hx.2
    split at q
    · rename_i ks ta tk e1 e2 e3
      obtain ⟨a1, a2, a3⟩ := tArgs_ok h e2
      obtain ⟨b1, b2⟩ := tKws_ok h e3
      split at q
      · rename_i i ei
        cases q
        have hi := List.mem_of_find?_eq_some ei
        have hp := List.find?_some ei
        simp only [Bool.and_eq_true, decide_eq_true_eq] at hp
        obtain ⟨⟨p1, p2⟩, p3⟩ := hp
        obtain ⟨fa, fd, ps, gf, m1, m2, F, kb⟩ := c.gok.fns i hi
        rw [← c.hK] at m2 F kb
        rw [p1] at m1
        rw [p2, p3] at kb
        exact pe_own F c.room0 c.gd kb c.tk hg m1 m2 hx.1 a3 a2 e1 a1 b1
      · split at q
        · rename_i i ei
          cases q
          have hi := List.mem_of_find?_eq_some ei
          have hp := List.find?_some ei
          simp only [Bool.and_eq_true, decide_eq_true_eq] at hp
          obtain ⟨⟨p1, p2⟩, p3⟩ := hp
          subst p1 p3
          exact pe_mk c hi p2 e1 hg hx.1 a3 a2 a1 b1
        · split at q
          · rename_i hb
            obtain ⟨hb, rfl, hne⟩ := hb
            split at q
            · rename_i v r er
              split at q
              · rename_i hv
                cases q
                have o12 : CallR X v r ∧ Keeps X v := by
                  split at er
                  · rename_i D eD
                    cases er
                    refine ⟨b_isO c ?_, keeps_blt⟩
                    unfold isOwn at eD
                    split at eD
                    · split at eD
                      · exact List.mem_of_find?_eq_some eD
                      · cases eD
                    · cases eD
                  · exact bltR_ok c er
                obtain ⟨o1, o2⟩ := o12
                exact pe_blt o1 o2 hg (c.gok.blt x hb) hv hx.1 a3 a2 a1
              · cases q
            · cases q
          · cases q
    · cases q
  · cases q
theorem tListV_ok (c : COk g lev X N sc W) (h : SE X W f) {x : Str} {p pos : Pos} {es : List Expr} {kws : List Keyword} {t : WX → TE} (q : tListV g f sc x es kws = some t) : PE X (.Call (.Name x p) es kws pos) (t W) := by
  unfold tListV at q
  split at q
  · split at q
    · rename_i hc
      obtain ⟨rfl, rfl, hg, hb, ho, hl⟩ := hc
      have gl : Gl X "list" := by unfold Gl Env.kindOf; rw [c.hsc]; exact hg
      split at q
      · rename_i te e1
        split at q
        · rename_i em
          subst em
          cases q
          exact pe_listVals c.calm (h _ _ e1) gl (c.gok.blt _ hb) PyProof.Rows.Boot.«list» (base_of ho) hl
        · split at q
          · rename_i em
            subst em
            cases q
            exact LiI.pe_listItems c.calm (h _ _ e1) gl (c.gok.blt _ hb) PyProof.Rows.Boot.«list» (base_of ho) hl
          · cases q
      · cases q
    · cases q
  · cases q
theorem cAttr_ok (c : COk g lev X N sc W) {o : Expr} {a : Str} {pos : Pos} {cs : List Addr} {to : TE} (hb : baseOk o = true) (hc : g.ats.lookup a = some cs) (ho : PE X o to) : PE X (.Attribute o a pos) (cAttr cs a to) := by
  refine PE_imp (pe_fld (PE_up ho) (base_of hb)) fun σ H Q h => ⟨_, h, fun x H1 q => ?_⟩
  try dsimp only at q
  split at q
  · rename_i p C fs e
    obtain ⟨hC, q⟩ := q
    obtain ⟨dx, rfl, ea⟩ := insOf_ok e
    obtain ⟨k1, k2⟩ := c.gok.ats _ (lookup_mem hc) C hC
    split at q
    · rename_i v ev
      rw [c.hK]
      exact ⟨_, _, _, _, v, rfl, ea, k1, k2, ev, q⟩
    · exact q.elim
  · exact q.elim
theorem tDict_ok (c : COk g lev X N sc W) (h : SE X W f) {ks : List (Option Expr)} {vs : List Expr} {pos : Pos} {t : WX → TE} (q : tDict f ks vs = some t) : PE X (.Dict ks vs pos) (t W) := by
  unfold tDict at q
  split at q
  · cases q; exact pe_dnewK
  · rename_i hne
    split at q
    · rename_i h15
      split at q
      · rename_i trs e
        cases q
        obtain ⟨p1, p2, p3⟩ := tPairs_ok h (pos := pos) e
        refine pe_disp p1 p2 p3 (fun z => ?_) h15
        subst z
        have : vs = [] := List.length_eq_zero_iff.mp p3.symm
        exact hne rfl this
      · cases q
    · cases q
end
theorem blk_fn {X : Cx} {scope : Scope} {s : Shared} {H : Hp} {cenv : Env} {fp : List Addr} : ∀ x, okBlk scope x = true → (X.blk s H scope cenv fp).fn x = true := fun x h => h

theorem plain_true {e : Expr} {env : Env} {whole : Sem Value} (h : plainTest e = true) : isTrue e env whole = (do let v ← whole; standAt e.pos; holding [v] (truthy v)) := by
  cases e <;> first | rfl | exact absurd h Bool.false_ne_true
theorem pe_orLock {X : Cx} {e : Expr} {t : TE} (h : PE X e t) : PE X e (fun σ H Q => t σ H Q ∨ tLockE t σ H Q) :=
  ⟨fun pins s σ H Q I q => q.elim (fun q => h.run pins s σ H Q I q) fun q => (pe_lock h).run pins s σ H Q I q⟩
/-- THE READING OF EXPRESSIONS IS RIGHT -/
theorem tET_ok (g : G) : ∀ (n : Nat), (∀ N sc e t, tE g n N sc e = some t → ∀ {lev X W}, COk g lev X N sc W → PE X e (t W)) ∧ (∀ N sc e t, tT g n N sc e = some t → ∀ {lev X W}, COk g lev X N sc W → PT X e (t W))
  | 0 => ⟨fun N sc e t q => by simp [tE] at q, fun N sc e t q => by simp [tT] at q⟩
  | n + 1 => by
    obtain ⟨ihE, ihT⟩ := tET_ok g n
    have seE : ∀ {N sc lev X W}, COk g lev X N sc W → SE X W (tE g n N sc) := fun c e t q => ihE _ _ e t q c
    have seT : ∀ {N sc lev X W}, COk g lev X N sc W → ST X W (tT g n N sc) := fun c e t q => ihT _ _ e t q c
    have hE : ∀ N sc e t, tE g (n + 1) N sc e = some t → ∀ {lev X W}, COk g lev X N sc W → PE X e (t W) := by
      intro N sc e t q lev X W c
      unfold tE at q
      split at q
      · split at q
        · cases q; exact pe_int
        · cases q; exact pe_bl
        · cases q; exact pe_non
        · cases q; exact pe_str
        · cases q
      · obtain ⟨u, hu, rfl⟩ := Option.map_eq_some_iff.mp q
        exact tName_ok hu c.b
      · split at q
        · rename_i e1 e2 e3
          cases q
          exact pe_op (opR_ok c e1) (ihE _ _ _ _ e2 c) (ihE _ _ _ _ e3 c)
        · cases q
      · split at q
        · rename_i hs
          split at q
          · rename_i e1 e2 e3
            cases q
            exact pe_cmpR (cmpR_ok c e1) (ihE _ _ _ _ e2 c) (ihE _ _ _ _ e3 c) (notSet_b hs)
          · cases q
        · cases q
      · split at q
        · rename_i hs
          split at q
          · rename_i e1 e2 e3 e4 e5
            cases q
            exact pe_chain' (cmpR_ok c e1) (cmpR_ok c e2) (ihE _ _ _ _ e3 c) (ihE _ _ _ _ e4 c) (ihE _ _ _ _ e5 c) (notSet_l hs)
          · cases q
        · cases q
      · rw [← c.hK] at q
        exact tBool_ok (seE c) true q
      · rw [← c.hK] at q
        exact tBool_ok (seE c) false q
      · obtain ⟨u, hu, rfl⟩ := Option.map_eq_some_iff.mp q
        rw [← c.hK]
        exact pe_not' (ihE _ _ _ _ hu c)
      · obtain ⟨u, hu, rfl⟩ := Option.map_eq_some_iff.mp q
        exact pe_neg' (ihE _ _ _ _ hu c)
      · split at q
        · rename_i e1 e2 e3
          cases q
          exact pe_ifExp (ihT _ _ _ _ e1 c) (ihE _ _ _ _ e2 c) (ihE _ _ _ _ e3 c)
        · cases q
      · split at q
        · rename_i e; cases q; exact tListV_ok c (seE c) e
        · exact tCallName_ok c (seE c) q
      · split at q
        · rename_i hb
          split at q
          · rename_i e1 e2 e3 e4
            cases q
            obtain ⟨a1, a2, a3⟩ := tArgs_ok (seE c) e3
            obtain ⟨b1, b2⟩ := tKws_ok (seE c) e4
            refine pe_methG c hb.1 a2 e1 hb.2.2 hb.2.1 (fun i hi => ?_) (fun b hbm => ?_) a3 b2 (ihE _ _ _ _ e2 c) a1 b1
            · obtain ⟨z1, z2⟩ := List.mem_filter.mp hi
              simp only [Bool.and_eq_true, decide_eq_true_eq] at z2
              exact ⟨z1, z2.1.1, z2.1.2, z2.2⟩
            · obtain ⟨z1, z2⟩ := List.mem_filter.mp hbm
              rw [← c.hK] at z1
              exact ⟨bms_ok c.hu1 b z1, of_decide_eq_true z2⟩
          · cases q
        · cases q
      · obtain ⟨u, hu, rfl⟩ := Option.map_eq_some_iff.mp q
        exact pe_lst (tArgs_ok (seE c) hu).1
      · obtain ⟨u, hu, rfl⟩ := Option.map_eq_some_iff.mp q
        exact pe_tup (tArgs_ok (seE c) hu).1
      · exact tDict_ok c (seE c) q
      · split at q
        · rename_i e1 e2 e3
          cases q
          rw [← c.hK]
          exact pe_slice r_sl (ihE _ _ _ _ e1 c) (tPartO_ok (seE c) e2) (tPartO_ok (seE c) e3)
        · cases q
      · split at q
        · rename_i hs
          split at q
          · rename_i e1 e2
            cases q
            rw [← c.hK]
            exact pe_ix (r_ix c.hu1) (ihE _ _ _ _ e1 c) (ihE _ _ _ _ e2 c) (notSlice_ix hs)
          · cases q
        · cases q
      · split at q
        · rename_i hb
          split at q
          · rename_i e1 e2
            cases q
            exact cAttr_ok c hb e1 (ihE _ _ _ _ e2 c)
          · cases q
        · cases q
      · split at q
        · rename_i hb
          split at q
          · rename_i wi gt tt te e1 e2 e3 e4
            cases q
            obtain ⟨i1, i2⟩ := tI_ok c (seE c) e1
            have ok : BlkOk X.N X.env.scope _ _ := blkOk_by (by rw [c.hN, c.hsc]; exact hb)
            exact pe_orLock (PE_imp (pe_lc c.calm c.nd (PI_up i1) ok (fun s H C cl fp => tG_ok (cok_blk c) (seE (cok_blk c)) blk_fn 12 _ _ e2)
                (fun s H C cl fp => tIfs_ok (seT (cok_blk c)) e3) (fun s H C cl fp => ihE _ _ _ _ e4 (cok_blk c)) (fun x => notSet_f i2)) fun σ H Q h => ⟨_, h, fun J H' q D hD => lpc_W (q D hD)⟩)
          · cases q
        · cases q
      · split at q
        · rename_i hb
          split at q
          · rename_i wi gt tt tk tv e1 e2 e3 e4 e5
            cases q
            obtain ⟨i1, i2⟩ := tI_ok c (seE c) e1
            have ok : BlkOk X.N X.env.scope _ _ := blkOk_by (by rw [c.hN, c.hsc]; exact hb)
            exact pe_orLock (PE_imp (pe_dc c.calm c.nd (PI_up i1) ok (fun s H C cl fp => tG_ok (cok_blk c) (seE (cok_blk c)) blk_fn 12 _ _ e2)
                (fun s H C cl fp => tIfs_ok (seT (cok_blk c)) e3) (fun s H C cl fp => ihE _ _ _ _ e4 (cok_blk c)) (fun s H C cl fp => ihE _ _ _ _ e5 (cok_blk c)) (fun x => notSet_f i2)) fun σ H Q h => ⟨_, h, fun J H' q D hD => lpd_W (q D hD)⟩)
          · cases q
        · cases q
      · split at q
        · rename_i hv
          obtain ⟨u, hu, rfl⟩ := Option.map_eq_some_iff.mp q
          rw [hv]
          exact pe_fmt' (ihE _ _ _ _ hu c)
        · cases q
      · obtain ⟨u, hu, rfl⟩ := Option.map_eq_some_iff.mp q
        exact pe_joined' (tArts_ok (seE c) hu)
      · exact pe_joined1 (ihE _ _ _ _ q c)
      · cases q
    refine ⟨hE, fun N sc e t q lev X W c => ?_⟩
    unfold tT at q
    split at q
    · split at q
      · rename_i hs
        split at q
        · rename_i e1 e2 e3
          cases q
          exact pt_cmp' (cmpR_ok c e1) (ihE _ _ _ _ e2 c) (ihE _ _ _ _ e3 c) (notSet_b hs)
        · cases q
      · cases q
    · split at q
      · rename_i hs
        split at q
        · rename_i e1 e2 e3 e4 e5
          cases q
          exact pt_chain' (cmpR_ok c e1) (cmpR_ok c e2) (ihE _ _ _ _ e3 c) (ihE _ _ _ _ e4 c) (ihE _ _ _ _ e5 c) (notSet_l hs)
        · cases q
      · cases q
    · exact (tBoolT_ok (seT c) true q).pt
    · exact (tBoolT_ok (seT c) false q).pt
    · obtain ⟨u, hu, rfl⟩ := Option.map_eq_some_iff.mp q
      exact pt_not (ihT _ _ _ _ hu c)
    · split at q
      · rename_i hp
        obtain ⟨u, hu, rfl⟩ := Option.map_eq_some_iff.mp q
        rw [← c.hK]
        exact pt_tru' (ihE _ _ _ _ hu c) fun whole => plain_true hp
      · cases q
end WR

set_option Elab.async false
set_option linter.all false
set_option maxRecDepth 100000
set_option maxHeartbeats 4000000
namespace WR
open PySem PySem.Spec PyProof.Rows L2

/-! ## 19. statements -/
def notComp : Expr → Bool
  | .ListComp _ _ _ _ | .SetComp _ _ _ _ | .DictComp _ _ _ _ _ => false
  | _ => true
theorem notComp_sw {e : Expr} {t : Option Expr} {l : Nat} {env : Env} (h : notComp e = true) : swapsWith e t l env = pure false := by
  cases e <;> first | rfl | exact absurd h Bool.false_ne_true
def oIAdd (K : PySem.W.Frag) : R2 := fun x y H Q => match x, y with
  | .int i, .int j => Q (.int (i + j)) H
  | .str a, .str b => a.length + b.length ≤ sizeLine ∧ Q (.str (a ++ b)) H
  | .ref l, .ref b => (match H l, H b with
    | some (.lst xs), some (.lst zs) => xs.length + zs.length ≤ sizeLine ∧ Q (.ref l) (upd H l (.lst (xs ++ zs)))
    | _, _ => False)
  | _, _ => False
def iopR (K : PySem.W.Frag) : Operator → Option R2
  | .Add => some (oIAdd K)
  | .Sub => some oSub
  | _ => none
section
variable {X : Cx}
theorem r_iadd : OpR X (inplaceOp .Add) (oIAdd X.K) := OpR_imp (iop_add.or (iop_add_str.or iop_ext)) fun x y H Q h => by
  unfold oIAdd at h
  split at h
  · exact .inl ⟨_, _, rfl, rfl, h⟩
  · exact .inr (.inl ⟨_, _, rfl, rfl, h.1, h.2⟩)
  · split at h
    · rename_i e f; exact .inr (.inr ⟨_, _, _, _, rfl, rfl, e, f, h.1, h.2⟩)
    · exact h.elim
  · exact h.elim
theorem r_isub : OpR X (inplaceOp .Sub) oSub := OpR_imp iop_sub fun x y H Q h => by
  unfold oSub at h
  split at h
  · exact ⟨_, _, rfl, rfl, h⟩
  · exact h.elim
end
/-- self.f = e -/
def cFldS (cands : List Addr) (f : Str) (ta tv : TE) : TS := fun D σ H => tv σ H fun y H1 => ta σ H1 fun x H2 => match x with
  | .ref a => (match H2 a with
    | some (.ins C dx fs) => C ∈ cands ∧ fs.length < 1000 ∧ D.nx σ (upd H2 a (.ins C dx (putF f y fs)))
    | _ => False)
  | _ => False
/-- self.f += e, whole numbers -/
def cFldAug (cands : List Addr) (f : Str) (sub : Bool) (ta tv : TE) : TS := fun D σ H => ta σ H fun x H1 => match x with
  | .ref a => (match H1 a with
    | some (.ins C dx fs) => C ∈ cands ∧ (match fs.lookup f with
      | some (.int i) => tv σ H1 fun y H2 => (match y with
        | .int j => (match H2 a with
          | some (.ins C' dx' fs') => C' = C ∧ fs'.length < 1000 ∧ D.nx σ (upd H2 a (.ins C dx' (putF f (.int (if sub then i - j else i + j)) fs')))
          | _ => False)
        | _ => False)
      | _ => False)
    | _ => False)
  | _ => False
def cPar (i j : Nat) (ta : TA) : TS := fun D σ H => ta σ H fun vs H1 => match vs with
  | [v, w] => D.nx ((σ.set i (some v)).set j (some w)) H1
  | _ => False
def cAug (i : Nat) (te : TE) (r : R2) : TS := fun D σ H => match σ[i]? with
  | some (some x) => te σ H fun y H1 => r x y H1 fun z H2 => D.nx (σ.set i (some z)) H2
  | _ => False
abbrev bad : WX → TS := fun _ => tNever
/-- what the stores of a, b = x, y are: plain local names on one line are stored from the right -/
def swR (sc : Scope) (ts vs : List Expr) : Option (Option (List Str)) :=
  if (!(ts.length == 2 || ts.length == 3) || vs.length != ts.length) = true then some none else
  if (vs.any fun | .Starred .. => true | _ => false) = true then some none else
  let names := ts.filterMap fun
    | .Name id pos => if (sc.names.lookup id == some .local && pos.line == (ts.head?.map (·.pos.line)).getD 0) = true then some id else none
    | _ => none
  if (names.length != ts.length || names.eraseDups.length != names.length) = true then some none else
  if vs.all (foldedForSure 8) = true then some none else
  if vs.all (constantsAlone 8) = true then none else some (some names)
theorem swR_ok {sc : Scope} {ts vs : List Expr} {r : Option (List Str)} {env : Env} {k k2 : Nat} {p p2 : Pos} (hb : env.blockKind = .function) (hs : env.scope = sc) (h : swR sc ts vs = some r) :
    swappedStores [.Tuple ts k p] (.Tuple vs k2 p2) env = pure r := by
  subst hs
  have hb' : (env.blockKind != ScopeKind.function) = false := by rw [hb]; rfl
  unfold swR at h
  unfold swappedStores
  simp only [hb', Bool.or_false]
  split at h
  · rename_i c; refine (if_pos c).trans ?_; cases h; rfl
  · rename_i c; refine (if_neg c).trans ?_
    split at h
    · rename_i c; refine (if_pos c).trans ?_; cases h; rfl
    · rename_i c; refine (if_neg c).trans ?_
      dsimp only at h
      split at h
      · rename_i c; refine (if_pos c).trans ?_; cases h; rfl
      · rename_i c; refine (if_neg c).trans ?_
        split at h
        · rename_i c; refine (if_pos c).trans ?_; cases h; rfl
        · rename_i c; refine (if_neg c).trans ?_
          split at h
          · cases h
          · rename_i c; refine (if_neg c).trans ?_; cases h; rfl
theorem sw_cond {elt : Expr} {gs : List Comprehension} {scope : Scope} {pos py : Pos} {y : Str} {l : Nat} {env : Env} :
    swapsWith (.ListComp elt gs scope pos) (some (.Name y py)) l env = pure (env.blockKind == .function && env.kindOf y == some .local && py.line == pos.line && !(scope.names.any fun (n, k) => n == y && (k == .local || k == .cell))) := rfl
end WR

set_option Elab.async false
set_option linter.all false
set_option maxRecDepth 100000
set_option maxHeartbeats 4000000
namespace WR
open PySem PySem.Spec PyProof.Rows L2

/-! ## try: body, and clauses except X [as n]: suite; a clause that is never reached may be anything -/
inductive ClR where
  | one (c : Value) (nm : Option Nat) (ts : Addr → Value → Option Addr → TS)
  | dead
def endsN (nm : Option Nat) (D : Ends) : Ends := match nm with
  | some i => { nx := fun σ H => D.nx (σ.set i none) H, rt := D.rt, bk := fun σ H => D.bk (σ.set i none) H, ct := fun σ H => D.ct (σ.set i none) H }
  | none => D
def slotN (nm : Option Nat) (a : Addr) (σ : St) : St := match nm with
  | some i => σ.set i (some (.ref a))
  | none => σ
def wCl (K : PySem.W.Frag) (Wout : WX) (D : Ends) : List ClR → WX
  | [] => Wout
  | .one c nm ts :: r => fun cls d σ H => ∃ b, PySem.W.exmOne K cls c = some b ∧ (b = true → ∀ a, H a = none → ts a cls d (endsN nm D) (slotN nm a σ) H) ∧ (b = false → wCl K Wout D r cls d σ H)
  | .dead :: _ => fun _ _ _ _ => False
inductive ClOk (X : Cx) : List ExceptHandler → List ClR → Prop
  | nil : ClOk X [] []
  | one {x : Str} {c : Value} {ts : Addr → Value → Option Addr → TS} {b₀ : Stmt} {suite : List Stmt} {np pos' : Pos} {hds : List ExceptHandler} {l : List ClR} (hc : Names X x c)
      (hsu : ∀ (a : Addr) (oe : Obj) (cls : Value) (d : Option Addr) (pn : List (Addr × Obj)), Zc cls d oe → (∃ vs, oe.data = .fields vs) → PSs (X.suite a ((a, oe) :: pn)) (b₀ :: suite) (ts a cls d)) (r : ClOk X hds l) :
      ClOk X (.ExceptHandler (some (.Name x np)) none (b₀ :: suite) pos' :: hds) (.one c none ts :: l)
  | as_ {x n : Str} {c : Value} {i : Nat} {ts : Addr → Value → Option Addr → TS} {b₀ : Stmt} {suite : List Stmt} {np pos' : Pos} {hds : List ExceptHandler} {l : List ClR} (hc : Names X x c) (hi : X.N[i]? = some n) (hln : X.env.kindOf n = some .local)
      (hsu : ∀ (a : Addr) (oe : Obj) (cls : Value) (d : Option Addr) (pn : List (Addr × Obj)), Zc cls d oe → (∃ vs, oe.data = .fields vs) → PSs (X.suite a ((a, oe) :: pn)) (b₀ :: suite) (ts a cls d)) (r : ClOk X hds l) :
      ClOk X (.ExceptHandler (some (.Name x np)) (some n) (b₀ :: suite) pos' :: hds) (.one c (some i) ts :: l)
  | dead {hds : List ExceptHandler} {l : List ClR} : ClOk X hds (.dead :: l)
section
variable {X : Cx} {body : List Stmt} {h₀ : ExceptHandler} {hds : List ExceptHandler} {l : List ClR} {pos : Pos} {tb : WX → TS} {Wout : WX}
theorem ps_tryW (hs : X.stack = X.env :: X.outer) (hf : X.env.frame = some X.env.locals) (hN : X.N.Nodup) (tk : Takes X Wout)
    (hb : ∀ (W : WX) (pn : List (Addr × Obj)) (xe : Value → Shared → Prop), Takes (X.tr pn xe) W → PassesOwn (model X.prog X.w) X.A X.env xe → PSs (X.tr pn xe) body (tb W))
    (hh : ClOk X (h₀ :: hds) l) : PS X (.Try body (h₀ :: hds) [] [] pos) (fun D σ H => tb (wCl X.K Wout D l) D σ H) := by
  constructor
  intro pins s σ H D I want
  have ok := I.ok
  have frames : X.A.frames = some (X.env :: X.outer) := ok.frames.trans (congrArg some hs)
  apply wpAny_Try_except
  let look : Value → Shared → Prop := fun e s₁ => wpAny (model X.prog X.w) X.A (noteFrame e X.env) (fun _ s₂ => wpAny (model X.prog X.w) X.A (setFlight e none) (fun _ s₃ =>
    wpAny (model X.prog X.w) X.A (handleBy e X.env (h₀ :: hds)) (SP X pins D) X.xe s₃) X.xe s₂) X.xe s₁
  have caught : Takes (X.tr (X.pn ++ pins) look) (wCl X.K Wout D l) := by
    rintro u s' ⟨a, B, sI, pins', σ', H', cls, d, rfl, J', nb, up, sky, na, os, ag, wish⟩
    have J : Inv X pins σ' H' sI := J'.ofTry ok
    have sky2 : Sky B (X.env :: X.outer) a (Zc cls d) X.env.locals s'.heap := hs ▸ sky
    show wpAny (model X.prog X.w) X.A (noteFrame (.ref a) X.env) _ _ _
    apply Sky.land Zc.steady frames hf sky2
    intro h3 fl3 up3
    have J3 : Inv X pins σ' H' { s' with heap := h3 } := J.landed nb fl3.1 (up.trans up3) os ag
    obtain ⟨oe3, vs3, he3, hz3, hd3⟩ := fl3.there
    have nfr : a ∉ frs (X.env :: X.outer) := fun m => by
      obtain ⟨_, o', e', nf⟩ := fl3.2.2.1.mem m
      rw [he3] at e'
      cases e'
      exact nf _ hd3
    have nL : a ≠ X.env.locals := by
      rintro rfl
      exact nfr (List.mem_filterMap.mpr ⟨X.env, List.mem_cons_self, hf⟩)
    have nF : a ∉ X.fs := fun m => by
      obtain ⟨e, he, q⟩ := List.mem_filterMap.mp m
      exact nfr (List.mem_filterMap.mpr ⟨e, List.mem_cons_of_mem _ he, q⟩)
    have S3 := J3.suite he3 hd3 na nL nF
    have ty : PySem.W.Looks (model X.prog X.w) h3 (typeOf (.ref a)) cls := fun A Q E s k q => wpAny_typeOf_ref (k _ _ he3) (by rw [hz3.1]; exact q)
    have test : ∀ {x : Str} {c : Value} {np : Pos} {Q : Value → Shared → Prop} {E : Value → Shared → Prop}, Names X x c → Q c { s' with heap := h3 } → wpAny (model X.prog X.w) (X.A.mark (some (.ref a))) (eval (.Name x np) X.env) Q E { s' with heap := h3 } := by
      rintro x c np Q E ⟨hg, nd, hm | ⟨hm, hv, hn⟩⟩ q
      · exact ld_glob (X := X.suite a ((a, oe3) :: (X.pn ++ pins))) S3 hg hm q nd
      · exact ld_blt (X := X.suite a ((a, oe3) :: (X.pn ++ pins))) S3 hg hm hv q hn nd
    have go : ∀ {hds' : List ExceptHandler} {l' : List ClR}, ClOk X hds' l' → wCl X.K Wout D l' cls d σ' H' → wpAny (model X.prog X.w) X.A (handleBy (.ref a) X.env hds') (SP X pins D) X.xe { s' with heap := h3 } := by
      intro hds' l' hk
      induction hk with
      | nil =>
        intro out
        apply wpAny_handleBy_nil
        obtain ⟨k1, k2, k3, oe, vs, T, oT, ts', he, hz, hd, h1, hr⟩ := id fl3
        unfold PySem.passOn
        apply wpAny_bind
        apply wpAny_field he hd h1
        rw [if_neg (show ¬ ((Value.ref T == Value.none) = true) from by simp)]
        have on : wpAny (model X.prog X.w) X.A (setFlight (.ref a) X.env.frame) (fun _ s4 => wpAny (model X.prog X.w) X.A (throw (.ref a) : Sem Flow) (SP X pins D) X.xe s4) X.xe { s' with heap := h3 } := by
          rw [hf]
          apply HandSPX.setFlight_upZ fl3
          intro h4 held up4
          apply wpAny_throw
          apply tk
          exact ⟨a, B, sI, pins, σ', H', cls, d, rfl, J, nb, (up.trans up3).trans up4, .inr (.inr (by rw [hs]; exact held)), na, os, ag, out⟩
        first
          | exact wpAny_bind (wpAny_pure (wpAny_bind on))
          | exact wpAny_bind on
      | @one x c ts b₀ suite np pos' hds2 l2 hc hsu r ih =>
        rintro ⟨b, e, yes, no⟩
        have m := PySem.W.exm_one (M := model X.prog X.w) J3.kIn ty e
        apply wpAny_handleBy_cons (codeAny_handlers_test (test hc (m.here _))) (by intro q; cases q)
        cases b with
        | false => exact ih (no rfl)
        | true =>
          apply codeAny_handlers_suite
          apply HandSPX.lands_againZ fl3
          intro h4 fl4 up4
          have J4 : Inv X pins σ' H' { s' with heap := h4 } := J.landed nb fl4.1 ((up.trans up3).trans up4) os ag
          obtain ⟨oe4, vs4, he4, hz4, hd4⟩ := fl4.there
          have S4 := J4.suite he4 hd4 na nL nF
          refine wpAny_mono ((hsu a oe4 cls d (X.pn ++ pins) hz4 ⟨_, hd4⟩).run [] _ _ H' _ S4 (yes rfl a na)) ?_ (fun _ _ z => False.elim z)
          intro f s6 got
          match f, got with
          | .next, ⟨σ6, H6, S6, q6⟩ => exact ⟨_, _, S6.unsuite ok, q6⟩
          | .brk, ⟨σ6, H6, S6, q6⟩ => exact ⟨_, _, S6.unsuite ok, q6⟩
          | .cont, ⟨σ6, H6, S6, q6⟩ => exact ⟨_, _, S6.unsuite ok, q6⟩
          | .ret u, ⟨v6, σ6, H6, S6, r6, q6⟩ => exact ⟨_, _, _, S6.unsuite ok, r6, q6⟩
      | @as_ x n c i ts b₀ suite np pos' hds2 l2 hc hi hln hsu r ih =>
        rintro ⟨b, e, yes, no⟩
        have m := PySem.W.exm_one (M := model X.prog X.w) J3.kIn ty e
        apply wpAny_handleBy_cons (codeAny_handlers_test (test hc (m.here _))) (by intro q; cases q)
        cases b with
        | false => exact ih (no rfl)
        | true =>
          apply codeAny_handlers_suite_as
          apply HandSPX.lands_againZ fl3
          intro h4 fl4 up4
          have J4 : Inv X pins σ' H' { s' with heap := h4 } := J.landed nb fl4.1 ((up.trans up3).trans up4) os ag
          obtain ⟨oe4, vs4, he4, hz4, hd4⟩ := fl4.there
          have S4 := J4.suite he4 hd4 na nL nF
          refine store_ok (X := X.suite a ((a, oe4) :: (X.pn ++ pins))) (v := .ref a) S4 hN hi (.inl hln) rfl (fun s5 S5 => ?_) (.inr hln)
          refine wpAny_mono ((hsu a oe4 cls d (X.pn ++ pins) hz4 ⟨_, hd4⟩).run [] s5 _ H' _ S5 (yes rfl a na)) ?_ (fun _ _ z => False.elim z)
          intro f s6 got
          have off : ∀ {σ6 : St} {H6 : Hp} {Q : Shared → Prop}, Inv (X.suite a ((a, oe4) :: (X.pn ++ pins))) [] σ6 H6 s6 → (∀ s7, Inv X pins (σ6.set i none) H6 s7 → Q s7) →
              wpAny (model X.prog X.w) X.A (do bindName X.env n .none; unbindBehindTheSuite X.env n pos') (fun _ s7 => Q s7) X.xe s6 := fun S6 q => gone_ok (S6.unsuite ok) hN hi hln q
          match f, got with
          | .next, ⟨σ6, H6, S6, q6⟩ => exact off S6 fun s7 J7 => ⟨_, _, J7, q6⟩
          | .brk, ⟨σ6, H6, S6, q6⟩ => exact off S6 fun s7 J7 => ⟨_, _, J7, q6⟩
          | .cont, ⟨σ6, H6, S6, q6⟩ => exact off S6 fun s7 J7 => ⟨_, _, J7, q6⟩
          | .ret u, ⟨v6, σ6, H6, S6, r6, q6⟩ => exact off S6 fun s7 J7 => ⟨_, _, _, J7, r6, q6⟩
      | dead =>
        intro z
        exact False.elim z
    exact go hh wish
  refine wpAny_mono ((hb (wCl X.K Wout D l) (X.pn ++ pins) look caught PassesOwn.looking).run [] s σ H D (I.toTry _) want) ?_ (fun _ _ z => z)
  intro f s1 got
  match f, got with
  | .next, ⟨σ', H', J, q⟩ => exact wpAny_execs_nil ⟨σ', H', J.ofTry ok, q⟩
  | .brk, ⟨σ', H', J, q⟩ => exact ⟨σ', H', J.ofTry ok, q⟩
  | .cont, ⟨σ', H', J, q⟩ => exact ⟨σ', H', J.ofTry ok, q⟩
  | .ret u, ⟨v, σ', H', J, r, q⟩ => exact ⟨v, σ', H', J.ofTry ok, r, q⟩
end
end WR

set_option Elab.async false
set_option linter.all false
set_option maxRecDepth 100000
set_option maxHeartbeats 4000000
namespace WR
open PySem PySem.Spec PyProof.Rows L2

/-! ## what an except suite may say -/
/-- e.f, e the caught exception (at a, of the class cls, its dict at d), slot i -/
def cXf (g : G) (i : Nat) (a : Addr) (cls : Value) (d : Option Addr) (f : Str) : TE := fun σ H Q => σ[i]? = some (some (.ref a)) ∧ ∃ x ∈ g.xcs, x.f = f ∧ cls = .ref x.C ∧ ∃ dd fs v, d = some dd ∧ H dd = some (.xd fs) ∧ fs.lookup f = some v ∧ Q v H
def sArgs (f : Expr → Option TE) : List Expr → Option TA
  | [] => some tNil
  | e :: es => if notStar e = true then (match f e, sArgs f es with
      | some te, some t => some (tCons te t)
      | _, _ => none) else none
def sE (g : G) (N : List Str) (sc : Scope) (en : Str) (a : Addr) (cls : Value) (d : Option Addr) : Nat → Expr → Option TE
  | 0, _ => none
  | n + 1, e => match e with
    | .Constant c _ _ => (match c with
      | .int i => some (tC (.int i))
      | .bool b => some (tC (.bl b))
      | .none => some (tC .non)
      | .str s => some (tC (.str s))
      | _ => none)
    | .Name x _ => if x = en then none else tName g N sc x
    | .Attribute (.Name x _) f _ => if x = en ∧ plainName x = true ∧ sc.names.lookup x = some .local then (ix? N x).map fun i => cXf g i a cls d f else none
    | .Tuple es _ _ => (sArgs (sE g N sc en a cls d n) es).map tTup
    | .List es _ => (sArgs (sE g N sc en a cls d n) es).map tLst
    | .Call (.Name x _) [e1] [] _ => if x = "repr" ∧ sc.names.lookup x = some .globalImplicit ∧ x ∈ g.blt ∧ notStar e1 = true then (sE g N sc en a cls d n e1).map fun t => tCB (bRepr g.K) (tCons t tNil) else none
    | .Compare e1 [.Eq] [e2] _ => if notSet e2 = true then (match sE g N sc en a cls d n e1, sE g N sc en a cls d n e2 with
      | some t1, some t2 => some (tOp (oEq g.K) t1 t2)
      | _, _ => none) else none
    | .BoolOp .And [e1, e2] _ => (match sE g N sc en a cls d n e1, sE g N sc en a cls d n e2 with
      | some t1, some t2 => some (cAnd g.K t1 t2)
      | _, _ => none)
    | .UnaryOp .Not e1 _ => (sE g N sc en a cls d n e1).map fun t => cNot g.K t
    | _ => none
def sS (g : G) (N : List Str) (sc : Scope) (en : Str) (a : Addr) (cls : Value) (d : Option Addr) : Stmt → TS
  | .Pass _ => tNext
  | .Return none _ => tRetN
  | .Return (some e) _ => (match sE g N sc en a cls d 20 e with
    | some t => tRet t
    | none => tNever)
  | .Assign [.Name y _] v _ => if plainName y = true ∧ sc.names.lookup y = some .local ∧ notComp v = true then (match ix? N y, sE g N sc en a cls d 20 v with
    | some i, some t => tAsg t (gName i)
    | _, _ => tNever) else tNever
  | _ => tNever
def sBody (f : Stmt → TS) : List Stmt → TS
  | [] => tNext
  | [s] => f s
  | s :: r => tSeq (f s) (sBody f r)
section
variable {g : G} {X : Cx} {N : List Str} {sc : Scope} {en : Str} {a : Addr} {oe : Obj} {cls : Value} {d : Option Addr} {pn : List (Addr × Obj)}
theorem sArgs_ok {X : Cx} {f : Expr → Option TE} (h : ∀ e t, f e = some t → PE X e t) : ∀ {es : List Expr} {t : TA}, sArgs f es = some t → PA X es t ∧ es.all notStar = true
  | [], t, e => by cases e; exact ⟨pa_nil, rfl⟩
  | e :: es, t, q => by
    unfold sArgs at q
    split at q
    · rename_i hs
      split at q
      · rename_i te tr e1 e2
        cases q
        obtain ⟨p1, p2⟩ := sArgs_ok h e2
        exact ⟨pa_cons (h _ _ e1) p1 (star_of hs), by rw [List.all_cons, hs, p2]; rfl⟩
      · cases q
    · cases q
theorem BOk.suite (c : BOk g X N sc) : BOk g (X.suite a ((a, oe) :: pn)) N sc := ⟨c.gok, c.hK, c.hN, c.hsc, c.nd, c.gd, c.un⟩
theorem cXf_ok (c : BOk g X N sc) (hz : Zc cls d oe) (hf : ∃ vs, oe.data = .fields vs) {x : Str} {i : Nat} {p pos : Pos} {f : Str} (hx : plainName x = true) (hl : sc.names.lookup x = some .local) (hi : ix? N x = some i) :
    PE (X.suite a ((a, oe) :: pn)) (.Attribute (.Name x p) f pos) (cXf g i a cls d f) := by
  have cs : BOk g (X.suite a ((a, oe) :: pn)) N sc := c.suite
  have hN : (X.suite a ((a, oe) :: pn)).N[i]? = some x := by rw [cs.hN]; exact ix_get hi
  have vis : Vis (X.suite a ((a, oe) :: pn)).env.scope x := by
    unfold Vis
    rw [cs.hsc, hl]
    simp
  have v := cVar_ok (pos := p) hN vis hx
  obtain ⟨lev, gok⟩ := c.gok
  refine ⟨fun pins s σ H Q I h => ?_⟩
  obtain ⟨e0, y, hy, rfl, hc, dd, fs, w, rfl, ed, el, q⟩ := h
  obtain ⟨b, fI, fd, px, m1, m2, m3, m4, _⟩ := gok.xcs y hy
  refine (pe_xf (X := X) (C := y.C) (n := y.f) (by rw [c.hK]; exact m3) (by rw [c.hK]; exact m4) hz hf v).run pins s σ H Q I ?_
  unfold tXf cVar
  rw [e0]
  exact ⟨rfl, hc, dd, fs, w, rfl, ed, el, q⟩
theorem sE_ok (c : BOk g X N sc) (hz : Zc cls d oe) (hf : ∃ vs, oe.data = .fields vs) : ∀ (n : Nat) (e : Expr) (t : TE), sE g N sc en a cls d n e = some t → PE (X.suite a ((a, oe) :: pn)) e t
  | 0, e, t, q => by simp [sE] at q
  | n + 1, e, t, q => by
    have cs : BOk g (X.suite a ((a, oe) :: pn)) N sc := c.suite
    have hK : (X.suite a ((a, oe) :: pn)).K = g.K := cs.hK
    have hu : (X.suite a ((a, oe) :: pn)).A.units + 64 < cLine := by have := cs.un; omega
    obtain ⟨lev, gok⟩ := c.gok
    unfold sE at q
    split at q
    · split at q
      · cases q; exact pe_int
      · cases q; exact pe_bl
      · cases q; exact pe_non
      · cases q; exact pe_str
      · cases q
    · split at q
      · cases q
      · exact tName_ok q cs
    · split at q
      · rename_i hc
        obtain ⟨i, hi, rfl⟩ := Option.map_eq_some_iff.mp q
        exact cXf_ok c hz hf hc.2.1 hc.2.2 hi
      · cases q
    · obtain ⟨u, hu, rfl⟩ := Option.map_eq_some_iff.mp q
      exact pe_tup (sArgs_ok (fun e t z => sE_ok c hz hf n e t z) hu).1
    · obtain ⟨u, hu, rfl⟩ := Option.map_eq_some_iff.mp q
      exact pe_lst (sArgs_ok (fun e t z => sE_ok c hz hf n e t z) hu).1
    · split at q
      · rename_i hc
        obtain ⟨rfl, hg, hb, hs⟩ := hc
        obtain ⟨u, hu1, rfl⟩ := Option.map_eq_some_iff.mp q
        have gl : Gl (X.suite a ((a, oe) :: pn)) "repr" := by unfold Gl Env.kindOf; rw [cs.hsc]; exact hg
        have r := b_repr (X := X.suite a ((a, oe) :: pn)) cs.gd hu (by rw [hK]; exact gok.sys)
        rw [hK] at r
        exact pe_blt r keeps_blt gl (gok.blt _ hb) (by rfl) (by decide) (fun z => nomatch z) (by rw [List.all_cons, hs]; rfl) (pa_cons (sE_ok c hz hf n _ _ hu1) pa_nil (star_of hs))
      · cases q
    · split at q
      · rename_i hs
        split at q
        · rename_i e1 e2
          cases q
          have r := r_eq (X := X.suite a ((a, oe) :: pn)) hu
          rw [hK] at r
          exact pe_cmpR r (sE_ok c hz hf n _ _ e1) (sE_ok c hz hf n _ _ e2) (notSet_b hs)
        · cases q
      · cases q
    · split at q
      · rename_i e1 e2
        cases q
        rw [← hK]
        exact pe_and' (sE_ok c hz hf n _ _ e1) (pe_one (sE_ok c hz hf n _ _ e2))
      · cases q
    · obtain ⟨u, hu1, rfl⟩ := Option.map_eq_some_iff.mp q
      rw [← hK]
      exact pe_not' (sE_ok c hz hf n _ _ hu1)
    · cases q
theorem sS_ok (c : BOk g X N sc) (hz : Zc cls d oe) (hf : ∃ vs, oe.data = .fields vs) (st : Stmt) : PS (X.suite a ((a, oe) :: pn)) st (sS g N sc en a cls d st) := by
  have cs : BOk g (X.suite a ((a, oe) :: pn)) N sc := c.suite
  unfold sS
  split
  · exact ps_pass
  · exact ps_retN
  · split
    · rename_i e; exact ps_ret (sE_ok c hz hf 20 _ _ e)
    · exact ps_never
  · split
    · rename_i y py v ps hc
      obtain ⟨h1, h2, h3⟩ := hc
      split
      · rename_i i t e1 e2
        refine ps_asg (sE_ok c hz hf 20 _ _ e2) ?_ ?_ rfl rfl
        rotate_left
        · show swapsWith v (some (.Name y py)) ps.line (X.suite a ((a, oe) :: pn)).env = pure false
          exact notComp_sw h3
        refine pg_name cs.nd (by rw [cs.hN]; exact ix_get e1) ?_ ?_
        · unfold L2.Loc
          rw [cs.hsc, h2]
          simp
        · rw [cs.hsc, h2]
          exact .inr rfl
      · exact ps_never
    · exact ps_never
  · exact ps_never
theorem sBody_ok {X : Cx} {f : Stmt → TS} (h : ∀ st, PS X st (f st)) : ∀ (l : List Stmt), PSs X l (sBody f l)
  | [] => pss_nil
  | [s] => pss_one (h s)
  | s :: s2 :: r => show PSs X _ (tSeq (f s) (sBody f (s2 :: r))) from pss_cons (h s) (sBody_ok h (s2 :: r))
end
/-- the clauses, told -/
def clsVal (g : G) (sc : Scope) (x : Str) : Option Value := if plainName x = true ∧ sc.names.lookup x = some .globalImplicit then (match g.cons.lookup x with
  | some (.ref C) => some (.ref C)
  | _ => none) else none
def tCl (g : G) (N : List Str) (sc : Scope) : List ExceptHandler → List ClR
  | [] => []
  | .ExceptHandler (some (.Name x _)) none (b :: suite) _ :: r => (match clsVal g sc x with
    | some c => .one c none (fun a cls d => sBody (sS g N sc "" a cls d) (b :: suite)) :: tCl g N sc r
    | none => [.dead])
  | .ExceptHandler (some (.Name x _)) (some n) (b :: suite) _ :: r => (match clsVal g sc x, ix? N n with
    | some c, some i => if sc.names.lookup n = some .local then .one c (some i) (fun a cls d => sBody (sS g N sc n a cls d) (b :: suite)) :: tCl g N sc r else [.dead]
    | _, _ => [.dead])
  | _ => [.dead]
theorem clsVal_ok {g : G} {X : Cx} {N : List Str} {sc : Scope} (c : BOk g X N sc) {x : Str} {v : Value} (h : clsVal g sc x = some v) : Names X x v := by
  obtain ⟨lev, gok⟩ := c.gok
  unfold clsVal at h
  split at h
  · rename_i hc
    split at h
    · rename_i C e
      cases h
      obtain ⟨u, h1, h2⟩ := gok.cons _ (lookup_mem e)
      obtain rfl : u = Value.ref C := h2
      refine ⟨?_, plain_d hc.1, .inl h1⟩
      unfold Gl Env.kindOf
      rw [c.hsc]
      exact hc.2
    · cases h
  · cases h
theorem tCl_ok {g : G} {X : Cx} {N : List Str} {sc : Scope} (c : BOk g X N sc) : ∀ (l : List ExceptHandler), ClOk X l (tCl g N sc l) := by
  intro l
  fun_induction tCl g N sc l with
  | case1 => exact .nil
  | case2 x np b suite pos r v e ih => exact .one (clsVal_ok c e) (fun a oe cls d pn hz hf => sBody_ok (fun st => sS_ok c hz hf st) _) ih
  | case3 => exact .dead
  | case4 x np n b suite pos r v i e2 e1 hl ih =>
    refine .as_ (clsVal_ok c e1) (by rw [c.hN]; exact ix_get e2) ?_ (fun a oe cls d pn hz hf => sBody_ok (fun st => sS_ok c hz hf st) _) ih
    unfold Env.kindOf
    rw [c.hsc]
    exact hl
  | case5 => exact .dead
  | case6 => exact .dead
  | case7 => exact .dead
end WR

set_option Elab.async false
set_option linter.all false
set_option maxRecDepth 100000
set_option maxHeartbeats 4000000
namespace WR
open PySem PySem.Spec PyProof.Rows L2

def isName : Expr → Bool
  | .Name _ _ => true
  | _ => false
def tupPair : Expr → Expr → Bool
  | .Tuple _ _ _, .Tuple _ _ _ => true
  | .List _ _, .Tuple _ _ _ => true
  | _, _ => false
theorem tupPair_ok {t v : Expr} {env : Env} (h : tupPair t v = false) : swappedStores [t] v env = pure none := by
  cases t <;> first
    | rfl
    | (cases v <;> first | rfl | exact absurd h.symm Bool.false_ne_true)
def cPar3 (i j l : Nat) (ta : TA) : TS := fun D σ H => ta σ H fun vs H1 => match vs with
  | [u, v, w] => D.nx (((σ.set i (some u)).set j (some v)).set l (some w)) H1
  | _ => False
def anyOwn (scope : Scope) (y : Str) : Bool := scope.names.any fun (n, k) => n == y && (k == .local || k == .cell)
/-- target = value, generally -/
def tAsgG (g : G) (f : Expr → OE) (N : List Str) (sc : Scope) (tg v : Expr) : Option (WX → TS) :=
  if tupPair tg v = false ∧ notStar tg = true ∧ (notComp v = true ∨ isName tg = false) then (match tG g.K f N sc (fun _ => true) 12 tg, f v with
    | some gt, some tv => some fun W => tAsg (tv W) (gt W)
    | _, _ => none) else none
def tParS (g : G) (f : Expr → OE) (N : List Str) (sc : Scope) : Expr → Expr → Option (WX → TS)
  | .Tuple ts _ _, .Tuple vs _ _ => (match swR sc ts vs, tArgs f vs with
    | some (some _), some t => (match ts, vs with
      | [.Name x _, .Name y _], [_, _] => if sc.names.lookup x = some .local ∧ sc.names.lookup y = some .local ∧ x ≠ y ∧ swR sc ts vs = some (some [x, y]) then (match ix? N x, ix? N y with
          | some i, some j => some fun W => cPar i j (t W)
          | _, _ => none) else none
      | [.Name x _, .Name y _, .Name z _], [_, _, _] => if sc.names.lookup x = some .local ∧ sc.names.lookup y = some .local ∧ sc.names.lookup z = some .local ∧ x ≠ y ∧ x ≠ z ∧ y ≠ z ∧ swR sc ts vs = some (some [x, y, z]) then (match ix? N x, ix? N y, ix? N z with
          | some i, some j, some l => some fun W => cPar3 i j l (t W)
          | _, _, _ => none) else none
      | _, _ => none)
    | some none, some t => (match tGs g.K f N sc (fun _ => true) 12 ts with
      | some gs => if ts.all notStar = true then some fun W => tAsg (tTup (t W)) (cTupG g.K ts.length (gs W)) else none
      | none => none)
    | _, _ => none)
  | _, _ => none
/-- name = [.. for ..] -/
def tSetLc (g : G) (n : Nat) (N : List Str) (sc : Scope) : Expr → Expr → Option (WX → TS)
  | .Name y py, .ListComp elt [⟨tg, iter, ifs, 0⟩] scope pos =>
    if plainName y = true ∧ sc.names.lookup y = some .local ∧ (py.line == pos.line) = true ∧ anyOwn scope y = false ∧ blkC N sc scope (ownOf N scope) = true then
      (match ix? N y, tI g (tE g n N sc) sc tg iter, tG g.K (tE g n N (relS scope sc)) N (relS scope sc) (okBlk scope) 12 tg, tIfs (tT g n N (relS scope sc)) ifs, tE g n N (relS scope sc) elt with
      | some i, some wi, some gt, some tt, some te => some fun W D σ H => tAsg (cLc (wi W) (gt wNone) (tt wNone) (te wNone) ((ownOf N scope).map (·.2))) (gName i) D σ H ∨ tLock (tAsg (cLc (wi W) (gt wNone) (tt wNone) (te wNone) ((ownOf N scope).map (·.2))) (gName i)) D σ H
      | _, _, _, _, _ => none)
    else none
  | .Name y py, .ListComp elt gs scope pos =>
    if sc.names.lookup y ≠ some .local ∨ (py.line == pos.line) = false ∨ anyOwn scope y = true then (match tG g.K (tE g n N sc) N sc (fun _ => true) 12 (.Name y py), tE g n N sc (.ListComp elt gs scope pos) with
      | some gt, some tv => some fun W => tAsg (tv W) (gt W)
      | _, _ => none) else none
  | _, _ => none
def tAssign (g : G) (n : Nat) (N : List Str) (sc : Scope) (tg v : Expr) : Option (WX → TS) := match tg with
  | .Attribute o a _ => if baseOk o = true then (match g.ats.lookup a, tE g n N sc o, tE g n N sc v with
    | some cs, some to, some tv => some fun W => cFldS cs a (to W) (tv W)
    | _, _, _ => none) else none
  | _ => match tSetLc g n N sc tg v with
    | some t => some t
    | none => match tParS g (tE g n N sc) N sc tg v with
      | some t => some t
      | none => tAsgG g (tE g n N sc) N sc tg v
def orBad (o : Option (WX → TS)) : WX → TS := match o with
  | some t => t
  | none => bad
def tBody (f : Stmt → WX → TS) : List Stmt → WX → TS
  | [] => fun _ => tNext
  | [s] => f s
  | s :: r => fun W => tSeq (f s W) (tBody f r W)
def tRaise (g : G) (f : Expr → OE) (sc : Scope) : Expr → Option (WX → TS)
  | .Call (.Name x _) [e] [] _ => if plainName x = true ∧ sc.names.lookup x = some .globalImplicit ∧ notStar e = true then (match g.xcs.find? (fun i => decide (i.name = x)), f e with
    | some i, some te => some fun W _ σ H => tMkX i.C i.f (te W) σ H fun cls d H' => W cls d σ H'
    | _, _ => none) else none
  | _ => none
def tS (g : G) : Nat → List Str → Scope → Stmt → WX → TS
  | 0, _, _, _ => fun _ => tNever
  | n + 1, N, sc, st => fun W => match st with
    | .Pass _ => tNext
    | .Break _ => tBreak
    | .Continue _ => tCont
    | .Expr e _ => if notComp e = true then orBad ((tE g n N sc e).map fun t W => tDrop (t W)) W else tNever
    | .Return none _ => tRetN
    | .Return (some e) _ => orBad ((tE g n N sc e).map fun t W => tRet (t W)) W
    | .Assign [tg] v _ => orBad (tAssign g n N sc tg v) W
    | .AugAssign (.Name x _) op v _ => orBad (match sc.names.lookup x, ix? N x, iopR g.K op, tE g n N sc v with
      | some .local, some i, some r, some tv => some fun W => cAug i (tv W) r
      | some .cell, some i, some r, some tv => some fun W => cAug i (tv W) r
      | _, _, _, _ => none) W
    | .AugAssign (.Attribute o a _) .Add v _ => orBad (match g.ats.lookup a, tE g n N sc o, tE g n N sc v with
      | some cs, some to, some tv => some fun W => cFldAug cs a false (to W) (tv W)
      | _, _, _ => none) W
    | .AugAssign (.Attribute o a _) .Sub v _ => orBad (match g.ats.lookup a, tE g n N sc o, tE g n N sc v with
      | some cs, some to, some tv => some fun W => cFldAug cs a true (to W) (tv W)
      | _, _, _ => none) W
    | .If c a b _ => (match tT g n N sc c with
      | some tc => tIfS (tc W) (tBody (tS g n N sc) a W) (tBody (tS g n N sc) b W)
      | none => tNever)
    | .While c a [] _ => (match tT g n N sc c with
      | some tc => cWhile (tc W) (tBody (tS g n N sc) a W)
      | none => tNever)
    | .For tg iter body [] _ => (match tI g (tE g n N sc) sc tg iter, tG g.K (tE g n N sc) N sc (fun _ => true) 12 tg with
      | some wi, some gt => fun D σ H => cFor (wi W) (gt W) (tBody (tS g n N sc) body W) D σ H ∨ tLock (cFor (wi W) (gt W) (tBody (tS g n N sc) body W)) D σ H
      | _, _ => tNever)
    | .Raise (some e) none _ => orBad (tRaise g (tE g n N sc) sc e) W
    | .Try body (h0 :: hs) [] [] _ => fun D σ H => tBody (tS g n N sc) body (wCl g.K W D (tCl g N sc (h0 :: hs))) D σ H
    | _ => tNever

/-- where a statement is read -/
structure KOk (g : G) (lev : Nat) (X : Cx) (N : List Str) (sc : Scope) (W : WX) : Prop extends COk g lev X N sc W where
  hp : PassesOwn (model X.prog X.w) X.A X.env X.xe
  stk : X.stack = X.env :: X.outer
  fr : X.env.frame = some X.env.locals
  hfn : ∀ x, X.fn x = true
  kind : X.env.scope.kind = .function
section
variable {g : G} {lev : Nat} {X : Cx} {N : List Str} {sc : Scope} {W : WX} {f : Expr → OE}
theorem ps_bad {st : Stmt} : PS X st tNever := ps_never
theorem orBad_ok {st : Stmt} {o : Option (WX → TS)} (h : ∀ t, o = some t → PS X st (t W)) : PS X st (orBad o W) := by
  unfold orBad
  split
  · exact h _ rfl
  · exact ps_never
theorem KOk.tr (c : KOk g lev X N sc W) {W' : WX} {pn : List (Addr × Obj)} {xe : Value → Shared → Prop} (tk : Takes (X.tr pn xe) W') (hp : PassesOwn (model X.prog X.w) X.A X.env xe) : KOk g lev (X.tr pn xe) N sc W' where
  gok := c.gok
  hK := c.hK
  hN := c.hN
  hsc := c.hsc
  nd := c.nd
  calm := c.calm
  tk := tk
  room := c.room
  gd := c.gd
  room2 := c.room2
  hp := hp
  stk := c.stk
  fr := c.fr
  hfn := c.hfn
  kind := c.kind
theorem tRaise_ok (c : KOk g lev X N sc W) (h : SE X W f) {e : Expr} {pos : Pos} {t : WX → TS} (q : tRaise g f sc e = some t) : PS X (.Raise (some e) none pos) (t W) := by
  unfold tRaise at q
  split at q
  · split at q
    · rename_i hc
      obtain ⟨h1, h2, h3⟩ := hc
      split at q
      · rename_i i te ei ee
        cases q
        have hi := List.mem_of_find?_eq_some ei
        have hn := List.find?_some ei
        simp only [decide_eq_true_eq] at hn
        obtain ⟨b, fI, fd, px, m1, m2, m3, m4, m5, m6, m7, m8⟩ := c.gok.xcs i hi
        rw [← c.hK] at m2 m3 m4 m5 m6 m7 m8
        rw [hn] at m1
        refine ps_raise c.calm c.tk (pmk_x m2 m4 m5 m6 m7 c.room2 m8 ?_ h1 m1 h3 (h _ _ ee))
        unfold Gl Env.kindOf
        rw [c.hsc]
        exact h2
      · cases q
    · cases q
  · cases q
theorem KOk.bk (c : KOk g lev X N sc W) : X.env.blockKind = .function := by unfold Env.blockKind; rw [c.kind]; rfl
theorem tAsgG_ok (c : KOk g lev X N sc W) (h : SE X W f) {tg v : Expr} {pos : Pos} {t : WX → TS} (q : tAsgG g f N sc tg v = some t) : PS X (.Assign [tg] v pos) (t W) := by
  unfold tAsgG at q
  split at q
  · rename_i hc
    obtain ⟨h1, h2, h3⟩ := hc
    split at q
    · rename_i e1 e2
      cases q
      refine ps_asg (h _ _ e2) (tG_ok c.toCOk h (fun x _ => c.hfn x) 12 _ _ e1) ?_ (tupPair_ok h1) (by rw [assign_star h2]; rfl)
      show swapsWith v (some tg) pos.line X.env = pure false
      rcases h3 with h3 | h3
      · exact notComp_sw h3
      · cases tg <;> first | (exact absurd h3.symm Bool.false_ne_true) | (cases v <;> rfl)
    · cases q
  · cases q
theorem tParS_ok (c : KOk g lev X N sc W) (h : SE X W f) {tg v : Expr} {pos : Pos} {t : WX → TS} (q : tParS g f N sc tg v = some t) : PS X (.Assign [tg] v pos) (t W) := by
  unfold tParS at q
  split at q
  · rename_i ts k p vs k2 p2
    split at q
    · rename_i nm ta e1 e2
      obtain ⟨a1, a2, a3⟩ := tArgs_ok h e2
      split at q
      · split at q
        · rename_i hc
          obtain ⟨l1, l2, ne, hsw⟩ := hc
          split at q
          · rename_i i j i1 i2
            cases q
            have hij : i ≠ j := fun e => ne (by
              have z1 := ix_get i1; have z2 := ix_get i2
              rw [e] at z1; rw [z1] at z2; exact Option.some.inj z2)
            refine PS_imp (ps_par (X := X) (pos := pos) c.calm c.nd (by rw [c.hN]; exact ix_get i1) (by rw [c.hN]; exact ix_get i2) hij (by rw [c.hsc]; exact l1) (by rw [c.hsc]; exact l2) (PA_up a1) (swR_ok c.bk c.hsc hsw) rfl) fun D σ H q => ⟨_, q, fun vs H1 q => ?_⟩
            try dsimp only at q
            split at q
            · exact ⟨_, _, rfl, q⟩
            · exact q.elim
          · cases q
        · cases q
      · split at q
        · rename_i hc
          obtain ⟨l1, l2, l3, ne1, ne2, ne3, hsw⟩ := hc
          split at q
          · rename_i i j l i1 i2 i3
            cases q
            have dif : ∀ {a b : Str} {m n : Nat}, a ≠ b → ix? N a = some m → ix? N b = some n → m ≠ n := fun ne i1 i2 e => ne (by
              have z1 := ix_get i1; have z2 := ix_get i2
              rw [e] at z1; rw [z1] at z2; exact Option.some.inj z2)
            refine PS_imp (ps_par3 (X := X) (pos := pos) c.calm c.nd (by rw [c.hN]; exact ix_get i1) (by rw [c.hN]; exact ix_get i2) (by rw [c.hN]; exact ix_get i3) (dif ne1 i1 i2) (dif ne2 i1 i3) (dif ne3 i2 i3) (by rw [c.hsc]; exact l1) (by rw [c.hsc]; exact l2) (by rw [c.hsc]; exact l3) (PA_up a1) (swR_ok c.bk c.hsc hsw) rfl) fun D σ H q => ⟨_, q, fun vs H1 q => ?_⟩
            try dsimp only at q
            split at q
            · exact ⟨_, _, _, rfl, q⟩
            · exact q.elim
          · cases q
        · cases q
      · cases q
    · rename_i ta e1 e2
      obtain ⟨a1, a2, a3⟩ := tArgs_ok h e2
      split at q
      · rename_i gs e3
        split at q
        · rename_i hs
          cases q
          have z := tGs_ok (okc := fun _ => true) c.toCOk h (fun x _ => c.hfn x) 12 _ _ e3
          refine ps_asg (pe_tup a1) ⟨fun pins s σ H v w Q I r hw => (pg_tup c.calm z assign_len (assign_none hs)).run pins s σ H v w Q I r ?_⟩ rfl (swR_ok c.bk c.hsc e1) rfl
          simp only [cTupG] at hw
          split at hw
          · split at hw
            · rename_i e; exact ⟨_, _, rfl, by rw [c.hK]; exact look_tup e, hw.1, hw.2⟩
            · exact hw.elim
          · exact hw.elim
        · cases q
      · cases q
    · cases q
  · cases q

theorem ps_orLock {st : Stmt} {t : TS} (h : PS X st t) : PS X st (fun D σ H => t D σ H ∨ tLock t D σ H) :=
  ⟨fun pins s σ H D I q => q.elim (fun q => h.run pins s σ H D I q) fun q => (ps_lock h).run pins s σ H D I q⟩
theorem seE (c : COk g lev X N sc W) (n : Nat) : SE X W (tE g n N sc) := fun e t q => (tET_ok g n).1 _ _ e t q c
theorem seT (c : COk g lev X N sc W) (n : Nat) : ST X W (tT g n N sc) := fun e t q => (tET_ok g n).2 _ _ e t q c
theorem sw_off {env : Env} {sc scope : Scope} {y : Str} {lb : Bool} (hs : env.scope = sc) (h : sc.names.lookup y ≠ some .local ∨ lb = false ∨ anyOwn scope y = true) :
    (env.blockKind == .function && env.kindOf y == some .local && lb && !(scope.names.any fun (n, k) => n == y && (k == .local || k == .cell))) = false := by
  rcases h with h | h | h
  · have : (env.kindOf y == some NameKind.local) = false := by
      unfold Env.kindOf; rw [hs]; exact beq_eq_false_iff_ne.mpr h
    rw [this]; simp
  · rw [h]; simp
  · have : (scope.names.any fun (n, k) => n == y && (k == .local || k == .cell)) = true := h
    rw [this]; simp
theorem tSetLc_ok (c : KOk g lev X N sc W) {n : Nat} {tg v : Expr} {pos : Pos} {t : WX → TS} (q : tSetLc g n N sc tg v = some t) : PS X (.Assign [tg] v pos) (t W) := by
  have c0 := c.toCOk
  unfold tSetLc at q
  split at q
  · split at q
    · rename_i hc
      obtain ⟨h0, h1, h2, h3, h4⟩ := hc
      split at q
      · rename_i i wi gt tt te e1 e2 e3 e4 e5
        cases q
        obtain ⟨i1, i2⟩ := tI_ok c0 (seE c0 n) e2
        have ok : BlkOk X.N X.env.scope _ _ := blkOk_by (by rw [c.hN, c.hsc]; exact h4)
        refine ps_orLock (PS_imp (ps_setLc c.calm c.nd (by rw [c.hN]; exact ix_get e1) (by rw [c.hsc]; exact h1) (sw_true c.kind (by rw [c.hsc]; exact h1) h2 h3) (PI_up i1) ok (fun s H C cl fp => tG_ok (cok_blk c0) (seE (cok_blk c0) n) blk_fn 12 _ _ e3)
          (fun s H C cl fp => tIfs_ok (seT (cok_blk c0) n) e4) (fun s H C cl fp => seE (cok_blk c0) n _ _ e5) (fun x => notSet_f i2)) fun D σ H h => ⟨_, h, fun J H' q D hD => lpc_W (q D hD)⟩)
      · cases q
    · cases q
  · split at q
    · rename_i hc
      split at q
      · rename_i e1 e2
        cases q
        refine ps_asg (seE c0 n _ _ e2) (tG_ok c0 (seE c0 n) (fun x _ => c.hfn x) 12 _ _ e1) ?_ rfl rfl
        refine Eq.trans (sw_cond (l := pos.line)) ?_
        refine congrArg (pure : Bool → Sem Bool) ?_
        exact sw_off c.hsc hc
      · cases q
    · cases q
  · cases q
theorem tAssign_ok (c : KOk g lev X N sc W) {n : Nat} {tg v : Expr} {pos : Pos} {t : WX → TS} (q : tAssign g n N sc tg v = some t) : PS X (.Assign [tg] v pos) (t W) := by
  have c0 := c.toCOk
  unfold tAssign at q
  split at q
  · split at q
    · rename_i hb
      split at q
      · rename_i e1 e2 e3
        cases q
        refine PS_imp (ps_fld (PE_up (seE c0 n _ _ e2)) (PE_up (seE c0 n _ _ e3)) ?_) fun D σ H q => ⟨_, q, fun y H1 q => ⟨_, q, fun x H2 q => ?_⟩⟩
        · cases v <;> rfl
        · try dsimp only at q
          split at q
          · split at q
            · rename_i ea
              obtain ⟨k1, k2⟩ := c.gok.ats _ (lookup_mem e1) _ q.1
              rw [c.hK]
              exact ⟨_, _, _, _, rfl, ea, k1, k2, q.2.1, q.2.2⟩
            · exact q.elim
          · exact q.elim
      · cases q
    · cases q
  · split at q
    · rename_i e; cases q; exact tSetLc_ok c e
    · split at q
      · rename_i e; cases q; exact tParS_ok c (seE c0 n) e
      · exact tAsgG_ok c (seE c0 n) q
theorem tBody_ok {f : Stmt → WX → TS} (h : ∀ st, PS X st (f st W)) : ∀ (l : List Stmt), PSs X l (tBody f l W)
  | [] => pss_nil
  | [s] => pss_one (h s)
  | s :: s2 :: r => show PSs X _ (tSeq (f s W) (tBody f (s2 :: r) W)) from pss_cons (h s) (tBody_ok h (s2 :: r))
theorem iopR_ok (c : COk g lev X N sc W) {op : Operator} {r : R2} (h : iopR g.K op = some r) : OpR X (inplaceOp op) r := by
  unfold iopR at h
  rw [← c.hK] at h
  split at h <;> cases h
  · exact r_iadd
  · exact r_isub
theorem aug_ok (c : KOk g lev X N sc W) {n : Nat} {x : Str} {px pos : Pos} {op : Operator} {v : Expr} {k : NameKind} {i : Nat} {r : R2} {tv : WX → TE} (hk : sc.names.lookup x = some k) (hkk : k = .local ∨ k = .cell) (hi : ix? N x = some i) (hr : iopR g.K op = some r) (hv : tE g n N sc v = some tv) :
    PS X (.AugAssign (.Name x px) op v pos) (cAug i (tv W) r) := by
  refine PS_imp (ps_aug (ti := r) c.nd (by rw [c.hN]; exact ix_get hi) ?_ (PE_up (seE c.toCOk n _ _ hv)) (iopR_ok c.toCOk hr) (.inl (c.hfn x))) fun D σ H q => ?_
  · unfold L2.Loc; rw [c.hsc, hk]; rcases hkk with rfl | rfl <;> simp
  · unfold cAug at q
    split at q
    · rename_i x e; exact ⟨x, e, _, q, fun _ _ q => q⟩
    · exact q.elim
theorem fldaug_ok (c : KOk g lev X N sc W) {n : Nat} {o v : Expr} {a : Str} {p pos : Pos} {cs : List Addr} {to tv : WX → TE} (sub : Bool) (h1 : g.ats.lookup a = some cs) (h2 : tE g n N sc o = some to) (h3 : tE g n N sc v = some tv) :
    PS X (.AugAssign (.Attribute o a p) (if sub then .Sub else .Add) v pos) (cFldAug cs a sub (to W) (tv W)) := by
  have c0 := c.toCOk
  have key : ∀ (rd : V → V → Hp → VK → Prop) (hop : InOp X (if sub then .Sub else .Add) rd), (∀ i j H Q, Q (.int (if sub then i - j else i + j)) H → rd (.int i) (.int j) H Q) → PS X (.AugAssign (.Attribute o a p) (if sub then .Sub else .Add) v pos) (cFldAug cs a sub (to W) (tv W)) := fun rd hop hrd => by
    refine PS_imp (ps_fldaug (PE_up (seE c0 n _ _ h2)) (PE_up (seE c0 n _ _ h3)) hop) fun D σ H q => ⟨_, q, fun x H1 q => ?_⟩
    try dsimp only at q
    split at q
    · split at q
      · rename_i ea
        obtain ⟨hC, q⟩ := q
        obtain ⟨k1, k2⟩ := c.gok.ats _ (lookup_mem h1) _ hC
        rw [c.hK]
        split at q
        · rename_i el
          refine ⟨_, _, _, _, _, rfl, ea, k1, k2, el, _, q, fun y H2 q => ?_⟩
          try dsimp only at q
          split at q
          · split at q
            · rename_i eb
              obtain ⟨rfl, hl, q⟩ := q
              exact hrd _ _ _ _ ⟨_, _, eb, hl, q⟩
            · exact q.elim
          · exact q.elim
        · exact q.elim
      · exact q.elim
    · exact q.elim
  cases sub with
  | true => exact key rSub in_sub fun i j H Q q => ⟨i, j, rfl, rfl, q⟩
  | false => exact key rAdd in_add fun i j H Q q => ⟨i, j, rfl, rfl, q⟩
theorem lpw_W {c : TT} {tb : TS} {D : Ends} {σ : St} {H : Hp} (h : ∃ n, lpw c tb D n σ H) : tWhile (upT c) tb D σ H := by
  obtain ⟨n, h⟩ := h
  refine ⟨fun m σ H => lpw c tb D m σ H, ⟨n, h⟩, fun m σ H w => ?_⟩
  cases m with
  | zero => exact w.elim
  | succ m =>
    refine ⟨_, w, fun b H1 q => ?_⟩
    cases b with
    | true => exact iteT ⟨_, fun σ' H' z => ⟨m, Nat.lt_succ_self _, z⟩, by simpa using q⟩
    | false => exact iteF (by simpa using q)
/-- THE READING OF STATEMENTS IS RIGHT -/
theorem tS_ok : ∀ (n : Nat) {X : Cx} {W : WX} (c : KOk g lev X N sc W) (st : Stmt), PS X st (tS g n N sc st W)
  | 0, X, W, c, st => ps_bad
  | n + 1, X, W, c, st => by
    have c0 := c.toCOk
    have ih := fun st => tS_ok n c st
    unfold tS
    split
    · exact ps_pass
    · exact ps_break
    · exact ps_continue
    · split
      · rename_i hn
        refine orBad_ok fun t q => ?_
        obtain ⟨u, hu, rfl⟩ := Option.map_eq_some_iff.mp q
        exact ps_expr (seE c0 n _ _ hu) (notComp_sw hn)
      · exact ps_bad
    · exact ps_retN
    · refine orBad_ok fun t q => ?_
      obtain ⟨u, hu, rfl⟩ := Option.map_eq_some_iff.mp q
      exact ps_ret (seE c0 n _ _ hu)
    · exact orBad_ok fun t q => tAssign_ok c q
    · refine orBad_ok fun t q => ?_
      split at q
      · rename_i e1 e2 e3 e4; cases q; exact aug_ok c e1 (.inl rfl) e2 e3 e4
      · rename_i e1 e2 e3 e4; cases q; exact aug_ok c e1 (.inr rfl) e2 e3 e4
      · cases q
    · refine orBad_ok fun t q => ?_
      split at q
      · rename_i e1 e2 e3; cases q; exact fldaug_ok c false e1 e2 e3
      · cases q
    · refine orBad_ok fun t q => ?_
      split at q
      · rename_i e1 e2 e3; cases q; exact fldaug_ok c true e1 e2 e3
      · cases q
    · split
      · rename_i e; exact ps_if (seT c0 n _ _ e) (tBody_ok ih _) (tBody_ok ih _)
      · exact ps_bad
    · split
      · rename_i e
        exact PS_imp (ps_while c.hp (PT_up (seT c0 n _ _ e)) (tBody_ok ih _)) fun D σ H q => lpw_W q
      · exact ps_bad
    · split
      · rename_i e1 e2
        obtain ⟨i1, i2⟩ := tI_ok c0 (seE c0 n) e1
        refine ps_orLock (PS_imp (ps_for c.hp c.calm (PI_up i1) (tG_ok c0 (seE c0 n) (fun x _ => c.hfn x) 12 _ _ e2) (tBody_ok ih _) (fun x => notSet_f i2)) fun D σ H q => ⟨_, q, fun J H1 q => lp_W q⟩)
      · exact ps_bad
    · exact orBad_ok fun t q => tRaise_ok c (seE c0 n) q
    · rw [← c.hK]
      exact ps_tryW c.stk c.fr c.nd c.tk (fun W' pn xe tk' hp' => tBody_ok (fun st => tS_ok n (c.tr tk' hp') st) _) (tCl_ok c0.b _)
    · exact ps_bad
end
end WR

set_option Elab.async false
set_option linter.all false
set_option maxRecDepth 100000
set_option maxHeartbeats 4000000
namespace WR
open PySem PySem.Spec PyProof.Rows L2

/-! ## defs keep the reading of their bodies -/
/-- a def of the text: its statement, all its names (parameters first), its parameters -/
structure Df where
  at_ : Str × Option Str
  name : Str
  qual : Str
  st : Stmt
  N : List Str
  P : List Str
  dfl : List He.Dv := []
  kwd : List (Str × He.Dv) := []
def Df.d (d : Df) : He.DefD := ⟨d.at_, d.name, d.qual, defArgs d.st, defBody d.st, defScope d.st, d.dfl, d.kwd⟩
/-- what a def does: its body's reading, the table g behind it -/
def wpDf (g : G) (m : Nat) (d : Df) : Sp := fun vs H Q E => vs.length = d.P.length ∧
  tBody (tS g m d.N (defScope d.st)) (defBody d.st) (fun cls dd _ H => E cls dd H) { nx := fun _ H' => Q .non H', rt := Q } (start d.N vs) H
section
variable {P : Program} {w : World} {mg : Str → Option Value} {base : Heap} {g : G} {lev : Nat}
theorem df_of {params : Arguments} {dvs : List V} {kws : List (Str × V)} {x qual : Str} {d : Df} {f : Addr} {fd : FuncData} (F : FunD g.K x qual (defArgs d.st) (defBody d.st) (defScope d.st) dvs kws f fd) (S : FnScope d.N d.P (defScope d.st)) (ok : GOk g P w mg base lev) (m : Nat) :
    FnW P w g.K mg base (L2.CX P w) (lev + 3) f fd d.P (wpDf g m d) := by
  refine fnW_of (k := lev + 2) F S (fun vs H Q E h => h.1) fun cdv A outer s H vs Q E hr gd h => ?_
  have c : KOk g lev (cxOf (L2.CX P w) P w g.K mg base d.N qual (defScope d.st) f cdv A outer s H E) d.N (defScope d.st) (fun cls dd _ H => E cls dd H) := {
    gok := ok, hK := rfl, hN := rfl, hsc := rfl, nd := S.nd, calm := rfl, tk := takes_of rfl rfl rfl rfl, room := hr.mono (Nat.le_succ _), gd := gd, room2 := hr.mono (Nat.le_add_left 2 lev), hp := passes_of rfl, stk := rfl, fr := rfl, hfn := fun _ => rfl, kind := S.kind }
  exact ⟨_, tBody_ok (fun st => tS_ok m c st) _, h.2⟩
end

/-! ## the table at each depth -/
/-- a call pattern: the def's name, how many values are written, the keywords, the order -/
structure Cp where
  name : Str
  n : Nat
  ks : List Str
  arr : List V → List V → List V
structure Cm where
  cls : Addr
  name : Str
  n : Nat
  ks : List Str
  arr : List V → List V → List V
  df : Str
structure Ck where
  name : Str
  cls : Addr
  n : Nat
  ks : List Str
  arr : List V → List V → List V
  df : Str
structure Tb where
  K : PySem.W.Frag
  cps : List Cp
  cons : List (Str × V)
  blt : List Str
  cms : List Cm
  cks : List Ck
  ats : List (Str × List Addr)
  nes : List (Str × Addr)
  xcs : List XcI := []
/-- the table, the defs promising S -/
def gOf (t : Tb) (S : Str → Sp) : G where
  K := t.K
  fns := t.cps.map fun c => ⟨c.name, c.n, c.ks, c.arr, S c.name⟩
  cons := t.cons
  blt := t.blt
  mts := t.cms.map fun c => ⟨c.cls, c.name, c.n, c.ks, c.arr, S c.df⟩
  mks := t.cks.map fun c => ⟨c.name, c.cls, c.n, c.ks, c.arr, S c.df⟩
  ats := t.ats
  nes := t.nes
  xcs := t.xcs
/-- the promises of all defs, n calls deep -/
def spAt (t : Tb) (m : Nat) (ds : List (Str × Df)) : Nat → Str → Sp
  | 0 => fun _ _ _ _ _ => False
  | n + 1 => fun x => match ds.lookup x with
    | some d => wpDf (gOf t (spAt t m ds n)) m d
    | none => fun _ _ _ _ => False
theorem spAt_succ {t : Tb} {m : Nat} {ds : List (Str × Df)} {n : Nat} {x : Str} {d : Df} (h : ds.lookup x = some d) : spAt t m ds (n + 1) x = wpDf (gOf t (spAt t m ds n)) m d := by
  show (match ds.lookup x with | some d => wpDf (gOf t (spAt t m ds n)) m d | none => fun _ _ _ _ => False) = _
  rw [h]

/-- a promise that is never kept is any def's -/
theorem fnW_false {P : Program} {w : World} {K : PySem.W.Frag} {mg : Str → Option Value} {base : Heap} {k : Nat} {f : Addr} {fd : FuncData} {ps : List Str} : FnW P w K mg base (L2.CX P w) k f fd ps (fun _ _ _ _ => False) := FnW.false_

/-- what the top has written: facts that are independent of the promises. fa, fd: where each def stands -/
structure TOk (t : Tb) (ds : List (Str × Df)) (mg : Str → Option Value) (fa : Str → Addr) (fd : Str → FuncData) : Prop where
  fun_ : ∀ p ∈ ds, FnScope p.2.N p.2.P (defScope p.2.st) ∧ ∃ x qual dvs kws, FunD t.K x qual (defArgs p.2.st) (defBody p.2.st) (defScope p.2.st) dvs kws (fa p.1) (fd p.1)
  cps : ∀ c ∈ t.cps, mg c.name = some (.ref (fa c.name)) ∧ PySem.W.keepIn t.K (.ref (fa c.name)) = true ∧ ∃ d gf, ds.lookup c.name = some d ∧ KBn t.K (fd c.name) d.P c.n c.ks gf c.arr
  cons : ∀ p ∈ t.cons, ∃ u, mg p.1 = some u ∧ RelV p.2 u
  blt : ∀ x ∈ t.blt, mg x = none
  cms : ∀ m ∈ t.cms, Cls t.K m.cls ∧ Meth t.K m.cls m.name (fa m.df) ∧ ∃ d gf, ds.lookup m.df = some d ∧ KBn t.K (fd m.df) d.P (m.n + 1) m.ks gf (fun vs zs => match vs with | v :: r => v :: m.arr r zs | [] => [])
  cks : ∀ m ∈ t.cks, mg m.name = some (.ref m.cls) ∧ Mk t.K m.cls (fa m.df) ∧ ∃ d gf, ds.lookup m.df = some d ∧ KBn t.K (fd m.df) d.P (m.n + 1) m.ks gf (fun vs zs => match vs with | v :: r => v :: m.arr r zs | [] => [])
  ats : ∀ p ∈ t.ats, ∀ C ∈ p.2, Cls t.K C ∧ NoAttr t.K C p.1
  nes : ∀ p ∈ t.nes, ownB t.K p.2 = true
  nec : ∀ p ∈ t.nes, Cls t.K p.2
  sys : sysB t.K = true
  xcs : ∀ x ∈ t.xcs, ∃ b fI fd px, mg x.name = some (.ref x.C) ∧ XcC t.K b x.C ∧ XfC t.K x.C ∧ PySem.W.findIn t.K (.ref x.C) x.f = some none ∧ PySem.W.findIn t.K (.ref x.C) "__init__" = some (some (.ref fI)) ∧
    PySem.W.typeIn t.K (.ref fI) = some (.type "function") ∧ (∀ (P : Program) (w : World) (base : Heap), FnOk P w t.K mg base (L2.CX P w) 1 fI fd ["self", px] (spX b t.K x.f)) ∧ Binds t.K fd ["self", px] []
section
variable {P : Program} {w : World} {t : Tb} {m : Nat} {ds : List (Str × Df)} {mg : Str → Option Value} {base : Heap} {fa : Str → Addr} {fd : Str → FuncData}
theorem spAt_ok (T : TOk t ds mg fa fd) : ∀ (n : Nat) (x : Str) (d : Df), ds.lookup x = some d → FnW P w t.K mg base (L2.CX P w) (3 * n) (fa x) (fd x) d.P (spAt t m ds n x)
  | 0, x, d, h => fnW_false
  | n + 1, x, d, h => by
    have G : GOk (gOf t (spAt t m ds n)) P w mg base (3 * n) := by
      refine ⟨fun f hf => ?_, T.cons, T.blt, fun f hf => ?_, fun f hf => ?_, T.ats, T.nes, T.nec, T.sys, fun x hx => ?_⟩
      · obtain ⟨c, hc, rfl⟩ := List.mem_map.mp hf
        obtain ⟨h1, h2, d', gf, h3, h4⟩ := T.cps c hc
        exact ⟨fa c.name, fd c.name, d'.P, gf, h1, h2, spAt_ok T n _ _ h3, h4⟩
      · obtain ⟨c, hc, rfl⟩ := List.mem_map.mp hf
        obtain ⟨h1, h2, d', gf, h3, h4⟩ := T.cms c hc
        exact ⟨fa c.df, fd c.df, d'.P, gf, h1, h2, spAt_ok T n _ _ h3, h4⟩
      · obtain ⟨c, hc, rfl⟩ := List.mem_map.mp hf
        obtain ⟨h1, h2, d', gf, h3, h4⟩ := T.cks c hc
        exact ⟨fa c.df, fd c.df, d'.P, gf, h1, h2, spAt_ok T n _ _ h3, h4⟩
      · obtain ⟨b, fI, fd, px, m1, m2, m3, m4, m5, m6, m7, m8⟩ := T.xcs x hx
        exact ⟨b, fI, fd, px, m1, m2, m3, m4, m5, m6, m7 P w base, m8⟩
    rw [spAt_succ h]
    obtain ⟨S, _, _, _, _, F⟩ := T.fun_ (x, d) (PySem.mem_of_lookup h)
    exact df_of (params := defArgs d.st) F S G m
end
end WR

set_option Elab.async false
set_option linter.all false
set_option maxRecDepth 100000
set_option maxHeartbeats 4000000
namespace WR
open PySem PySem.Spec PyProof.Rows L2

/-! ## the text in symbols: no address -/
structure Ym where   -- a method's call pattern
  cls : Str
  name : Str
  n : Nat
  ks : List Str := []
  arr : List V → List V → List V := fun vs _ => vs
/-- an own exception class that is raised: its base (B.__init__), the field, the parameter, its __init__ -/
structure Yx where
  name : Str
  b : WRX.XB
  base : Str
  f : Str
  px : Str
  df : Df
structure Sy where
  ds : List (Str × Df)
  cps : List Cp
  nums : List (Str × Int) := []
  txts : List (Str × Str) := []
  blt : List Str := []
  cms : List Ym := []
  cks : List Ym := []     -- name unused: __init__
  cls : List Str := []
  ats : List (Str × List Str) := []
  nes : List Str := []
  ex : PySem.W.Frag → Bool := fun _ => true
  xcs : List Yx := []
  xcl : List Str := []    -- exception classes that are named
def mkey (c m : Str) : Str := c ++ "." ++ m
def Sy.tb (y : Sy) (K : PySem.W.Frag) : Tb where
  K := K
  cps := y.cps
  cons := y.nums.map (fun p => (p.1, V.int p.2)) ++ y.txts.map (fun p => (p.1, V.str p.2)) ++ (y.cls.map (fun c => (c, V.ref (He.ga K c))) ++ y.xcl.map (fun c => (c, V.ref (He.ga K c))))
  blt := y.blt
  cms := y.cms.map fun m => ⟨He.ga K m.cls, m.name, m.n, m.ks, m.arr, mkey m.cls m.name⟩
  cks := y.cks.map fun m => ⟨m.cls, He.ga K m.cls, m.n, m.ks, m.arr, mkey m.cls "__init__"⟩
  ats := y.ats.map fun p => (p.1, p.2.map (He.ga K))
  nes := y.nes.map fun c => (c, He.ga K c)
  xcs := y.xcs.map fun x => ⟨x.name, He.ga K x.name, x.f⟩
/-- what is asked of the written part beyond the facts -/
def yxB (K : PySem.W.Frag) (x : Yx) : Bool := (He.Fa.glo x.name).ok K && ((He.Fa.glo x.base).ok K && (xcB K x.b (He.ga K x.name) && (xfB K (He.ga K x.name) && (xpB K x.b (He.ga K x.base) && (decide (PySem.W.findIn K (.ref (He.ga K x.name)) x.f = some none) &&
  (decide (PySem.W.findIn K (.ref (He.ga K x.name)) "__init__" = some (some (.ref (He.fAd K x.df.at_)))) && decide (PySem.W.typeIn K (.ref (He.fAd K x.df.at_)) = some (.type "function"))))))))
def Sy.exB (y : Sy) (K : PySem.W.Frag) : Bool := (y.nes.all fun c => ownB K (He.ga K c)) && ((y.ex K && (y.xcs.all (yxB K) && y.xcl.all fun c => (He.Fa.glo c).ok K)) && sysB K)
def Sy.fa (y : Sy) : List He.Fa :=
  y.cps.map (fun c => .glo c.name) ++ (y.cls.map (fun c => .glo c) ++ (y.blt.map (fun x => .free x) ++ (y.nums.map (fun p => .int p.1 p.2) ++ (y.txts.map (fun p => .str p.1 p.2) ++
  (y.cls.map (fun c => .cls c) ++ (y.cms.map (fun m => .meth m.cls m.name) ++ (y.cks.map (fun m => .mkr m.cls) ++ y.ats.flatMap fun p => p.2.map fun c => .noat c p.1)))))))
def Sy.fn (y : Sy) : List He.DefD := (y.ds.map fun p => p.2.d) ++ y.xcs.map fun x => x.df.d
/-- a call pattern binds as it is told -/
def Kb (d : Df) (n : Nat) (ks : List Str) (arr : List V → List V → List V) : Prop :=
  ∀ K f fd, FunD K d.name d.qual (defArgs d.st) (defBody d.st) (defScope d.st) (d.d.dvs K) (d.d.kws K) f fd → ∃ gf, KBn K fd d.P n ks gf arr
def scB (d : Df) : Bool := decide ((defScope d.st).kind = .function) && (!(defScope d.st).isCoroutine && (!(defScope d.st).isGenerator && (decide d.N.Nodup && (decide (d.N.take d.P.length = d.P) &&
  (d.P.all (fun x => decide ((defScope d.st).names.lookup x = some .local ∨ (defScope d.st).names.lookup x = some .cell)) && (defScope d.st).names.all fun y => decide (y.2 ≠ .free))))))
theorem scB_ok {d : Df} (h : scB d = true) : FnScope d.N d.P (defScope d.st) := by
  unfold scB at h
  simp only [Bool.and_eq_true, Bool.not_eq_true', decide_eq_true_eq, List.all_eq_true] at h
  obtain ⟨h1, h2, h3, h4, h5, h6, h7⟩ := h
  exact ⟨h1, h2, h3, h4, h5, h6, h7⟩
structure XyOk (x : Yx) : Prop where
  dfl : x.df.dfl = []
  P : x.df.P = [("self" : Str), x.px]
  N : x.df.N = [("self" : Str), x.px]
  sc : scB x.df = true
  bd : xBody (defBody x.df.st) = some (x.base, x.f, x.px)
  pl : plainName x.px = true
  pb : plainName x.base = true
  gl : (defScope x.df.st).names.lookup x.base = some .globalImplicit
  bind : ∀ (kV doc pm : Value) (an : Option Addr) (cdv ct : Value) (us : List Value), us.length = x.df.P.length → bindArgs (PySem.W.fnOf x.df.name x.df.qual (defArgs x.df.st) (defBody x.df.st) (defScope x.df.st) .none kV doc pm an cdv ct) ⟨us, []⟩ = pure (x.df.P.zip us)
structure SyOk (y : Sy) : Prop where
  xcs : ∀ x ∈ y.xcs, XyOk x := by intro x h; cases h
  sc : (y.ds.all fun p => scB p.2) = true
  cps : ∀ c ∈ y.cps, ∃ d, y.ds.lookup c.name = some d ∧ d.at_ = (c.name, none) ∧ Kb d c.n c.ks c.arr
  cms : ∀ m ∈ y.cms, m.cls ∈ y.cls ∧ ∃ d, y.ds.lookup (mkey m.cls m.name) = some d ∧ d.at_ = (m.cls, some m.name) ∧ Kb d (m.n + 1) m.ks (fun vs zs => match vs with | v :: r => v :: m.arr r zs | [] => [])
  cks : ∀ m ∈ y.cks, m.cls ∈ y.cls ∧ ∃ d, y.ds.lookup (mkey m.cls "__init__") = some d ∧ d.at_ = (m.cls, some ("__init__" : Str)) ∧ Kb d (m.n + 1) m.ks (fun vs zs => match vs with | v :: r => v :: m.arr r zs | [] => [])
  ats : ∀ p ∈ y.ats, ∀ c ∈ p.2, c ∈ y.cls
  nes : ∀ c ∈ y.nes, c ∈ y.cls

/-! ### binding -/
section
variable {d : Df} {n : Nat} {ks : List Str} {arr arr' : List V → List V → List V}
theorem Kb.congr (h : Kb d n ks arr) (e : ∀ vs zs, arr' vs zs = arr vs zs) : Kb d n ks arr' := fun K f fd F => by
  obtain ⟨gf, k⟩ := h K f fd F
  have : arr' = arr := funext fun vs => funext fun zs => e vs zs
  exact ⟨gf, this ▸ k⟩
/-- every parameter written, no defaults -/
theorem kb_plain (hd : d.dfl = []) (h : ∀ (kV doc pm : Value) (an : Option Addr) (cdv ct : Value) (us : List Value), us.length = d.P.length → bindArgs (PySem.W.fnOf d.name d.qual (defArgs d.st) (defBody d.st) (defScope d.st) .none kV doc pm an cdv ct) ⟨us, []⟩ = pure (d.P.zip us)) :
    Kb d d.P.length [] (fun vs _ => vs) := fun K f fd F => by
  have F' : FunD K d.name d.qual (defArgs d.st) (defBody d.st) (defScope d.st) [] (d.d.kws K) f fd := by
    have : d.d.dvs K = [] := by unfold He.DefD.dvs Df.d; rw [hd]; rfl
    rw [this] at F; exact F
  exact ⟨fun us _ => us, ⟨fun s us ws X l1 l2 => F'.bindsA h s us l1, fun r1 r2 => r1⟩⟩
theorem kb_plainM (hd : d.dfl = []) (hp : d.P.length = n + 1) (h : ∀ (kV doc pm : Value) (an : Option Addr) (cdv ct : Value) (us : List Value), us.length = d.P.length → bindArgs (PySem.W.fnOf d.name d.qual (defArgs d.st) (defBody d.st) (defScope d.st) .none kV doc pm an cdv ct) ⟨us, []⟩ = pure (d.P.zip us)) :
    Kb d (n + 1) [] (fun vs zs => match vs with | v :: r => v :: (fun vs _ => vs) r zs | [] => []) := by
  have k := kb_plain hd h
  rw [hp] at k
  exact k.congr fun vs zs => by cases vs <;> rfl
/-- positional defaults: the first j of all are written over -/
theorem kb_dfl (m j : Nat) (dvs : List V) (hv : ∀ K, d.d.dvs K = dvs) (hne : dvs ≠ []) (hn : m + (dvs.length - j) = d.P.length)
    (h : ∀ (T : Addr) (kV doc pm : Value) (an : Option Addr) (cdv ct : Value) (us its : List Value), us.length = m → its.length = dvs.length →
      ∃ k, bindArgs (PySem.W.fnOf d.name d.qual (defArgs d.st) (defBody d.st) (defScope d.st) (.ref T) kV doc pm an cdv ct) ⟨us, []⟩ = seqItems? (.ref T) >>= k ∧ k (some its.toArray) = pure (d.P.zip (us ++ its.drop j))) :
    Kb d m [] (fun vs _ => vs ++ dvs.drop j) := fun K f fd F => by
  rw [hv K] at F
  obtain ⟨ds, r, b⟩ := F.binds1 m j hne hn h
  refine ⟨fun us _ => us ++ ds, ⟨fun s us ws X l1 l2 => ?_, fun r1 r2 => r1.append r⟩⟩
  exact b s us X (by rw [List.length_append, l1, ← r.length, List.length_drop, hn])
end

/-! ### the table of a written part -/
/-- where the def of a key stands -/
def Sy.ad (y : Sy) (K : PySem.W.Frag) (x : Str) : Addr := match y.ds.lookup x with
  | some d => He.fAd K d.at_
  | none => 0
theorem Sy.ad_of {y : Sy} {K : PySem.W.Frag} {x : Str} {d : Df} (h : y.ds.lookup x = some d) : y.ad K x = He.fAd K d.at_ := by
  unfold Sy.ad; rw [h]
section
variable {y : Sy} {K : PySem.W.Frag} {h : Heap} {mg : Str → Option Value}
theorem sy_tok (O : SyOk y) (X : K.In h) (G : h.Ns mainGlobals mg) (c : He.SaysD y.fa y.fn K) (nd : (y.ds.map (·.1)).Nodup) (he : y.exB K = true) : ∃ fd : Str → FuncData, TOk (y.tb K) y.ds mg (y.ad K) fd ∧ ∀ p ∈ y.ds, FunD K p.2.name p.2.qual (defArgs p.2.st) (defBody p.2.st) (defScope p.2.st) (p.2.d.dvs K) (p.2.d.kws K) (y.ad K p.1) (fd p.1) := by
  have hf : ∀ x : Str, ∃ fd : FuncData, ∀ d, y.ds.lookup x = some d → FunD K d.name d.qual (defArgs d.st) (defBody d.st) (defScope d.st) (d.d.dvs K) (d.d.kws K) (y.ad K x) fd := fun x => by
    cases e : y.ds.lookup x with
    | none => exact ⟨default, fun d z => nomatch z⟩
    | some d =>
      obtain ⟨fd, F⟩ := c.defs (d := d.d) (List.mem_append_left _ (List.mem_map.mpr ⟨(x, d), PySem.mem_of_lookup e, rfl⟩))
      refine ⟨fd, fun d' z => ?_⟩
      cases z
      rw [Sy.ad_of e]
      exact F
  have lk : ∀ p ∈ y.ds, y.ds.lookup p.1 = some p.2 := fun p hp => by
    have aux : ∀ l : List (Str × Df), (l.map (·.1)).Nodup → p ∈ l → l.lookup p.1 = some p.2 := by
      intro l
      induction l with
      | nil => intro _ h; cases h
      | cons q r ih =>
        intro hn hm
        rw [List.map_cons, List.nodup_cons] at hn
        obtain ⟨q1, q2⟩ := q
        rcases List.mem_cons.mp hm with e | hm
        · subst e; simp [List.lookup]
        · have ne : p.1 ≠ q1 := fun z => hn.1 (List.mem_map.mpr ⟨p, hm, z⟩)
          have e : (p.1 == q1) = false := by simpa using ne
          simp only [List.lookup, e]
          exact ih hn.2 hm
    exact aux _ nd hp
  refine ⟨fun x => Classical.choose (hf x), ?_, fun p hp => Classical.choose_spec (hf p.1) _ (lk p hp)⟩
  have F : ∀ x d, y.ds.lookup x = some d → FunD K d.name d.qual (defArgs d.st) (defBody d.st) (defScope d.st) (d.d.dvs K) (d.d.kws K) (y.ad K x) (Classical.choose (hf x)) := fun x d e => Classical.choose_spec (hf x) d e
  have exs : y.ex K = true ∧ (y.xcs.all (yxB K)) = true ∧ (y.xcl.all fun c => (He.Fa.glo c).ok K) = true := by
    have z := (Bool.and_eq_true_iff.mp (Bool.and_eq_true_iff.mp he).2).1
    simp only [Bool.and_eq_true] at z
    exact z
  have mem : ∀ f, f ∈ y.fa → f.ok K = true := fun f hm => c.facts hm
  have cglo : ∀ c ∈ y.cls, mg c = some (.ref (He.ga K c)) := fun c hc => He.glo_ok X G (mem _ (by
    unfold Sy.fa; exact List.mem_append_right _ (List.mem_append_left _ (List.mem_map.mpr ⟨c, hc, rfl⟩))))
  have cC : ∀ c ∈ y.cls, Cls K (He.ga K c) := fun c hc => He.cls_ok (mem _ (by
    unfold Sy.fa; exact List.mem_append_right _ (List.mem_append_right _ (List.mem_append_right _ (List.mem_append_right _ (List.mem_append_right _ (List.mem_append_left _ (List.mem_map.mpr ⟨c, hc, rfl⟩)))))))) 
  refine ⟨fun p hp => ⟨scB_ok (List.all_eq_true.mp O.sc p hp), _, _, _, _, F _ _ (lk p hp)⟩, fun c hc => ?_, fun p hp => ?_, fun x hx => ?_, fun m hm => ?_, fun m hm => ?_, fun p hp C hC => ?_, fun p hp => ?_, fun p hp => ?_, (Bool.and_eq_true_iff.mp (Bool.and_eq_true_iff.mp he).2).2, fun x hx => ?_⟩
  · obtain ⟨d, e1, e2, e3⟩ := O.cps c hc
    have g1 := He.glo_ok X G (x := c.name) (mem _ (by unfold Sy.fa; exact List.mem_append_left _ (List.mem_map.mpr ⟨c, hc, rfl⟩)))
    have ea : y.ad K c.name = He.ga K c.name := by rw [Sy.ad_of e1, e2]; rfl
    refine ⟨by rw [ea]; exact g1, (F _ _ e1).kp, d, ?_⟩
    obtain ⟨gf, k⟩ := e3 K _ _ (F _ _ e1)
    exact ⟨gf, e1, k⟩
  · rcases List.mem_append.mp hp with hp | hp
    · rcases List.mem_append.mp hp with hp | hp
      · obtain ⟨q, hq, rfl⟩ := List.mem_map.mp hp
        obtain ⟨t, e⟩ := He.int_ok X G (x := q.1) (i := q.2) (mem _ (by
          unfold Sy.fa; exact List.mem_append_right _ (List.mem_append_right _ (List.mem_append_right _ (List.mem_append_left _ (List.mem_map.mpr ⟨q, hq, rfl⟩))))))
        exact ⟨_, e, ⟨t, rfl⟩⟩
      · obtain ⟨q, hq, rfl⟩ := List.mem_map.mp hp
        obtain ⟨t, e⟩ := He.str_ok X G (x := q.1) (z := q.2) (mem _ (by
          unfold Sy.fa; exact List.mem_append_right _ (List.mem_append_right _ (List.mem_append_right _ (List.mem_append_right _ (List.mem_append_left _ (List.mem_map.mpr ⟨q, hq, rfl⟩)))))))
        exact ⟨_, e, ⟨t, rfl⟩⟩
    · rcases List.mem_append.mp hp with hp | hp
      · obtain ⟨q, hq, rfl⟩ := List.mem_map.mp hp
        exact ⟨_, cglo q hq, rfl⟩
      · obtain ⟨q, hq, rfl⟩ := List.mem_map.mp hp
        exact ⟨_, He.glo_ok X G (List.all_eq_true.mp exs.2.2 q hq), rfl⟩
  · exact He.free_ok X G (mem _ (by unfold Sy.fa; exact List.mem_append_right _ (List.mem_append_right _ (List.mem_append_left _ (List.mem_map.mpr ⟨x, hx, rfl⟩)))))
  · obtain ⟨q, hq, rfl⟩ := List.mem_map.mp hm
    obtain ⟨hc, d, e1, e2, e3⟩ := O.cms q hq
    have g1 := He.meth_ok (x := q.cls) (m := q.name) (mem _ (by
      unfold Sy.fa; exact List.mem_append_right _ (List.mem_append_right _ (List.mem_append_right _ (List.mem_append_right _ (List.mem_append_right _ (List.mem_append_right _ (List.mem_append_left _ (List.mem_map.mpr ⟨q, hq, rfl⟩)))))))))
    have ea : y.ad K (mkey q.cls q.name) = He.ma K (He.ga K q.cls) q.name := by rw [Sy.ad_of e1, e2]; rfl
    obtain ⟨gf, k⟩ := e3 K _ _ (F _ _ e1)
    refine ⟨cC _ hc, ?_, d, gf, e1, k⟩
    show Meth K _ _ (y.ad K (mkey q.cls q.name))
    rw [ea]; exact g1
  · obtain ⟨q, hq, rfl⟩ := List.mem_map.mp hm
    obtain ⟨hc, d, e1, e2, e3⟩ := O.cks q hq
    have g1 := He.mkr_ok (x := q.cls) (mem _ (by
      unfold Sy.fa; exact List.mem_append_right _ (List.mem_append_right _ (List.mem_append_right _ (List.mem_append_right _ (List.mem_append_right _ (List.mem_append_right _ (List.mem_append_right _ (List.mem_append_left _ (List.mem_map.mpr ⟨q, hq, rfl⟩))))))))))
    have ea : y.ad K (mkey q.cls "__init__") = He.ma K (He.ga K q.cls) "__init__" := by rw [Sy.ad_of e1, e2]; rfl
    obtain ⟨gf, k⟩ := e3 K _ _ (F _ _ e1)
    refine ⟨cglo _ hc, ?_, d, gf, e1, k⟩
    show Mk K _ (y.ad K (mkey q.cls "__init__"))
    rw [ea]; exact g1
  · obtain ⟨q, hq, rfl⟩ := List.mem_map.mp hp
    obtain ⟨c', hc', rfl⟩ := List.mem_map.mp hC
    exact ⟨cC _ (O.ats q hq c' hc'), He.noat_ok (mem _ (by
      unfold Sy.fa; exact List.mem_append_right _ (List.mem_append_right _ (List.mem_append_right _ (List.mem_append_right _ (List.mem_append_right _ (List.mem_append_right _ (List.mem_append_right _ (List.mem_append_right _ (List.mem_flatMap.mpr ⟨q, hq, List.mem_map.mpr ⟨c', hc', rfl⟩⟩)))))))))
      )⟩
  · obtain ⟨q, hq, rfl⟩ := List.mem_map.mp hp
    exact List.all_eq_true.mp (Bool.and_eq_true_iff.mp he).1 q hq
  · obtain ⟨q, hq, rfl⟩ := List.mem_map.mp hp
    exact cC q (O.nes q hq)
  · obtain ⟨q, hq, rfl⟩ := List.mem_map.mp hx
    have B := List.all_eq_true.mp exs.2.1 q hq
    unfold yxB at B
    simp only [Bool.and_eq_true, decide_eq_true_eq] at B
    obtain ⟨b1, b2, b3, b4, b5, b6, b7, b8⟩ := B
    have Y := O.xcs q hq
    obtain ⟨fd, F⟩ := c.defs (d := q.df.d) (List.mem_append_right _ (List.mem_map.mpr ⟨q, hq, rfl⟩))
    have F' : FunD K q.df.name q.df.qual (defArgs q.df.st) (defBody q.df.st) (defScope q.df.st) [] (q.df.d.kws K) (He.fAd K q.df.at_) fd := by
      have : q.df.d.dvs K = [] := by unfold He.DefD.dvs Df.d; rw [Y.dfl]; rfl
      have F0 : FunD K q.df.name q.df.qual (defArgs q.df.st) (defBody q.df.st) (defScope q.df.st) (q.df.d.dvs K) (q.df.d.kws K) (He.fAd K q.df.at_) fd := F
      rw [this] at F0; exact F0
    have S : FnScope ["self", q.px] ["self", q.px] (defScope q.df.st) := by
      have z := scB_ok Y.sc
      rw [Y.N, Y.P] at z
      exact z
    refine ⟨q.b, _, fd, q.px, He.glo_ok X G b1, xcB_ok b3, xfB_ok b4, b6, b7, b8, fun P w base => xinit_ok F' S Y.bd Y.pl Y.pb Y.gl (He.glo_ok X G b2) (xpB_ok b5), ?_⟩
    intro s us _ hl
    have z := F'.bindsA (ps := q.df.P) Y.bind s us (by rw [Y.P]; simpa using hl)
    rw [Y.P] at z
    rw [List.append_nil]
    exact z
end

/-! ### the law's end -/
def isLst (o : Obj) : Bool := match o.cls with
  | .type c => c == "list"
  | _ => false
/-- sys.modules and the machine's own table, where they stand -/
def sysE (g : Addr → Option Obj) : PySem.W.Frag := [sysModules, cStatics].filterMap fun a => (g a).map fun o => (a, o)
/-- the written part without its lists (so the script is never an object of it), and sys.modules -/
def frZ (g : Addr → Option Obj) (as : List Addr) : PySem.W.Frag := (He.frT g as ++ sysE g).filter fun q => !isLst q.2
theorem frZ_mem {g : Addr → Option Obj} {as : List Addr} {a : Addr} {o : Obj} (h : (frZ g as).lookup a = some o) : g a = some o ∧ isLst o = false := by
  have m := List.mem_filter.mp (He.lookup_mem h)
  refine ⟨?_, by simpa using m.2⟩
  rcases List.mem_append.mp m.1 with z | z
  · exact He.frG_mem (List.mem_filter.mp z).1
  · unfold sysE at z
    obtain ⟨b, _, e⟩ := List.mem_filterMap.mp z
    cases hb : g b with
    | none => rw [hb] at e; cases e
    | some u => rw [hb] at e; cases e; exact hb
def obsZ (n : Nat) (fa : List He.Fa) (fn : List He.DefD) (ex : PySem.W.Frag → Bool) (g : Addr → Option Obj) : He.AlD × Bool := (He.obsD fa fn (frZ g (He.asD g n)), ex (frZ g (He.asD g n)))
def hkY (y : Sy) : PySem.W.Hook where
  α := He.AlD × Bool
  obs := fun s => obsZ 5 y.fa y.fn y.exB s.heap.get?
  val := fun _ => (He.valD y.fn, true)
  says := fun _ h => ∃ K : PySem.W.Frag, K.In h ∧ He.SaysD y.fa y.fn K ∧ y.exB K = true ∧ ∀ a o, K.lookup a = some o → isLst o = false
  of := fun _ _ e => ⟨_, fun _ _ e => (frZ_mem e).1, congrArg (fun z : He.AlD × Bool => z.1) e, congrArg (fun z : He.AlD × Bool => z.2) e, fun _ _ e => (frZ_mem e).2⟩
  keeps := fun _ _ _ ⟨K, hK, c⟩ k => ⟨K, PySem.W.Frag.In.keeps hK k, c⟩
def obY (y : Sy) (s : PySem.W.SharedT) : He.AlD × Bool := obsZ 5 y.fa y.fn y.exB (HandSHeadRun.getT s)
theorem obY_eq (y : Sy) (s : PySem.W.SharedT) : obY y s = (hkY y).obs s.abs := by
  have e : HandSHeadRun.getT s = s.abs.heap.get? := funext (HandSHeadRun.getT_eq s)
  show obsZ 5 y.fa y.fn y.exB (HandSHeadRun.getT s) = obsZ 5 y.fa y.fn y.exB s.abs.heap.get?
  rw [e]
/-- the promise of law, n calls deep, at scripts of at most 63 numbers -/
def LawY (y : Sy) (m n : Nat) : Prop := ∀ (K : PySem.W.Frag), y.ex K = true → ∀ (H : Hp) (a : Addr) (ns : List Int), ns.length ≤ 63 → Only H → (∃ o, H a = some (.frz o (.lst (ns.map V.int)))) →
  spAt (y.tb K) m y.ds n "law" [.ref a] H (fun v _ => v = .bl true) fun _ _ _ => False
theorem abs_ints : ∀ {us : List Value} {ns : List Int}, Vals (ns.map V.int) us → absVs us = some (ns.map V.int)
  | [], ns, r => by
    cases ns with
    | nil => rfl
    | cons n ns => cases r
  | u :: us, ns, r => by
    cases ns with
    | nil => cases r
    | cons n ns =>
      cases r with
      | cons h t =>
        obtain ⟨tk, rfl⟩ := h
        unfold absVs
        rw [abs_ints t]
        rfl
theorem walkY {l : PySem.W.OpenLaw} {q : Program} {loose : List Str} {XP : (Str → Option Value) → Heap → Prop} {dr : DefRec} (y : Sy) (m n : Nat) (dl : Df) (O : SyOk y) (nd : (y.ds.map (·.1)).Nodup) (hl : y.ds.lookup ("law" : Str) = some dl) (hP : dl.P = [("script" : Str)]) (hdl : dl.dfl = [])
    (hat : dl.at_ = (("law" : Str), none)) (hcl : ∃ c ∈ y.cps, c.name = ("law" : Str))
    (hb : ∀ (kV doc pm : Value) (an : Option Addr) (cdv ct : Value) (us : List Value), us.length = dl.P.length → bindArgs (PySem.W.fnOf dl.name dl.qual (defArgs dl.st) (defBody dl.st) (defScope dl.st) .none kV doc pm an cdv ct) ⟨us, []⟩ = pure (dl.P.zip us))
    (hn : l.most = some 63) (hdf : dr.params.defaults = []) (hnm : dr.name = ("law" : Str)) (hr : Room (3 * n) callerA) (law : LawY y m n) :
    PySem.W.WalkO q loose XP (hkY y).says l.row.toRowW dr [] (fun f vs => PySem.call f vs) := by
  refine Att.attach_call hn hdf fun w s₀ s₁ mg mb fa o pm cd doc a vs ns G Y ho hd hcd hmg hobj hints hlen hg => ?_
  obtain ⟨K, KX, c⟩ := Y
  rw [hnm] at hmg
  obtain ⟨fd, T, F⟩ := sy_tok O KX G.T.g c.1 nd c.2.1
  have Fl := F ("law", dl) (PySem.mem_of_lookup hl)
  have ea : y.ad K "law" = fa := by
    obtain ⟨cc, hc, e⟩ := hcl
    have e1 := (T.cps cc hc).1
    rw [e, hmg] at e1
    cases e1; rfl
  have Fl' : FunD K dl.name dl.qual (defArgs dl.st) (defBody dl.st) (defScope dl.st) [] (dl.d.kws K) (y.ad K "law") (fd "law") := by
    have : dl.d.dvs K = [] := by unfold He.DefD.dvs Df.d; rw [hdl]; rfl
    rw [this] at Fl; exact Fl
  have hF : ∀ base : Heap, K.In base → base.Ns mainGlobals mg → FnW l.prog w K mg base (L2.CX l.prog w) (3 * n) fa (fd "law") ["script"] (spAt (y.tb K) m y.ds n "law") := fun base _ _ => by
    have z := spAt_ok (P := l.prog) (w := w) (base := base) (m := m) T n "law" dl hl
    rw [ea, hP] at z
    exact z
  have hKa : K.lookup a = none := by
    cases q : K.lookup a with
    | none => rfl
    | some o =>
      have z := KX a o q
      rw [hobj] at z
      cases z
      have := c.2.2 a _ q
      unfold isLst at this
      cases this
  refine lawW_call (CX := L2.CX l.prog w) KX G.T.g G.T.b G.T.builtins G.T.nolimit hg hobj hints (Nat.le_trans hlen (by decide)) hr hKa hF (fun s u => ?_) (fun H hO hS => law K (Bool.and_eq_true_iff.mp (Bool.and_eq_true_iff.mp (Bool.and_eq_true_iff.mp c.2.1).2).1).1 H a ns hlen hO hS) fun H e s' z => ?_
  · have b := Fl'.bindsA (ps := dl.P) hb s [u] (by rw [hP]; rfl)
    rw [hP] at b
    exact b
  · obtain ⟨_, _, _, _, _, _, _, _, _, _, _, _, z⟩ := z
    exact z
end WR

set_option Elab.async false
set_option linter.all false
set_option maxRecDepth 100000
set_option maxHeartbeats 4000000
namespace WR
open PySem PySem.Spec PyProof.Rows L2
/-! ## shorthands of the printed readings -/
def mf (g : G) (m : Str) (n : Nat) (ks : List Str) : List MtI := g.mts.filter fun i => decide (i.name = m) && decide (i.n = n) && decide (i.ks = ks)
def bf (K : PySem.W.Frag) (m : Str) : List BM := (bms K).filter fun b => decide (b.name = m)
def mC (g : G) (m : Str) (n nk : Nat) (ks : List Str) (ta : TE) (t tk : TA) (W : WX) : TE := cMeth g.K m n nk (mf g m n ks) (bf g.K m) ta t tk W
def orL (t : TS) : TS := fun D σ H => t D σ H ∨ tLock t D σ H
def joinT (ts : List TE) : TE := fun σ H Q => cJs ts Str.empty σ H fun out H1 => Q (.str out) H1
/-- raise C(e) -/
def tRs (W : WX) (C : Addr) (f : Str) (te : TE) : TS := fun _ σ H => tMkX C f te σ H fun cls d H' => W cls d σ H'
/-- try: tb, the clauses l -/
def tTryW (K : PySem.W.Frag) (W : WX) (l : List ClR) (tb : WX → TS) : TS := fun D σ H => tb (wCl K W D l) D σ H
/-- a method of an own class, one candidate -/
theorem mC_own {g : G} {m : Str} {n nk : Nat} {ks : List Str} {ta : TE} {t tk : TA} {W : WX} {c : MtI} {σ : St} {H : Hp} {Q : VK} (hm : mf g m n ks = [c])
    (h : ta σ H fun x H1 => ∃ p dx fs, x = .ref p ∧ H1 p = some (.ins c.cls dx fs) ∧ fs.lookup m = none ∧ t σ H1 fun vs H2 => tk σ H2 fun zs H3 => vs.length = n ∧ zs.length = nk ∧ c.sp (.ref p :: c.arr vs zs) H3 Q (fun cls d H' => W cls d σ H'))
    (mono : ∀ P P' : V → Hp → Prop, (∀ x H, P x H → P' x H) → ta σ H P → ta σ H P') : mC g m n nk ks ta t tk W σ H Q := by
  unfold mC cMeth
  rw [hm]
  refine mono _ _ (fun x H1 q => ?_) h
  obtain ⟨p, dx, fs, rfl, e, l, q⟩ := q
  simp only [insOf, e, l, List.mem_singleton, exists_eq_left, true_and]
  exact q
/-- a built-in's method -/
theorem mC_blt {g : G} {m : Str} {n : Nat} {ks : List Str} {ta : TE} {t tk : TA} {W : WX} {σ : St} {H : Hp} {Q : VK}
    (h : ta σ H fun x H1 => insOf H1 x = none ∧ ∃ T, tyB g.K H1 x = some T ∧ ∃ b, (bf g.K m).find? (fun b => b.T == T) = some b ∧ t σ H1 fun vs H2 => b.r x vs H2 Q)
    (mono : ∀ P P' : V → Hp → Prop, (∀ x H, P x H → P' x H) → ta σ H P → ta σ H P') : mC g m n 0 ks ta t tk W σ H Q := by
  unfold mC cMeth
  refine mono _ _ (fun x H1 q => ?_) h
  obtain ⟨h1, T, h2, b, h3, q⟩ := q
  simp only [h1, h2, h3, true_and]
  exact q
theorem mono_var {i : Nat} {σ : St} {H : Hp} {P P' : V → Hp → Prop} (h : ∀ x H, P x H → P' x H) (q : cVar i σ H P) : cVar i σ H P' := by
  unfold cVar at q ⊢
  split at q
  · exact h _ _ q
  · exact q.elim
theorem mono_C {v : V} {σ : St} {H : Hp} {P P' : V → Hp → Prop} (h : ∀ x H, P x H → P' x H) (q : tC v σ H P) : tC v σ H P' := h _ _ q
/-- own specials, one candidate -/
theorem spc_one {g : G} {m : Str} {C : Addr} {x : V} {vs : List V} {H : Hp} {Q : VK} {c : MtI} (hm : cands g m vs.length = [c]) (hc : c.cls = C) (h : c.sp (x :: c.arr vs []) H Q (fun _ _ _ => False)) : spc g m C x vs H Q :=
  ⟨c, by rw [hm]; exact List.mem_singleton_self _, hc, h⟩
end WR

set_option Elab.async false
set_option linter.all false
set_option maxRecDepth 100000
set_option maxHeartbeats 4000000
namespace WR
open PySem PySem.Spec PyProof.Rows L2
/-! ## rules for walking the readings -/
section
variable {K : PySem.W.Frag} {H : Hp} {a : Addr} {xs : List V} {x y : V} {Q : VK} {g : G}
theorem ins_look {u : HO} (h : look K H a = some u) (hu : ∀ C dx fs, u ≠ .ins C dx fs) : insOf H (.ref a) = none := by
  unfold look at h
  cases e : H a with
  | none => simp only [insOf, e]
  | some o =>
    rw [e] at h
    cases o <;> simp only [insOf, e]
    cases h
    exact absurd rfl (hu _ _ _)
theorem ins_lst (h : look K H a = some (.lst xs)) : insOf H (.ref a) = none := ins_look h fun _ _ _ z => nomatch z
theorem ins_tup (h : look K H a = some (.tup xs)) : insOf H (.ref a) = none := ins_look h fun _ _ _ z => nomatch z
theorem ins_dK {kvs : List (Key × V)} (h : look K H a = some (.dK kvs)) : insOf H (.ref a) = none := ins_look h fun _ _ _ z => nomatch z
theorem ins_int {i : Int} : insOf H (.int i) = none := rfl
theorem ins_str {i : Str} : insOf H (.str i) = none := rfl
theorem ins_non : insOf H .non = none := rfl
theorem ins_bl {b : Bool} : insOf H (.bl b) = none := rfl
theorem ins_ins {C dx : Addr} {fs : List (Str × V)} (h : H a = some (.ins C dx fs)) : insOf H (.ref a) = some (a, C, fs) := by simp only [insOf, h]
theorem ty_lst (h : look K H a = some (.lst xs)) : tyN K H (.ref a) = some "list" := by simp only [tyN, h]
theorem ty_tup (h : look K H a = some (.tup xs)) : tyN K H (.ref a) = some "tuple" := by simp only [tyN, h]
theorem ty_dK {kvs : List (Key × V)} (h : look K H a = some (.dK kvs)) : tyN K H (.ref a) = some "dict" := by simp only [tyN, h]
theorem ty_ins {x : V} {n : String} (h : tyN K H x = some n) : insOf H x = none := by
  cases x with
  | ref p =>
    cases e : H p with
    | none => simp only [insOf, e]
    | some o =>
      cases o <;> simp only [insOf, e]
      simp [tyN, look, e] at h
  | _ => rfl
/-! ### len, isinstance, subscripts -/
theorem len_lst (hg : g.K = K) (h : look K H a = some (.lst xs)) : bLenG g [.ref a] H Q = Q (.int xs.length) H := by
  unfold bLenG; simp only [ins_lst h]; unfold bLen; rw [hg]; simp only [h]
theorem len_tup (hg : g.K = K) (h : look K H a = some (.tup xs)) : bLenG g [.ref a] H Q = Q (.int xs.length) H := by
  unfold bLenG; simp only [ins_tup h]; unfold bLen; rw [hg]; simp only [h]
theorem len_dK {kvs : List (Key × V)} (hg : g.K = K) (h : H a = some (.dK kvs)) : bLenG g [.ref a] H Q = Q (.int kvs.length) H := by
  have e : look K H a = some (.dK kvs) := look_of_dK h
  unfold bLenG; simp only [ins_dK e]; unfold bLen; rw [hg]; simp only [e, h]
theorem len_str {s : Str} : bLenG g [.str s] H Q = (s.length ≤ sizeLine ∧ Q (.int s.length) H) := rfl
theorem isi_ty {n T : String} {b : Bool} (h : tyN K H x = some n) (e : kitB n T = some b) : bIsi K [x, .ty T] H Q = Q (.bl b) H := by
  simp only [bIsi, h, e]
theorem ix_lst {i : Int} {v : V} (h : look K H a = some (.lst xs)) (e : atI xs i = some v) : oIx K (.ref a) (.int i) H Q = Q v H := by simp only [oIx, h, e]
theorem ix_tup {i : Int} {v : V} (h : look K H a = some (.tup xs)) (e : atI xs i = some v) : oIx K (.ref a) (.int i) H Q = Q v H := by simp only [oIx, h, e]
theorem ix_dK {kvs : List (Key × V)} {k : Key} {v : V} (h : H a = some (.dK kvs) ∨ ∃ o, H a = some (.frz o (.dK kvs))) : (.some v = valV kvs k) → oIx K (.ref a) (kV k) H Q = Q v H := fun ev => by
  have e : look K H a = some (.dK kvs) := by
    rcases h with h | ⟨o, h⟩
    · exact look_of_dK h
    · unfold look; rw [h]
  simp only [oIx, e, oGet]
  rcases h with h | ⟨o, h⟩ <;> simp only [h] <;> cases k <;> simp only [kV, keyOf, ← ev]
theorem in_dK {kvs : List (Key × V)} {k : Key} {b : Bool} (h : H a = some (.dK kvs) ∨ ∃ o, H a = some (.frz o (.dK kvs))) : oIn K b (kV k) (.ref a) H Q = Q (.bl (b ^^ (valV kvs k).isSome)) H := by
  have e : look K H a = some (.dK kvs) := by
    rcases h with h | ⟨o, h⟩
    · exact look_of_dK h
    · unfold look; rw [h]
  simp only [oIn, e, oGet]
  rcases h with h | ⟨o, h⟩ <;> simp only [h] <;> cases k <;> rfl
theorem eq_scal (hg : g.K = K) (h1 : insOf H x = none) (h2 : scal x y = true) (h : Q (.bl (decide (x = y))) H) : oEqG g x y H Q := by
  unfold oEqG; simp only [h1]; exact .inl (.inl ⟨h2, h⟩)
theorem ne_scal (hg : g.K = K) (h1 : insOf H x = none) (h2 : scal x y = true) (h : Q (.bl (!decide (x = y))) H) : oNeG g x y H Q := by
  unfold oNeG; simp only [h1]; exact .inl (.inl ⟨h2, h⟩)
theorem atI_nat {α : Type} {xs : List α} {k : Nat} : atI xs (k : Int) = xs[k]? := by
  unfold atI ixN
  by_cases h : k < xs.length
  · simp [h]
  · simp [h]
end
/-! ### loops by an invariant -/
theorem lp_inv {J : It} {g : TG} {tb : TS} {D : Ends} {n : Nat} (P : Nat → St → Hp → Prop)
    (hstop : ∀ σ H, P n σ H → J.stop n H ∧ D.nx σ H)
    (hgo : ∀ i σ H, i < n → P i σ H → ∀ R : St → Hp → Prop, (∀ σ' H', P (i + 1) σ' H' → R σ' H') → J.go i H ∧ ∀ x H', J.yld i H x H' → g x σ H' fun σ2 H2 => tb { D with nx := R, ct := R, bk := D.nx } σ2 H2)
    {σ : St} {H : Hp} (h : P 0 σ H) : ∃ m, lp J g tb D m 0 σ H := by
  have key : ∀ m i σ H, m + i = n → P i σ H → lp J g tb D m i σ H := by
    intro m
    induction m with
    | zero =>
      intro i σ H hm p
      have : i = n := by omega
      subst this
      exact hstop _ _ p
    | succ m ih =>
      intro i σ H hm p
      exact .inr (hgo i σ H (by omega) p _ fun σ' H' q => ih (i + 1) σ' H' (by omega) q)
  exact ⟨n, key n 0 σ H (by omega) h⟩
theorem lpc_inv {J : It} {g : TG} {tt : TT} {te : TE} {vs : List Nat} {σ : St} {D : Addr} {Q : VK} {n : Nat} (P : Nat → Hp → Prop)
    (hstop : ∀ H, P n H → J.stop n H ∧ Q (.ref D) H)
    (hgo : ∀ i H, i < n → P i H → ∀ R : Hp → Prop, (∀ H', P (i + 1) H' → R H') → J.go i H ∧ ∀ x H', J.yld i H x H' → g x (wipe σ vs) H' fun σ2 H2 => wipe σ2 vs = wipe σ vs ∧ tt σ2 H2 fun b H3 =>
      if b = true then te σ2 H3 fun y H4 => ∃ acc, H4 D = some (.lst acc) ∧ acc.length < sizeLine ∧ R (upd H4 D (.lst (acc ++ [y]))) else R H3)
    {H : Hp} (h : P 0 H) : ∃ m, lpc J g tt te vs σ D Q m 0 H := by
  have key : ∀ m i H, m + i = n → P i H → lpc J g tt te vs σ D Q m i H := by
    intro m
    induction m with
    | zero =>
      intro i H hm p
      have : i = n := by omega
      subst this
      exact hstop _ p
    | succ m ih =>
      intro i H hm p
      exact .inr (hgo i H (by omega) p _ fun H' q => ih (i + 1) H' (by omega) q)
  exact ⟨n, key n 0 H (by omega) h⟩
theorem lpd_inv {J : It} {g : TG} {tt : TT} {tk tv : TE} {vs : List Nat} {σ : St} {D : Addr} {Q : VK} {n : Nat} (P : Nat → Hp → Prop)
    (hstop : ∀ H, P n H → J.stop n H ∧ Q (.ref D) H)
    (hgo : ∀ i H, i < n → P i H → ∀ R : Hp → Prop, (∀ H', P (i + 1) H' → R H') → J.go i H ∧ ∀ x H', J.yld i H x H' → g x (wipe σ vs) H' fun σ2 H2 => wipe σ2 vs = wipe σ vs ∧ tt σ2 H2 fun b H3 =>
      if b = true then tk σ2 H3 fun y H4 => tv σ2 H4 fun z H5 => ∃ kvs k, y = kV k ∧ H5 D = some (.dK kvs) ∧ kvs.length < sizeLine ∧ R (upd H5 D (.dK (putK kvs k z))) else R H3)
    {H : Hp} (h : P 0 H) : ∃ m, lpd J g tt tk tv vs σ D Q m 0 H := by
  have key : ∀ m i H, m + i = n → P i H → lpd J g tt tk tv vs σ D Q m i H := by
    intro m
    induction m with
    | zero =>
      intro i H hm p
      have : i = n := by omega
      subst this
      exact hstop _ p
    | succ m ih =>
      intro i H hm p
      exact .inr (hgo i H (by omega) p _ fun H' q => ih (i + 1) H' (by omega) q)
  exact ⟨n, key n 0 H (by omega) h⟩
/-! ### what stays -/
/-- all that was tracked stays as it is -/
abbrev Ex (H H' : Hp) : Prop := ∀ b o, H b = some o → H' b = some o
theorem Ex.refl {H : Hp} : Ex H H := fun _ _ e => e
theorem Ex.trans {H H1 H2 : Hp} (a : Ex H H1) (b : Ex H1 H2) : Ex H H2 := fun c o e => b c o (a c o e)
theorem Ex.new {H H1 : Hp} {p : Addr} {o : HO} (x : Ex H H1) (h : H p = none) : Ex H (upd H1 p o) := fun b u e => by
  rw [upd_ne (ne_of_none e h)]; exact x b u e
theorem Ex.none {H H1 : Hp} {p : Addr} (x : Ex H H1) (h : H1 p = none) : H p = none := by
  cases e : H p with
  | none => rfl
  | some o => rw [x p o e] at h; cases h
/-- .. but what stands at d -/
abbrev Exd (d : Addr) (H H' : Hp) : Prop := ∀ b o, b ≠ d → H b = some o → H' b = some o
/-- what a look sees of lists and tuples stays -/
theorem look_ex {K : PySem.W.Frag} {H H' : Hp} {a : Addr} {u : HO} (x : Ex H H') (hH : H a ≠ none) (h : look K H a = some u) : look K H' a = some u := by
  unfold look at h ⊢
  cases e : H a with
  | none => exact absurd e hH
  | some o => rw [x a o e]; rw [e] at h; exact h
end WR

set_option Elab.async false
set_option linter.all false
set_option maxRecDepth 100000
set_option maxHeartbeats 4000000
namespace WR
open PySem PySem.Spec PyProof.Rows L2
/-! ## sorted texts -/
theorem ltCps_irrefl : ∀ l : List Nat, ltCps l l = false
  | [] => rfl
  | a :: r => by simp [ltCps, ltCps_irrefl r]
theorem ltCps_asymm : ∀ l m : List Nat, ltCps l m = false → ltCps m l = false → l = m
  | [], [], _, _ => rfl
  | [], _ :: _, h, _ => by simp [ltCps] at h
  | _ :: _, [], _, h => by simp [ltCps] at h
  | a :: r, b :: t, h, k => by
    simp only [ltCps, Bool.or_eq_false_iff, decide_eq_false_iff_not, Bool.and_eq_false_iff, beq_eq_false_iff_ne] at h k
    have e : a = b := by omega
    subst e
    have h2 : ltCps r t = false := h.2.resolve_left (fun z => z rfl)
    have k2 : ltCps t r = false := k.2.resolve_left (fun z => z rfl)
    rw [ltCps_asymm r t h2 k2]
theorem ltCps_trans : ∀ l m n : List Nat, ltCps m l = false → ltCps n m = false → ltCps n l = false
  | [], m, n, h, k => by
    cases n with
    | nil => rfl
    | cons c u => rfl
  | a :: r, [], n, h, k => by simp [ltCps] at h
  | a :: r, b :: t, [], h, k => by simp [ltCps] at k
  | a :: r, b :: t, c :: u, h, k => by
    simp only [ltCps, Bool.or_eq_false_iff, decide_eq_false_iff_not, Bool.and_eq_false_iff, beq_eq_false_iff_ne] at h k ⊢
    refine ⟨by omega, ?_⟩
    by_cases e1 : c = a
    · have e2 : b = a := by omega
      have e3 : c = b := by omega
      have h2 : ltCps t r = false := h.2.resolve_left (fun z => z e2)
      have k2 : ltCps u t = false := k.2.resolve_left (fun z => z e3)
      exact .inr (ltCps_trans r t u h2 k2)
    · exact .inl e1
theorem str_ext {a b : Str} (h : a.cps.toList = b.cps.toList) : a = b := by
  obtain ⟨x⟩ := a
  obtain ⟨y⟩ := b
  have : x = y := Array.toList_inj.mp h
  rw [this]
/-- not ahead -/
def leS (a b : Str) : Prop := ltCps b.cps.toList a.cps.toList = false
theorem rising_all : ∀ (r : List Str) (p : Str), risingS p r = true → (∀ x ∈ r, leS p x) ∧ r.Pairwise leS
  | [], p, _ => ⟨fun x h => (nomatch h), List.Pairwise.nil⟩
  | x :: r, p, h => by
    simp only [risingS, Bool.and_eq_true, Bool.not_eq_true'] at h
    obtain ⟨h1, h2⟩ := rising_all r x h.2
    refine ⟨fun y hy => ?_, List.pairwise_cons.mpr ⟨h1, h2⟩⟩
    rcases List.mem_cons.mp hy with rfl | hy
    · exact h.1
    · exact ltCps_trans _ _ _ h.1 (h1 y hy)
theorem sortedS_pw {l : List Str} (h : sortedS l = true) : l.Pairwise leS := by
  cases l with
  | nil => exact List.Pairwise.nil
  | cons x r =>
    obtain ⟨h1, h2⟩ := rising_all r x h
    exact List.pairwise_cons.mpr ⟨h1, h2⟩
theorem pw_uniq : ∀ {l m : List Str}, l.Perm m → l.Pairwise leS → m.Pairwise leS → l = m
  | [], m, p, _, _ => p.nil_eq
  | x :: r, [], p, _, _ => absurd p.symm.nil_eq (by simp)
  | x :: r, y :: t, p, h, k => by
    rw [List.pairwise_cons] at h k
    have e : x = y := by
      have hx : x ∈ y :: t := p.mem_iff.mp (List.mem_cons_self ..)
      have hy : y ∈ x :: r := p.mem_iff.mpr (List.mem_cons_self ..)
      rcases List.mem_cons.mp hx with e | hx
      · exact e
      · rcases List.mem_cons.mp hy with e | hy
        · exact e.symm
        · exact str_ext (ltCps_asymm _ _ (k.1 x hx) (h.1 y hy))
    subst e
    rw [pw_uniq (List.Perm.cons_inv p) h.2 k.2]
/-- two sorted lists of the same texts are one -/
theorem srt_uniq {l m k : List Str} (h1 : l.Perm k) (h2 : sortedS l = true) (h3 : m.Perm k) (h4 : sortedS m = true) : l = m :=
  pw_uniq (h1.trans h3.symm) (sortedS_pw h2) (sortedS_pw h4)
theorem srt_filter {l m k : List Str} {f : Str → Bool} (h1 : l.Perm k) (h2 : sortedS l = true) (h3 : m.Perm (k.filter f)) (h4 : sortedS m = true) : l.filter f = m :=
  pw_uniq ((h1.filter f).trans h3.symm) ((sortedS_pw h2).filter f) (sortedS_pw h4)
/-! ## dicts from names to pairs of numbers -/
abbrev Rws := List (Str × (Int × Int))
def rget (rs : Rws) (n : Str) : Option (Int × Int) := (rs.find? fun r => decide (r.1 = n)).map (·.2)
def rput (rs : Rws) (n : Str) (p : Int × Int) : Rws := if (rs.any fun r => decide (r.1 = n)) = true then rs.map (fun r => if r.1 = n then (r.1, p) else r) else rs ++ [(n, p)]
def rdrop (rs : Rws) (n : Str) : Rws := rs.filter fun r => decide (r.1 ≠ n)
/-- the dict's pairs, each value a tuple of two numbers -/
def RR (H : Hp) : List (Key × V) → Rws → Prop
  | [], [] => True
  | (k, v) :: kvs, (n, c, l) :: rs => k = .inr n ∧ (∃ t, v = .ref t ∧ H t = some (.tup [.int c, .int l])) ∧ RR H kvs rs
  | _, _ => False
/-- tuples stay -/
abbrev Tp (H H' : Hp) : Prop := ∀ t xs, H t = some (.tup xs) → H' t = some (.tup xs)
theorem Ex.tp {H H' : Hp} (x : Ex H H') : Tp H H' := fun t xs e => x t _ e
theorem RR.tp {H H' : Hp} (x : Tp H H') : ∀ {kvs : List (Key × V)} {rs : Rws}, RR H kvs rs → RR H' kvs rs
  | [], [], _ => trivial
  | [], _ :: _, h => h.elim
  | _ :: _, [], h => h.elim
  | (k, v) :: kvs, (n, c, l) :: rs, h => ⟨h.1, by obtain ⟨t, e, q⟩ := h.2.1; exact ⟨t, e, x _ _ q⟩, RR.tp x h.2.2⟩
theorem RR.len {H : Hp} : ∀ {kvs : List (Key × V)} {rs : Rws}, RR H kvs rs → kvs.length = rs.length
  | [], [], _ => rfl
  | [], _ :: _, h => h.elim
  | _ :: _, [], h => h.elim
  | (k, v) :: kvs, (n, c, l) :: rs, h => congrArg Nat.succ (RR.len h.2.2)
theorem RR.keys {H : Hp} : ∀ {kvs : List (Key × V)} {rs : Rws}, RR H kvs rs → keysS kvs = some (rs.map (·.1))
  | [], [], _ => rfl
  | [], _ :: _, h => h.elim
  | _ :: _, [], h => h.elim
  | (k, v) :: kvs, (n, c, l) :: rs, h => by
    obtain ⟨rfl, _, r⟩ := h
    simp only [keysS, RR.keys r, List.map_cons, Option.map_some]
theorem RR.any {H : Hp} (n : Str) : ∀ {kvs : List (Key × V)} {rs : Rws}, RR H kvs rs → (kvs.any fun kv => decide (kv.1 = .inr n)) = (rs.any fun r => decide (r.1 = n))
  | [], [], _ => rfl
  | [], _ :: _, h => h.elim
  | _ :: _, [], h => h.elim
  | (k, v) :: kvs, (m, c, l) :: rs, h => by
    obtain ⟨rfl, _, r⟩ := h
    simp only [List.any_cons, RR.any n r, Sum.inr.injEq]
theorem RR.get {H : Hp} (n : Str) : ∀ {kvs : List (Key × V)} {rs : Rws}, RR H kvs rs → (valV kvs (.inr n) = none ∧ rget rs n = none) ∨ ∃ t c l, valV kvs (.inr n) = some (.ref t) ∧ rget rs n = some (c, l) ∧ H t = some (.tup [.int c, .int l])
  | [], [], _ => .inl ⟨rfl, rfl⟩
  | [], _ :: _, h => h.elim
  | _ :: _, [], h => h.elim
  | (k, v) :: kvs, (m, c, l) :: rs, h => by
    obtain ⟨rfl, ⟨t, rfl, e⟩, r⟩ := h
    by_cases hm : m = n
    · subst hm
      exact .inr ⟨t, c, l, valV_pos rfl, by simp [rget], e⟩
    · have h1 : ¬ ((Sum.inr m : Key) = Sum.inr n) := fun z => hm (Sum.inr.inj z)
      rcases RR.get n r with ⟨a, b⟩ | ⟨t', c', l', a, b, d⟩
      · exact .inl ⟨by rw [valV_neg h1]; exact a, by simp [rget, List.find?_cons, hm] at b ⊢; exact b⟩
      · exact .inr ⟨t', c', l', by rw [valV_neg h1]; exact a, by simp [rget, List.find?_cons, hm] at b ⊢; exact b, d⟩
theorem RR.app {H : Hp} {n : Str} {t : Addr} {c l : Int} (e : H t = some (.tup [.int c, .int l])) : ∀ {kvs : List (Key × V)} {rs : Rws}, RR H kvs rs → RR H (kvs ++ [(.inr n, .ref t)]) (rs ++ [(n, c, l)])
  | [], [], _ => ⟨rfl, ⟨t, rfl, e⟩, trivial⟩
  | [], _ :: _, h => h.elim
  | _ :: _, [], h => h.elim
  | (k, v) :: kvs, (m, c', l') :: rs, h => ⟨h.1, h.2.1, RR.app e h.2.2⟩
theorem RR.map {H : Hp} {n : Str} {t : Addr} {c l : Int} (e : H t = some (.tup [.int c, .int l])) : ∀ {kvs : List (Key × V)} {rs : Rws}, RR H kvs rs → RR H (kvs.map fun kv => if kv.1 = .inr n then (kv.1, V.ref t) else kv) (rs.map fun r => if r.1 = n then (r.1, c, l) else r)
  | [], [], _ => trivial
  | [], _ :: _, h => h.elim
  | _ :: _, [], h => h.elim
  | (k, v) :: kvs, (m, c', l') :: rs, h => by
    obtain ⟨rfl, q, r⟩ := h
    by_cases hm : m = n
    · simp only [List.map_cons, Sum.inr.injEq, hm, if_true]
      exact ⟨rfl, ⟨t, rfl, e⟩, RR.map e r⟩
    · simp only [List.map_cons, Sum.inr.injEq, hm, if_false]
      exact ⟨rfl, q, RR.map e r⟩
theorem RR.put {H : Hp} {n : Str} {t : Addr} {c l : Int} {kvs : List (Key × V)} {rs : Rws} (e : H t = some (.tup [.int c, .int l])) (h : RR H kvs rs) : RR H (putK kvs (.inr n) (.ref t)) (rput rs n (c, l)) := by
  unfold putK rput
  rw [RR.any n h]
  split
  · exact RR.map e h
  · exact RR.app e h
theorem RR.drop {H : Hp} (n : Str) : ∀ {kvs : List (Key × V)} {rs : Rws}, RR H kvs rs → RR H (dropK kvs (.inr n)) (rdrop rs n)
  | [], [], _ => trivial
  | [], _ :: _, h => h.elim
  | _ :: _, [], h => h.elim
  | (k, v) :: kvs, (m, c', l') :: rs, h => by
    obtain ⟨rfl, q, r⟩ := h
    by_cases hm : m = n
    · have e1 : dropK ((Sum.inr m, v) :: kvs) (Sum.inr n : Key) = dropK kvs (.inr n) := dropK_pos (by rw [hm])
      rw [e1]
      simp only [rdrop, List.filter_cons, hm, ne_eq, not_true, decide_false, Bool.false_eq_true, if_false]
      exact RR.drop n r
    · have e1 : dropK ((Sum.inr m, v) :: kvs) (Sum.inr n : Key) = (Sum.inr m, v) :: dropK kvs (.inr n) := dropK_neg (fun z => hm (Sum.inr.inj z))
      rw [e1]
      simp only [rdrop, List.filter_cons, hm, ne_eq, not_false_eq_true, decide_true, if_true]
      exact ⟨rfl, q, RR.drop n r⟩
theorem rput_len (rs : Rws) (n : Str) (p : Int × Int) : (rput rs n p).length ≤ rs.length + 1 := by
  unfold rput; split <;> simp
/-- a dict of such rows at d -/
def RAt (H : Hp) (d : Addr) (rs : Rws) : Prop := ∃ kvs, H d = some (.dK kvs) ∧ RR H kvs rs
theorem RAt.ex {H H' : Hp} {d : Addr} {rs : Rws} (x : Ex H H') (h : RAt H d rs) : RAt H' d rs := by
  obtain ⟨kvs, e, r⟩ := h
  exact ⟨kvs, x _ _ e, r.tp x.tp⟩
/-- one statement: what comes behind is a name -/
theorem seq_ {t u : TS} {D : Ends} {σ : St} {H : Hp} (h : ∀ N : St → Hp → Prop, (∀ σ H, u D σ H → N σ H) → t { D with nx := N } σ H) : tSeq t u D σ H := h _ fun _ _ q => q
theorem lk1 {f m : Str} {v : V} (h : (m == f) = false) : List.lookup m [(f, v)] = none := by
  simp only [List.lookup, h]
/-! ## a dict's looks by a text -/
section
variable {K : PySem.W.Frag} {H : Hp} {a : Addr} {Q : VK}
theorem in_dS {kvs : List (Key × V)} {s : Str} {b : Bool} (h : H a = some (.dK kvs)) : oIn K b (.str s) (.ref a) H Q = Q (.bl (b ^^ (valV kvs (.inr s)).isSome)) H := in_dK (k := .inr s) (.inl h)
theorem ix_dS {kvs : List (Key × V)} {s : Str} {v : V} (h : H a = some (.dK kvs)) (e : valV kvs (.inr s) = some v) : oIx K (.ref a) (.str s) H Q = Q v H := ix_dK (k := .inr s) (.inl h) e.symm
theorem ix_dSf {kvs : List (Key × V)} {s : Str} {v : V} {o : Obj} (h : H a = some (.frz o (.dK kvs))) (e : valV kvs (.inr s) = some v) : oIx K (.ref a) (.str s) H Q = Q v H := ix_dK (k := .inr s) (.inr ⟨o, h⟩) e.symm
theorem set_dS {kvs : List (Key × V)} {s : Str} {v : V} {R : Hp → Prop} (h : H a = some (.dK kvs)) (hl : kvs.length < 1000) (q : R (upd H a (.dK (putK kvs (.inr s) v)))) : oSet (.ref a) (.str s) v H R := by
  simp only [oSet, h, keyOf]
  exact ⟨Nat.lt_trans hl (small1000 (Nat.le_refl _)), q⟩
end
end WR

set_option Elab.async false
set_option linter.all false
set_option maxRecDepth 100000
set_option maxHeartbeats 4000000
/-! helpers of all laws: small numbers, loops, indexes, frames, the digit boxes -/
namespace WR
open PySem PySem.Spec PyProof.Rows L2
theorem kb_non_int : kitB "NoneType" "int" = some false := by kernel_rfl
theorem kb_non_bool : kitB "NoneType" "bool" = some false := by kernel_rfl
theorem kb_non_str : kitB "NoneType" "str" = some false := by kernel_rfl
theorem kb_non_list : kitB "NoneType" "list" = some false := by kernel_rfl
theorem kb_non_dict : kitB "NoneType" "dict" = some false := by kernel_rfl
theorem kb_non_tuple : kitB "NoneType" "tuple" = some false := by kernel_rfl
theorem kb_bool_int : kitB "bool" "int" = some true := by kernel_rfl
theorem kb_bool_bool : kitB "bool" "bool" = some true := by kernel_rfl
theorem kb_bool_str : kitB "bool" "str" = some false := by kernel_rfl
theorem kb_bool_list : kitB "bool" "list" = some false := by kernel_rfl
theorem kb_bool_dict : kitB "bool" "dict" = some false := by kernel_rfl
theorem kb_bool_tuple : kitB "bool" "tuple" = some false := by kernel_rfl
theorem kb_int_int : kitB "int" "int" = some true := by kernel_rfl
theorem kb_int_bool : kitB "int" "bool" = some false := by kernel_rfl
theorem kb_int_str : kitB "int" "str" = some false := by kernel_rfl
theorem kb_int_list : kitB "int" "list" = some false := by kernel_rfl
theorem kb_int_dict : kitB "int" "dict" = some false := by kernel_rfl
theorem kb_int_tuple : kitB "int" "tuple" = some false := by kernel_rfl
theorem kb_str_int : kitB "str" "int" = some false := by kernel_rfl
theorem kb_str_bool : kitB "str" "bool" = some false := by kernel_rfl
theorem kb_str_str : kitB "str" "str" = some true := by kernel_rfl
theorem kb_str_list : kitB "str" "list" = some false := by kernel_rfl
theorem kb_str_dict : kitB "str" "dict" = some false := by kernel_rfl
theorem kb_str_tuple : kitB "str" "tuple" = some false := by kernel_rfl
theorem kb_tuple_int : kitB "tuple" "int" = some false := by kernel_rfl
theorem kb_tuple_bool : kitB "tuple" "bool" = some false := by kernel_rfl
theorem kb_tuple_str : kitB "tuple" "str" = some false := by kernel_rfl
theorem kb_tuple_list : kitB "tuple" "list" = some false := by kernel_rfl
theorem kb_tuple_dict : kitB "tuple" "dict" = some false := by kernel_rfl
theorem kb_tuple_tuple : kitB "tuple" "tuple" = some true := by kernel_rfl
theorem kb_list_int : kitB "list" "int" = some false := by kernel_rfl
theorem kb_list_bool : kitB "list" "bool" = some false := by kernel_rfl
theorem kb_list_str : kitB "list" "str" = some false := by kernel_rfl
theorem kb_list_list : kitB "list" "list" = some true := by kernel_rfl
theorem kb_list_dict : kitB "list" "dict" = some false := by kernel_rfl
theorem kb_list_tuple : kitB "list" "tuple" = some false := by kernel_rfl
theorem kb_dict_int : kitB "dict" "int" = some false := by kernel_rfl
theorem kb_dict_bool : kitB "dict" "bool" = some false := by kernel_rfl
theorem kb_dict_str : kitB "dict" "str" = some false := by kernel_rfl
theorem kb_dict_list : kitB "dict" "list" = some false := by kernel_rfl
theorem kb_dict_dict : kitB "dict" "dict" = some true := by kernel_rfl
theorem kb_dict_tuple : kitB "dict" "tuple" = some false := by kernel_rfl
section
variable {K : PySem.W.Frag} {H H1 H' : Hp} {Q : VK} {E : XK}
theorem log_small {a : Nat} (h : a < 2 ^ 64) : a.log2 < 64 := by
  by_cases z : a = 0
  · subst z; decide
  · exact (Nat.log2_lt z).mpr h
theorem cmul_of {a b : Int} (ha : a.natAbs < 2 ^ 64) (hb : b.natAbs < 2 ^ 64) : CMulW a b := by
  unfold CMulW
  have := log_small ha
  have := log_small hb
  omega
theorem cdiv_of {a b : Int} (h0 : 0 < b) (hb : b.natAbs < 2 ^ 64) : CDivW a b := by
  unfold CDivW
  have := log_small hb
  omega
theorem mod_b {a : Int} {m : Int} (hm : 0 < m) : 0 ≤ a % m ∧ a % m < m := ⟨Int.emod_nonneg _ (by omega), Int.emod_lt_of_pos _ hm⟩
theorem ifS_ {c : TT} {t u : TS} {D : Ends} {σ : L2.St} {H : Hp} (h : ∀ A B : Hp → Prop, (∀ H, t D σ H → A H) → (∀ H, u D σ H → B H) → c σ H fun b H1 => if b = true then A H1 else B H1) : tIfS c t u D σ H := h _ _ (fun _ q => q) fun _ q => q
theorem itr_yld {lo : Int} {N i : Nat} {x : V} {H' : Hp} (h : (Itr lo N).yld i H x H') : H' = H ∧ x = .int (lo + i) := h
theorem itl_yld {l : Addr} {xs : List V} {i : Nat} {x : V} {H' : Hp} (e : H l = some (.lst xs)) (h : (Itl K l).yld i H x H') : H' = H ∧ xs[i]? = some x := ⟨h.1, h.2 xs (.inl (.inl e))⟩
theorem itl_go {l : Addr} {xs : List V} {i : Nat} (e : H l = some (.lst xs)) (hi : i < xs.length) : (Itl K l).go i H := ⟨xs, xs[i], .inl (.inl e), by simp [hi]⟩
theorem itl_stop {l : Addr} {xs : List V} {i : Nat} (e : H l = some (.lst xs)) (hi : xs.length ≤ i) : (Itl K l).stop i H := ⟨xs, .inl (.inl e), hi⟩
theorem tyB_lst {a : Addr} {xs : List V} (h : look K H a = some (.lst xs)) : tyB K H (.ref a) = some "list" := by simp only [tyB, h]
theorem tyB_dK {a : Addr} {kvs : List (Key × V)} (h : H a = some (.dK kvs)) : tyB K H (.ref a) = some "dict" := by
  simp only [tyB, look_of_dK (K := K) h, h]
theorem b_append : (bf K "append").find? (fun b => b.T == "list") = some ⟨"list", "append", "list.append", mAppend⟩ := by kernel_rfl
theorem b_extend : (bf K "extend").find? (fun b => b.T == "list") = some ⟨"list", "extend", "list.extend", mExtend⟩ := by kernel_rfl
theorem b_reverse : (bf K "reverse").find? (fun b => b.T == "list") = some ⟨"list", "reverse", "list.reverse", mReverse⟩ := by kernel_rfl
theorem b_index : (bf K "index").find? (fun b => b.T == "list") = some ⟨"list", "index", "list.index", mIndexL K⟩ := by kernel_rfl
theorem b_clearL : (bf K "clear").find? (fun b => b.T == "list") = some ⟨"list", "clear", "list.clear", mClearL⟩ := by kernel_rfl
theorem b_popL : (bf K "pop").find? (fun b => b.T == "list") = some ⟨"list", "pop", "list.pop", mPopL⟩ := by kernel_rfl
theorem b_get : (bf K "get").find? (fun b => b.T == "dict") = some ⟨"dict", "get", "dict.get", mGetD⟩ := by kernel_rfl
theorem b_pop : (bf K "pop").find? (fun b => b.T == "dict") = some ⟨"dict", "pop", "dict.pop", mPopD⟩ := by kernel_rfl
theorem b_clear : (bf K "clear").find? (fun b => b.T == "dict") = some ⟨"dict", "clear", "dict.clear", mClearD⟩ := by kernel_rfl
theorem b_join : (bf K "join").find? (fun b => b.T == "str") = some ⟨"str", "join", "str.join", mJoin K⟩ := by kernel_rfl
theorem oGet_mono {p : Addr} {y : V} {R R' : Option V → Prop} (h : ∀ o, R o → R' o) (q : oGet H p y R) : oGet H p y R' := by
  unfold oGet at q ⊢
  split at q
  · split at q
    · rename_i e; exact h _ q
    · exact q.elim
  · split at q
    · rename_i e; exact h _ q
    · exact q.elim
  · obtain ⟨k, b, e1, e2, q⟩ := q; exact ⟨k, b, e1, e2, h _ q⟩
  · obtain ⟨k, b, e1, e2, q⟩ := q; exact ⟨k, b, e1, e2, h _ q⟩
  · exact q.elim
theorem oIx_mono {x y : V} {P P' : V → Hp → Prop} (h : ∀ x H, P x H → P' x H) (q : oIx K x y H P) : oIx K x y H P' := by
  unfold oIx at q ⊢
  split at q
  · split at q
    · split at q
      · split at q
        · exact h _ _ q
        · exact q.elim
      · exact q.elim
    · split at q
      · split at q
        · exact h _ _ q
        · exact q.elim
      · exact q.elim
    · exact oGet_mono (fun o z => by
        cases o with
        | none => exact z
        | some v => exact h _ _ z) q
  · split at q
    · refine ⟨q.1, ?_⟩
      have q2 := q.2
      split at q2
      · exact h _ _ q2
      · exact q2.elim
    · exact q.elim
  · exact q.elim
theorem mono_ix {i j : Nat} {σ : L2.St} {P P' : V → Hp → Prop} (h : ∀ x H, P x H → P' x H) (q : tOp (oIx K) (cVar i) (cVar j) σ H P) : tOp (oIx K) (cVar i) (cVar j) σ H P' := by
  simp only [tOp] at q ⊢
  exact mono_var (fun x H1 q1 => mono_var (fun y H2 q2 => oIx_mono h q2) q1) q
theorem mono_ixC {i : Nat} {v : V} {σ : L2.St} {P P' : V → Hp → Prop} (h : ∀ x H, P x H → P' x H) (q : tOp (oIx K) (cVar i) (tC v) σ H P) : tOp (oIx K) (cVar i) (tC v) σ H P' := by
  simp only [tOp, tC] at q ⊢
  exact mono_var (fun x H1 q1 => oIx_mono h q1) q
theorem mono_ixCC {i : Nat} {v w : V} {σ : L2.St} {P P' : V → Hp → Prop} (h : ∀ x H, P x H → P' x H) (q : tOp (oIx K) (tOp (oIx K) (cVar i) (tC v)) (tC w) σ H P) : tOp (oIx K) (tOp (oIx K) (cVar i) (tC v)) (tC w) σ H P' := by
  simp only [tOp, tC] at q ⊢
  exact mono_var (fun x H1 q1 => oIx_mono (fun y H2 q2 => oIx_mono h q2) q1) q
theorem mono_attr {c : List Addr} {f : Str} {i : Nat} {σ : L2.St} {P P' : V → Hp → Prop} (h : ∀ x H, P x H → P' x H) (q : cAttr c f (cVar i) σ H P) : cAttr c f (cVar i) σ H P' := by
  unfold cAttr at q ⊢
  refine mono_var (fun x H1 q1 => ?_) q
  split at q1
  · rename_i a C fs e
    obtain ⟨hc, q1⟩ := q1
    refine ⟨hc, ?_⟩
    split at q1
    · exact h _ _ q1
    · exact q1.elim
  · exact q1.elim
theorem two_ix {bl : Addr} {x y : V} {c : Int} (h : H bl = some (.lst [x, y])) (q : Q (if c % 2 = 1 then y else x) H) : oIx K (.ref bl) (.int (c % 2)) H Q := by
  have m2 := mod_b (a := c) (m := 2) (by decide)
  rcases (by omega : c % 2 = 0 ∨ c % 2 = 1) with e | e
  · rw [e] at q ⊢
    rw [ix_lst (look_of_lst h) (v := x) rfl]
    simpa using q
  · rw [e] at q ⊢
    rw [ix_lst (look_of_lst h) (v := y) rfl]
    simpa using q
/-! ## frames -/
/-- all that is tracked stays, but what stands at the addresses of l -/
def Fr (l : List Addr) (H H' : Hp) : Prop := ∀ a o, a ∉ l → H a = some o → H' a = some o
theorem Fr.refl {l : List Addr} : Fr l H H := fun _ _ _ e => e
theorem Fr.ex {l : List Addr} (x : Ex H H') : Fr l H H' := fun a o _ e => x a o e
theorem Fr.to_ex (x : Fr [] H H') : Ex H H' := fun a o e => x a o (by simp) e
theorem Fr.trans {l : List Addr} (x : Fr l H H1) (z : Fr l H1 H') : Fr l H H' := fun a o n e => z a o n (x a o n e)
theorem Fr.mono {l m : List Addr} (x : Fr l H H') (h : ∀ a ∈ l, a ∈ m) : Fr m H H' := fun a o n e => x a o (fun z => n (h a z)) e
theorem Fr.put {l : List Addr} {a : Addr} {o : HO} (x : Fr l H H1) (h : a ∈ l) : Fr l H (upd H1 a o) := fun b u n e => by
  rw [upd_ne (fun z => n (by rw [z]; exact h))]; exact x b u n e
theorem Fr.new {l : List Addr} {a : Addr} {o : HO} (x : Fr l H H1) (h : H1 a = none) : Fr l H (upd H1 a o) := fun b u n e => by
  rw [upd_ne (fun z => by rw [z] at e; have := x a u (fun m => n (by rw [z]; exact m)) e; rw [h] at this; cases this)]; exact x b u n e
end
end WR

set_option Elab.async false
set_option linter.all false
set_option maxRecDepth 100000
set_option maxHeartbeats 4000000
/-! the digit boxes of the laws -/
namespace WR
open PySem PySem.Spec PyProof.Rows L2
section
variable {K : PySem.W.Frag} {H H1 H' : Hp} {Q : VK} {E : XK}
def takeR (K : PySem.W.Frag) (k1 s1 e1 m1 d1 k2 s2 e2 m2 d2 k3 d3 : Int) : TS :=
  (tSeq (tIfS (cTest (tOp oGt (tOp (oIx K) (cVar 0) (tC (.int 0))) (tC (.int 0))))
  (tSeq (tAsg (tOp oMod (tOp (oIx K) (cVar 0) (tC (.int 0))) (cVar 1)) (gName 4))
  (tSeq (tAsg (tOp oFdiv (tOp (oIx K) (cVar 0) (tC (.int 0))) (cVar 1)) (gSub (cVar 0) (tC (.int 0)) oSet))
  (tRet (cVar 4))))
  tNext)
  (tSeq (tAsg (tOp (oAdd K) (tOp (oIx K) (cVar 0) (tC (.int 2))) (tC (.int 1))) (gSub (cVar 0) (tC (.int 2)) oSet))
  (tSeq (tAsg (tOp oMod (tOp oPow (tOp (oAdd K) (tOp (oAdd K) (tOp (oIx K) (cVar 0) (tC (.int 1))) (tOp oMul (tC (.int k1)) (tOp (oIx K) (cVar 0) (tC (.int 2))))) (tC (.int s1))) (tC (.int e1))) (tC (.int m1))) (gName 2))
  (tSeq (tAsg (tOp oMod (tOp oPow (tOp (oAdd K) (tOp (oAdd K) (tOp oFdiv (cVar 2) (tC (.int d1))) (tOp oMul (tOp oMul (tC (.int k2)) (tOp (oIx K) (cVar 0) (tC (.int 2)))) (tOp (oIx K) (cVar 0) (tC (.int 2))))) (tC (.int s2))) (tC (.int e2))) (tC (.int m2))) (gName 3))
  (tRet (tOp oMod (tOp (oAdd K) (tOp oFdiv (cVar 2) (tC (.int d2))) (tOp oMul (tC (.int k3)) (tOp oFdiv (cVar 3) (tC (.int d3))))) (cVar 1)))))))
/-- a box that has given at most N drawn digits -/
def Bx (H : Hp) (b : Addr) (N : Nat) : Prop := ∃ a o c : Int, H b = some (.lst [.int a, .int o, .int c]) ∧ 0 ≤ a ∧ 0 ≤ o ∧ o < 2 ^ 31 ∧ 0 ≤ c ∧ c ≤ N
theorem Bx.mono {b : Addr} {N M : Nat} (h : Bx H b N) (l : N ≤ M) : Bx H b M := by
  obtain ⟨a, o, c, e, h1, h2, h3, h4, h5⟩ := h
  exact ⟨a, o, c, e, h1, h2, h3, h4, by omega⟩
theorem Bx.ex {b : Addr} {N : Nat} (x : Ex H H') (h : Bx H b N) : Bx H' b N := by
  obtain ⟨a, o, c, e, h1, h2, h3, h4, h5⟩ := h
  exact ⟨a, o, c, x _ _ e, h1, h2, h3, h4, h5⟩
theorem Bx.fr {b : Addr} {N : Nat} {l : List Addr} (x : Fr l H H') (n : b ∉ l) (h : Bx H b N) : Bx H' b N := by
  obtain ⟨a, o, c, e, h1, h2, h3, h4, h5⟩ := h
  exact ⟨a, o, c, x _ _ n e, h1, h2, h3, h4, h5⟩
theorem mul_lt {a b x y : Int} (h0 : 0 ≤ a) (h1 : a < x) (h2 : 0 ≤ b) (h3 : b < y) : 0 ≤ a * b ∧ a * b < x * y := by
  refine ⟨Int.mul_nonneg h0 h2, ?_⟩
  have e1 : a * b ≤ a * y := Int.mul_le_mul_of_nonneg_left (by omega) h0
  have e2 : a * y < x * y := Int.mul_lt_mul_of_pos_right h1 (by omega)
  omega
theorem take_ok {k1 s1 e1 m1 d1 k2 s2 e2 m2 d2 k3 d3 : Int} {b : Addr} {N : Nat} {many : Int} {D : Ends} (hx : Bx H b N) (hN : N < 100000) (h1 : 1 ≤ many) (h2 : many < 2 ^ 60)
    (c1 : 0 ≤ k1 ∧ k1 < 2 ^ 30) (c2 : 0 ≤ s1 ∧ s1 < 2 ^ 30) (c3 : 0 ≤ e1 ∧ e1 ≤ 10) (c4 : 0 < m1 ∧ m1 < 2 ^ 32) (c5 : 0 < d1 ∧ d1 < 2 ^ 32) (c6 : 0 ≤ k2 ∧ k2 < 2 ^ 28) (c7 : 0 ≤ s2 ∧ s2 < 2 ^ 30) (c8 : 0 ≤ e2 ∧ e2 ≤ 10)
    (c9 : 0 < m2 ∧ m2 < 2 ^ 32) (c10 : 0 < d2 ∧ d2 < 2 ^ 32) (c11 : 0 ≤ k3 ∧ k3 < 2 ^ 32) (c12 : 0 < d3 ∧ d3 < 2 ^ 32)
    (h : ∀ r H', 0 ≤ r → r < many → Bx H' b (N + 1) → Fr [b] H H' → D.rt (.int r) H') : takeR K k1 s1 e1 m1 d1 k2 s2 e2 m2 d2 k3 d3 D [some (.ref b), some (.int many), none, none, none] H := by
  obtain ⟨a, o, c, e, a0, o0, o1, n0, n1⟩ := hx
  unfold takeR
  refine seq_ fun N1 g1 => ifS_ fun A B hA hB => ?_
  simp only [cTest, tSeq, tIfS, tNext, tRet, tRetN, tDrop, tAsg, tC, cVar, tOp, tCB, tCons, tNil, tTup, tLst, tIf, tAnd, tOr, tNot, cTest, cTru, oTru, cAnd, cOr, cNot, cUn, cChain, gName, cTupG, gCons, gNil, gSub, oLt, oLe, oGt, oGe, oIs, oIsNot, oSub, oMul, oFdiv, oMod, oPow, cPar, cPar3, cAug, tDNewK, cCall, cAttr, frzE, List.mem_singleton, List.lookup_cons_self, List.getElem?_cons_zero, List.getElem?_cons_succ, List.set_cons_zero, List.set_cons_succ, Option.some.injEq, reduceCtorEq, if_true, if_false, Bool.true_eq_false, Bool.false_eq_true, decide_eq_true_eq, ite_true, ite_false, ↓reduceIte, List.length_cons, List.length_nil, true_and, and_true, exists_eq_left', exists_eq_left, List.cons.injEq]
  rw [ix_lst (look_of_lst e) (v := .int a) rfl]
  try simp only [tSeq, tIfS, tNext, tRet, tRetN, tDrop, tAsg, tC, cVar, tOp, tCB, tCons, tNil, tTup, tLst, tIf, tAnd, tOr, tNot, cTest, cTru, oTru, cAnd, cOr, cNot, cUn, cChain, gName, cTupG, gCons, gNil, gSub, oLt, oLe, oGt, oGe, oIs, oIsNot, oSub, oMul, oFdiv, oMod, oPow, cPar, cPar3, cAug, tDNewK, cCall, cAttr, frzE, List.mem_singleton, List.lookup_cons_self, List.getElem?_cons_zero, List.getElem?_cons_succ, List.set_cons_zero, List.set_cons_succ, Option.some.injEq, reduceCtorEq, if_true, if_false, Bool.true_eq_false, Bool.false_eq_true, decide_eq_true_eq, ite_true, ite_false, ↓reduceIte, List.length_cons, List.length_nil, true_and, and_true, exists_eq_left', exists_eq_left, List.cons.injEq]
  by_cases az : 0 < a
  · rw [if_pos az]
    refine hA _ (seq_ fun N2 g2 => ?_)
    try simp only [tSeq, tIfS, tNext, tRet, tRetN, tDrop, tAsg, tC, cVar, tOp, tCB, tCons, tNil, tTup, tLst, tIf, tAnd, tOr, tNot, cTest, cTru, oTru, cAnd, cOr, cNot, cUn, cChain, gName, cTupG, gCons, gNil, gSub, oLt, oLe, oGt, oGe, oIs, oIsNot, oSub, oMul, oFdiv, oMod, oPow, cPar, cPar3, cAug, tDNewK, cCall, cAttr, frzE, List.mem_singleton, List.lookup_cons_self, List.getElem?_cons_zero, List.getElem?_cons_succ, List.set_cons_zero, List.set_cons_succ, Option.some.injEq, reduceCtorEq, if_true, if_false, Bool.true_eq_false, Bool.false_eq_true, decide_eq_true_eq, ite_true, ite_false, ↓reduceIte, List.length_cons, List.length_nil, true_and, and_true, exists_eq_left', exists_eq_left, List.cons.injEq]
    rw [ix_lst (look_of_lst e) (v := .int a) rfl]
    try simp only [tSeq, tIfS, tNext, tRet, tRetN, tDrop, tAsg, tC, cVar, tOp, tCB, tCons, tNil, tTup, tLst, tIf, tAnd, tOr, tNot, cTest, cTru, oTru, cAnd, cOr, cNot, cUn, cChain, gName, cTupG, gCons, gNil, gSub, oLt, oLe, oGt, oGe, oIs, oIsNot, oSub, oMul, oFdiv, oMod, oPow, cPar, cPar3, cAug, tDNewK, cCall, cAttr, frzE, List.mem_singleton, List.lookup_cons_self, List.getElem?_cons_zero, List.getElem?_cons_succ, List.set_cons_zero, List.set_cons_succ, Option.some.injEq, reduceCtorEq, if_true, if_false, Bool.true_eq_false, Bool.false_eq_true, decide_eq_true_eq, ite_true, ite_false, ↓reduceIte, List.length_cons, List.length_nil, true_and, and_true, exists_eq_left', exists_eq_left, List.cons.injEq]
    refine ⟨by omega, g2 _ _ (seq_ fun N3 g3 => ?_)⟩
    try simp only [tSeq, tIfS, tNext, tRet, tRetN, tDrop, tAsg, tC, cVar, tOp, tCB, tCons, tNil, tTup, tLst, tIf, tAnd, tOr, tNot, cTest, cTru, oTru, cAnd, cOr, cNot, cUn, cChain, gName, cTupG, gCons, gNil, gSub, oLt, oLe, oGt, oGe, oIs, oIsNot, oSub, oMul, oFdiv, oMod, oPow, cPar, cPar3, cAug, tDNewK, cCall, cAttr, frzE, List.mem_singleton, List.lookup_cons_self, List.getElem?_cons_zero, List.getElem?_cons_succ, List.set_cons_zero, List.set_cons_succ, Option.some.injEq, reduceCtorEq, if_true, if_false, Bool.true_eq_false, Bool.false_eq_true, decide_eq_true_eq, ite_true, ite_false, ↓reduceIte, List.length_cons, List.length_nil, true_and, and_true, exists_eq_left', exists_eq_left, List.cons.injEq]
    rw [ix_lst (look_of_lst e) (v := .int a) rfl]
    try simp only [tSeq, tIfS, tNext, tRet, tRetN, tDrop, tAsg, tC, cVar, tOp, tCB, tCons, tNil, tTup, tLst, tIf, tAnd, tOr, tNot, cTest, cTru, oTru, cAnd, cOr, cNot, cUn, cChain, gName, cTupG, gCons, gNil, gSub, oLt, oLe, oGt, oGe, oIs, oIsNot, oSub, oMul, oFdiv, oMod, oPow, cPar, cPar3, cAug, tDNewK, cCall, cAttr, frzE, List.mem_singleton, List.lookup_cons_self, List.getElem?_cons_zero, List.getElem?_cons_succ, List.set_cons_zero, List.set_cons_succ, Option.some.injEq, reduceCtorEq, if_true, if_false, Bool.true_eq_false, Bool.false_eq_true, decide_eq_true_eq, ite_true, ite_false, ↓reduceIte, List.length_cons, List.length_nil, true_and, and_true, exists_eq_left', exists_eq_left, List.cons.injEq]
    refine ⟨cdiv_of (by omega) (by omega), ?_⟩
    simp only [oSet, e, List.length_cons, List.length_nil]
    rw [show ixN (0 + 1 + 1 + 1) 0 = some 0 from rfl]
    refine g3 _ _ ?_
    try simp only [tSeq, tIfS, tNext, tRet, tRetN, tDrop, tAsg, tC, cVar, tOp, tCB, tCons, tNil, tTup, tLst, tIf, tAnd, tOr, tNot, cTest, cTru, oTru, cAnd, cOr, cNot, cUn, cChain, gName, cTupG, gCons, gNil, gSub, oLt, oLe, oGt, oGe, oIs, oIsNot, oSub, oMul, oFdiv, oMod, oPow, cPar, cPar3, cAug, tDNewK, cCall, cAttr, frzE, List.mem_singleton, List.lookup_cons_self, List.getElem?_cons_zero, List.getElem?_cons_succ, List.set_cons_zero, List.set_cons_succ, Option.some.injEq, reduceCtorEq, if_true, if_false, Bool.true_eq_false, Bool.false_eq_true, decide_eq_true_eq, ite_true, ite_false, ↓reduceIte, List.length_cons, List.length_nil, true_and, and_true, exists_eq_left', exists_eq_left, List.cons.injEq]
    have mb := mod_b (a := a) (m := many) (by omega)
    refine h _ _ mb.1 mb.2 ⟨a / many, o, c, by rw [upd_same]; try rfl, Int.ediv_nonneg a0 (by omega), o0, o1, n0, by omega⟩ (Fr.refl.put (by simp))
  · rw [if_neg az]
    refine hB _ (g1 _ _ (seq_ fun N2 g2 => ?_))
    try simp only [tSeq, tIfS, tNext, tRet, tRetN, tDrop, tAsg, tC, cVar, tOp, tCB, tCons, tNil, tTup, tLst, tIf, tAnd, tOr, tNot, cTest, cTru, oTru, cAnd, cOr, cNot, cUn, cChain, gName, cTupG, gCons, gNil, gSub, oLt, oLe, oGt, oGe, oIs, oIsNot, oSub, oMul, oFdiv, oMod, oPow, cPar, cPar3, cAug, tDNewK, cCall, cAttr, frzE, List.mem_singleton, List.lookup_cons_self, List.getElem?_cons_zero, List.getElem?_cons_succ, List.set_cons_zero, List.set_cons_succ, Option.some.injEq, reduceCtorEq, if_true, if_false, Bool.true_eq_false, Bool.false_eq_true, decide_eq_true_eq, ite_true, ite_false, ↓reduceIte, List.length_cons, List.length_nil, true_and, and_true, exists_eq_left', exists_eq_left, List.cons.injEq]
    rw [ix_lst (look_of_lst e) (v := .int c) rfl]
    simp only [oAdd, oSet, e, tSeq, tIfS, tNext, tRet, tRetN, tDrop, tAsg, tC, cVar, tOp, tCB, tCons, tNil, tTup, tLst, tIf, tAnd, tOr, tNot, cTest, cTru, oTru, cAnd, cOr, cNot, cUn, cChain, gName, cTupG, gCons, gNil, gSub, oLt, oLe, oGt, oGe, oIs, oIsNot, oSub, oMul, oFdiv, oMod, oPow, cPar, cPar3, cAug, tDNewK, cCall, cAttr, frzE, List.mem_singleton, List.lookup_cons_self, List.getElem?_cons_zero, List.getElem?_cons_succ, List.set_cons_zero, List.set_cons_succ, Option.some.injEq, reduceCtorEq, if_true, if_false, Bool.true_eq_false, Bool.false_eq_true, decide_eq_true_eq, ite_true, ite_false, ↓reduceIte, List.length_cons, List.length_nil, true_and, and_true, exists_eq_left', exists_eq_left, List.cons.injEq]
    rw [show ixN (0 + 1 + 1 + 1) 2 = some 2 from rfl]
    refine g2 _ _ (seq_ fun N3 g3 => ?_)
    have ee : (upd H b (.lst ([V.int a, V.int o, V.int c].set 2 (.int (c + 1))))) b = some (.lst [.int a, .int o, .int (c + 1)]) := by rw [upd_same]; try rfl
    have fr : Fr [b] H (upd H b (.lst ([V.int a, V.int o, V.int c].set 2 (.int (c + 1))))) := Fr.refl.put (by simp)
    generalize upd H b (.lst ([V.int a, V.int o, V.int c].set 2 (.int (c + 1)))) = H2 at ee fr ⊢
    obtain ⟨C, hC⟩ : ∃ C, C = c + 1 := ⟨_, rfl⟩
    rw [← hC] at ee
    have q1 := mul_lt (a := k1) (b := C) (x := 2 ^ 30) (y := 2 ^ 17) (by omega) (by omega) (by omega) (by omega)
    have q2 := mul_lt (a := k2) (b := C) (x := 2 ^ 28) (y := 2 ^ 17) (by omega) (by omega) (by omega) (by omega)
    have q3 := mul_lt (a := k2 * C) (b := C) (x := 2 ^ 28 * 2 ^ 17) (y := 2 ^ 17) (by omega) (by omega) (by omega) (by omega)
    try simp only [tSeq, tIfS, tNext, tRet, tRetN, tDrop, tAsg, tC, cVar, tOp, tCB, tCons, tNil, tTup, tLst, tIf, tAnd, tOr, tNot, cTest, cTru, oTru, cAnd, cOr, cNot, cUn, cChain, gName, cTupG, gCons, gNil, gSub, oLt, oLe, oGt, oGe, oIs, oIsNot, oSub, oMul, oFdiv, oMod, oPow, cPar, cPar3, cAug, tDNewK, cCall, cAttr, frzE, List.mem_singleton, List.lookup_cons_self, List.getElem?_cons_zero, List.getElem?_cons_succ, List.set_cons_zero, List.set_cons_succ, Option.some.injEq, reduceCtorEq, if_true, if_false, Bool.true_eq_false, Bool.false_eq_true, decide_eq_true_eq, ite_true, ite_false, ↓reduceIte, List.length_cons, List.length_nil, true_and, and_true, exists_eq_left', exists_eq_left, List.cons.injEq]
    rw [ix_lst (look_of_lst ee) (v := .int o) rfl]
    try simp only [tSeq, tIfS, tNext, tRet, tRetN, tDrop, tAsg, tC, cVar, tOp, tCB, tCons, tNil, tTup, tLst, tIf, tAnd, tOr, tNot, cTest, cTru, oTru, cAnd, cOr, cNot, cUn, cChain, gName, cTupG, gCons, gNil, gSub, oLt, oLe, oGt, oGe, oIs, oIsNot, oSub, oMul, oFdiv, oMod, oPow, cPar, cPar3, cAug, tDNewK, cCall, cAttr, frzE, List.mem_singleton, List.lookup_cons_self, List.getElem?_cons_zero, List.getElem?_cons_succ, List.set_cons_zero, List.set_cons_succ, Option.some.injEq, reduceCtorEq, if_true, if_false, Bool.true_eq_false, Bool.false_eq_true, decide_eq_true_eq, ite_true, ite_false, ↓reduceIte, List.length_cons, List.length_nil, true_and, and_true, exists_eq_left', exists_eq_left, List.cons.injEq]
    rw [ix_lst (look_of_lst ee) (v := .int C) rfl]
    simp only [oAdd, tSeq, tIfS, tNext, tRet, tRetN, tDrop, tAsg, tC, cVar, tOp, tCB, tCons, tNil, tTup, tLst, tIf, tAnd, tOr, tNot, cTest, cTru, oTru, cAnd, cOr, cNot, cUn, cChain, gName, cTupG, gCons, gNil, gSub, oLt, oLe, oGt, oGe, oIs, oIsNot, oSub, oMul, oFdiv, oMod, oPow, cPar, cPar3, cAug, tDNewK, cCall, cAttr, frzE, List.mem_singleton, List.lookup_cons_self, List.getElem?_cons_zero, List.getElem?_cons_succ, List.set_cons_zero, List.set_cons_succ, Option.some.injEq, reduceCtorEq, if_true, if_false, Bool.true_eq_false, Bool.false_eq_true, decide_eq_true_eq, ite_true, ite_false, ↓reduceIte, List.length_cons, List.length_nil, true_and, and_true, exists_eq_left', exists_eq_left, List.cons.injEq]
    refine ⟨cmul_of (by omega) (by omega), ⟨by omega, by omega, by omega⟩, by omega, g3 _ _ (seq_ fun N4 g4 => ?_)⟩
    have mb := mod_b (a := (o + k1 * C + s1) ^ e1.toNat) (m := m1) (by omega)
    generalize (o + k1 * C + s1) ^ e1.toNat % m1 = one at mb ⊢
    try simp only [tSeq, tIfS, tNext, tRet, tRetN, tDrop, tAsg, tC, cVar, tOp, tCB, tCons, tNil, tTup, tLst, tIf, tAnd, tOr, tNot, cTest, cTru, oTru, cAnd, cOr, cNot, cUn, cChain, gName, cTupG, gCons, gNil, gSub, oLt, oLe, oGt, oGe, oIs, oIsNot, oSub, oMul, oFdiv, oMod, oPow, cPar, cPar3, cAug, tDNewK, cCall, cAttr, frzE, List.mem_singleton, List.lookup_cons_self, List.getElem?_cons_zero, List.getElem?_cons_succ, List.set_cons_zero, List.set_cons_succ, Option.some.injEq, reduceCtorEq, if_true, if_false, Bool.true_eq_false, Bool.false_eq_true, decide_eq_true_eq, ite_true, ite_false, ↓reduceIte, List.length_cons, List.length_nil, true_and, and_true, exists_eq_left', exists_eq_left, List.cons.injEq]
    have dv : 0 ≤ one / d1 ∧ one / d1 ≤ one := ⟨Int.ediv_nonneg mb.1 (by omega), Int.ediv_le_self _ mb.1⟩
    refine ⟨cdiv_of (by omega) (by omega), ?_⟩
    rw [ix_lst (look_of_lst ee) (v := .int C) rfl]
    try simp only [tSeq, tIfS, tNext, tRet, tRetN, tDrop, tAsg, tC, cVar, tOp, tCB, tCons, tNil, tTup, tLst, tIf, tAnd, tOr, tNot, cTest, cTru, oTru, cAnd, cOr, cNot, cUn, cChain, gName, cTupG, gCons, gNil, gSub, oLt, oLe, oGt, oGe, oIs, oIsNot, oSub, oMul, oFdiv, oMod, oPow, cPar, cPar3, cAug, tDNewK, cCall, cAttr, frzE, List.mem_singleton, List.lookup_cons_self, List.getElem?_cons_zero, List.getElem?_cons_succ, List.set_cons_zero, List.set_cons_succ, Option.some.injEq, reduceCtorEq, if_true, if_false, Bool.true_eq_false, Bool.false_eq_true, decide_eq_true_eq, ite_true, ite_false, ↓reduceIte, List.length_cons, List.length_nil, true_and, and_true, exists_eq_left', exists_eq_left, List.cons.injEq]
    refine ⟨cmul_of (by omega) (by omega), ?_⟩
    rw [ix_lst (look_of_lst ee) (v := .int C) rfl]
    simp only [oAdd, tSeq, tIfS, tNext, tRet, tRetN, tDrop, tAsg, tC, cVar, tOp, tCB, tCons, tNil, tTup, tLst, tIf, tAnd, tOr, tNot, cTest, cTru, oTru, cAnd, cOr, cNot, cUn, cChain, gName, cTupG, gCons, gNil, gSub, oLt, oLe, oGt, oGe, oIs, oIsNot, oSub, oMul, oFdiv, oMod, oPow, cPar, cPar3, cAug, tDNewK, cCall, cAttr, frzE, List.mem_singleton, List.lookup_cons_self, List.getElem?_cons_zero, List.getElem?_cons_succ, List.set_cons_zero, List.set_cons_succ, Option.some.injEq, reduceCtorEq, if_true, if_false, Bool.true_eq_false, Bool.false_eq_true, decide_eq_true_eq, ite_true, ite_false, ↓reduceIte, List.length_cons, List.length_nil, true_and, and_true, exists_eq_left', exists_eq_left, List.cons.injEq]
    refine ⟨cmul_of (by omega) (by omega), ⟨by omega, by omega, by omega⟩, by omega, g4 _ _ ?_⟩
    have mb2 := mod_b (a := (one / d1 + k2 * C * C + s2) ^ e2.toNat) (m := m2) (by omega)
    generalize (one / d1 + k2 * C * C + s2) ^ e2.toNat % m2 = oth at mb2 ⊢
    simp only [oAdd, tSeq, tIfS, tNext, tRet, tRetN, tDrop, tAsg, tC, cVar, tOp, tCB, tCons, tNil, tTup, tLst, tIf, tAnd, tOr, tNot, cTest, cTru, oTru, cAnd, cOr, cNot, cUn, cChain, gName, cTupG, gCons, gNil, gSub, oLt, oLe, oGt, oGe, oIs, oIsNot, oSub, oMul, oFdiv, oMod, oPow, cPar, cPar3, cAug, tDNewK, cCall, cAttr, frzE, List.mem_singleton, List.lookup_cons_self, List.getElem?_cons_zero, List.getElem?_cons_succ, List.set_cons_zero, List.set_cons_succ, Option.some.injEq, reduceCtorEq, if_true, if_false, Bool.true_eq_false, Bool.false_eq_true, decide_eq_true_eq, ite_true, ite_false, ↓reduceIte, List.length_cons, List.length_nil, true_and, and_true, exists_eq_left', exists_eq_left, List.cons.injEq]
    have dv2 : 0 ≤ oth / d3 ∧ oth / d3 ≤ oth := ⟨Int.ediv_nonneg mb2.1 (by omega), Int.ediv_le_self _ mb2.1⟩
    refine ⟨cdiv_of (by omega) (by omega), cdiv_of (by omega) (by omega), cmul_of (by omega) (by omega), by omega, ?_⟩
    have mb3 := mod_b (a := one / d2 + k3 * (oth / d3)) (m := many) (by omega)
    exact h _ _ mb3.1 mb3.2 ⟨a, o, C, ee, a0, o0, o1, by omega, by omega⟩ fr
def cellR (K : PySem.W.Frag) (g : G) (k s : Int) : TS :=
  (tSeq (tIfS (cTest (tOp oLt (cVar 1) (tCB (bLenG g) (tCons (cVar 0) tNil))))
  (tRet (tOp (oIx K) (cVar 0) (cVar 1)))
  tNext)
  (tRet (tOp (oAdd K) (tOp oMul (tC (.int k)) (cVar 1)) (tC (.int s)))))
theorem cell_ok {g : G} {k s : Int} {a : Addr} {ns : List Int} {j : Nat} {D : Ends} (hg : g.K = K) (hl : look K H a = some (.lst (ns.map V.int))) (hk : 0 ≤ k ∧ k < 2 ^ 32) (hj : j < 2 ^ 32) (h : ∀ c, D.rt (.int c) H) :
    cellR K g k s D [some (.ref a), some (.int j)] H := by
  unfold cellR
  refine seq_ fun N1 g1 => ifS_ fun A B hA hB => ?_
  try simp only [tSeq, tIfS, tNext, tRet, tRetN, tDrop, tAsg, tC, cVar, tOp, tCB, tCons, tNil, tTup, tLst, tIf, tAnd, tOr, tNot, cTest, cTru, oTru, cAnd, cOr, cNot, cUn, cChain, gName, cTupG, gCons, gNil, gSub, oLt, oLe, oGt, oGe, oIs, oIsNot, oSub, oMul, oFdiv, oMod, oPow, cPar, cPar3, cAug, tDNewK, cCall, cAttr, frzE, List.mem_singleton, List.lookup_cons_self, List.getElem?_cons_zero, List.getElem?_cons_succ, List.set_cons_zero, List.set_cons_succ, Option.some.injEq, reduceCtorEq, if_true, if_false, Bool.true_eq_false, Bool.false_eq_true, decide_eq_true_eq, ite_true, ite_false, ↓reduceIte, List.length_cons, List.length_nil, true_and, and_true, exists_eq_left', exists_eq_left, List.cons.injEq]
  rw [len_lst hg hl]
  simp only [tSeq, tIfS, tNext, tRet, tRetN, tDrop, tAsg, tC, cVar, tOp, tCB, tCons, tNil, tTup, tLst, tIf, tAnd, tOr, tNot, cTest, cTru, oTru, cAnd, cOr, cNot, cUn, cChain, gName, cTupG, gCons, gNil, gSub, oLt, oLe, oGt, oGe, oIs, oIsNot, oSub, oMul, oFdiv, oMod, oPow, cPar, cPar3, cAug, tDNewK, cCall, cAttr, frzE, List.mem_singleton, List.lookup_cons_self, List.getElem?_cons_zero, List.getElem?_cons_succ, List.set_cons_zero, List.set_cons_succ, Option.some.injEq, reduceCtorEq, if_true, if_false, Bool.true_eq_false, Bool.false_eq_true, decide_eq_true_eq, ite_true, ite_false, ↓reduceIte, List.length_cons, List.length_nil, true_and, and_true, exists_eq_left', exists_eq_left, List.cons.injEq, List.length_map]
  by_cases c : j < ns.length
  · rw [if_pos (by exact_mod_cast c)]
    refine hA _ ?_
    simp only [tSeq, tIfS, tNext, tRet, tRetN, tDrop, tAsg, tC, cVar, tOp, tCB, tCons, tNil, tTup, tLst, tIf, tAnd, tOr, tNot, cTest, cTru, oTru, cAnd, cOr, cNot, cUn, cChain, gName, cTupG, gCons, gNil, gSub, oLt, oLe, oGt, oGe, oIs, oIsNot, oSub, oMul, oFdiv, oMod, oPow, cPar, cPar3, cAug, tDNewK, cCall, cAttr, frzE, List.mem_singleton, List.lookup_cons_self, List.getElem?_cons_zero, List.getElem?_cons_succ, List.set_cons_zero, List.set_cons_succ, Option.some.injEq, reduceCtorEq, if_true, if_false, Bool.true_eq_false, Bool.false_eq_true, decide_eq_true_eq, ite_true, ite_false, ↓reduceIte, List.length_cons, List.length_nil, true_and, and_true, exists_eq_left', exists_eq_left, List.cons.injEq]
    rw [ix_lst hl (v := .int (ns.getD j 0)) (by rw [atI_nat]; simp [c])]
    exact h _
  · rw [if_neg (by exact_mod_cast c)]
    refine hB _ (g1 _ _ ?_)
    simp only [oAdd, tSeq, tIfS, tNext, tRet, tRetN, tDrop, tAsg, tC, cVar, tOp, tCB, tCons, tNil, tTup, tLst, tIf, tAnd, tOr, tNot, cTest, cTru, oTru, cAnd, cOr, cNot, cUn, cChain, gName, cTupG, gCons, gNil, gSub, oLt, oLe, oGt, oGe, oIs, oIsNot, oSub, oMul, oFdiv, oMod, oPow, cPar, cPar3, cAug, tDNewK, cCall, cAttr, frzE, List.mem_singleton, List.lookup_cons_self, List.getElem?_cons_zero, List.getElem?_cons_succ, List.set_cons_zero, List.set_cons_succ, Option.some.injEq, reduceCtorEq, if_true, if_false, Bool.true_eq_false, Bool.false_eq_true, decide_eq_true_eq, ite_true, ite_false, ↓reduceIte, List.length_cons, List.length_nil, true_and, and_true, exists_eq_left', exists_eq_left, List.cons.injEq]
    exact ⟨cmul_of (by omega) (by omega), h _⟩
def boxR (M : Int) : TS :=
  (tRet (tLst (tCons (tCB (bMax) (tCons (tC (.int 0)) (tCons (tOp oSub (cVar 0) (tOp oPow (tC (.int 10)) (tC (.int 18)))) tNil))) (tCons (tOp oMod (cVar 0) (tC (.int M))) (tCons (tC (.int 0)) tNil)))))
theorem box_ok {M c : Int} {D : Ends} (hM : 0 < M ∧ M < 2 ^ 31) (h : ∀ b H', H b = none → Ex H H' → Bx H' b 0 → D.rt (.ref b) H') : boxR M D [some (.int c)] H := by
  unfold boxR
  simp only [bMax, tSeq, tIfS, tNext, tRet, tRetN, tDrop, tAsg, tC, cVar, tOp, tCB, tCons, tNil, tTup, tLst, tIf, tAnd, tOr, tNot, cTest, cTru, oTru, cAnd, cOr, cNot, cUn, cChain, gName, cTupG, gCons, gNil, gSub, oLt, oLe, oGt, oGe, oIs, oIsNot, oSub, oMul, oFdiv, oMod, oPow, cPar, cPar3, cAug, tDNewK, cCall, cAttr, frzE, List.mem_singleton, List.lookup_cons_self, List.getElem?_cons_zero, List.getElem?_cons_succ, List.set_cons_zero, List.set_cons_succ, Option.some.injEq, reduceCtorEq, if_true, if_false, Bool.true_eq_false, Bool.false_eq_true, decide_eq_true_eq, ite_true, ite_false, ↓reduceIte, List.length_cons, List.length_nil, true_and, and_true, exists_eq_left', exists_eq_left, List.cons.injEq]
  have mb := mod_b (a := c) (m := M) (by omega)
  refine ⟨⟨by omega, by omega, by omega⟩, by omega, by simp only [sizeLine_eq]; omega, fun b hb => h b _ hb (Ex.refl.new hb) ⟨_, _, _, upd_same, ?_, mb.1, by omega, by omega, by omega⟩⟩
  split <;> omega
theorem in_dI {a : Addr} {kvs : List (Key × V)} {i : Int} {b : Bool} (h : H a = some (.dK kvs)) : oIn K b (.int i) (.ref a) H Q = Q (.bl (b ^^ (valV kvs (.inl i)).isSome)) H := in_dK (k := .inl i) (.inl h)
theorem ix_dI {a : Addr} {kvs : List (Key × V)} {i : Int} {v : V} (h : H a = some (.dK kvs)) (e : valV kvs (.inl i) = some v) : oIx K (.ref a) (.int i) H Q = Q v H := ix_dK (k := .inl i) (.inl h) e.symm
theorem set_dI {a : Addr} {kvs : List (Key × V)} {i : Int} {v : V} {R : Hp → Prop} (h : H a = some (.dK kvs)) (hl : kvs.length < 1000) (q : R (upd H a (.dK (putK kvs (.inl i) v)))) : oSet (.ref a) (.int i) v H R := by
  simp only [oSet, h, keyOf]
  exact ⟨by simp only [sizeLine_eq]; omega, q⟩
theorem lk2 {f g m : Str} {v w : V} (h : (m == f) = false) (h2 : (m == g) = false) : List.lookup m [(f, v), (g, w)] = none := by
  simp [List.lookup, h, h2]
end
end WR

set_option Elab.async false
set_option linter.all false
set_option maxRecDepth 100000
set_option maxHeartbeats 0
namespace WR.L
open PySem PySem.Spec PyProof.Rows L2
def top (i : Nat) : Stmt := PySem.Challenge.pw_peersmeet_k54_roads_bear_letters.main.body.getD i (.Pass ⟨0, 0, 0, 0⟩)
def d_is_whole : Df := ⟨("is_whole", none), "is_whole", "is_whole", top 6, ["thing", "low", "high"], ["thing", "low", "high"], [], []⟩
def d_Roads___init__ : Df := ⟨("Roads", some "__init__"), "__init__", "Roads.__init__", inClass (top 8) 0, ["self"], ["self"], [], []⟩
def d_Roads___len__ : Df := ⟨("Roads", some "__len__"), "__len__", "Roads.__len__", inClass (top 8) 1, ["self"], ["self"], [], []⟩
def d_Roads_put : Df := ⟨("Roads", some "put"), "put", "Roads.put", inClass (top 8) 2, ["self", "letter"], ["self", "letter"], [], []⟩
def d_Roads_letter : Df := ⟨("Roads", some "letter"), "letter", "Roads.letter", inClass (top 8) 3, ["self", "number"], ["self", "number"], [], []⟩
def d_Roads_take_off : Df := ⟨("Roads", some "take_off"), "take_off", "Roads.take_off", inClass (top 8) 4, ["self", "number", "letter"], ["self", "number"], [], []⟩
def d_Roads_doubled : Df := ⟨("Roads", some "doubled"), "doubled", "Roads.doubled", inClass (top 8) 5, ["self", "number"], ["self", "number"], [], []⟩
def d_Roads_numbers : Df := ⟨("Roads", some "numbers"), "numbers", "Roads.numbers", inClass (top 8) 6, ["self"], ["self"], [], []⟩
def d_Roads_copied : Df := ⟨("Roads", some "copied"), "copied", "Roads.copied", inClass (top 8) 7, ["self", "other"], ["self"], [], []⟩
def d__law_cell : Df := ⟨("_law_cell", none), "_law_cell", "_law_cell", top 10, ["script", "k"], ["script", "k"], [], []⟩
def d__law_box : Df := ⟨("_law_box", none), "_law_box", "_law_box", top 11, ["cell"], ["cell"], [], []⟩
def d__law_take : Df := ⟨("_law_take", none), "_law_take", "_law_take", top 12, ["box", "many", "one", "other", "digit"], ["box", "many"], [], []⟩
def d__law_asked : Df := ⟨("_law_asked", none), "_law_asked", "_law_asked", top 13, ["roads", "way", "thing"], ["roads", "way", "thing"], [], []⟩
def d__law_caught : Df := ⟨("_law_caught", none), "_law_caught", "_law_caught", top 14, ["roads", "way", "thing", "e"], ["roads", "way", "thing"], [], []⟩
def d__law_letter : Df := ⟨("_law_letter", none), "_law_letter", "_law_letter", top 15, ["box", "word", "giver", "goal"], ["box"], [], []⟩
def d__law_number : Df := ⟨("_law_number", none), "_law_number", "_law_number", top 16, ["box", "table", "last", "odd", "there"], ["box", "table", "last"], [], []⟩
def d__law_is_there : Df := ⟨("_law_is_there", none), "_law_is_there", "_law_is_there", top 17, ["table", "thing"], ["table", "thing"], [], []⟩
def d__law_deed : Df := ⟨("_law_deed", none), "_law_deed", "_law_deed", top 18, ["box", "roads", "state", "way", "thing", "due", "found", "letter"], ["box", "roads", "state"], [], []⟩
def d__law_right : Df := ⟨("_law_right", none), "_law_right", "_law_right", top 19, ["roads", "state", "told", "number"], ["roads", "state"], [], []⟩
def d_law : Df := ⟨("law", none), "law", "law", top 20, ["script", "some", "states", "k", "box", "turn", "side"], ["script"], [], []⟩
theorem kb1 : Kb d_is_whole 3 [] (fun vs _ => vs) := kb_plain rfl (fun _ _ _ _ _ _ us hl => match us, hl with | [_, _, _], _ => rfl)
theorem kb2 : Kb d_Roads___init__ (0 + 1) [] (fun vs zs => match vs with | v :: r => v :: (fun vs _ => vs) r zs | [] => []) := kb_plainM rfl rfl (fun _ _ _ _ _ _ us hl => match us, hl with | [_], _ => rfl)
theorem kb3 : Kb d_Roads___len__ (0 + 1) [] (fun vs zs => match vs with | v :: r => v :: (fun vs _ => vs) r zs | [] => []) := kb_plainM rfl rfl (fun _ _ _ _ _ _ us hl => match us, hl with | [_], _ => rfl)
theorem kb4 : Kb d_Roads_put (1 + 1) [] (fun vs zs => match vs with | v :: r => v :: (fun vs _ => vs) r zs | [] => []) := kb_plainM rfl rfl (fun _ _ _ _ _ _ us hl => match us, hl with | [_, _], _ => rfl)
theorem kb5 : Kb d_Roads_letter (1 + 1) [] (fun vs zs => match vs with | v :: r => v :: (fun vs _ => vs) r zs | [] => []) := kb_plainM rfl rfl (fun _ _ _ _ _ _ us hl => match us, hl with | [_, _], _ => rfl)
theorem kb6 : Kb d_Roads_take_off (1 + 1) [] (fun vs zs => match vs with | v :: r => v :: (fun vs _ => vs) r zs | [] => []) := kb_plainM rfl rfl (fun _ _ _ _ _ _ us hl => match us, hl with | [_, _], _ => rfl)
theorem kb7 : Kb d_Roads_doubled (1 + 1) [] (fun vs zs => match vs with | v :: r => v :: (fun vs _ => vs) r zs | [] => []) := kb_plainM rfl rfl (fun _ _ _ _ _ _ us hl => match us, hl with | [_, _], _ => rfl)
theorem kb8 : Kb d_Roads_numbers (0 + 1) [] (fun vs zs => match vs with | v :: r => v :: (fun vs _ => vs) r zs | [] => []) := kb_plainM rfl rfl (fun _ _ _ _ _ _ us hl => match us, hl with | [_], _ => rfl)
theorem kb9 : Kb d_Roads_copied (0 + 1) [] (fun vs zs => match vs with | v :: r => v :: (fun vs _ => vs) r zs | [] => []) := kb_plainM rfl rfl (fun _ _ _ _ _ _ us hl => match us, hl with | [_], _ => rfl)
theorem kb10 : Kb d__law_cell 2 [] (fun vs _ => vs) := kb_plain rfl (fun _ _ _ _ _ _ us hl => match us, hl with | [_, _], _ => rfl)
theorem kb11 : Kb d__law_box 1 [] (fun vs _ => vs) := kb_plain rfl (fun _ _ _ _ _ _ us hl => match us, hl with | [_], _ => rfl)
theorem kb12 : Kb d__law_take 2 [] (fun vs _ => vs) := kb_plain rfl (fun _ _ _ _ _ _ us hl => match us, hl with | [_, _], _ => rfl)
theorem kb13 : Kb d__law_asked 3 [] (fun vs _ => vs) := kb_plain rfl (fun _ _ _ _ _ _ us hl => match us, hl with | [_, _, _], _ => rfl)
theorem kb14 : Kb d__law_caught 3 [] (fun vs _ => vs) := kb_plain rfl (fun _ _ _ _ _ _ us hl => match us, hl with | [_, _, _], _ => rfl)
theorem kb15 : Kb d__law_letter 1 [] (fun vs _ => vs) := kb_plain rfl (fun _ _ _ _ _ _ us hl => match us, hl with | [_], _ => rfl)
theorem kb16 : Kb d__law_number 3 [] (fun vs _ => vs) := kb_plain rfl (fun _ _ _ _ _ _ us hl => match us, hl with | [_, _, _], _ => rfl)
theorem kb17 : Kb d__law_is_there 2 [] (fun vs _ => vs) := kb_plain rfl (fun _ _ _ _ _ _ us hl => match us, hl with | [_, _], _ => rfl)
theorem kb18 : Kb d__law_deed 3 [] (fun vs _ => vs) := kb_plain rfl (fun _ _ _ _ _ _ us hl => match us, hl with | [_, _, _], _ => rfl)
theorem kb19 : Kb d__law_right 2 [] (fun vs _ => vs) := kb_plain rfl (fun _ _ _ _ _ _ us hl => match us, hl with | [_, _], _ => rfl)
theorem kb20 : Kb d_law 1 [] (fun vs _ => vs) := kb_plain rfl (fun _ _ _ _ _ _ us hl => match us, hl with | [_], _ => rfl)
def dx_NotOnRoad : Df := ⟨("NotOnRoad", some "__init__"), "__init__", "NotOnRoad.__init__", inClass (top 4) 0, ["self", "found"], ["self", "found"], [], []⟩
def y : Sy where
  ds := [("is_whole", d_is_whole), ("Roads.__init__", d_Roads___init__), ("Roads.__len__", d_Roads___len__), ("Roads.put", d_Roads_put), ("Roads.letter", d_Roads_letter), ("Roads.take_off", d_Roads_take_off), ("Roads.doubled", d_Roads_doubled), ("Roads.numbers", d_Roads_numbers), ("Roads.copied", d_Roads_copied), ("_law_cell", d__law_cell), ("_law_box", d__law_box), ("_law_take", d__law_take), ("_law_asked", d__law_asked), ("_law_caught", d__law_caught), ("_law_letter", d__law_letter), ("_law_number", d__law_number), ("_law_is_there", d__law_is_there), ("_law_deed", d__law_deed), ("_law_right", d__law_right), ("law", d_law)]
  cps := [⟨"is_whole", 3, [], fun vs _ => vs⟩, ⟨"_law_cell", 2, [], fun vs _ => vs⟩, ⟨"_law_box", 1, [], fun vs _ => vs⟩, ⟨"_law_take", 2, [], fun vs _ => vs⟩, ⟨"_law_asked", 3, [], fun vs _ => vs⟩, ⟨"_law_caught", 3, [], fun vs _ => vs⟩, ⟨"_law_letter", 1, [], fun vs _ => vs⟩, ⟨"_law_number", 3, [], fun vs _ => vs⟩, ⟨"_law_is_there", 2, [], fun vs _ => vs⟩, ⟨"_law_deed", 3, [], fun vs _ => vs⟩, ⟨"_law_right", 2, [], fun vs _ => vs⟩, ⟨"law", 1, [], fun vs _ => vs⟩]
  nums := []
  txts := []
  blt := ["len", "isinstance", "max", "min", "int", "list", "dict", "range", "bool", "repr"]
  cms := [⟨"Roads", "__len__", 0, [], fun vs _ => vs⟩, ⟨"Roads", "put", 1, [], fun vs _ => vs⟩, ⟨"Roads", "letter", 1, [], fun vs _ => vs⟩, ⟨"Roads", "take_off", 1, [], fun vs _ => vs⟩, ⟨"Roads", "doubled", 1, [], fun vs _ => vs⟩, ⟨"Roads", "numbers", 0, [], fun vs _ => vs⟩, ⟨"Roads", "copied", 0, [], fun vs _ => vs⟩]
  cks := [⟨"Roads", "__init__", 0, [], fun vs _ => vs⟩]
  cls := ["Roads"]
  ats := [("by_number", ["Roads"]), ("last_number", ["Roads"]), ("__bool__", ["Roads"])]
  xcs := [⟨"NotOnRoad", .key, "Absent", "found", "found", dx_NotOnRoad⟩]
  xcl := ["NotOnRoad"]
  ex := fun K => decide (PySem.W.exmOne K (.ref (He.ga K "NotOnRoad")) (.ref (He.ga K "NotOnRoad")) = some true)
  nes := []
abbrev gg (K : PySem.W.Frag) (S : Str → Sp) : G := gOf (y.tb K) S
def r_is_whole (K : PySem.W.Frag) (S : Str → Sp) (W : WX) : TS :=
  (tRet (cAnd K (tCB (bIsi K) (tCons (cVar 0) (tCons (tC (.ty "int")) tNil))) (cAnd K (cNot K (tCB (bIsi K) (tCons (cVar 0) (tCons (tC (.ty "bool")) tNil)))) (cChain oLe oLe (cVar 1) (cVar 0) (cVar 2)))))
theorem e_is_whole (K : PySem.W.Frag) (S : Str → Sp) (W : WX) : tBody (tS (gg K S) 40 d_is_whole.N (defScope d_is_whole.st)) (defBody d_is_whole.st) W = r_is_whole K S W := by kernel_rfl
def r_Roads___init__ (K : PySem.W.Frag) (S : Str → Sp) (W : WX) : TS :=
  (tSeq (cFldS [He.ga K "Roads"] "by_number" (cVar 0) tDNewK)
  (cFldS [He.ga K "Roads"] "last_number" (cVar 0) (tC (.int 0))))
theorem e_Roads___init__ (K : PySem.W.Frag) (S : Str → Sp) (W : WX) : tBody (tS (gg K S) 40 d_Roads___init__.N (defScope d_Roads___init__.st)) (defBody d_Roads___init__.st) W = r_Roads___init__ K S W := by kernel_rfl
def r_Roads___len__ (K : PySem.W.Frag) (S : Str → Sp) (W : WX) : TS :=
  (tRet (tCB (bLenG (gg K S)) (tCons (cAttr [He.ga K "Roads"] "by_number" (cVar 0)) tNil)))
theorem e_Roads___len__ (K : PySem.W.Frag) (S : Str → Sp) (W : WX) : tBody (tS (gg K S) 40 d_Roads___len__.N (defScope d_Roads___len__.st)) (defBody d_Roads___len__.st) W = r_Roads___len__ K S W := by kernel_rfl
def r_Roads_put (K : PySem.W.Frag) (S : Str → Sp) (W : WX) : TS :=
  (tSeq (cFldAug [He.ga K "Roads"] "last_number" false (cVar 0) (tC (.int 1)))
  (tSeq (tAsg (cVar 1) (gSub (cAttr [He.ga K "Roads"] "by_number" (cVar 0)) (cAttr [He.ga K "Roads"] "last_number" (cVar 0)) oSet))
  (tRet (cAttr [He.ga K "Roads"] "last_number" (cVar 0)))))
theorem e_Roads_put (K : PySem.W.Frag) (S : Str → Sp) (W : WX) : tBody (tS (gg K S) 40 d_Roads_put.N (defScope d_Roads_put.st)) (defBody d_Roads_put.st) W = r_Roads_put K S W := by kernel_rfl
def r_Roads_letter (K : PySem.W.Frag) (S : Str → Sp) (W : WX) : TS :=
  (tSeq (tIfS (tOr (tNot (cTru K (cCall (S "is_whole") 3 0 (fun vs _ => vs) (tCons (cVar 1) (tCons (tC (.int 1)) (tCons (cAttr [He.ga K "Roads"] "last_number" (cVar 0)) tNil))) tNil W))) (cTest (tOp (oIn K true) (cVar 1) (cAttr [He.ga K "Roads"] "by_number" (cVar 0)))))
  (tRs W (He.ga K "NotOnRoad") "found" (cVar 1))
  tNext)
  (tRet (tOp (oIx K) (cAttr [He.ga K "Roads"] "by_number" (cVar 0)) (cVar 1))))
theorem e_Roads_letter (K : PySem.W.Frag) (S : Str → Sp) (W : WX) : tBody (tS (gg K S) 40 d_Roads_letter.N (defScope d_Roads_letter.st)) (defBody d_Roads_letter.st) W = r_Roads_letter K S W := by kernel_rfl
def r_Roads_take_off (K : PySem.W.Frag) (S : Str → Sp) (W : WX) : TS :=
  (tSeq (tAsg (mC (gg K S) "letter" 1 0 [] (cVar 0) (tCons (cVar 1) tNil) tNil W) (gName 2))
  (tSeq (tDrop (mC (gg K S) "pop" 1 0 [] (cAttr [He.ga K "Roads"] "by_number" (cVar 0)) (tCons (cVar 1) tNil) tNil W))
  (tRet (cVar 2))))
theorem e_Roads_take_off (K : PySem.W.Frag) (S : Str → Sp) (W : WX) : tBody (tS (gg K S) 40 d_Roads_take_off.N (defScope d_Roads_take_off.st)) (defBody d_Roads_take_off.st) W = r_Roads_take_off K S W := by kernel_rfl
def r_Roads_doubled (K : PySem.W.Frag) (S : Str → Sp) (W : WX) : TS :=
  (tRet (mC (gg K S) "put" 1 0 [] (cVar 0) (tCons (mC (gg K S) "letter" 1 0 [] (cVar 0) (tCons (cVar 1) tNil) tNil W) tNil) tNil W))
theorem e_Roads_doubled (K : PySem.W.Frag) (S : Str → Sp) (W : WX) : tBody (tS (gg K S) 40 d_Roads_doubled.N (defScope d_Roads_doubled.st)) (defBody d_Roads_doubled.st) W = r_Roads_doubled K S W := by kernel_rfl
def r_Roads_numbers (K : PySem.W.Frag) (S : Str → Sp) (W : WX) : TS :=
  (tRet (tCB (bList K) (tCons (cAttr [He.ga K "Roads"] "by_number" (cVar 0)) tNil)))
theorem e_Roads_numbers (K : PySem.W.Frag) (S : Str → Sp) (W : WX) : tBody (tS (gg K S) 40 d_Roads_numbers.N (defScope d_Roads_numbers.st)) (defBody d_Roads_numbers.st) W = r_Roads_numbers K S W := by kernel_rfl
def r_Roads_copied (K : PySem.W.Frag) (S : Str → Sp) (W : WX) : TS :=
  (tSeq (tAsg (cMk (He.ga K "Roads") 0 0 (fun vs _ => vs) (S "Roads.__init__") tNil tNil W) (gName 1))
  (tSeq (cFldS [He.ga K "Roads"] "by_number" (cVar 1) (tCB (bDict K) (tCons (cAttr [He.ga K "Roads"] "by_number" (cVar 0)) tNil)))
  (tSeq (cFldS [He.ga K "Roads"] "last_number" (cVar 1) (cAttr [He.ga K "Roads"] "last_number" (cVar 0)))
  (tRet (cVar 1)))))
theorem e_Roads_copied (K : PySem.W.Frag) (S : Str → Sp) (W : WX) : tBody (tS (gg K S) 40 d_Roads_copied.N (defScope d_Roads_copied.st)) (defBody d_Roads_copied.st) W = r_Roads_copied K S W := by kernel_rfl
def r__law_cell (K : PySem.W.Frag) (S : Str → Sp) (W : WX) : TS :=
  (tSeq (tIfS (cTest (tOp oLt (cVar 1) (tCB (bLenG (gg K S)) (tCons (cVar 0) tNil))))
  (tRet (tOp (oIx K) (cVar 0) (cVar 1)))
  tNext)
  (tRet (tOp (oAdd K) (tOp oMul (tC (.int 8675)) (cVar 1)) (tC (.int 54)))))
theorem e__law_cell (K : PySem.W.Frag) (S : Str → Sp) (W : WX) : tBody (tS (gg K S) 40 d__law_cell.N (defScope d__law_cell.st)) (defBody d__law_cell.st) W = r__law_cell K S W := by kernel_rfl
def r__law_box (K : PySem.W.Frag) (S : Str → Sp) (W : WX) : TS :=
  (tRet (tLst (tCons (tCB (bMax) (tCons (tC (.int 0)) (tCons (tOp oSub (cVar 0) (tOp oPow (tC (.int 10)) (tC (.int 18)))) tNil))) (tCons (tOp oMod (cVar 0) (tC (.int 2147483629))) (tCons (tC (.int 0)) tNil)))))
theorem e__law_box (K : PySem.W.Frag) (S : Str → Sp) (W : WX) : tBody (tS (gg K S) 40 d__law_box.N (defScope d__law_box.st)) (defBody d__law_box.st) W = r__law_box K S W := by kernel_rfl
def r__law_take (K : PySem.W.Frag) (S : Str → Sp) (W : WX) : TS :=
  (tSeq (tIfS (cTest (tOp oGt (tOp (oIx K) (cVar 0) (tC (.int 0))) (tC (.int 0))))
  (tSeq (tAsg (tOp oMod (tOp (oIx K) (cVar 0) (tC (.int 0))) (cVar 1)) (gName 4))
  (tSeq (tAsg (tOp oFdiv (tOp (oIx K) (cVar 0) (tC (.int 0))) (cVar 1)) (gSub (cVar 0) (tC (.int 0)) oSet))
  (tRet (cVar 4))))
  tNext)
  (tSeq (tAsg (tOp (oAdd K) (tOp (oIx K) (cVar 0) (tC (.int 2))) (tC (.int 1))) (gSub (cVar 0) (tC (.int 2)) oSet))
  (tSeq (tAsg (tOp oMod (tOp oPow (tOp (oAdd K) (tOp (oAdd K) (tOp (oIx K) (cVar 0) (tC (.int 1))) (tOp oMul (tC (.int 7919)) (tOp (oIx K) (cVar 0) (tC (.int 2))))) (tC (.int 54))) (tC (.int 5))) (tC (.int 2147483647))) (gName 2))
  (tSeq (tAsg (tOp oMod (tOp oPow (tOp (oAdd K) (tOp (oAdd K) (tOp oFdiv (cVar 2) (tC (.int 8))) (tOp oMul (tOp oMul (tC (.int 96702)) (tOp (oIx K) (cVar 0) (tC (.int 2)))) (tOp (oIx K) (cVar 0) (tC (.int 2))))) (tC (.int 3))) (tC (.int 3))) (tC (.int 2147483629))) (gName 3))
  (tRet (tOp oMod (tOp (oAdd K) (tOp oFdiv (cVar 2) (tC (.int 4))) (tOp oMul (tC (.int 536870909)) (tOp oFdiv (cVar 3) (tC (.int 4))))) (cVar 1)))))))
theorem e__law_take (K : PySem.W.Frag) (S : Str → Sp) (W : WX) : tBody (tS (gg K S) 40 d__law_take.N (defScope d__law_take.st)) (defBody d__law_take.st) W = r__law_take K S W := by kernel_rfl
def r__law_asked (K : PySem.W.Frag) (S : Str → Sp) (W : WX) : TS :=
  (tSeq (tIfS (cTest (tOp oLt (cVar 1) (tC (.int 4))))
  (tRet (mC (gg K S) "take_off" 1 0 [] (cVar 0) (tCons (cVar 2) tNil) tNil W))
  tNext)
  (tRet (tIf (cTest (tOp (oEqG (gg K S)) (cVar 1) (tC (.int 4)))) (mC (gg K S) "doubled" 1 0 [] (cVar 0) (tCons (cVar 2) tNil) tNil W) (mC (gg K S) "letter" 1 0 [] (cVar 0) (tCons (cVar 2) tNil) tNil W))))
theorem e__law_asked (K : PySem.W.Frag) (S : Str → Sp) (W : WX) : tBody (tS (gg K S) 40 d__law_asked.N (defScope d__law_asked.st)) (defBody d__law_asked.st) W = r__law_asked K S W := by kernel_rfl
def r__law_caught (K : PySem.W.Frag) (S : Str → Sp) (W : WX) : TS :=
  (tTryW K W [.one (.ref (He.ga K "NotOnRoad")) (some 3) (fun a cls d => (tRet (tTup (tCons (tC (.str "road")) (tCons (cXf (gg K S) 3 a cls d "found") tNil))))), .dead] fun W =>
  (tRet (tTup (tCons (tC (.str "told")) (tCons (cCall (S "_law_asked") 3 0 (fun vs _ => vs) (tCons (cVar 0) (tCons (cVar 1) (tCons (cVar 2) tNil))) tNil W) tNil)))))
theorem e__law_caught (K : PySem.W.Frag) (S : Str → Sp) (W : WX) : tBody (tS (gg K S) 40 d__law_caught.N (defScope d__law_caught.st)) (defBody d__law_caught.st) W = r__law_caught K S W := by kernel_rfl
def r__law_letter (K : PySem.W.Frag) (S : Str → Sp) (W : WX) : TS :=
  (tSeq (cPar 2 3 (tCons (tOp (oIx K) (tLst (tCons (tC (.str "a")) (tCons (tC (.str "bb")) (tCons (tC (.str "ccc")) tNil)))) (cCall (S "_law_take") 2 0 (fun vs _ => vs) (tCons (cVar 0) (tCons (tC (.int 3)) tNil)) tNil W)) (tCons (tOp (oIx K) (tLst (tCons (tC (.str "a")) (tCons (tC (.str "z")) tNil))) (cCall (S "_law_take") 2 0 (fun vs _ => vs) (tCons (cVar 0) (tCons (tC (.int 2)) tNil)) tNil W)) tNil)))
  (tSeq (tAsg (tTup (tCons (cVar 2) (tCons (tOp (oAdd K) (tC (.int 1)) (cCall (S "_law_take") 2 0 (fun vs _ => vs) (tCons (cVar 0) (tCons (tC (.int 3)) tNil)) tNil W)) (tCons (tOp (oAdd K) (tC (.int 1)) (cCall (S "_law_take") 2 0 (fun vs _ => vs) (tCons (cVar 0) (tCons (tC (.int 99)) tNil)) tNil W)) (tCons (tOp (oIx K) (tLst (tCons (tC (.str "")) (tCons (tC (.str "tea")) (tCons (tOp oMul (tC (.str "x")) (tC (.int 60))) tNil)))) (cCall (S "_law_take") 2 0 (fun vs _ => vs) (tCons (cVar 0) (tCons (tC (.int 3)) tNil)) tNil W)) tNil))))) (gName 1))
  (tRet (tTup (tCons (cVar 2) (tCons (cVar 3) (tCons (cVar 1) (tCons (tTup (tCons (cVar 3) (tCons (cCall (S "_law_take") 2 0 (fun vs _ => vs) (tCons (cVar 0) (tCons (tC (.int 256)) tNil)) tNil W) tNil))) tNil))))))))
theorem e__law_letter (K : PySem.W.Frag) (S : Str → Sp) (W : WX) : tBody (tS (gg K S) 40 d__law_letter.N (defScope d__law_letter.st)) (defBody d__law_letter.st) W = r__law_letter K S W := by kernel_rfl
def r__law_number (K : PySem.W.Frag) (S : Str → Sp) (W : WX) : TS :=
  (tSeq (tAsg (tLst (tCons (tC (.int 0)) (tCons (cUn (tC (.int 1))) (tCons (tOp (oAdd K) (cVar 2) (tC (.int 1))) (tCons (tC (.bl true)) (tCons (tC .non) (tCons (tC (.str "1")) (tCons (tLst (tCons (tC (.int 1)) tNil)) (tCons (tTup (tCons (tC (.int 1)) tNil)) (tCons tDNewK (tCons (tOp oPow (tC (.int 10)) (tC (.int 29))) (tCons (cVar 2) (tCons (tC (.int 1)) tNil))))))))))))) (gName 3))
  (tSeq (tAsg (tCB (bList K) (tCons (cVar 1) tNil)) (gName 4))
  (tSeq (tIfS (tAnd (cTest (tOp (oNeG (gg K S)) (cVar 4) (tLst tNil))) (cTest (tOp oGt (cCall (S "_law_take") 2 0 (fun vs _ => vs) (tCons (cVar 0) (tCons (tC (.int 3)) tNil)) tNil W) (tC (.int 0)))))
  (tRet (tOp (oIx K) (cVar 4) (cCall (S "_law_take") 2 0 (fun vs _ => vs) (tCons (cVar 0) (tCons (tCB (bLenG (gg K S)) (tCons (cVar 4) tNil)) tNil)) tNil W)))
  tNext)
  (tRet (tOp (oIx K) (cVar 3) (cCall (S "_law_take") 2 0 (fun vs _ => vs) (tCons (cVar 0) (tCons (tC (.int 12)) tNil)) tNil W))))))
theorem e__law_number (K : PySem.W.Frag) (S : Str → Sp) (W : WX) : tBody (tS (gg K S) 40 d__law_number.N (defScope d__law_number.st)) (defBody d__law_number.st) W = r__law_number K S W := by kernel_rfl
def r__law_is_there (K : PySem.W.Frag) (S : Str → Sp) (W : WX) : TS :=
  (tRet (cAnd K (tCB (bIsi K) (tCons (cVar 1) (tCons (tC (.ty "int")) tNil))) (cAnd K (cNot K (tCB (bIsi K) (tCons (cVar 1) (tCons (tC (.ty "bool")) tNil)))) (tOp (oIn K false) (cVar 1) (cVar 0)))))
theorem e__law_is_there (K : PySem.W.Frag) (S : Str → Sp) (W : WX) : tBody (tS (gg K S) 40 d__law_is_there.N (defScope d__law_is_there.st)) (defBody d__law_is_there.st) W = r__law_is_there K S W := by kernel_rfl
def r__law_deed (K : PySem.W.Frag) (S : Str → Sp) (W : WX) : TS :=
  (tSeq (tAsg (cCall (S "_law_take") 2 0 (fun vs _ => vs) (tCons (cVar 0) (tCons (tC (.int 6)) tNil)) tNil W) (gName 3))
  (tSeq (tIfS (cTest (tOp oLt (cVar 3) (tC (.int 2))))
  (tSeq (tAsg (cCall (S "_law_letter") 1 0 (fun vs _ => vs) (tCons (cVar 0) tNil) tNil W) (gName 7))
  (tSeq (tAsg (tOp (oAdd K) (tOp (oIx K) (cVar 2) (tC (.str "last"))) (tC (.int 1))) (gSub (cVar 2) (tC (.str "last")) oSet))
  (tSeq (tAsg (cVar 7) (gSub (tOp (oIx K) (cVar 2) (tC (.str "table"))) (tOp (oIx K) (cVar 2) (tC (.str "last"))) oSet))
  (tRet (tOp (oEqG (gg K S)) (mC (gg K S) "put" 1 0 [] (cVar 1) (tCons (cVar 7) tNil) tNil W) (tOp (oIx K) (cVar 2) (tC (.str "last"))))))))
  tNext)
  (tSeq (tAsg (cCall (S "_law_number") 3 0 (fun vs _ => vs) (tCons (cVar 0) (tCons (tOp (oIx K) (cVar 2) (tC (.str "table"))) (tCons (tOp (oIx K) (cVar 2) (tC (.str "last"))) tNil))) tNil W) (gName 4))
  (tSeq (tAsg (tTup (tCons (tC (.str "road")) (tCons (cVar 4) tNil))) (gName 5))
  (tSeq (tIfS (cTru K (cCall (S "_law_is_there") 2 0 (fun vs _ => vs) (tCons (tOp (oIx K) (cVar 2) (tC (.str "table"))) (tCons (cVar 4) tNil)) tNil W))
  (tAsg (tTup (tCons (tC (.str "told")) (tCons (tOp (oIx K) (tOp (oIx K) (cVar 2) (tC (.str "table"))) (cVar 4)) tNil))) (gName 5))
  tNext)
  (tSeq (tIfS (tAnd (cTest (tOp (oEqG (gg K S)) (tOp (oIx K) (cVar 5) (tC (.int 0))) (tC (.str "told")))) (cTest (tOp oLt (cVar 3) (tC (.int 4)))))
  (tDrop (mC (gg K S) "pop" 1 0 [] (tOp (oIx K) (cVar 2) (tC (.str "table"))) (tCons (cVar 4) tNil) tNil W))
  tNext)
  (tSeq (tIfS (tAnd (cTest (tOp (oEqG (gg K S)) (tOp (oIx K) (cVar 5) (tC (.int 0))) (tC (.str "told")))) (cTest (tOp (oEqG (gg K S)) (cVar 3) (tC (.int 4)))))
  (tSeq (tAsg (tOp (oAdd K) (tOp (oIx K) (cVar 2) (tC (.str "last"))) (tC (.int 1))) (gSub (cVar 2) (tC (.str "last")) oSet))
  (tSeq (tAsg (tOp (oIx K) (cVar 5) (tC (.int 1))) (gSub (tOp (oIx K) (cVar 2) (tC (.str "table"))) (tOp (oIx K) (cVar 2) (tC (.str "last"))) oSet))
  (tAsg (tTup (tCons (tC (.str "told")) (tCons (tOp (oIx K) (cVar 2) (tC (.str "last"))) tNil))) (gName 5))))
  tNext)
  (tSeq (tAsg (cCall (S "_law_caught") 3 0 (fun vs _ => vs) (tCons (cVar 1) (tCons (cVar 3) (tCons (cVar 4) tNil))) tNil W) (gName 6))
  (tSeq (tIfS (cTru K (tCB (bIsi K) (tCons (cVar 4) (tCons (tC (.ty "list")) tNil))))
  (tDrop (mC (gg K S) "append" 1 0 [] (cVar 4) (tCons (tC (.str "more")) tNil) tNil W))
  tNext)
  (tRet (tOp (oEqG (gg K S)) (tCB (bRepr K) (tCons (cVar 6) tNil)) (tCB (bRepr K) (tCons (cVar 5) tNil)))))))))))))
theorem e__law_deed (K : PySem.W.Frag) (S : Str → Sp) (W : WX) : tBody (tS (gg K S) 40 d__law_deed.N (defScope d__law_deed.st)) (defBody d__law_deed.st) W = r__law_deed K S W := by kernel_rfl
def r__law_right (K : PySem.W.Frag) (S : Str → Sp) (W : WX) : TS :=
  (tSeq (tAsg (mC (gg K S) "numbers" 0 0 [] (cVar 0) tNil tNil W) (gName 2))
  (tSeq (tIfS (tOr (cTest (tOp (oNeG (gg K S)) (cVar 2) (tCB (bList K) (tCons (tOp (oIx K) (cVar 1) (tC (.str "table"))) tNil)))) (cTest (tOp (oNeG (gg K S)) (tCB (bLenG (gg K S)) (tCons (cVar 0) tNil)) (tCB (bLenG (gg K S)) (tCons (tOp (oIx K) (cVar 1) (tC (.str "table"))) tNil)))))
  (tRet (tC (.bl false)))
  tNext)
  (tSeq (tDrop (mC (gg K S) "append" 1 0 [] (cVar 2) (tCons (tC (.int 0)) tNil) tNil W))
  (tSeq (tDrop (mC (gg K S) "reverse" 0 0 [] (cVar 2) tNil tNil W))
  (tRet (tOp (oEqG (gg K S)) (cLcL (cIter K (frzE (mC (gg K S) "numbers" 0 0 [] (cVar 0) tNil tNil W))) (gName 3) tYes (mC (gg K S) "letter" 1 0 [] (cVar 0) (tCons (cVar 3) tNil) tNil wNone) [3]) (cLV (tOp (oIx K) (cVar 1) (tC (.str "table"))))))))))
theorem e__law_right (K : PySem.W.Frag) (S : Str → Sp) (W : WX) : tBody (tS (gg K S) 40 d__law_right.N (defScope d__law_right.st)) (defBody d__law_right.st) W = r__law_right K S W := by kernel_rfl
def r_law (K : PySem.W.Frag) (S : Str → Sp) (W : WX) : TS :=
  (tSeq (tAsg (tLst (tCons (cMk (He.ga K "Roads") 0 0 (fun vs _ => vs) (S "Roads.__init__") tNil tNil W) (tCons (cMk (He.ga K "Roads") 0 0 (fun vs _ => vs) (S "Roads.__init__") tNil tNil W) tNil))) (gName 1))
  (tSeq (tAsg (tLst (tCons (tDisp [((tC (.str "last")), (tC (.int 0))), ((tC (.str "table")), tDNewK)]) (tCons (tDisp [((tC (.str "last")), (tC (.int 0))), ((tC (.str "table")), tDNewK)]) tNil))) (gName 2))
  (tSeq (orL (cFor (cRng1 (tCons (tCB (bMax) (tCons (tC (.int 3)) (tCons (tCB (bMin) (tCons (tC (.int 60)) (tCons (tCB (bLenG (gg K S)) (tCons (cVar 0) tNil)) tNil))) tNil))) tNil)) (gName 3)
  (tSeq (tAsg (cCall (S "_law_box") 1 0 (fun vs _ => vs) (tCons (cCall (S "_law_cell") 2 0 (fun vs _ => vs) (tCons (cVar 0) (tCons (cVar 3) tNil)) tNil W) tNil) tNil W) (gName 4))
  (orL (cFor (cRng1 (tCons (tOp (oAdd K) (tC (.int 1)) (cCall (S "_law_take") 2 0 (fun vs _ => vs) (tCons (cVar 4) (tCons (tC (.int 3)) tNil)) tNil W)) tNil)) (gName 5)
  (tSeq (tAsg (cCall (S "_law_take") 2 0 (fun vs _ => vs) (tCons (cVar 4) (tCons (tC (.int 2)) tNil)) tNil W) (gName 6))
  (tSeq (tIfS (cTest (tOp (oEqG (gg K S)) (cCall (S "_law_take") 2 0 (fun vs _ => vs) (tCons (cVar 4) (tCons (tC (.int 9)) tNil)) tNil W) (tC (.int 0))))
  (tSeq (tAsg (mC (gg K S) "copied" 0 0 [] (tOp (oIx K) (cVar 1) (cVar 6)) tNil tNil W) (gSub (cVar 1) (tOp oSub (tC (.int 1)) (cVar 6)) oSet))
  (tAsg (tDisp [((tC (.str "last")), (tOp (oIx K) (tOp (oIx K) (cVar 2) (cVar 6)) (tC (.str "last")))), ((tC (.str "table")), (tCB (bDict K) (tCons (tOp (oIx K) (tOp (oIx K) (cVar 2) (cVar 6)) (tC (.str "table"))) tNil)))]) (gSub (cVar 2) (tOp oSub (tC (.int 1)) (cVar 6)) oSet)))
  tNext)
  (tSeq (tIfS (tNot (cTru K (cCall (S "_law_deed") 3 0 (fun vs _ => vs) (tCons (cVar 4) (tCons (tOp (oIx K) (cVar 1) (cVar 6)) (tCons (tOp (oIx K) (cVar 2) (cVar 6)) tNil))) tNil W)))
  (tRet (tC (.bl false)))
  tNext)
  (tIfS (tOr (tNot (cTru K (cCall (S "_law_right") 2 0 (fun vs _ => vs) (tCons (tOp (oIx K) (cVar 1) (tC (.int 0))) (tCons (tOp (oIx K) (cVar 2) (tC (.int 0))) tNil)) tNil W))) (tNot (cTru K (cCall (S "_law_right") 2 0 (fun vs _ => vs) (tCons (tOp (oIx K) (cVar 1) (tC (.int 1))) (tCons (tOp (oIx K) (cVar 2) (tC (.int 1))) tNil)) tNil W))))
  (tRet (tC (.bl false)))
  tNext)))))))))
  (tRet (tC (.bl true))))))
theorem e_law (K : PySem.W.Frag) (S : Str → Sp) (W : WX) : tBody (tS (gg K S) 40 d_law.N (defScope d_law.st)) (defBody d_law.st) W = r_law K S W := by kernel_rfl
abbrev SP (K : PySem.W.Frag) (n : Nat) : Str → Sp := spAt (y.tb K) 40 y.ds n
theorem o_is_whole {K : PySem.W.Frag} {n : Nat} {v0 v1 v2 : V} {H : Hp} {Q : VK} {E : XK} (h : r_is_whole K (SP K n) (fun cls dd _ H1 => E cls dd H1) ⟨fun _ H1 => Q .non H1, Q, fun _ _ => False, fun _ _ => False⟩ [some v0, some v1, some v2] H) : SP K (n + 1) "is_whole" [v0, v1, v2] H Q E := by
  unfold SP
  rw [spAt_succ (d := d_is_whole) rfl]
  refine ⟨rfl, ?_⟩
  rw [show gOf (y.tb K) (spAt (y.tb K) 40 y.ds n) = gg K (SP K n) from rfl, e_is_whole]
  exact h
theorem o_Roads___init__ {K : PySem.W.Frag} {n : Nat} {v0 : V} {H : Hp} {Q : VK} {E : XK} (h : r_Roads___init__ K (SP K n) (fun cls dd _ H1 => E cls dd H1) ⟨fun _ H1 => Q .non H1, Q, fun _ _ => False, fun _ _ => False⟩ [some v0] H) : SP K (n + 1) "Roads.__init__" [v0] H Q E := by
  unfold SP
  rw [spAt_succ (d := d_Roads___init__) rfl]
  refine ⟨rfl, ?_⟩
  rw [show gOf (y.tb K) (spAt (y.tb K) 40 y.ds n) = gg K (SP K n) from rfl, e_Roads___init__]
  exact h
theorem o_Roads___len__ {K : PySem.W.Frag} {n : Nat} {v0 : V} {H : Hp} {Q : VK} {E : XK} (h : r_Roads___len__ K (SP K n) (fun cls dd _ H1 => E cls dd H1) ⟨fun _ H1 => Q .non H1, Q, fun _ _ => False, fun _ _ => False⟩ [some v0] H) : SP K (n + 1) "Roads.__len__" [v0] H Q E := by
  unfold SP
  rw [spAt_succ (d := d_Roads___len__) rfl]
  refine ⟨rfl, ?_⟩
  rw [show gOf (y.tb K) (spAt (y.tb K) 40 y.ds n) = gg K (SP K n) from rfl, e_Roads___len__]
  exact h
theorem o_Roads_put {K : PySem.W.Frag} {n : Nat} {v0 v1 : V} {H : Hp} {Q : VK} {E : XK} (h : r_Roads_put K (SP K n) (fun cls dd _ H1 => E cls dd H1) ⟨fun _ H1 => Q .non H1, Q, fun _ _ => False, fun _ _ => False⟩ [some v0, some v1] H) : SP K (n + 1) "Roads.put" [v0, v1] H Q E := by
  unfold SP
  rw [spAt_succ (d := d_Roads_put) rfl]
  refine ⟨rfl, ?_⟩
  rw [show gOf (y.tb K) (spAt (y.tb K) 40 y.ds n) = gg K (SP K n) from rfl, e_Roads_put]
  exact h
theorem o_Roads_letter {K : PySem.W.Frag} {n : Nat} {v0 v1 : V} {H : Hp} {Q : VK} {E : XK} (h : r_Roads_letter K (SP K n) (fun cls dd _ H1 => E cls dd H1) ⟨fun _ H1 => Q .non H1, Q, fun _ _ => False, fun _ _ => False⟩ [some v0, some v1] H) : SP K (n + 1) "Roads.letter" [v0, v1] H Q E := by
  unfold SP
  rw [spAt_succ (d := d_Roads_letter) rfl]
  refine ⟨rfl, ?_⟩
  rw [show gOf (y.tb K) (spAt (y.tb K) 40 y.ds n) = gg K (SP K n) from rfl, e_Roads_letter]
  exact h
theorem o_Roads_take_off {K : PySem.W.Frag} {n : Nat} {v0 v1 : V} {H : Hp} {Q : VK} {E : XK} (h : r_Roads_take_off K (SP K n) (fun cls dd _ H1 => E cls dd H1) ⟨fun _ H1 => Q .non H1, Q, fun _ _ => False, fun _ _ => False⟩ [some v0, some v1, none] H) : SP K (n + 1) "Roads.take_off" [v0, v1] H Q E := by
  unfold SP
  rw [spAt_succ (d := d_Roads_take_off) rfl]
  refine ⟨rfl, ?_⟩
  rw [show gOf (y.tb K) (spAt (y.tb K) 40 y.ds n) = gg K (SP K n) from rfl, e_Roads_take_off]
  exact h
theorem o_Roads_doubled {K : PySem.W.Frag} {n : Nat} {v0 v1 : V} {H : Hp} {Q : VK} {E : XK} (h : r_Roads_doubled K (SP K n) (fun cls dd _ H1 => E cls dd H1) ⟨fun _ H1 => Q .non H1, Q, fun _ _ => False, fun _ _ => False⟩ [some v0, some v1] H) : SP K (n + 1) "Roads.doubled" [v0, v1] H Q E := by
  unfold SP
  rw [spAt_succ (d := d_Roads_doubled) rfl]
  refine ⟨rfl, ?_⟩
  rw [show gOf (y.tb K) (spAt (y.tb K) 40 y.ds n) = gg K (SP K n) from rfl, e_Roads_doubled]
  exact h
theorem o_Roads_numbers {K : PySem.W.Frag} {n : Nat} {v0 : V} {H : Hp} {Q : VK} {E : XK} (h : r_Roads_numbers K (SP K n) (fun cls dd _ H1 => E cls dd H1) ⟨fun _ H1 => Q .non H1, Q, fun _ _ => False, fun _ _ => False⟩ [some v0] H) : SP K (n + 1) "Roads.numbers" [v0] H Q E := by
  unfold SP
  rw [spAt_succ (d := d_Roads_numbers) rfl]
  refine ⟨rfl, ?_⟩
  rw [show gOf (y.tb K) (spAt (y.tb K) 40 y.ds n) = gg K (SP K n) from rfl, e_Roads_numbers]
  exact h
theorem o_Roads_copied {K : PySem.W.Frag} {n : Nat} {v0 : V} {H : Hp} {Q : VK} {E : XK} (h : r_Roads_copied K (SP K n) (fun cls dd _ H1 => E cls dd H1) ⟨fun _ H1 => Q .non H1, Q, fun _ _ => False, fun _ _ => False⟩ [some v0, none] H) : SP K (n + 1) "Roads.copied" [v0] H Q E := by
  unfold SP
  rw [spAt_succ (d := d_Roads_copied) rfl]
  refine ⟨rfl, ?_⟩
  rw [show gOf (y.tb K) (spAt (y.tb K) 40 y.ds n) = gg K (SP K n) from rfl, e_Roads_copied]
  exact h
theorem o__law_cell {K : PySem.W.Frag} {n : Nat} {v0 v1 : V} {H : Hp} {Q : VK} {E : XK} (h : r__law_cell K (SP K n) (fun cls dd _ H1 => E cls dd H1) ⟨fun _ H1 => Q .non H1, Q, fun _ _ => False, fun _ _ => False⟩ [some v0, some v1] H) : SP K (n + 1) "_law_cell" [v0, v1] H Q E := by
  unfold SP
  rw [spAt_succ (d := d__law_cell) rfl]
  refine ⟨rfl, ?_⟩
  rw [show gOf (y.tb K) (spAt (y.tb K) 40 y.ds n) = gg K (SP K n) from rfl, e__law_cell]
  exact h
theorem o__law_box {K : PySem.W.Frag} {n : Nat} {v0 : V} {H : Hp} {Q : VK} {E : XK} (h : r__law_box K (SP K n) (fun cls dd _ H1 => E cls dd H1) ⟨fun _ H1 => Q .non H1, Q, fun _ _ => False, fun _ _ => False⟩ [some v0] H) : SP K (n + 1) "_law_box" [v0] H Q E := by
  unfold SP
  rw [spAt_succ (d := d__law_box) rfl]
  refine ⟨rfl, ?_⟩
  rw [show gOf (y.tb K) (spAt (y.tb K) 40 y.ds n) = gg K (SP K n) from rfl, e__law_box]
  exact h
theorem o__law_take {K : PySem.W.Frag} {n : Nat} {v0 v1 : V} {H : Hp} {Q : VK} {E : XK} (h : r__law_take K (SP K n) (fun cls dd _ H1 => E cls dd H1) ⟨fun _ H1 => Q .non H1, Q, fun _ _ => False, fun _ _ => False⟩ [some v0, some v1, none, none, none] H) : SP K (n + 1) "_law_take" [v0, v1] H Q E := by
  unfold SP
  rw [spAt_succ (d := d__law_take) rfl]
  refine ⟨rfl, ?_⟩
  rw [show gOf (y.tb K) (spAt (y.tb K) 40 y.ds n) = gg K (SP K n) from rfl, e__law_take]
  exact h
theorem o__law_asked {K : PySem.W.Frag} {n : Nat} {v0 v1 v2 : V} {H : Hp} {Q : VK} {E : XK} (h : r__law_asked K (SP K n) (fun cls dd _ H1 => E cls dd H1) ⟨fun _ H1 => Q .non H1, Q, fun _ _ => False, fun _ _ => False⟩ [some v0, some v1, some v2] H) : SP K (n + 1) "_law_asked" [v0, v1, v2] H Q E := by
  unfold SP
  rw [spAt_succ (d := d__law_asked) rfl]
  refine ⟨rfl, ?_⟩
  rw [show gOf (y.tb K) (spAt (y.tb K) 40 y.ds n) = gg K (SP K n) from rfl, e__law_asked]
  exact h
theorem o__law_caught {K : PySem.W.Frag} {n : Nat} {v0 v1 v2 : V} {H : Hp} {Q : VK} {E : XK} (h : r__law_caught K (SP K n) (fun cls dd _ H1 => E cls dd H1) ⟨fun _ H1 => Q .non H1, Q, fun _ _ => False, fun _ _ => False⟩ [some v0, some v1, some v2, none] H) : SP K (n + 1) "_law_caught" [v0, v1, v2] H Q E := by
  unfold SP
  rw [spAt_succ (d := d__law_caught) rfl]
  refine ⟨rfl, ?_⟩
  rw [show gOf (y.tb K) (spAt (y.tb K) 40 y.ds n) = gg K (SP K n) from rfl, e__law_caught]
  exact h
theorem o__law_letter {K : PySem.W.Frag} {n : Nat} {v0 : V} {H : Hp} {Q : VK} {E : XK} (h : r__law_letter K (SP K n) (fun cls dd _ H1 => E cls dd H1) ⟨fun _ H1 => Q .non H1, Q, fun _ _ => False, fun _ _ => False⟩ [some v0, none, none, none] H) : SP K (n + 1) "_law_letter" [v0] H Q E := by
  unfold SP
  rw [spAt_succ (d := d__law_letter) rfl]
  refine ⟨rfl, ?_⟩
  rw [show gOf (y.tb K) (spAt (y.tb K) 40 y.ds n) = gg K (SP K n) from rfl, e__law_letter]
  exact h
theorem o__law_number {K : PySem.W.Frag} {n : Nat} {v0 v1 v2 : V} {H : Hp} {Q : VK} {E : XK} (h : r__law_number K (SP K n) (fun cls dd _ H1 => E cls dd H1) ⟨fun _ H1 => Q .non H1, Q, fun _ _ => False, fun _ _ => False⟩ [some v0, some v1, some v2, none, none] H) : SP K (n + 1) "_law_number" [v0, v1, v2] H Q E := by
  unfold SP
  rw [spAt_succ (d := d__law_number) rfl]
  refine ⟨rfl, ?_⟩
  rw [show gOf (y.tb K) (spAt (y.tb K) 40 y.ds n) = gg K (SP K n) from rfl, e__law_number]
  exact h
theorem o__law_is_there {K : PySem.W.Frag} {n : Nat} {v0 v1 : V} {H : Hp} {Q : VK} {E : XK} (h : r__law_is_there K (SP K n) (fun cls dd _ H1 => E cls dd H1) ⟨fun _ H1 => Q .non H1, Q, fun _ _ => False, fun _ _ => False⟩ [some v0, some v1] H) : SP K (n + 1) "_law_is_there" [v0, v1] H Q E := by
  unfold SP
  rw [spAt_succ (d := d__law_is_there) rfl]
  refine ⟨rfl, ?_⟩
  rw [show gOf (y.tb K) (spAt (y.tb K) 40 y.ds n) = gg K (SP K n) from rfl, e__law_is_there]
  exact h
theorem o__law_deed {K : PySem.W.Frag} {n : Nat} {v0 v1 v2 : V} {H : Hp} {Q : VK} {E : XK} (h : r__law_deed K (SP K n) (fun cls dd _ H1 => E cls dd H1) ⟨fun _ H1 => Q .non H1, Q, fun _ _ => False, fun _ _ => False⟩ [some v0, some v1, some v2, none, none, none, none, none] H) : SP K (n + 1) "_law_deed" [v0, v1, v2] H Q E := by
  unfold SP
  rw [spAt_succ (d := d__law_deed) rfl]
  refine ⟨rfl, ?_⟩
  rw [show gOf (y.tb K) (spAt (y.tb K) 40 y.ds n) = gg K (SP K n) from rfl, e__law_deed]
  exact h
theorem o__law_right {K : PySem.W.Frag} {n : Nat} {v0 v1 : V} {H : Hp} {Q : VK} {E : XK} (h : r__law_right K (SP K n) (fun cls dd _ H1 => E cls dd H1) ⟨fun _ H1 => Q .non H1, Q, fun _ _ => False, fun _ _ => False⟩ [some v0, some v1, none, none] H) : SP K (n + 1) "_law_right" [v0, v1] H Q E := by
  unfold SP
  rw [spAt_succ (d := d__law_right) rfl]
  refine ⟨rfl, ?_⟩
  rw [show gOf (y.tb K) (spAt (y.tb K) 40 y.ds n) = gg K (SP K n) from rfl, e__law_right]
  exact h
theorem o_law {K : PySem.W.Frag} {n : Nat} {v0 : V} {H : Hp} {Q : VK} {E : XK} (h : r_law K (SP K n) (fun cls dd _ H1 => E cls dd H1) ⟨fun _ H1 => Q .non H1, Q, fun _ _ => False, fun _ _ => False⟩ [some v0, none, none, none, none, none, none] H) : SP K (n + 1) "law" [v0] H Q E := by
  unfold SP
  rw [spAt_succ (d := d_law) rfl]
  refine ⟨rfl, ?_⟩
  rw [show gOf (y.tb K) (spAt (y.tb K) 40 y.ds n) = gg K (SP K n) from rfl, e_law]
  exact h
theorem c_append_1 (K : PySem.W.Frag) (S : Str → Sp) : mf (gg K S) "append" 1 [] = [] := by kernel_rfl
theorem c_copied_0 (K : PySem.W.Frag) (S : Str → Sp) : mf (gg K S) "copied" 0 [] = [⟨He.ga K "Roads", "copied", 0, [], fun vs _ => vs, S "Roads.copied"⟩] := by kernel_rfl
theorem c_doubled_1 (K : PySem.W.Frag) (S : Str → Sp) : mf (gg K S) "doubled" 1 [] = [⟨He.ga K "Roads", "doubled", 1, [], fun vs _ => vs, S "Roads.doubled"⟩] := by kernel_rfl
theorem c_letter_1 (K : PySem.W.Frag) (S : Str → Sp) : mf (gg K S) "letter" 1 [] = [⟨He.ga K "Roads", "letter", 1, [], fun vs _ => vs, S "Roads.letter"⟩] := by kernel_rfl
theorem c_numbers_0 (K : PySem.W.Frag) (S : Str → Sp) : mf (gg K S) "numbers" 0 [] = [⟨He.ga K "Roads", "numbers", 0, [], fun vs _ => vs, S "Roads.numbers"⟩] := by kernel_rfl
theorem c_pop_1 (K : PySem.W.Frag) (S : Str → Sp) : mf (gg K S) "pop" 1 [] = [] := by kernel_rfl
theorem c_put_1 (K : PySem.W.Frag) (S : Str → Sp) : mf (gg K S) "put" 1 [] = [⟨He.ga K "Roads", "put", 1, [], fun vs _ => vs, S "Roads.put"⟩] := by kernel_rfl
theorem c_reverse_0 (K : PySem.W.Frag) (S : Str → Sp) : mf (gg K S) "reverse" 0 [] = [] := by kernel_rfl
theorem c_take_off_1 (K : PySem.W.Frag) (S : Str → Sp) : mf (gg K S) "take_off" 1 [] = [⟨He.ga K "Roads", "take_off", 1, [], fun vs _ => vs, S "Roads.take_off"⟩] := by kernel_rfl
theorem c_values_0 (K : PySem.W.Frag) (S : Str → Sp) : mf (gg K S) "values" 0 [] = [] := by kernel_rfl
theorem cs_len (K : PySem.W.Frag) (S : Str → Sp) : cands (gg K S) "__len__" 0 = [⟨He.ga K "Roads", "__len__", 0, [], fun vs _ => vs, S "Roads.__len__"⟩] := by kernel_rfl

end WR.L
set_option Elab.async false
set_option linter.all false
set_option maxRecDepth 100000
set_option maxHeartbeats 4000000
namespace WR.L
open PySem PySem.Spec PyProof.Rows L2
/-- rows of a table: numbers and letters -/
abbrev Rw := List (Int × V)
def dk (rs : Rw) : List (Key × V) := rs.map fun r => (.inl r.1, r.2)
def rg (rs : Rw) (i : Int) : Option V := valV (dk rs) (.inl i)
theorem dk_len (rs : Rw) : (dk rs).length = rs.length := by simp [dk]
theorem dk_keys (rs : Rw) : ((dk rs).map fun kv => kV kv.1) = rs.map fun r => V.int r.1 := by
  unfold dk; rw [List.map_map]; rfl
theorem dk_vals (rs : Rw) : ((dk rs).map fun kv => kv.2) = rs.map fun r => r.2 := by
  unfold dk; rw [List.map_map]; rfl
theorem dk_put {rs : Rw} {i : Int} {v : V} (h : ∀ r ∈ rs, r.1 ≠ i) : putK (dk rs) (.inl i) v = dk (rs ++ [(i, v)]) := by
  unfold putK
  rw [if_neg]
  · simp [dk]
  · simp only [dk, List.any_map, List.any_eq_true, Function.comp_apply, decide_eq_true_eq, not_exists, not_and]
    intro r hr e
    exact h r hr (Sum.inl.inj e)
theorem dk_drop {rs : Rw} {i : Int} : dropK (dk rs) (.inl i) = dk (rs.filter fun r => decide (r.1 ≠ i)) := by
  unfold dropK dk
  rw [List.filter_map]
  congr 1
  apply List.filter_congr
  intro r _
  simp
theorem rg_mem {rs : Rw} {i : Int} {v : V} (h : rg rs i = some v) : (i, v) ∈ rs := by
  induction rs with
  | nil => cases h
  | cons r rs ih =>
    by_cases e : r.1 = i
    · unfold rg dk at h
      rw [List.map_cons, valV_pos (by simp [e])] at h
      cases h
      rw [← e]; exact List.mem_cons_self
    · unfold rg dk at h
      rw [List.map_cons, valV_neg (by simp [e])] at h
      exact List.mem_cons_of_mem _ (ih h)
theorem rg_of {rs : Rw} (nd : (rs.map (·.1)).Nodup) {r : Int × V} (h : r ∈ rs) : rg rs r.1 = some r.2 := by
  induction rs with
  | nil => cases h
  | cons q rs ih =>
    unfold rg dk
    rw [List.map_cons]
    rw [List.map_cons, List.nodup_cons] at nd
    rcases List.mem_cons.mp h with rfl | h
    · rw [valV_pos rfl]
    · rw [valV_neg ?_]
      · exact ih nd.2 h
      · intro e
        exact nd.1 (by rw [Sum.inl.inj e]; exact List.mem_map_of_mem h)
/-- a letter -/
def Lt (H : Hp) (v : V) : Prop := ∃ (t a b : Addr) (w g u : Str) (i j k : Int), v = .ref t ∧ H t = some (.tup [.str w, .str g, .ref a, .ref b]) ∧ H a = some (.tup [.str w, .int i, .int j, .str u]) ∧ H b = some (.tup [.str g, .int k]) ∧
  w ∈ (["a", "bb", "ccc"] : List Str) ∧ g ∈ (["a", "z"] : List Str) ∧ u ∈ (["", "tea", Txt.mul "x" 60] : List Str) ∧ (0 ≤ i ∧ i < 300) ∧ (0 ≤ j ∧ j < 300) ∧ (0 ≤ k ∧ k < 300)
/-- the tuples stay -/
abbrev Tps (H H' : Hp) : Prop := ∀ t xs, H t = some (.tup xs) → H' t = some (.tup xs)
theorem Lt.tp {H H' : Hp} {v : V} (x : Tps H H') (h : Lt H v) : Lt H' v := by
  obtain ⟨t, a, b, w, g, u, i, j, k, e, h1, h2, h3, h4⟩ := h
  exact ⟨t, a, b, w, g, u, i, j, k, e, x _ _ h1, x _ _ h2, x _ _ h3, h4⟩
def Gd (H : Hp) (rs : Rw) (m : Nat) : Prop := rs.length ≤ m ∧ (∀ r ∈ rs, 1 ≤ r.1 ∧ r.1 ≤ m ∧ Lt H r.2) ∧ (rs.map (·.1)).Nodup
theorem Gd.tp {H H' : Hp} {rs : Rw} {m : Nat} (x : Tps H H') (h : Gd H rs m) : Gd H' rs m := ⟨h.1, fun r hr => ⟨(h.2.1 r hr).1, (h.2.1 r hr).2.1, (h.2.1 r hr).2.2.tp x⟩, h.2.2⟩
theorem Gd.put {H : Hp} {rs : Rw} {m : Nat} {v : V} (h : Gd H rs m) (hv : Lt H v) : Gd H (rs ++ [((m : Int) + 1, v)]) (m + 1) := by
  obtain ⟨h1, h2, h3⟩ := h
  refine ⟨by simp; omega, fun r hr => ?_, ?_⟩
  · rcases List.mem_append.mp hr with hr | hr
    · have := h2 r hr; exact ⟨this.1, by have := this.2.1; push_cast; omega, this.2.2⟩
    · rw [List.mem_singleton] at hr; subst hr; exact ⟨by dsimp only; omega, by push_cast; omega, hv⟩
  · rw [List.map_append, List.nodup_append]
    refine ⟨h3, by simp, ?_⟩
    intro a ha b hb
    obtain ⟨r, hr, rfl⟩ := List.mem_map.mp ha
    simp only [List.map_cons, List.map_nil, List.mem_singleton] at hb
    have := (h2 r hr).2.1
    omega
theorem Gd.drop {H : Hp} {rs : Rw} {m : Nat} {i : Int} (h : Gd H rs m) : Gd H (rs.filter fun r => decide (r.1 ≠ i)) m := by
  obtain ⟨h1, h2, h3⟩ := h
  refine ⟨Nat.le_trans (List.length_filter_le _ _) h1, fun r hr => h2 r (List.mem_filter.mp hr).1, ?_⟩
  exact h3.sublist (List.filter_sublist.map _)
theorem Gd.ne {H : Hp} {rs : Rw} {m : Nat} (h : Gd H rs m) : ∀ r ∈ rs, r.1 ≠ (m : Int) + 1 := fun r hr e => by have := (h.2.1 r hr).2.1; omega
section
variable {K : PySem.W.Frag} {n : Nat} {H : Hp} {Q : VK} {E : XK}
theorem s_cell {a : Addr} {ns : List Int} {j : Nat} (hl : look K H a = some (.lst (ns.map V.int))) (hj : j < 2 ^ 32) (h : ∀ c, Q (.int c) H) : SP K (n+1) "_law_cell" [.ref a, .int j] H Q E :=
  o__law_cell (cell_ok (g := gg K (SP K n)) rfl hl (by decide) hj h)
theorem s_box {c : Int} (h : ∀ b H', H b = none → Ex H H' → Bx H' b 0 → Q (.ref b) H') : SP K (n+1) "_law_box" [.int c] H Q E :=
  o__law_box (box_ok (by decide) h)
theorem s_take {b : Addr} {N : Nat} {many : Int} (hx : Bx H b N) (hN : N < 100000) (h1 : 1 ≤ many) (h2 : many < 2 ^ 60) (h : ∀ r H', 0 ≤ r → r < many → Bx H' b (N + 1) → Fr [b] H H' → Q (.int r) H') : SP K (n+1) "_law_take" [.ref b, .int many] H Q E :=
  o__law_take (take_ok hx hN h1 h2 (by decide) (by decide) (by decide) (by decide) (by decide) (by decide) (by decide) (by decide) (by decide) (by decide) (by decide) (by decide) h)
theorem s_is_whole {i lo hi : Int} (h : Q (.bl (decide (lo ≤ i) && decide (i ≤ hi))) H) : SP K (n+1) "is_whole" [.int i, .int lo, .int hi] H Q E := by
  refine o_is_whole ?_
  unfold r_is_whole
  simp only [tSeq, tIfS, tNext, tRet, tRetN, tDrop, tAsg, tC, cVar, tOp, tCB, tCons, tNil, tTup, tLst, tIf, tAnd, tOr, tNot, cTest, cTru, oTru, cAnd, cOr, cNot, cUn, cChain, gName, cTupG, gCons, gNil, gSub, oLt, oLe, oGt, oGe, oIs, oIsNot, oSub, oMul, oFdiv, oMod, oPow, cPar, cPar3, cAug, tDNewK, cCall, cAttr, frzE, List.mem_singleton, List.lookup_cons_self, List.getElem?_cons_zero, List.getElem?_cons_succ, List.set_cons_zero, List.set_cons_succ, Option.some.injEq, reduceCtorEq, if_true, if_false, Bool.true_eq_false, Bool.false_eq_true, decide_eq_true_eq, ite_true, ite_false, ↓reduceIte, List.length_cons, List.length_nil, true_and, and_true, exists_eq_left', exists_eq_left, List.cons.injEq]
  rw [isi_ty (n := "int") rfl kb_int_int]
  simp only [tSeq, tIfS, tNext, tRet, tRetN, tDrop, tAsg, tC, cVar, tOp, tCB, tCons, tNil, tTup, tLst, tIf, tAnd, tOr, tNot, cTest, cTru, oTru, cAnd, cOr, cNot, cUn, cChain, gName, cTupG, gCons, gNil, gSub, oLt, oLe, oGt, oGe, oIs, oIsNot, oSub, oMul, oFdiv, oMod, oPow, cPar, cPar3, cAug, tDNewK, cCall, cAttr, frzE, List.mem_singleton, List.lookup_cons_self, List.getElem?_cons_zero, List.getElem?_cons_succ, List.set_cons_zero, List.set_cons_succ, Option.some.injEq, reduceCtorEq, if_true, if_false, Bool.true_eq_false, Bool.false_eq_true, decide_eq_true_eq, ite_true, ite_false, ↓reduceIte, List.length_cons, List.length_nil, true_and, and_true, exists_eq_left', exists_eq_left, List.cons.injEq]
  rw [isi_ty (n := "int") rfl kb_int_bool]
  simp only [tSeq, tIfS, tNext, tRet, tRetN, tDrop, tAsg, tC, cVar, tOp, tCB, tCons, tNil, tTup, tLst, tIf, tAnd, tOr, tNot, cTest, cTru, oTru, cAnd, cOr, cNot, cUn, cChain, gName, cTupG, gCons, gNil, gSub, oLt, oLe, oGt, oGe, oIs, oIsNot, oSub, oMul, oFdiv, oMod, oPow, cPar, cPar3, cAug, tDNewK, cCall, cAttr, frzE, List.mem_singleton, List.lookup_cons_self, List.getElem?_cons_zero, List.getElem?_cons_succ, List.set_cons_zero, List.set_cons_succ, Option.some.injEq, reduceCtorEq, if_true, if_false, Bool.true_eq_false, Bool.false_eq_true, decide_eq_true_eq, ite_true, ite_false, ↓reduceIte, List.length_cons, List.length_nil, true_and, and_true, exists_eq_left', exists_eq_left, List.cons.injEq]
  by_cases a : lo ≤ i <;> by_cases b : i ≤ hi <;> simp [a, b, oTru] at h ⊢ <;> exact h
theorem s_is_whole_o {v : V} {m : String} {lo hi : V} (hv : tyN K H v = some m) (hm : kitB m "int" = some false ∨ (kitB m "int" = some true ∧ kitB m "bool" = some true)) (h : Q (.bl false) H) : SP K (n+1) "is_whole" [v, lo, hi] H Q E := by
  refine o_is_whole ?_
  unfold r_is_whole
  simp only [tSeq, tIfS, tNext, tRet, tRetN, tDrop, tAsg, tC, cVar, tOp, tCB, tCons, tNil, tTup, tLst, tIf, tAnd, tOr, tNot, cTest, cTru, oTru, cAnd, cOr, cNot, cUn, cChain, gName, cTupG, gCons, gNil, gSub, oLt, oLe, oGt, oGe, oIs, oIsNot, oSub, oMul, oFdiv, oMod, oPow, cPar, cPar3, cAug, tDNewK, cCall, cAttr, frzE, List.mem_singleton, List.lookup_cons_self, List.getElem?_cons_zero, List.getElem?_cons_succ, List.set_cons_zero, List.set_cons_succ, Option.some.injEq, reduceCtorEq, if_true, if_false, Bool.true_eq_false, Bool.false_eq_true, decide_eq_true_eq, ite_true, ite_false, ↓reduceIte, List.length_cons, List.length_nil, true_and, and_true, exists_eq_left', exists_eq_left, List.cons.injEq]
  rcases hm with hm | ⟨hm, hb⟩
  · rw [isi_ty hv hm]
    simp only [tSeq, tIfS, tNext, tRet, tRetN, tDrop, tAsg, tC, cVar, tOp, tCB, tCons, tNil, tTup, tLst, tIf, tAnd, tOr, tNot, cTest, cTru, oTru, cAnd, cOr, cNot, cUn, cChain, gName, cTupG, gCons, gNil, gSub, oLt, oLe, oGt, oGe, oIs, oIsNot, oSub, oMul, oFdiv, oMod, oPow, cPar, cPar3, cAug, tDNewK, cCall, cAttr, frzE, List.mem_singleton, List.lookup_cons_self, List.getElem?_cons_zero, List.getElem?_cons_succ, List.set_cons_zero, List.set_cons_succ, Option.some.injEq, reduceCtorEq, if_true, if_false, Bool.true_eq_false, Bool.false_eq_true, decide_eq_true_eq, ite_true, ite_false, ↓reduceIte, List.length_cons, List.length_nil, true_and, and_true, exists_eq_left', exists_eq_left, List.cons.injEq]
    exact h
  · rw [isi_ty hv hm]
    simp only [tSeq, tIfS, tNext, tRet, tRetN, tDrop, tAsg, tC, cVar, tOp, tCB, tCons, tNil, tTup, tLst, tIf, tAnd, tOr, tNot, cTest, cTru, oTru, cAnd, cOr, cNot, cUn, cChain, gName, cTupG, gCons, gNil, gSub, oLt, oLe, oGt, oGe, oIs, oIsNot, oSub, oMul, oFdiv, oMod, oPow, cPar, cPar3, cAug, tDNewK, cCall, cAttr, frzE, List.mem_singleton, List.lookup_cons_self, List.getElem?_cons_zero, List.getElem?_cons_succ, List.set_cons_zero, List.set_cons_succ, Option.some.injEq, reduceCtorEq, if_true, if_false, Bool.true_eq_false, Bool.false_eq_true, decide_eq_true_eq, ite_true, ite_false, ↓reduceIte, List.length_cons, List.length_nil, true_and, and_true, exists_eq_left', exists_eq_left, List.cons.injEq]
    rw [isi_ty hv hb]
    simp only [tSeq, tIfS, tNext, tRet, tRetN, tDrop, tAsg, tC, cVar, tOp, tCB, tCons, tNil, tTup, tLst, tIf, tAnd, tOr, tNot, cTest, cTru, oTru, cAnd, cOr, cNot, cUn, cChain, gName, cTupG, gCons, gNil, gSub, oLt, oLe, oGt, oGe, oIs, oIsNot, oSub, oMul, oFdiv, oMod, oPow, cPar, cPar3, cAug, tDNewK, cCall, cAttr, frzE, List.mem_singleton, List.lookup_cons_self, List.getElem?_cons_zero, List.getElem?_cons_succ, List.set_cons_zero, List.set_cons_succ, Option.some.injEq, reduceCtorEq, if_true, if_false, Bool.true_eq_false, Bool.false_eq_true, decide_eq_true_eq, ite_true, ite_false, ↓reduceIte, List.length_cons, List.length_nil, true_and, and_true, exists_eq_left', exists_eq_left, List.cons.injEq]
    exact h
end
end WR.L

set_option Elab.async false
set_option linter.all false
set_option maxRecDepth 100000
set_option maxHeartbeats 4000000
namespace WR.L
open PySem PySem.Spec PyProof.Rows L2
def RdAt (K : PySem.W.Frag) (H : Hp) (p d : Addr) (rs : Rw) (m : Nat) : Prop := (∃ dx, H p = some (.ins (He.ga K "Roads") dx [("by_number", .ref d), ("last_number", .int m)])) ∧ H d = some (.dK (dk rs))
/-- what is no letter's number -/
def Off (K : PySem.W.Frag) (H : Hp) (rs : Rw) (v : V) : Prop := (∃ i, v = .int i ∧ rg rs i = none) ∨ ∃ m, tyN K H v = some m ∧ (kitB m "int" = some false ∨ (kitB m "int" = some true ∧ kitB m "bool" = some true))
section
variable {K : PySem.W.Frag} {n : Nat} {H : Hp} {Q : VK} {E : XK}
theorem RdAt.ex {H H' : Hp} {p d : Addr} {rs : Rw} {m : Nat} (x : Ex H H') (h : RdAt K H p d rs m) : RdAt K H' p d rs m := by
  obtain ⟨⟨dx, e⟩, e2⟩ := h
  exact ⟨⟨dx, x _ _ e⟩, x _ _ e2⟩
theorem lk_last {d : Addr} {m : V} : List.lookup ("last_number" : Str) [(("by_number" : Str), V.ref d), (("last_number" : Str), m)] = some m := by rfl
theorem s_letter {p d : Addr} {rs : Rw} {m : Nat} {i : Int} {v : V} (R : RdAt K H p d rs m) (g : Gd H rs m) (hi : rg rs i = some v) (h : Q v H) : SP K (n+2) "Roads.letter" [.ref p, .int i] H Q E := by
  obtain ⟨⟨dx, hp⟩, hd⟩ := R
  have b := g.2.1 _ (rg_mem hi)
  refine o_Roads_letter ?_
  unfold r_Roads_letter
  refine seq_ fun N1 g1 => ifS_ fun A B hA hB => ?_
  simp only [cAttr, ins_ins hp, lk_last, tSeq, tIfS, tNext, tRet, tRetN, tDrop, tAsg, tC, cVar, tOp, tCB, tCons, tNil, tTup, tLst, tIf, tAnd, tOr, tNot, cTest, cTru, oTru, cAnd, cOr, cNot, cUn, cChain, gName, cTupG, gCons, gNil, gSub, oLt, oLe, oGt, oGe, oIs, oIsNot, oSub, oMul, oFdiv, oMod, oPow, cPar, cPar3, cAug, tDNewK, cCall, cAttr, frzE, List.mem_singleton, List.lookup_cons_self, List.getElem?_cons_zero, List.getElem?_cons_succ, List.set_cons_zero, List.set_cons_succ, Option.some.injEq, reduceCtorEq, if_true, if_false, Bool.true_eq_false, Bool.false_eq_true, decide_eq_true_eq, ite_true, ite_false, ↓reduceIte, List.length_cons, List.length_nil, true_and, and_true, exists_eq_left', exists_eq_left, List.cons.injEq]
  refine s_is_whole ?_
  have e1 : (decide ((1 : Int) ≤ i) && decide (i ≤ (m : Int))) = true := by have := b.1; have := b.2.1; simp; omega
  rw [e1]
  simp only [oTru, tSeq, tIfS, tNext, tRet, tRetN, tDrop, tAsg, tC, cVar, tOp, tCB, tCons, tNil, tTup, tLst, tIf, tAnd, tOr, tNot, cTest, cTru, oTru, cAnd, cOr, cNot, cUn, cChain, gName, cTupG, gCons, gNil, gSub, oLt, oLe, oGt, oGe, oIs, oIsNot, oSub, oMul, oFdiv, oMod, oPow, cPar, cPar3, cAug, tDNewK, cCall, cAttr, frzE, List.mem_singleton, List.lookup_cons_self, List.getElem?_cons_zero, List.getElem?_cons_succ, List.set_cons_zero, List.set_cons_succ, Option.some.injEq, reduceCtorEq, if_true, if_false, Bool.true_eq_false, Bool.false_eq_true, decide_eq_true_eq, ite_true, ite_false, ↓reduceIte, List.length_cons, List.length_nil, true_and, and_true, exists_eq_left', exists_eq_left, List.cons.injEq, ins_ins hp]
  try simp only [tSeq, tIfS, tNext, tRet, tRetN, tDrop, tAsg, tC, cVar, tOp, tCB, tCons, tNil, tTup, tLst, tIf, tAnd, tOr, tNot, cTest, cTru, oTru, cAnd, cOr, cNot, cUn, cChain, gName, cTupG, gCons, gNil, gSub, oLt, oLe, oGt, oGe, oIs, oIsNot, oSub, oMul, oFdiv, oMod, oPow, cPar, cPar3, cAug, tDNewK, cCall, cAttr, frzE, List.mem_singleton, List.lookup_cons_self, List.getElem?_cons_zero, List.getElem?_cons_succ, List.set_cons_zero, List.set_cons_succ, Option.some.injEq, reduceCtorEq, if_true, if_false, Bool.true_eq_false, Bool.false_eq_true, decide_eq_true_eq, ite_true, ite_false, ↓reduceIte, List.length_cons, List.length_nil, true_and, and_true, exists_eq_left', exists_eq_left, List.cons.injEq, Bool.not_true]
  rw [in_dI hd]
  rw [show valV (dk rs) (.inl i) = some v from hi]
  simp only [Option.isSome_some, Bool.xor_true, Bool.not_true, Bool.not_false, tSeq, tIfS, tNext, tRet, tRetN, tDrop, tAsg, tC, cVar, tOp, tCB, tCons, tNil, tTup, tLst, tIf, tAnd, tOr, tNot, cTest, cTru, oTru, cAnd, cOr, cNot, cUn, cChain, gName, cTupG, gCons, gNil, gSub, oLt, oLe, oGt, oGe, oIs, oIsNot, oSub, oMul, oFdiv, oMod, oPow, cPar, cPar3, cAug, tDNewK, cCall, cAttr, frzE, List.mem_singleton, List.lookup_cons_self, List.getElem?_cons_zero, List.getElem?_cons_succ, List.set_cons_zero, List.set_cons_succ, Option.some.injEq, reduceCtorEq, if_true, if_false, Bool.true_eq_false, Bool.false_eq_true, decide_eq_true_eq, ite_true, ite_false, ↓reduceIte, List.length_cons, List.length_nil, true_and, and_true, exists_eq_left', exists_eq_left, List.cons.injEq]
  refine hB _ (g1 _ _ ?_)
  simp only [cAttr, ins_ins hp, tSeq, tIfS, tNext, tRet, tRetN, tDrop, tAsg, tC, cVar, tOp, tCB, tCons, tNil, tTup, tLst, tIf, tAnd, tOr, tNot, cTest, cTru, oTru, cAnd, cOr, cNot, cUn, cChain, gName, cTupG, gCons, gNil, gSub, oLt, oLe, oGt, oGe, oIs, oIsNot, oSub, oMul, oFdiv, oMod, oPow, cPar, cPar3, cAug, tDNewK, cCall, cAttr, frzE, List.mem_singleton, List.lookup_cons_self, List.getElem?_cons_zero, List.getElem?_cons_succ, List.set_cons_zero, List.set_cons_succ, Option.some.injEq, reduceCtorEq, if_true, if_false, Bool.true_eq_false, Bool.false_eq_true, decide_eq_true_eq, ite_true, ite_false, ↓reduceIte, List.length_cons, List.length_nil, true_and, and_true, exists_eq_left', exists_eq_left, List.cons.injEq]
  rw [ix_dI hd hi]
  exact h
theorem s_letter_off {p d : Addr} {rs : Rw} {m : Nat} {v : V} (R : RdAt K H p d rs m) (o : Off K H rs v) (h : ∀ x H', Ex H H' → H' x = some (.xd [("found", v)]) → E (.ref (He.ga K "NotOnRoad")) (some x) H') : SP K (n+2) "Roads.letter" [.ref p, v] H Q E := by
  obtain ⟨⟨dx, hp⟩, hd⟩ := R
  refine o_Roads_letter ?_
  unfold r_Roads_letter
  refine seq_ fun N1 g1 => ifS_ fun A B hA hB => ?_
  simp only [cAttr, ins_ins hp, lk_last, tSeq, tIfS, tNext, tRet, tRetN, tDrop, tAsg, tC, cVar, tOp, tCB, tCons, tNil, tTup, tLst, tIf, tAnd, tOr, tNot, cTest, cTru, oTru, cAnd, cOr, cNot, cUn, cChain, gName, cTupG, gCons, gNil, gSub, oLt, oLe, oGt, oGe, oIs, oIsNot, oSub, oMul, oFdiv, oMod, oPow, cPar, cPar3, cAug, tDNewK, cCall, cAttr, frzE, List.mem_singleton, List.lookup_cons_self, List.getElem?_cons_zero, List.getElem?_cons_succ, List.set_cons_zero, List.set_cons_succ, Option.some.injEq, reduceCtorEq, if_true, if_false, Bool.true_eq_false, Bool.false_eq_true, decide_eq_true_eq, ite_true, ite_false, ↓reduceIte, List.length_cons, List.length_nil, true_and, and_true, exists_eq_left', exists_eq_left, List.cons.injEq]
  have fin : A H := by
    refine hA _ ?_
    simp only [tRs, tMkX, tSeq, tIfS, tNext, tRet, tRetN, tDrop, tAsg, tC, cVar, tOp, tCB, tCons, tNil, tTup, tLst, tIf, tAnd, tOr, tNot, cTest, cTru, oTru, cAnd, cOr, cNot, cUn, cChain, gName, cTupG, gCons, gNil, gSub, oLt, oLe, oGt, oGe, oIs, oIsNot, oSub, oMul, oFdiv, oMod, oPow, cPar, cPar3, cAug, tDNewK, cCall, cAttr, frzE, List.mem_singleton, List.lookup_cons_self, List.getElem?_cons_zero, List.getElem?_cons_succ, List.set_cons_zero, List.set_cons_succ, Option.some.injEq, reduceCtorEq, if_true, if_false, Bool.true_eq_false, Bool.false_eq_true, decide_eq_true_eq, ite_true, ite_false, ↓reduceIte, List.length_cons, List.length_nil, true_and, and_true, exists_eq_left', exists_eq_left, List.cons.injEq]
    intro x hx
    exact h x _ (Ex.refl.new hx) upd_same
  rcases o with ⟨i, rfl, ho⟩ | ⟨t, ht, hk⟩
  · refine s_is_whole ?_
    cases e1 : (decide ((1 : Int) ≤ i) && decide (i ≤ (m : Int))) with
    | false =>
      simp only [oTru, tSeq, tIfS, tNext, tRet, tRetN, tDrop, tAsg, tC, cVar, tOp, tCB, tCons, tNil, tTup, tLst, tIf, tAnd, tOr, tNot, cTest, cTru, oTru, cAnd, cOr, cNot, cUn, cChain, gName, cTupG, gCons, gNil, gSub, oLt, oLe, oGt, oGe, oIs, oIsNot, oSub, oMul, oFdiv, oMod, oPow, cPar, cPar3, cAug, tDNewK, cCall, cAttr, frzE, List.mem_singleton, List.lookup_cons_self, List.getElem?_cons_zero, List.getElem?_cons_succ, List.set_cons_zero, List.set_cons_succ, Option.some.injEq, reduceCtorEq, if_true, if_false, Bool.true_eq_false, Bool.false_eq_true, decide_eq_true_eq, ite_true, ite_false, ↓reduceIte, List.length_cons, List.length_nil, true_and, and_true, exists_eq_left', exists_eq_left, List.cons.injEq, Bool.not_false]
      exact fin
    | true =>
      simp only [oTru, tSeq, tIfS, tNext, tRet, tRetN, tDrop, tAsg, tC, cVar, tOp, tCB, tCons, tNil, tTup, tLst, tIf, tAnd, tOr, tNot, cTest, cTru, oTru, cAnd, cOr, cNot, cUn, cChain, gName, cTupG, gCons, gNil, gSub, oLt, oLe, oGt, oGe, oIs, oIsNot, oSub, oMul, oFdiv, oMod, oPow, cPar, cPar3, cAug, tDNewK, cCall, cAttr, frzE, List.mem_singleton, List.lookup_cons_self, List.getElem?_cons_zero, List.getElem?_cons_succ, List.set_cons_zero, List.set_cons_succ, Option.some.injEq, reduceCtorEq, if_true, if_false, Bool.true_eq_false, Bool.false_eq_true, decide_eq_true_eq, ite_true, ite_false, ↓reduceIte, List.length_cons, List.length_nil, true_and, and_true, exists_eq_left', exists_eq_left, List.cons.injEq, Bool.not_true, ins_ins hp]
      rw [in_dI hd]
      rw [show valV (dk rs) (.inl i) = none from ho]
      simp only [Option.isSome_none, Bool.xor_false, Bool.not_true, Bool.not_false, tSeq, tIfS, tNext, tRet, tRetN, tDrop, tAsg, tC, cVar, tOp, tCB, tCons, tNil, tTup, tLst, tIf, tAnd, tOr, tNot, cTest, cTru, oTru, cAnd, cOr, cNot, cUn, cChain, gName, cTupG, gCons, gNil, gSub, oLt, oLe, oGt, oGe, oIs, oIsNot, oSub, oMul, oFdiv, oMod, oPow, cPar, cPar3, cAug, tDNewK, cCall, cAttr, frzE, List.mem_singleton, List.lookup_cons_self, List.getElem?_cons_zero, List.getElem?_cons_succ, List.set_cons_zero, List.set_cons_succ, Option.some.injEq, reduceCtorEq, if_true, if_false, Bool.true_eq_false, Bool.false_eq_true, decide_eq_true_eq, ite_true, ite_false, ↓reduceIte, List.length_cons, List.length_nil, true_and, and_true, exists_eq_left', exists_eq_left, List.cons.injEq]
      exact fin
  · refine s_is_whole_o ht hk ?_
    simp only [oTru, tSeq, tIfS, tNext, tRet, tRetN, tDrop, tAsg, tC, cVar, tOp, tCB, tCons, tNil, tTup, tLst, tIf, tAnd, tOr, tNot, cTest, cTru, oTru, cAnd, cOr, cNot, cUn, cChain, gName, cTupG, gCons, gNil, gSub, oLt, oLe, oGt, oGe, oIs, oIsNot, oSub, oMul, oFdiv, oMod, oPow, cPar, cPar3, cAug, tDNewK, cCall, cAttr, frzE, List.mem_singleton, List.lookup_cons_self, List.getElem?_cons_zero, List.getElem?_cons_succ, List.set_cons_zero, List.set_cons_succ, Option.some.injEq, reduceCtorEq, if_true, if_false, Bool.true_eq_false, Bool.false_eq_true, decide_eq_true_eq, ite_true, ite_false, ↓reduceIte, List.length_cons, List.length_nil, true_and, and_true, exists_eq_left', exists_eq_left, List.cons.injEq, Bool.not_false]
    exact fin
theorem s_put {p d : Addr} {rs : Rw} {m : Nat} {v : V} (R : RdAt K H p d rs m) (g : Gd H rs m) (hm : m < 1000) (h : ∀ H', RdAt K H' p d (rs ++ [((m : Int) + 1, v)]) (m + 1) → Fr [p, d] H H' → Q (.int ((m : Int) + 1)) H') : SP K (n+1) "Roads.put" [.ref p, v] H Q E := by
  obtain ⟨⟨dx, hp⟩, hd⟩ := R
  refine o_Roads_put ?_
  unfold r_Roads_put
  refine seq_ fun N1 g1 => ?_
  simp only [cFldAug, hp, lk_last, tSeq, tIfS, tNext, tRet, tRetN, tDrop, tAsg, tC, cVar, tOp, tCB, tCons, tNil, tTup, tLst, tIf, tAnd, tOr, tNot, cTest, cTru, oTru, cAnd, cOr, cNot, cUn, cChain, gName, cTupG, gCons, gNil, gSub, oLt, oLe, oGt, oGe, oIs, oIsNot, oSub, oMul, oFdiv, oMod, oPow, cPar, cPar3, cAug, tDNewK, cCall, cAttr, frzE, List.mem_singleton, List.lookup_cons_self, List.getElem?_cons_zero, List.getElem?_cons_succ, List.set_cons_zero, List.set_cons_succ, Option.some.injEq, reduceCtorEq, if_true, if_false, Bool.true_eq_false, Bool.false_eq_true, decide_eq_true_eq, ite_true, ite_false, ↓reduceIte, List.length_cons, List.length_nil, true_and, and_true, exists_eq_left', exists_eq_left, List.cons.injEq]
  refine ⟨(by simp), g1 _ _ (seq_ fun N2 g2 => ?_)⟩
  have np : d ≠ p := fun e => by rw [e, hp] at hd; cases hd
  have e0 : putF "last_number" (V.int ((m : Int) + 1)) [(("by_number" : Str), V.ref d), ("last_number", V.int m)] = [(("by_number" : Str), V.ref d), ("last_number", V.int ((m + 1 : Nat) : Int))] := rfl
  rw [e0]
  have hp1 : (upd H p (.ins (He.ga K "Roads") dx [("by_number", .ref d), ("last_number", .int ((m + 1 : Nat) : Int))])) p = some (.ins (He.ga K "Roads") dx [("by_number", .ref d), ("last_number", .int ((m + 1 : Nat) : Int))]) := upd_same
  have hd1 : (upd H p (.ins (He.ga K "Roads") dx [("by_number", .ref d), ("last_number", .int ((m + 1 : Nat) : Int))])) d = some (.dK (dk rs)) := by rw [upd_ne np]; exact hd
  have f1 : Fr [p, d] H (upd H p (.ins (He.ga K "Roads") dx [("by_number", .ref d), ("last_number", .int ((m + 1 : Nat) : Int))])) := Fr.refl.put (by simp)
  generalize upd H p (.ins (He.ga K "Roads") dx [("by_number", .ref d), ("last_number", .int ((m + 1 : Nat) : Int))]) = H1 at hp1 hd1 f1 ⊢
  simp only [cAttr, ins_ins hp1, lk_last, oSet, hd1, keyOf, tSeq, tIfS, tNext, tRet, tRetN, tDrop, tAsg, tC, cVar, tOp, tCB, tCons, tNil, tTup, tLst, tIf, tAnd, tOr, tNot, cTest, cTru, oTru, cAnd, cOr, cNot, cUn, cChain, gName, cTupG, gCons, gNil, gSub, oLt, oLe, oGt, oGe, oIs, oIsNot, oSub, oMul, oFdiv, oMod, oPow, cPar, cPar3, cAug, tDNewK, cCall, cAttr, frzE, List.mem_singleton, List.lookup_cons_self, List.getElem?_cons_zero, List.getElem?_cons_succ, List.set_cons_zero, List.set_cons_succ, Option.some.injEq, reduceCtorEq, if_true, if_false, Bool.true_eq_false, Bool.false_eq_true, decide_eq_true_eq, ite_true, ite_false, ↓reduceIte, List.length_cons, List.length_nil, true_and, and_true, exists_eq_left', exists_eq_left, List.cons.injEq]
  refine ⟨by rw [dk_len]; have := g.1; simp only [sizeLine_eq]; omega, g2 _ _ ?_⟩
  have hp2 : (upd H1 d (.dK (putK (dk rs) (.inl ((m + 1 : Nat) : Int)) v))) p = some (.ins (He.ga K "Roads") dx [("by_number", .ref d), ("last_number", .int ((m + 1 : Nat) : Int))]) := by rw [upd_ne np.symm]; exact hp1
  simp only [cAttr, ins_ins hp2, lk_last, tSeq, tIfS, tNext, tRet, tRetN, tDrop, tAsg, tC, cVar, tOp, tCB, tCons, tNil, tTup, tLst, tIf, tAnd, tOr, tNot, cTest, cTru, oTru, cAnd, cOr, cNot, cUn, cChain, gName, cTupG, gCons, gNil, gSub, oLt, oLe, oGt, oGe, oIs, oIsNot, oSub, oMul, oFdiv, oMod, oPow, cPar, cPar3, cAug, tDNewK, cCall, cAttr, frzE, List.mem_singleton, List.lookup_cons_self, List.getElem?_cons_zero, List.getElem?_cons_succ, List.set_cons_zero, List.set_cons_succ, Option.some.injEq, reduceCtorEq, if_true, if_false, Bool.true_eq_false, Bool.false_eq_true, decide_eq_true_eq, ite_true, ite_false, ↓reduceIte, List.length_cons, List.length_nil, true_and, and_true, exists_eq_left', exists_eq_left, List.cons.injEq]
  refine h _ ⟨⟨dx, hp2⟩, ?_⟩ (f1.put (by simp))
  rw [upd_same]
  congr 1
  congr 1
  exact dk_put (i := ((m + 1 : Nat) : Int)) (fun r hr => by have := (g.2.1 r hr).2.1; omega)
theorem s_numbers {p d : Addr} {rs : Rw} {m : Nat} (R : RdAt K H p d rs m) (h : ∀ l H', H l = none → Ex H H' → H' l = some (.lst (rs.map fun r => V.int r.1)) → Q (.ref l) H') : SP K (n+1) "Roads.numbers" [.ref p] H Q E := by
  obtain ⟨⟨dx, hp⟩, hd⟩ := R
  refine o_Roads_numbers ?_
  unfold r_Roads_numbers
  simp only [cAttr, ins_ins hp, bList, look_of_dK (K := K) hd, dk_keys, tSeq, tIfS, tNext, tRet, tRetN, tDrop, tAsg, tC, cVar, tOp, tCB, tCons, tNil, tTup, tLst, tIf, tAnd, tOr, tNot, cTest, cTru, oTru, cAnd, cOr, cNot, cUn, cChain, gName, cTupG, gCons, gNil, gSub, oLt, oLe, oGt, oGe, oIs, oIsNot, oSub, oMul, oFdiv, oMod, oPow, cPar, cPar3, cAug, tDNewK, cCall, cAttr, frzE, List.mem_singleton, List.lookup_cons_self, List.getElem?_cons_zero, List.getElem?_cons_succ, List.set_cons_zero, List.set_cons_succ, Option.some.injEq, reduceCtorEq, if_true, if_false, Bool.true_eq_false, Bool.false_eq_true, decide_eq_true_eq, ite_true, ite_false, ↓reduceIte, List.length_cons, List.length_nil, true_and, and_true, exists_eq_left', exists_eq_left, List.cons.injEq]
  intro l hl
  exact h l _ hl (Ex.refl.new hl) upd_same
theorem s_len {p d : Addr} {rs : Rw} {m : Nat} (R : RdAt K H p d rs m) (h : Q (.int rs.length) H) : SP K (n+1) "Roads.__len__" [.ref p] H Q E := by
  obtain ⟨⟨dx, hp⟩, hd⟩ := R
  refine o_Roads___len__ ?_
  unfold r_Roads___len__
  simp only [cAttr, ins_ins hp, tSeq, tIfS, tNext, tRet, tRetN, tDrop, tAsg, tC, cVar, tOp, tCB, tCons, tNil, tTup, tLst, tIf, tAnd, tOr, tNot, cTest, cTru, oTru, cAnd, cOr, cNot, cUn, cChain, gName, cTupG, gCons, gNil, gSub, oLt, oLe, oGt, oGe, oIs, oIsNot, oSub, oMul, oFdiv, oMod, oPow, cPar, cPar3, cAug, tDNewK, cCall, cAttr, frzE, List.mem_singleton, List.lookup_cons_self, List.getElem?_cons_zero, List.getElem?_cons_succ, List.set_cons_zero, List.set_cons_succ, Option.some.injEq, reduceCtorEq, if_true, if_false, Bool.true_eq_false, Bool.false_eq_true, decide_eq_true_eq, ite_true, ite_false, ↓reduceIte, List.length_cons, List.length_nil, true_and, and_true, exists_eq_left', exists_eq_left, List.cons.injEq]
  rw [len_dK rfl hd, dk_len]
  exact h
theorem len_own {S : Nat} {p d : Addr} {rs : Rw} {m : Nat} (R : RdAt K H p d rs m) (hl : rs.length < 1000) (q : Q (.int rs.length) H) : bLenG (gg K (SP K (S+1))) [.ref p] H Q := by
  obtain ⟨⟨dx, hp⟩, _⟩ := id R
  unfold bLenG
  simp only [ins_ins hp]
  refine spc_one (cs_len K _) rfl ?_
  exact s_len R ⟨⟨by omega, by omega⟩, q⟩
theorem s_take_off {p d : Addr} {rs : Rw} {m : Nat} {i : Int} {v : V} (R : RdAt K H p d rs m) (g : Gd H rs m) (hi : rg rs i = some v) (h : ∀ H', RdAt K H' p d (rs.filter fun r => decide (r.1 ≠ i)) m → Fr [d] H H' → Q v H') : SP K (n+3) "Roads.take_off" [.ref p, .int i] H Q E := by
  obtain ⟨⟨dx, hp⟩, hd⟩ := id R
  have np : d ≠ p := fun e => by rw [e, hp] at hd; cases hd
  refine o_Roads_take_off ?_
  unfold r_Roads_take_off
  refine seq_ fun N1 g1 => ?_
  unfold tAsg
  refine mC_own (c_letter_1 K _) ?_ fun P P' hh q => mono_var hh q
  try simp only [tSeq, tIfS, tNext, tRet, tRetN, tDrop, tAsg, tC, cVar, tOp, tCB, tCons, tNil, tTup, tLst, tIf, tAnd, tOr, tNot, cTest, cTru, oTru, cAnd, cOr, cNot, cUn, cChain, gName, cTupG, gCons, gNil, gSub, oLt, oLe, oGt, oGe, oIs, oIsNot, oSub, oMul, oFdiv, oMod, oPow, cPar, cPar3, cAug, tDNewK, cCall, cAttr, frzE, List.mem_singleton, List.lookup_cons_self, List.getElem?_cons_zero, List.getElem?_cons_succ, List.set_cons_zero, List.set_cons_succ, Option.some.injEq, reduceCtorEq, if_true, if_false, Bool.true_eq_false, Bool.false_eq_true, decide_eq_true_eq, ite_true, ite_false, ↓reduceIte, List.length_cons, List.length_nil, true_and, and_true, exists_eq_left', exists_eq_left, List.cons.injEq]
  refine ⟨p, dx, _, rfl, hp, lk2 rfl rfl, s_letter R g hi (g1 _ _ (seq_ fun N2 g2 => ?_))⟩
  simp only [tDrop]
  refine mC_blt ?_ fun P P' hh q => mono_attr hh q
  simp only [cAttr, ins_ins hp, tSeq, tIfS, tNext, tRet, tRetN, tDrop, tAsg, tC, cVar, tOp, tCB, tCons, tNil, tTup, tLst, tIf, tAnd, tOr, tNot, cTest, cTru, oTru, cAnd, cOr, cNot, cUn, cChain, gName, cTupG, gCons, gNil, gSub, oLt, oLe, oGt, oGe, oIs, oIsNot, oSub, oMul, oFdiv, oMod, oPow, cPar, cPar3, cAug, tDNewK, cCall, cAttr, frzE, List.mem_singleton, List.lookup_cons_self, List.getElem?_cons_zero, List.getElem?_cons_succ, List.set_cons_zero, List.set_cons_succ, Option.some.injEq, reduceCtorEq, if_true, if_false, Bool.true_eq_false, Bool.false_eq_true, decide_eq_true_eq, ite_true, ite_false, ↓reduceIte, List.length_cons, List.length_nil, true_and, and_true, exists_eq_left', exists_eq_left, List.cons.injEq]
  refine ⟨ins_dK (K := K) (look_of_dK hd), "dict", tyB_dK (K := K) hd, _, b_pop, ?_⟩
  simp only [mPopD, hd, keyOf, show valV (dk rs) (.inl i) = some v from hi, tSeq, tIfS, tNext, tRet, tRetN, tDrop, tAsg, tC, cVar, tOp, tCB, tCons, tNil, tTup, tLst, tIf, tAnd, tOr, tNot, cTest, cTru, oTru, cAnd, cOr, cNot, cUn, cChain, gName, cTupG, gCons, gNil, gSub, oLt, oLe, oGt, oGe, oIs, oIsNot, oSub, oMul, oFdiv, oMod, oPow, cPar, cPar3, cAug, tDNewK, cCall, cAttr, frzE, List.mem_singleton, List.lookup_cons_self, List.getElem?_cons_zero, List.getElem?_cons_succ, List.set_cons_zero, List.set_cons_succ, Option.some.injEq, reduceCtorEq, if_true, if_false, Bool.true_eq_false, Bool.false_eq_true, decide_eq_true_eq, ite_true, ite_false, ↓reduceIte, List.length_cons, List.length_nil, true_and, and_true, exists_eq_left', exists_eq_left, List.cons.injEq]
  refine g2 _ _ ?_
  try simp only [tSeq, tIfS, tNext, tRet, tRetN, tDrop, tAsg, tC, cVar, tOp, tCB, tCons, tNil, tTup, tLst, tIf, tAnd, tOr, tNot, cTest, cTru, oTru, cAnd, cOr, cNot, cUn, cChain, gName, cTupG, gCons, gNil, gSub, oLt, oLe, oGt, oGe, oIs, oIsNot, oSub, oMul, oFdiv, oMod, oPow, cPar, cPar3, cAug, tDNewK, cCall, cAttr, frzE, List.mem_singleton, List.lookup_cons_self, List.getElem?_cons_zero, List.getElem?_cons_succ, List.set_cons_zero, List.set_cons_succ, Option.some.injEq, reduceCtorEq, if_true, if_false, Bool.true_eq_false, Bool.false_eq_true, decide_eq_true_eq, ite_true, ite_false, ↓reduceIte, List.length_cons, List.length_nil, true_and, and_true, exists_eq_left', exists_eq_left, List.cons.injEq]
  refine h _ ⟨⟨dx, by rw [upd_ne np.symm]; exact hp⟩, ?_⟩ (Fr.refl.put (by simp))
  rw [upd_same, dk_drop]
theorem s_take_off_off {p d : Addr} {rs : Rw} {m : Nat} {v : V} (R : RdAt K H p d rs m) (o : Off K H rs v) (h : ∀ x H', Ex H H' → H' x = some (.xd [("found", v)]) → E (.ref (He.ga K "NotOnRoad")) (some x) H') : SP K (n+3) "Roads.take_off" [.ref p, v] H Q E := by
  obtain ⟨⟨dx, hp⟩, hd⟩ := id R
  refine o_Roads_take_off ?_
  unfold r_Roads_take_off
  refine seq_ fun N1 g1 => ?_
  unfold tAsg
  refine mC_own (c_letter_1 K _) ?_ fun P P' hh q => mono_var hh q
  try simp only [tSeq, tIfS, tNext, tRet, tRetN, tDrop, tAsg, tC, cVar, tOp, tCB, tCons, tNil, tTup, tLst, tIf, tAnd, tOr, tNot, cTest, cTru, oTru, cAnd, cOr, cNot, cUn, cChain, gName, cTupG, gCons, gNil, gSub, oLt, oLe, oGt, oGe, oIs, oIsNot, oSub, oMul, oFdiv, oMod, oPow, cPar, cPar3, cAug, tDNewK, cCall, cAttr, frzE, List.mem_singleton, List.lookup_cons_self, List.getElem?_cons_zero, List.getElem?_cons_succ, List.set_cons_zero, List.set_cons_succ, Option.some.injEq, reduceCtorEq, if_true, if_false, Bool.true_eq_false, Bool.false_eq_true, decide_eq_true_eq, ite_true, ite_false, ↓reduceIte, List.length_cons, List.length_nil, true_and, and_true, exists_eq_left', exists_eq_left, List.cons.injEq]
  exact ⟨p, dx, _, rfl, hp, lk2 rfl rfl, s_letter_off R o h⟩
theorem s_doubled {p d : Addr} {rs : Rw} {m : Nat} {i : Int} {v : V} (R : RdAt K H p d rs m) (g : Gd H rs m) (hm : m < 1000) (hi : rg rs i = some v) (h : ∀ H', RdAt K H' p d (rs ++ [((m : Int) + 1, v)]) (m + 1) → Fr [p, d] H H' → Q (.int ((m : Int) + 1)) H') : SP K (n+3) "Roads.doubled" [.ref p, .int i] H Q E := by
  obtain ⟨⟨dx, hp⟩, hd⟩ := id R
  refine o_Roads_doubled ?_
  unfold r_Roads_doubled
  simp only [tRet]
  refine mC_own (c_put_1 K _) ?_ fun P P' hh q => mono_var hh q
  try simp only [tSeq, tIfS, tNext, tRet, tRetN, tDrop, tAsg, tC, cVar, tOp, tCB, tCons, tNil, tTup, tLst, tIf, tAnd, tOr, tNot, cTest, cTru, oTru, cAnd, cOr, cNot, cUn, cChain, gName, cTupG, gCons, gNil, gSub, oLt, oLe, oGt, oGe, oIs, oIsNot, oSub, oMul, oFdiv, oMod, oPow, cPar, cPar3, cAug, tDNewK, cCall, cAttr, frzE, List.mem_singleton, List.lookup_cons_self, List.getElem?_cons_zero, List.getElem?_cons_succ, List.set_cons_zero, List.set_cons_succ, Option.some.injEq, reduceCtorEq, if_true, if_false, Bool.true_eq_false, Bool.false_eq_true, decide_eq_true_eq, ite_true, ite_false, ↓reduceIte, List.length_cons, List.length_nil, true_and, and_true, exists_eq_left', exists_eq_left, List.cons.injEq]
  refine ⟨p, dx, _, rfl, hp, lk2 rfl rfl, ?_⟩
  refine mC_own (c_letter_1 K _) ?_ fun P P' hh q => mono_var hh q
  try simp only [tSeq, tIfS, tNext, tRet, tRetN, tDrop, tAsg, tC, cVar, tOp, tCB, tCons, tNil, tTup, tLst, tIf, tAnd, tOr, tNot, cTest, cTru, oTru, cAnd, cOr, cNot, cUn, cChain, gName, cTupG, gCons, gNil, gSub, oLt, oLe, oGt, oGe, oIs, oIsNot, oSub, oMul, oFdiv, oMod, oPow, cPar, cPar3, cAug, tDNewK, cCall, cAttr, frzE, List.mem_singleton, List.lookup_cons_self, List.getElem?_cons_zero, List.getElem?_cons_succ, List.set_cons_zero, List.set_cons_succ, Option.some.injEq, reduceCtorEq, if_true, if_false, Bool.true_eq_false, Bool.false_eq_true, decide_eq_true_eq, ite_true, ite_false, ↓reduceIte, List.length_cons, List.length_nil, true_and, and_true, exists_eq_left', exists_eq_left, List.cons.injEq]
  refine ⟨p, dx, _, rfl, hp, lk2 rfl rfl, s_letter R g hi ?_⟩
  exact s_put R g hm h
theorem s_doubled_off {p d : Addr} {rs : Rw} {m : Nat} {v : V} (R : RdAt K H p d rs m) (o : Off K H rs v) (h : ∀ x H', Ex H H' → H' x = some (.xd [("found", v)]) → E (.ref (He.ga K "NotOnRoad")) (some x) H') : SP K (n+3) "Roads.doubled" [.ref p, v] H Q E := by
  obtain ⟨⟨dx, hp⟩, hd⟩ := id R
  refine o_Roads_doubled ?_
  unfold r_Roads_doubled
  simp only [tRet]
  refine mC_own (c_put_1 K _) ?_ fun P P' hh q => mono_var hh q
  try simp only [tSeq, tIfS, tNext, tRet, tRetN, tDrop, tAsg, tC, cVar, tOp, tCB, tCons, tNil, tTup, tLst, tIf, tAnd, tOr, tNot, cTest, cTru, oTru, cAnd, cOr, cNot, cUn, cChain, gName, cTupG, gCons, gNil, gSub, oLt, oLe, oGt, oGe, oIs, oIsNot, oSub, oMul, oFdiv, oMod, oPow, cPar, cPar3, cAug, tDNewK, cCall, cAttr, frzE, List.mem_singleton, List.lookup_cons_self, List.getElem?_cons_zero, List.getElem?_cons_succ, List.set_cons_zero, List.set_cons_succ, Option.some.injEq, reduceCtorEq, if_true, if_false, Bool.true_eq_false, Bool.false_eq_true, decide_eq_true_eq, ite_true, ite_false, ↓reduceIte, List.length_cons, List.length_nil, true_and, and_true, exists_eq_left', exists_eq_left, List.cons.injEq]
  refine ⟨p, dx, _, rfl, hp, lk2 rfl rfl, ?_⟩
  refine mC_own (c_letter_1 K _) ?_ fun P P' hh q => mono_var hh q
  try simp only [tSeq, tIfS, tNext, tRet, tRetN, tDrop, tAsg, tC, cVar, tOp, tCB, tCons, tNil, tTup, tLst, tIf, tAnd, tOr, tNot, cTest, cTru, oTru, cAnd, cOr, cNot, cUn, cChain, gName, cTupG, gCons, gNil, gSub, oLt, oLe, oGt, oGe, oIs, oIsNot, oSub, oMul, oFdiv, oMod, oPow, cPar, cPar3, cAug, tDNewK, cCall, cAttr, frzE, List.mem_singleton, List.lookup_cons_self, List.getElem?_cons_zero, List.getElem?_cons_succ, List.set_cons_zero, List.set_cons_succ, Option.some.injEq, reduceCtorEq, if_true, if_false, Bool.true_eq_false, Bool.false_eq_true, decide_eq_true_eq, ite_true, ite_false, ↓reduceIte, List.length_cons, List.length_nil, true_and, and_true, exists_eq_left', exists_eq_left, List.cons.injEq]
  exact ⟨p, dx, _, rfl, hp, lk2 rfl rfl, s_letter_off R o h⟩
end
end WR.L

set_option Elab.async false
set_option linter.all false
set_option maxRecDepth 100000
set_option maxHeartbeats 4000000
namespace WR.L
open PySem PySem.Spec PyProof.Rows L2
section
variable {K : PySem.W.Frag} {n : Nat} {H : Hp} {Q : VK} {E : XK}
theorem s_pick {b l : Addr} {N : Nat} {xs : List V} {k : Int} (hx : Bx H b N) (hN : N < 100000) (hk : k = xs.length) (h1 : 1 ≤ k) (h2 : k < 100) (hl : H l = none) (h : ∀ x ∈ xs, ∀ H', Bx H' b (N + 1) → Fr [b] H H' → Q x H') :
    SP K (n+1) "_law_take" [.ref b, .int k] (upd H l (.lst xs)) (fun r H2 => oIx K (.ref l) r H2 Q) E := by
  obtain ⟨a, o, c, e, h3⟩ := id hx
  have nbl : l ≠ b := (ne_of_none e hl).symm
  refine s_take (Bx.ex (Ex.refl.new hl) hx) hN h1 (by omega) fun r H1 r0 r1 b1 f1 => ?_
  have el : H1 l = some (.lst xs) := f1 _ _ (by simpa using nbl) upd_same
  obtain ⟨j, rfl⟩ : ∃ j : Nat, r = j := ⟨r.toNat, by omega⟩
  have hj : j < xs.length := by omega
  rw [ix_lst (look_of_lst el) (v := xs[j]) (by rw [atI_nat]; simp [hj])]
  exact h _ (List.getElem_mem hj) _ b1 fun a o n ea => f1 a o n ((Ex.refl.new hl) a o ea)
theorem mul60 : PySem.MulOk "x" 60 := by
  unfold PySem.MulOk
  decide +kernel
theorem s_law_letter {b : Addr} {N : Nat} (hx : Bx H b N) (hN : N < 90000) (h : ∀ v H', Lt H' v → Bx H' b (N + 6) → Fr [b] H H' → Q v H') : SP K (n+2) "_law_letter" [.ref b] H Q E := by
  refine o__law_letter ?_
  unfold r__law_letter
  refine seq_ fun N1 g1 => ?_
  try simp only [tSeq, tIfS, tNext, tRet, tRetN, tDrop, tAsg, tC, cVar, tOp, tCB, tCons, tNil, tTup, tLst, tIf, tAnd, tOr, tNot, cTest, cTru, oTru, cAnd, cOr, cNot, cUn, cChain, gName, cTupG, gCons, gNil, gSub, oLt, oLe, oGt, oGe, oIs, oIsNot, oSub, oMul, oFdiv, oMod, oPow, cPar, cPar3, cAug, tDNewK, cCall, cAttr, frzE, List.mem_singleton, List.lookup_cons_self, List.getElem?_cons_zero, List.getElem?_cons_succ, List.set_cons_zero, List.set_cons_succ, Option.some.injEq, reduceCtorEq, if_true, if_false, Bool.true_eq_false, Bool.false_eq_true, decide_eq_true_eq, ite_true, ite_false, ↓reduceIte, List.length_cons, List.length_nil, true_and, and_true, exists_eq_left', exists_eq_left, List.cons.injEq]
  refine ⟨by simp only [sizeLine_eq]; omega, fun l1 hl1 => s_pick hx (by omega) rfl (by decide) (by decide) hl1 fun x1 hx1 H1 B1 F1 => ?_⟩
  refine ⟨by simp only [sizeLine_eq]; omega, fun l2 hl2 => s_pick B1 (by omega) rfl (by decide) (by decide) hl2 fun x2 hx2 H2 B2 F2 => ?_⟩
  obtain ⟨w, rfl, hw⟩ : ∃ w, x1 = .str w ∧ w ∈ (["a", "bb", "ccc"] : List Str) := by
    simp only [List.mem_cons, List.not_mem_nil, or_false] at hx1
    rcases hx1 with rfl | rfl | rfl <;> exact ⟨_, rfl, by simp⟩
  obtain ⟨g, rfl, hg⟩ : ∃ g, x2 = .str g ∧ g ∈ (["a", "z"] : List Str) := by
    simp only [List.mem_cons, List.not_mem_nil, or_false] at hx2
    rcases hx2 with rfl | rfl <;> exact ⟨_, rfl, by simp⟩
  refine g1 _ _ (seq_ fun N2 g2 => ?_)
  try simp only [tSeq, tIfS, tNext, tRet, tRetN, tDrop, tAsg, tC, cVar, tOp, tCB, tCons, tNil, tTup, tLst, tIf, tAnd, tOr, tNot, cTest, cTru, oTru, cAnd, cOr, cNot, cUn, cChain, gName, cTupG, gCons, gNil, gSub, oLt, oLe, oGt, oGe, oIs, oIsNot, oSub, oMul, oFdiv, oMod, oPow, cPar, cPar3, cAug, tDNewK, cCall, cAttr, frzE, List.mem_singleton, List.lookup_cons_self, List.getElem?_cons_zero, List.getElem?_cons_succ, List.set_cons_zero, List.set_cons_succ, Option.some.injEq, reduceCtorEq, if_true, if_false, Bool.true_eq_false, Bool.false_eq_true, decide_eq_true_eq, ite_true, ite_false, ↓reduceIte, List.length_cons, List.length_nil, true_and, and_true, exists_eq_left', exists_eq_left, List.cons.injEq]
  refine s_take B2 (by omega) (by decide) (by decide) fun i H3 i0 i1 B3 F3 => ?_
  simp only [oAdd, tSeq, tIfS, tNext, tRet, tRetN, tDrop, tAsg, tC, cVar, tOp, tCB, tCons, tNil, tTup, tLst, tIf, tAnd, tOr, tNot, cTest, cTru, oTru, cAnd, cOr, cNot, cUn, cChain, gName, cTupG, gCons, gNil, gSub, oLt, oLe, oGt, oGe, oIs, oIsNot, oSub, oMul, oFdiv, oMod, oPow, cPar, cPar3, cAug, tDNewK, cCall, cAttr, frzE, List.mem_singleton, List.lookup_cons_self, List.getElem?_cons_zero, List.getElem?_cons_succ, List.set_cons_zero, List.set_cons_succ, Option.some.injEq, reduceCtorEq, if_true, if_false, Bool.true_eq_false, Bool.false_eq_true, decide_eq_true_eq, ite_true, ite_false, ↓reduceIte, List.length_cons, List.length_nil, true_and, and_true, exists_eq_left', exists_eq_left, List.cons.injEq]
  refine s_take B3 (by omega) (by decide) (by decide) fun j H4 j0 j1 B4 F4 => ?_
  simp only [oAdd, tSeq, tIfS, tNext, tRet, tRetN, tDrop, tAsg, tC, cVar, tOp, tCB, tCons, tNil, tTup, tLst, tIf, tAnd, tOr, tNot, cTest, cTru, oTru, cAnd, cOr, cNot, cUn, cChain, gName, cTupG, gCons, gNil, gSub, oLt, oLe, oGt, oGe, oIs, oIsNot, oSub, oMul, oFdiv, oMod, oPow, cPar, cPar3, cAug, tDNewK, cCall, cAttr, frzE, List.mem_singleton, List.lookup_cons_self, List.getElem?_cons_zero, List.getElem?_cons_succ, List.set_cons_zero, List.set_cons_succ, Option.some.injEq, reduceCtorEq, if_true, if_false, Bool.true_eq_false, Bool.false_eq_true, decide_eq_true_eq, ite_true, ite_false, ↓reduceIte, List.length_cons, List.length_nil, true_and, and_true, exists_eq_left', exists_eq_left, List.cons.injEq]
  refine ⟨mul60, by simp only [sizeLine_eq]; omega, fun l5 hl5 => s_pick B4 (by omega) rfl (by decide) (by decide) hl5 fun x5 hx5 H5 B5 F5 => ?_⟩
  obtain ⟨u, rfl, hu⟩ : ∃ u, x5 = .str u ∧ u ∈ (["", "tea", Txt.mul "x" 60] : List Str) := by
    simp only [List.mem_cons, List.not_mem_nil, or_false] at hx5
    rcases hx5 with rfl | rfl | rfl <;> exact ⟨_, rfl, by simp⟩
  refine ⟨by simp only [sizeLine_eq]; omega, fun a ha => g2 _ _ ?_⟩
  have B6 := Bx.ex (Ex.refl.new (o := .tup [.str w, .int (1 + i), .int (1 + j), .str u]) ha) B5
  try simp only [tSeq, tIfS, tNext, tRet, tRetN, tDrop, tAsg, tC, cVar, tOp, tCB, tCons, tNil, tTup, tLst, tIf, tAnd, tOr, tNot, cTest, cTru, oTru, cAnd, cOr, cNot, cUn, cChain, gName, cTupG, gCons, gNil, gSub, oLt, oLe, oGt, oGe, oIs, oIsNot, oSub, oMul, oFdiv, oMod, oPow, cPar, cPar3, cAug, tDNewK, cCall, cAttr, frzE, List.mem_singleton, List.lookup_cons_self, List.getElem?_cons_zero, List.getElem?_cons_succ, List.set_cons_zero, List.set_cons_succ, Option.some.injEq, reduceCtorEq, if_true, if_false, Bool.true_eq_false, Bool.false_eq_true, decide_eq_true_eq, ite_true, ite_false, ↓reduceIte, List.length_cons, List.length_nil, true_and, and_true, exists_eq_left', exists_eq_left, List.cons.injEq]
  refine s_take B6 (by omega) (by decide) (by decide) fun k H7 k0 k1 B7 F7 => ?_
  have nba : a ≠ b := by obtain ⟨_, _, _, e, _⟩ := B5; exact (ne_of_none e ha).symm
  have ea : H7 a = some (.tup [.str w, .int (1 + i), .int (1 + j), .str u]) := F7 _ _ (by simpa using nba) upd_same
  refine ⟨by simp only [sizeLine_eq]; omega, fun c hc => ⟨by simp only [sizeLine_eq]; omega, fun t ht => ?_⟩⟩
  have ex8 : Ex H7 (upd H7 c (.tup [.str g, .int k])) := Ex.refl.new hc
  have ec : (upd H7 c (.tup [.str g, .int k])) c = some (.tup [.str g, .int k]) := upd_same
  have ea8 := ex8 _ _ ea
  have B8 := B7.ex ex8
  generalize upd H7 c (.tup [.str g, .int k]) = H8 at ex8 ec ea8 B8 ht ⊢
  have ex9 : Ex H8 (upd H8 t (.tup [.str w, .str g, .ref a, .ref c])) := Ex.refl.new ht
  refine h _ _ ⟨t, a, c, w, g, u, _, _, _, rfl, upd_same, ex9 _ _ ea8, ex9 _ _ ec, hw, hg, hu, ⟨by omega, by omega⟩, ⟨by omega, by omega⟩, ⟨k0, by omega⟩⟩ ((B8.ex ex9).mono (by omega)) ?_
  have F5' : Fr [b] H H5 := (((F1.trans F2).trans F3).trans F4).trans F5
  exact ((F5'.trans ((Fr.ex (Ex.refl.new ha)).trans F7)).trans (Fr.ex ex8)).trans (Fr.ex ex9)
end
end WR.L

set_option Elab.async false
set_option linter.all false
set_option maxRecDepth 100000
set_option maxHeartbeats 4000000
namespace WR.L
open PySem PySem.Spec PyProof.Rows L2
theorem eqvAll_ints : ∀ xs ys : List Int, PyData.eqvAll (xs.map .int) (ys.map .int) = decide (xs = ys)
  | [], [] => rfl
  | [], _ :: _ => by simp [PyData.eqvAll]
  | _ :: _, [] => by simp [PyData.eqvAll]
  | x :: xs, y :: ys => by
    simp only [List.map_cons, PyData.eqvAll, PyData.eqv, eqvAll_ints xs ys]
    by_cases a : x = y <;> by_cases b : xs = ys <;> simp [a, b]
theorem can_ints : ∀ xs : List Int, PyData.canLayAll0 (xs.map .int) = true
  | [] => rfl
  | x :: xs => by simp only [List.map_cons, PyData.canLayAll0, PyData.canLay0, can_ints xs]; rfl
theorem depth_ints : ∀ xs : List Int, PyData.depthAll (xs.map .int) = 0
  | [] => rfl
  | x :: xs => by simp [List.map_cons, PyData.depthAll, PyData.depth, depth_ints xs]
theorem shaped_ints (xs : List Int) : SeqAt.shaped (.list (xs.map .int)) = true := by
  simp [SeqAt.shaped, PyData.canLay0, PyData.depth, can_ints, depth_ints]
section
variable {K : PySem.W.Frag} {n : Nat} {H : Hp} {Q : VK} {E : XK}
theorem dp_ints : ∀ xs : List Int, DpAll K H (xs.map V.int) (xs.map PyData.int)
  | [] => .nil
  | x :: xs => .cons (.int x) (dp_ints xs)
theorem eq_ints {g : G} {a b : Addr} {xs ys : List Int} (hg : g.K = K) (ha : look K H a = some (.lst (xs.map V.int))) (hb : look K H b = some (.lst (ys.map V.int))) (q : Q (.bl (decide (xs = ys))) H) : oEqG g (.ref a) (.ref b) H Q := by
  subst hg
  unfold oEqG
  rw [ins_lst ha]
  exact .inl (.inr ⟨_, _, .lst (look_lst ha) (dp_ints xs), .lst (look_lst hb) (dp_ints ys), shaped_ints _, shaped_ints _, by rw [PyData.eqv, eqvAll_ints]; exact q⟩)
theorem ne_ints {g : G} {a b : Addr} {xs ys : List Int} (hg : g.K = K) (ha : look K H a = some (.lst (xs.map V.int))) (hb : look K H b = some (.lst (ys.map V.int))) (q : Q (.bl (!decide (xs = ys))) H) : oNeG g (.ref a) (.ref b) H Q := by
  subst hg
  unfold oNeG
  rw [ins_lst ha]
  exact .inl (.inr ⟨_, _, .lst (look_lst ha) (dp_ints xs), .lst (look_lst hb) (dp_ints ys), shaped_ints _, shaped_ints _, by rw [PyData.eqv, eqvAll_ints]; exact q⟩)
/-- the kinds of thing that are asked -/
def Th (H0 H : Hp) (v : V) : Prop := (∃ i : Int, v = .int i ∧ ((-1 ≤ i ∧ i < 300) ∨ i = 10 ^ 29)) ∨ v = .bl true ∨ v = .non ∨ v = .str "1" ∨ (∃ a, v = .ref a ∧ H0 a = none ∧ H a = some (.lst [.int 1])) ∨ (∃ a, v = .ref a ∧ H0 a = none ∧ H a = some (.tup [.int 1])) ∨
  ∃ a, v = .ref a ∧ H0 a = none ∧ H a = some (.dK [])
theorem s_law_number {b t : Addr} {N m : Nat} {rs : Rw} (hx : Bx H b N) (hN : N < 90000) (ht : H t = some (.dK (dk rs))) (g : Gd H rs m) (hm : m < 250) (h : ∀ v H', Th H H' v → Bx H' b (N + 2) → Fr [b] H H' → Q v H') : SP K (n+2) "_law_number" [.ref b, .ref t, .int m] H Q E := by
  refine o__law_number ?_
  unfold r__law_number
  refine seq_ fun N1 g1 => ?_
  simp only [oAdd, tSeq, tIfS, tNext, tRet, tRetN, tDrop, tAsg, tC, cVar, tOp, tCB, tCons, tNil, tTup, tLst, tIf, tAnd, tOr, tNot, cTest, cTru, oTru, cAnd, cOr, cNot, cUn, cChain, gName, cTupG, gCons, gNil, gSub, oLt, oLe, oGt, oGe, oIs, oIsNot, oSub, oMul, oFdiv, oMod, oPow, cPar, cPar3, cAug, tDNewK, cCall, cAttr, frzE, List.mem_singleton, List.lookup_cons_self, List.getElem?_cons_zero, List.getElem?_cons_succ, List.set_cons_zero, List.set_cons_succ, Option.some.injEq, reduceCtorEq, if_true, if_false, Bool.true_eq_false, Bool.false_eq_true, decide_eq_true_eq, ite_true, ite_false, ↓reduceIte, List.length_cons, List.length_nil, true_and, and_true, exists_eq_left', exists_eq_left, List.cons.injEq]
  refine ⟨by simp only [sizeLine_eq]; omega, fun l6 h6 => ⟨by simp only [sizeLine_eq]; omega, fun t7 h7 d8 h8 => ⟨⟨by omega, by omega, by omega⟩, by simp only [sizeLine_eq]; omega, fun o ho => g1 _ _ (seq_ fun N2 g2 => ?_)⟩⟩⟩
  have e6 : Ex H (upd H l6 (.lst [.int 1])) := Ex.refl.new h6
  have k6 : (upd H l6 (.lst [.int 1])) l6 = some (.lst [.int 1]) := upd_same
  generalize upd H l6 (.lst [.int 1]) = H6 at e6 k6 h7 h8 ho ⊢
  have e7 : Ex H6 (upd H6 t7 (.tup [.int 1])) := Ex.refl.new h7
  have k7 : (upd H6 t7 (.tup [.int 1])) t7 = some (.tup [.int 1]) := upd_same
  generalize upd H6 t7 (.tup [.int 1]) = H7 at e7 k7 h8 ho ⊢
  have e8 : Ex H7 (upd H7 d8 (.dK [])) := Ex.refl.new h8
  have k8 : (upd H7 d8 (.dK [])) d8 = some (.dK []) := upd_same
  generalize upd H7 d8 (.dK []) = H8 at e8 k8 ho ⊢
  have e68 := e7.trans e8
  have e08 := e6.trans e68
  have n6 : H l6 = none := h6
  have n7 : H t7 = none := Ex.none e6 h7
  have n8 : H d8 = none := Ex.none (e6.trans e7) h8
  generalize hxs : [V.int 0, V.int (-1), V.int ((m : Int) + 1), V.bl true, V.non, V.str "1", V.ref l6, V.ref t7, V.ref d8, V.int (10 ^ (29 : Int).toNat), V.int m, V.int 1] = xs at ho ⊢
  have hall : ∀ x ∈ xs, ∀ H', Fr [b] H8 H' → Th H H' x := by
    intro x hx' H' fr
    have nb : ∀ {a : Addr} , H a = none → a ≠ b := fun {a} na => by obtain ⟨_, _, _, e, _⟩ := hx; exact (ne_of_none e na).symm
    rw [← hxs] at hx'
    simp only [List.mem_cons, List.not_mem_nil, or_false] at hx'
    rcases hx' with rfl | rfl | rfl | rfl | rfl | rfl | rfl | rfl | rfl | rfl | rfl | rfl
    · exact .inl ⟨_, rfl, .inl (by omega)⟩
    · exact .inl ⟨_, rfl, .inl (by omega)⟩
    · exact .inl ⟨_, rfl, .inl (by omega)⟩
    · exact .inr (.inl rfl)
    · exact .inr (.inr (.inl rfl))
    · exact .inr (.inr (.inr (.inl rfl)))
    · exact .inr (.inr (.inr (.inr (.inl ⟨_, rfl, n6, fr _ _ (by simpa using nb n6) (e68 _ _ k6)⟩))))
    · exact .inr (.inr (.inr (.inr (.inr (.inl ⟨_, rfl, n7, fr _ _ (by simpa using nb n7) (e8 _ _ k7)⟩)))))
    · exact .inr (.inr (.inr (.inr (.inr (.inr ⟨_, rfl, n8, fr _ _ (by simpa using nb n8) k8⟩)))))
    · exact .inl ⟨_, rfl, .inr rfl⟩
    · exact .inl ⟨_, rfl, .inl (by omega)⟩
    · exact .inl ⟨_, rfl, .inl (by omega)⟩
  have hlen : xs.length = 12 := by rw [← hxs]; rfl
  have e9 : Ex H8 (upd H8 o (.lst xs)) := Ex.refl.new ho
  have k9 : (upd H8 o (.lst xs)) o = some (.lst xs) := upd_same
  generalize upd H8 o (.lst xs) = H9 at e9 k9 ⊢
  have e09 := e08.trans e9
  try simp only [tSeq, tIfS, tNext, tRet, tRetN, tDrop, tAsg, tC, cVar, tOp, tCB, tCons, tNil, tTup, tLst, tIf, tAnd, tOr, tNot, cTest, cTru, oTru, cAnd, cOr, cNot, cUn, cChain, gName, cTupG, gCons, gNil, gSub, oLt, oLe, oGt, oGe, oIs, oIsNot, oSub, oMul, oFdiv, oMod, oPow, cPar, cPar3, cAug, tDNewK, cCall, cAttr, frzE, List.mem_singleton, List.lookup_cons_self, List.getElem?_cons_zero, List.getElem?_cons_succ, List.set_cons_zero, List.set_cons_succ, Option.some.injEq, reduceCtorEq, if_true, if_false, Bool.true_eq_false, Bool.false_eq_true, decide_eq_true_eq, ite_true, ite_false, ↓reduceIte, List.length_cons, List.length_nil, true_and, and_true, exists_eq_left', exists_eq_left, List.cons.injEq]
  simp only [bList, look_of_dK (K := K) (e09 _ _ ht), dk_keys, tSeq, tIfS, tNext, tRet, tRetN, tDrop, tAsg, tC, cVar, tOp, tCB, tCons, tNil, tTup, tLst, tIf, tAnd, tOr, tNot, cTest, cTru, oTru, cAnd, cOr, cNot, cUn, cChain, gName, cTupG, gCons, gNil, gSub, oLt, oLe, oGt, oGe, oIs, oIsNot, oSub, oMul, oFdiv, oMod, oPow, cPar, cPar3, cAug, tDNewK, cCall, cAttr, frzE, List.mem_singleton, List.lookup_cons_self, List.getElem?_cons_zero, List.getElem?_cons_succ, List.set_cons_zero, List.set_cons_succ, Option.some.injEq, reduceCtorEq, if_true, if_false, Bool.true_eq_false, Bool.false_eq_true, decide_eq_true_eq, ite_true, ite_false, ↓reduceIte, List.length_cons, List.length_nil, true_and, and_true, exists_eq_left', exists_eq_left, List.cons.injEq]
  intro l hl
  have eA : Ex H9 (upd H9 l (.lst (rs.map fun r => V.int r.1))) := Ex.refl.new hl
  have kA : (upd H9 l (.lst (rs.map fun r => V.int r.1))) l = some (.lst ((rs.map (·.1)).map V.int)) := by rw [upd_same, List.map_map]; rfl
  generalize upd H9 l (.lst (rs.map fun r => V.int r.1)) = HA at eA kA ⊢
  have BA := hx.ex (e09.trans eA)
  refine g2 _ _ (seq_ fun N3 g3 => ifS_ fun A B hA hB => ?_)
  try simp only [tSeq, tIfS, tNext, tRet, tRetN, tDrop, tAsg, tC, cVar, tOp, tCB, tCons, tNil, tTup, tLst, tIf, tAnd, tOr, tNot, cTest, cTru, oTru, cAnd, cOr, cNot, cUn, cChain, gName, cTupG, gCons, gNil, gSub, oLt, oLe, oGt, oGe, oIs, oIsNot, oSub, oMul, oFdiv, oMod, oPow, cPar, cPar3, cAug, tDNewK, cCall, cAttr, frzE, List.mem_singleton, List.lookup_cons_self, List.getElem?_cons_zero, List.getElem?_cons_succ, List.set_cons_zero, List.set_cons_succ, Option.some.injEq, reduceCtorEq, if_true, if_false, Bool.true_eq_false, Bool.false_eq_true, decide_eq_true_eq, ite_true, ite_false, ↓reduceIte, List.length_cons, List.length_nil, true_and, and_true, exists_eq_left', exists_eq_left, List.cons.injEq]
  refine ⟨by simp only [sizeLine_eq]; omega, fun z hz => ?_⟩
  have eB : Ex HA (upd HA z (.lst [])) := Ex.refl.new hz
  have kB : (upd HA z (.lst [])) z = some (.lst (([] : List Int).map V.int)) := upd_same
  generalize upd HA z (.lst []) = HB at eB kB ⊢
  refine ne_ints rfl (look_of_lst (eB _ _ kA)) (look_of_lst kB) ?_
  have BB := BA.ex eB
  have kB2 := eB _ _ kA
  have eAll := (e09.trans eA).trans eB
  have fromOdd : ∀ (HC : Hp) (M : Nat), Fr [b] HB HC → Bx HC b M → M ≤ N + 1 → B HC := by
    intro HC M fr BC hM
    refine hB _ (g3 _ _ ?_)
    try simp only [tSeq, tIfS, tNext, tRet, tRetN, tDrop, tAsg, tC, cVar, tOp, tCB, tCons, tNil, tTup, tLst, tIf, tAnd, tOr, tNot, cTest, cTru, oTru, cAnd, cOr, cNot, cUn, cChain, gName, cTupG, gCons, gNil, gSub, oLt, oLe, oGt, oGe, oIs, oIsNot, oSub, oMul, oFdiv, oMod, oPow, cPar, cPar3, cAug, tDNewK, cCall, cAttr, frzE, List.mem_singleton, List.lookup_cons_self, List.getElem?_cons_zero, List.getElem?_cons_succ, List.set_cons_zero, List.set_cons_succ, Option.some.injEq, reduceCtorEq, if_true, if_false, Bool.true_eq_false, Bool.false_eq_true, decide_eq_true_eq, ite_true, ite_false, ↓reduceIte, List.length_cons, List.length_nil, true_and, and_true, exists_eq_left', exists_eq_left, List.cons.injEq]
    have nbo : o ≠ b := by obtain ⟨_, _, _, e, _⟩ := hx; exact (ne_of_none (e08 _ _ e) ho).symm
    have ko : HC o = some (.lst xs) := fr _ _ (by simpa using nbo) (eB _ _ (eA _ _ k9))
    refine s_take BC (by omega) (by decide) (by decide) fun r HD r0 r1 BD FD => ?_
    obtain ⟨j, rfl⟩ : ∃ j : Nat, r = j := ⟨r.toNat, by omega⟩
    have hj : j < xs.length := by omega
    rw [ix_lst (look_of_lst (FD _ _ (by simpa using nbo) ko)) (v := xs[j]) (by rw [atI_nat]; simp [hj])]
    refine h _ _ (hall _ (List.getElem_mem hj) _ ?_) (BD.mono (by omega)) ?_
    · exact (((Fr.ex (e9.trans (eA.trans eB))).trans fr).trans FD)
    · exact (((Fr.ex eAll).trans fr).trans FD)
  by_cases hrs : rs = []
  · subst hrs
    simp only [List.map_nil, decide_true, Bool.not_true, tSeq, tIfS, tNext, tRet, tRetN, tDrop, tAsg, tC, cVar, tOp, tCB, tCons, tNil, tTup, tLst, tIf, tAnd, tOr, tNot, cTest, cTru, oTru, cAnd, cOr, cNot, cUn, cChain, gName, cTupG, gCons, gNil, gSub, oLt, oLe, oGt, oGe, oIs, oIsNot, oSub, oMul, oFdiv, oMod, oPow, cPar, cPar3, cAug, tDNewK, cCall, cAttr, frzE, List.mem_singleton, List.lookup_cons_self, List.getElem?_cons_zero, List.getElem?_cons_succ, List.set_cons_zero, List.set_cons_succ, Option.some.injEq, reduceCtorEq, if_true, if_false, Bool.true_eq_false, Bool.false_eq_true, decide_eq_true_eq, ite_true, ite_false, ↓reduceIte, List.length_cons, List.length_nil, true_and, and_true, exists_eq_left', exists_eq_left, List.cons.injEq]
    exact fromOdd _ _ Fr.refl BB (by omega)
  · have : decide (rs.map (·.1) = []) = false := by simpa using hrs
    rw [this]
    simp only [Bool.not_false, tSeq, tIfS, tNext, tRet, tRetN, tDrop, tAsg, tC, cVar, tOp, tCB, tCons, tNil, tTup, tLst, tIf, tAnd, tOr, tNot, cTest, cTru, oTru, cAnd, cOr, cNot, cUn, cChain, gName, cTupG, gCons, gNil, gSub, oLt, oLe, oGt, oGe, oIs, oIsNot, oSub, oMul, oFdiv, oMod, oPow, cPar, cPar3, cAug, tDNewK, cCall, cAttr, frzE, List.mem_singleton, List.lookup_cons_self, List.getElem?_cons_zero, List.getElem?_cons_succ, List.set_cons_zero, List.set_cons_succ, Option.some.injEq, reduceCtorEq, if_true, if_false, Bool.true_eq_false, Bool.false_eq_true, decide_eq_true_eq, ite_true, ite_false, ↓reduceIte, List.length_cons, List.length_nil, true_and, and_true, exists_eq_left', exists_eq_left, List.cons.injEq]
    refine s_take BB (by omega) (by decide) (by decide) fun r HC r0 r1 BC FC => ?_
    simp only [tSeq, tIfS, tNext, tRet, tRetN, tDrop, tAsg, tC, cVar, tOp, tCB, tCons, tNil, tTup, tLst, tIf, tAnd, tOr, tNot, cTest, cTru, oTru, cAnd, cOr, cNot, cUn, cChain, gName, cTupG, gCons, gNil, gSub, oLt, oLe, oGt, oGe, oIs, oIsNot, oSub, oMul, oFdiv, oMod, oPow, cPar, cPar3, cAug, tDNewK, cCall, cAttr, frzE, List.mem_singleton, List.lookup_cons_self, List.getElem?_cons_zero, List.getElem?_cons_succ, List.set_cons_zero, List.set_cons_succ, Option.some.injEq, reduceCtorEq, if_true, if_false, Bool.true_eq_false, Bool.false_eq_true, decide_eq_true_eq, ite_true, ite_false, ↓reduceIte, List.length_cons, List.length_nil, true_and, and_true, exists_eq_left', exists_eq_left, List.cons.injEq]
    by_cases r2 : 0 < r
    · rw [if_pos r2]
      refine hA _ ?_
      try simp only [tSeq, tIfS, tNext, tRet, tRetN, tDrop, tAsg, tC, cVar, tOp, tCB, tCons, tNil, tTup, tLst, tIf, tAnd, tOr, tNot, cTest, cTru, oTru, cAnd, cOr, cNot, cUn, cChain, gName, cTupG, gCons, gNil, gSub, oLt, oLe, oGt, oGe, oIs, oIsNot, oSub, oMul, oFdiv, oMod, oPow, cPar, cPar3, cAug, tDNewK, cCall, cAttr, frzE, List.mem_singleton, List.lookup_cons_self, List.getElem?_cons_zero, List.getElem?_cons_succ, List.set_cons_zero, List.set_cons_succ, Option.some.injEq, reduceCtorEq, if_true, if_false, Bool.true_eq_false, Bool.false_eq_true, decide_eq_true_eq, ite_true, ite_false, ↓reduceIte, List.length_cons, List.length_nil, true_and, and_true, exists_eq_left', exists_eq_left, List.cons.injEq]
      have nbl : l ≠ b := by obtain ⟨_, _, _, e, _⟩ := hx; exact (ne_of_none (e09 _ _ e) hl).symm
      have kC := FC _ _ (by simpa using nbl) kB2
      rw [len_lst rfl (look_of_lst kC)]
      have lpos : 0 < rs.length := List.length_pos_iff.mpr hrs
      have lm := g.1
      simp only [List.length_map]
      refine s_take BC (by omega) (by omega) (by omega) fun r' HD r0' r1' BD FD => ?_
      obtain ⟨j, rfl⟩ : ∃ j : Nat, r' = j := ⟨r'.toNat, by omega⟩
      have hj : j < rs.length := by omega
      have nbl' : l ∉ [b] := by simpa using nbl
      rw [ix_lst (look_of_lst (FD _ _ nbl' kC)) (v := .int rs[j].1) (by rw [atI_nat]; simp [hj])]
      have bb := g.2.1 _ (List.getElem_mem hj)
      exact h _ _ (.inl ⟨_, rfl, .inl (by omega)⟩) (BD.mono (by omega)) (((Fr.ex eAll).trans FC).trans FD)
    · rw [if_neg r2]
      exact fromOdd _ _ FC BC (by omega)
theorem s_law_is_there {t : Addr} {rs : Rw} {v : V} (ht : H t = some (.dK (dk rs))) (h : (∀ i u, v = .int i → rg rs i = some u → Q (.bl true) H) ∧ (Off K H rs v → Q (.bl false) H)) (hk : (∃ i, v = .int i) ∨ Off K H rs v) : SP K (n+1) "_law_is_there" [.ref t, v] H Q E := by
  refine o__law_is_there ?_
  unfold r__law_is_there
  simp only [tSeq, tIfS, tNext, tRet, tRetN, tDrop, tAsg, tC, cVar, tOp, tCB, tCons, tNil, tTup, tLst, tIf, tAnd, tOr, tNot, cTest, cTru, oTru, cAnd, cOr, cNot, cUn, cChain, gName, cTupG, gCons, gNil, gSub, oLt, oLe, oGt, oGe, oIs, oIsNot, oSub, oMul, oFdiv, oMod, oPow, cPar, cPar3, cAug, tDNewK, cCall, cAttr, frzE, List.mem_singleton, List.lookup_cons_self, List.getElem?_cons_zero, List.getElem?_cons_succ, List.set_cons_zero, List.set_cons_succ, Option.some.injEq, reduceCtorEq, if_true, if_false, Bool.true_eq_false, Bool.false_eq_true, decide_eq_true_eq, ite_true, ite_false, ↓reduceIte, List.length_cons, List.length_nil, true_and, and_true, exists_eq_left', exists_eq_left, List.cons.injEq]
  have go : ∀ i, v = .int i → bIsi K [v, V.ty "int"] H (fun x H1 => match oTru K x H1 with
      | some true => (fun Q => bIsi K [v, V.ty "bool"] H1 (fun x H1 => match oTru K x H1 with
        | some b => (fun Q' => match oTru K (.bl (!b)) H1 with
           | some true => oIn K false v (.ref t) H1 Q'
           | some false => Q' (.bl (!b)) H1
           | none => False) Q
        | none => False)) Q
      | some false => Q x H1
      | none => False) := by
    rintro i rfl
    rw [isi_ty (n := "int") rfl kb_int_int]
    simp only [oTru]
    rw [isi_ty (n := "int") rfl kb_int_bool]
    simp only [oTru, Bool.not_false]
    rw [in_dI ht]
    cases e : rg rs i with
    | none =>
      rw [show valV (dk rs) (.inl i) = none from e]
      exact h.2 (.inl ⟨i, rfl, e⟩)
    | some u =>
      rw [show valV (dk rs) (.inl i) = some u from e]
      exact h.1 i u rfl e
  rcases hk with ⟨i, hi⟩ | o
  · exact go i hi
  · rcases id o with ⟨i, hi, _⟩ | ⟨k, hk, hm⟩
    · exact go i hi
    · rcases hm with hm | ⟨hm, hb⟩
      · rw [isi_ty hk hm]
        simp only [oTru]
        exact h.2 o
      · rw [isi_ty hk hm]
        simp only [oTru]
        rw [isi_ty hk hb]
        simp only [oTru, Bool.not_true]
        exact h.2 o
end
end WR.L

set_option Elab.async false
set_option linter.all false
set_option maxRecDepth 100000
set_option maxHeartbeats 4000000
namespace WR.L
open PySem PySem.Spec PyProof.Rows L2
section
variable {K : PySem.W.Frag} {n : Nat} {H : Hp} {Q : VK} {E : XK}
theorem xcs_eq {S : Str → Sp} : (gg K S).xcs = [⟨"NotOnRoad", He.ga K "NotOnRoad", "found"⟩] := by kernel_rfl
/-- asked: three ways, each told or refused -/
theorem s_asked_off {p d : Addr} {rs : Rw} {m : Nat} {v : V} {way : Int} (R : RdAt K H p d rs m) (o : Off K H rs v) (h : ∀ x H', Ex H H' → H' x = some (.xd [("found", v)]) → E (.ref (He.ga K "NotOnRoad")) (some x) H') : SP K (n+4) "_law_asked" [.ref p, .int way, v] H Q E := by
  obtain ⟨⟨dx, hp⟩, hd⟩ := id R
  refine o__law_asked ?_
  unfold r__law_asked
  refine seq_ fun N1 g1 => ifS_ fun A B hA hB => ?_
  try simp only [tSeq, tIfS, tNext, tRet, tRetN, tDrop, tAsg, tC, cVar, tOp, tCB, tCons, tNil, tTup, tLst, tIf, tAnd, tOr, tNot, cTest, cTru, oTru, cAnd, cOr, cNot, cUn, cChain, gName, cTupG, gCons, gNil, gSub, oLt, oLe, oGt, oGe, oIs, oIsNot, oSub, oMul, oFdiv, oMod, oPow, cPar, cPar3, cAug, tDNewK, cCall, cAttr, frzE, List.mem_singleton, List.lookup_cons_self, List.getElem?_cons_zero, List.getElem?_cons_succ, List.set_cons_zero, List.set_cons_succ, Option.some.injEq, reduceCtorEq, if_true, if_false, Bool.true_eq_false, Bool.false_eq_true, decide_eq_true_eq, ite_true, ite_false, ↓reduceIte, List.length_cons, List.length_nil, true_and, and_true, exists_eq_left', exists_eq_left, List.cons.injEq]
  by_cases w4 : way < 4
  · rw [if_pos w4]
    refine hA _ ?_
    unfold tRet
    refine mC_own (c_take_off_1 K _) ?_ fun P P' hh q => mono_var hh q
    try simp only [tSeq, tIfS, tNext, tRet, tRetN, tDrop, tAsg, tC, cVar, tOp, tCB, tCons, tNil, tTup, tLst, tIf, tAnd, tOr, tNot, cTest, cTru, oTru, cAnd, cOr, cNot, cUn, cChain, gName, cTupG, gCons, gNil, gSub, oLt, oLe, oGt, oGe, oIs, oIsNot, oSub, oMul, oFdiv, oMod, oPow, cPar, cPar3, cAug, tDNewK, cCall, cAttr, frzE, List.mem_singleton, List.lookup_cons_self, List.getElem?_cons_zero, List.getElem?_cons_succ, List.set_cons_zero, List.set_cons_succ, Option.some.injEq, reduceCtorEq, if_true, if_false, Bool.true_eq_false, Bool.false_eq_true, decide_eq_true_eq, ite_true, ite_false, ↓reduceIte, List.length_cons, List.length_nil, true_and, and_true, exists_eq_left', exists_eq_left, List.cons.injEq]
    exact ⟨p, dx, _, rfl, hp, lk2 rfl rfl, s_take_off_off R o h⟩
  · rw [if_neg w4]
    refine hB _ (g1 _ _ ?_)
    simp only [tRet, tIf, cTest, tOp, cVar, tC, List.getElem?_cons_zero, List.getElem?_cons_succ]
    refine eq_scal rfl rfl rfl ?_
    dsimp only
    by_cases w : way = 4
    · subst w
      simp only [decide_true, if_true]
      refine mC_own (c_doubled_1 K _) ?_ fun P P' hh q => mono_var hh q
      try simp only [tSeq, tIfS, tNext, tRet, tRetN, tDrop, tAsg, tC, cVar, tOp, tCB, tCons, tNil, tTup, tLst, tIf, tAnd, tOr, tNot, cTest, cTru, oTru, cAnd, cOr, cNot, cUn, cChain, gName, cTupG, gCons, gNil, gSub, oLt, oLe, oGt, oGe, oIs, oIsNot, oSub, oMul, oFdiv, oMod, oPow, cPar, cPar3, cAug, tDNewK, cCall, cAttr, frzE, List.mem_singleton, List.lookup_cons_self, List.getElem?_cons_zero, List.getElem?_cons_succ, List.set_cons_zero, List.set_cons_succ, Option.some.injEq, reduceCtorEq, if_true, if_false, Bool.true_eq_false, Bool.false_eq_true, decide_eq_true_eq, ite_true, ite_false, ↓reduceIte, List.length_cons, List.length_nil, true_and, and_true, exists_eq_left', exists_eq_left, List.cons.injEq]
      exact ⟨p, dx, _, rfl, hp, lk2 rfl rfl, s_doubled_off R o h⟩
    · rw [show decide (V.int way = V.int 4) = false from by simpa using w]
      simp only [Bool.false_eq_true, if_false]
      refine mC_own (c_letter_1 K _) ?_ fun P P' hh q => mono_var hh q
      try simp only [tSeq, tIfS, tNext, tRet, tRetN, tDrop, tAsg, tC, cVar, tOp, tCB, tCons, tNil, tTup, tLst, tIf, tAnd, tOr, tNot, cTest, cTru, oTru, cAnd, cOr, cNot, cUn, cChain, gName, cTupG, gCons, gNil, gSub, oLt, oLe, oGt, oGe, oIs, oIsNot, oSub, oMul, oFdiv, oMod, oPow, cPar, cPar3, cAug, tDNewK, cCall, cAttr, frzE, List.mem_singleton, List.lookup_cons_self, List.getElem?_cons_zero, List.getElem?_cons_succ, List.set_cons_zero, List.set_cons_succ, Option.some.injEq, reduceCtorEq, if_true, if_false, Bool.true_eq_false, Bool.false_eq_true, decide_eq_true_eq, ite_true, ite_false, ↓reduceIte, List.length_cons, List.length_nil, true_and, and_true, exists_eq_left', exists_eq_left, List.cons.injEq]
      exact ⟨p, dx, _, rfl, hp, lk2 rfl rfl, s_letter_off R o h⟩
theorem s_asked_off1 {p d : Addr} {rs : Rw} {m : Nat} {i : Int} {v : V} {way : Int} (R : RdAt K H p d rs m) (g : Gd H rs m) (hi : rg rs i = some v) (hw : way < 4) (h : ∀ H', RdAt K H' p d (rs.filter fun r => decide (r.1 ≠ i)) m → Fr [d] H H' → Q v H') : SP K (n+4) "_law_asked" [.ref p, .int way, .int i] H Q E := by
  obtain ⟨⟨dx, hp⟩, hd⟩ := id R
  refine o__law_asked ?_
  unfold r__law_asked
  refine seq_ fun N1 g1 => ifS_ fun A B hA hB => ?_
  try simp only [tSeq, tIfS, tNext, tRet, tRetN, tDrop, tAsg, tC, cVar, tOp, tCB, tCons, tNil, tTup, tLst, tIf, tAnd, tOr, tNot, cTest, cTru, oTru, cAnd, cOr, cNot, cUn, cChain, gName, cTupG, gCons, gNil, gSub, oLt, oLe, oGt, oGe, oIs, oIsNot, oSub, oMul, oFdiv, oMod, oPow, cPar, cPar3, cAug, tDNewK, cCall, cAttr, frzE, List.mem_singleton, List.lookup_cons_self, List.getElem?_cons_zero, List.getElem?_cons_succ, List.set_cons_zero, List.set_cons_succ, Option.some.injEq, reduceCtorEq, if_true, if_false, Bool.true_eq_false, Bool.false_eq_true, decide_eq_true_eq, ite_true, ite_false, ↓reduceIte, List.length_cons, List.length_nil, true_and, and_true, exists_eq_left', exists_eq_left, List.cons.injEq]
  rw [if_pos hw]
  refine hA _ ?_
  unfold tRet
  refine mC_own (c_take_off_1 K _) ?_ fun P P' hh q => mono_var hh q
  try simp only [tSeq, tIfS, tNext, tRet, tRetN, tDrop, tAsg, tC, cVar, tOp, tCB, tCons, tNil, tTup, tLst, tIf, tAnd, tOr, tNot, cTest, cTru, oTru, cAnd, cOr, cNot, cUn, cChain, gName, cTupG, gCons, gNil, gSub, oLt, oLe, oGt, oGe, oIs, oIsNot, oSub, oMul, oFdiv, oMod, oPow, cPar, cPar3, cAug, tDNewK, cCall, cAttr, frzE, List.mem_singleton, List.lookup_cons_self, List.getElem?_cons_zero, List.getElem?_cons_succ, List.set_cons_zero, List.set_cons_succ, Option.some.injEq, reduceCtorEq, if_true, if_false, Bool.true_eq_false, Bool.false_eq_true, decide_eq_true_eq, ite_true, ite_false, ↓reduceIte, List.length_cons, List.length_nil, true_and, and_true, exists_eq_left', exists_eq_left, List.cons.injEq]
  exact ⟨p, dx, _, rfl, hp, lk2 rfl rfl, s_take_off R g hi h⟩
theorem s_asked_dbl {p d : Addr} {rs : Rw} {m : Nat} {i : Int} {v : V} (R : RdAt K H p d rs m) (g : Gd H rs m) (hm : m < 1000) (hi : rg rs i = some v) (h : ∀ H', RdAt K H' p d (rs ++ [((m : Int) + 1, v)]) (m + 1) → Fr [p, d] H H' → Q (.int ((m : Int) + 1)) H') : SP K (n+4) "_law_asked" [.ref p, .int 4, .int i] H Q E := by
  obtain ⟨⟨dx, hp⟩, hd⟩ := id R
  refine o__law_asked ?_
  unfold r__law_asked
  refine seq_ fun N1 g1 => ifS_ fun A B hA hB => ?_
  try simp only [tSeq, tIfS, tNext, tRet, tRetN, tDrop, tAsg, tC, cVar, tOp, tCB, tCons, tNil, tTup, tLst, tIf, tAnd, tOr, tNot, cTest, cTru, oTru, cAnd, cOr, cNot, cUn, cChain, gName, cTupG, gCons, gNil, gSub, oLt, oLe, oGt, oGe, oIs, oIsNot, oSub, oMul, oFdiv, oMod, oPow, cPar, cPar3, cAug, tDNewK, cCall, cAttr, frzE, List.mem_singleton, List.lookup_cons_self, List.getElem?_cons_zero, List.getElem?_cons_succ, List.set_cons_zero, List.set_cons_succ, Option.some.injEq, reduceCtorEq, if_true, if_false, Bool.true_eq_false, Bool.false_eq_true, decide_eq_true_eq, ite_true, ite_false, ↓reduceIte, List.length_cons, List.length_nil, true_and, and_true, exists_eq_left', exists_eq_left, List.cons.injEq]
  rw [if_neg (by decide)]
  refine hB _ (g1 _ _ ?_)
  simp only [tRet, tIf, cTest, tOp, cVar, tC, List.getElem?_cons_zero, List.getElem?_cons_succ]
  refine eq_scal rfl rfl rfl ?_
  simp only [decide_true, if_true]
  refine mC_own (c_doubled_1 K _) ?_ fun P P' hh q => mono_var hh q
  try simp only [tSeq, tIfS, tNext, tRet, tRetN, tDrop, tAsg, tC, cVar, tOp, tCB, tCons, tNil, tTup, tLst, tIf, tAnd, tOr, tNot, cTest, cTru, oTru, cAnd, cOr, cNot, cUn, cChain, gName, cTupG, gCons, gNil, gSub, oLt, oLe, oGt, oGe, oIs, oIsNot, oSub, oMul, oFdiv, oMod, oPow, cPar, cPar3, cAug, tDNewK, cCall, cAttr, frzE, List.mem_singleton, List.lookup_cons_self, List.getElem?_cons_zero, List.getElem?_cons_succ, List.set_cons_zero, List.set_cons_succ, Option.some.injEq, reduceCtorEq, if_true, if_false, Bool.true_eq_false, Bool.false_eq_true, decide_eq_true_eq, ite_true, ite_false, ↓reduceIte, List.length_cons, List.length_nil, true_and, and_true, exists_eq_left', exists_eq_left, List.cons.injEq]
  exact ⟨p, dx, _, rfl, hp, lk2 rfl rfl, s_doubled R g hm hi h⟩
theorem s_asked_told {p d : Addr} {rs : Rw} {m : Nat} {i : Int} {v : V} {way : Int} (R : RdAt K H p d rs m) (g : Gd H rs m) (hi : rg rs i = some v) (hw : 4 < way) (h : Q v H) : SP K (n+4) "_law_asked" [.ref p, .int way, .int i] H Q E := by
  obtain ⟨⟨dx, hp⟩, hd⟩ := id R
  refine o__law_asked ?_
  unfold r__law_asked
  refine seq_ fun N1 g1 => ifS_ fun A B hA hB => ?_
  try simp only [tSeq, tIfS, tNext, tRet, tRetN, tDrop, tAsg, tC, cVar, tOp, tCB, tCons, tNil, tTup, tLst, tIf, tAnd, tOr, tNot, cTest, cTru, oTru, cAnd, cOr, cNot, cUn, cChain, gName, cTupG, gCons, gNil, gSub, oLt, oLe, oGt, oGe, oIs, oIsNot, oSub, oMul, oFdiv, oMod, oPow, cPar, cPar3, cAug, tDNewK, cCall, cAttr, frzE, List.mem_singleton, List.lookup_cons_self, List.getElem?_cons_zero, List.getElem?_cons_succ, List.set_cons_zero, List.set_cons_succ, Option.some.injEq, reduceCtorEq, if_true, if_false, Bool.true_eq_false, Bool.false_eq_true, decide_eq_true_eq, ite_true, ite_false, ↓reduceIte, List.length_cons, List.length_nil, true_and, and_true, exists_eq_left', exists_eq_left, List.cons.injEq]
  rw [if_neg (by omega)]
  refine hB _ (g1 _ _ ?_)
  simp only [tRet, tIf, cTest, tOp, cVar, tC, List.getElem?_cons_zero, List.getElem?_cons_succ]
  refine eq_scal rfl rfl rfl ?_
  rw [show decide (V.int way = V.int 4) = false from by simp; omega]
  simp only [Bool.false_eq_true, if_false]
  refine mC_own (c_letter_1 K _) ?_ fun P P' hh q => mono_var hh q
  try simp only [tSeq, tIfS, tNext, tRet, tRetN, tDrop, tAsg, tC, cVar, tOp, tCB, tCons, tNil, tTup, tLst, tIf, tAnd, tOr, tNot, cTest, cTru, oTru, cAnd, cOr, cNot, cUn, cChain, gName, cTupG, gCons, gNil, gSub, oLt, oLe, oGt, oGe, oIs, oIsNot, oSub, oMul, oFdiv, oMod, oPow, cPar, cPar3, cAug, tDNewK, cCall, cAttr, frzE, List.mem_singleton, List.lookup_cons_self, List.getElem?_cons_zero, List.getElem?_cons_succ, List.set_cons_zero, List.set_cons_succ, Option.some.injEq, reduceCtorEq, if_true, if_false, Bool.true_eq_false, Bool.false_eq_true, decide_eq_true_eq, ite_true, ite_false, ↓reduceIte, List.length_cons, List.length_nil, true_and, and_true, exists_eq_left', exists_eq_left, List.cons.injEq]
  exact ⟨p, dx, _, rfl, hp, lk2 rfl rfl, s_letter R g hi h⟩
/-- caught -/
theorem s_caught_of {p : Addr} {v u : V} {way : Int} {R : Hp → Prop} (h1 : ∀ (Q' : VK) (E' : XK), (∀ H', R H' → Q' u H') → SP K n "_law_asked" [.ref p, .int way, v] H Q' E')
    (h : ∀ f H' H'', R H' → H' f = none → H'' = upd H' f (.tup [.str "told", u]) → Q (.ref f) H'') : SP K (n+1) "_law_caught" [.ref p, .int way, v] H Q E := by
  refine o__law_caught ?_
  unfold r__law_caught
  simp only [tTryW, tSeq, tIfS, tNext, tRet, tRetN, tDrop, tAsg, tC, cVar, tOp, tCB, tCons, tNil, tTup, tLst, tIf, tAnd, tOr, tNot, cTest, cTru, oTru, cAnd, cOr, cNot, cUn, cChain, gName, cTupG, gCons, gNil, gSub, oLt, oLe, oGt, oGe, oIs, oIsNot, oSub, oMul, oFdiv, oMod, oPow, cPar, cPar3, cAug, tDNewK, cCall, cAttr, frzE, List.mem_singleton, List.lookup_cons_self, List.getElem?_cons_zero, List.getElem?_cons_succ, List.set_cons_zero, List.set_cons_succ, Option.some.injEq, reduceCtorEq, if_true, if_false, Bool.true_eq_false, Bool.false_eq_true, decide_eq_true_eq, ite_true, ite_false, ↓reduceIte, List.length_cons, List.length_nil, true_and, and_true, exists_eq_left', exists_eq_left, List.cons.injEq]
  refine h1 _ _ fun H' r => ?_
  exact ⟨by simp only [sizeLine_eq]; omega, fun f hf => h f H' _ r hf rfl⟩
theorem s_caught_off (hx : y.ex K = true) {p d : Addr} {rs : Rw} {m : Nat} {v : V} {way : Int} (R : RdAt K H p d rs m) (o : Off K H rs v) (h : ∀ f H', Ex H H' → H f = none → H' f = some (.tup [.str "road", v]) → Q (.ref f) H') : SP K (n+5) "_law_caught" [.ref p, .int way, v] H Q E := by
  have hb : PySem.W.exmOne K (.ref (He.ga K "NotOnRoad")) (.ref (He.ga K "NotOnRoad")) = some true := of_decide_eq_true hx
  refine o__law_caught ?_
  unfold r__law_caught
  simp only [tTryW, tSeq, tIfS, tNext, tRet, tRetN, tDrop, tAsg, tC, cVar, tOp, tCB, tCons, tNil, tTup, tLst, tIf, tAnd, tOr, tNot, cTest, cTru, oTru, cAnd, cOr, cNot, cUn, cChain, gName, cTupG, gCons, gNil, gSub, oLt, oLe, oGt, oGe, oIs, oIsNot, oSub, oMul, oFdiv, oMod, oPow, cPar, cPar3, cAug, tDNewK, cCall, cAttr, frzE, List.mem_singleton, List.lookup_cons_self, List.getElem?_cons_zero, List.getElem?_cons_succ, List.set_cons_zero, List.set_cons_succ, Option.some.injEq, reduceCtorEq, if_true, if_false, Bool.true_eq_false, Bool.false_eq_true, decide_eq_true_eq, ite_true, ite_false, ↓reduceIte, List.length_cons, List.length_nil, true_and, and_true, exists_eq_left', exists_eq_left, List.cons.injEq]
  refine s_asked_off R o fun x H1 e1 k1 => ?_
  refine ⟨true, hb, fun _ a ha => ?_, fun z => nomatch z⟩
  simp only [slotN, endsN, cXf, xcs_eq, tSeq, tIfS, tNext, tRet, tRetN, tDrop, tAsg, tC, cVar, tOp, tCB, tCons, tNil, tTup, tLst, tIf, tAnd, tOr, tNot, cTest, cTru, oTru, cAnd, cOr, cNot, cUn, cChain, gName, cTupG, gCons, gNil, gSub, oLt, oLe, oGt, oGe, oIs, oIsNot, oSub, oMul, oFdiv, oMod, oPow, cPar, cPar3, cAug, tDNewK, cCall, cAttr, frzE, List.mem_singleton, List.lookup_cons_self, List.getElem?_cons_zero, List.getElem?_cons_succ, List.set_cons_zero, List.set_cons_succ, Option.some.injEq, reduceCtorEq, if_true, if_false, Bool.true_eq_false, Bool.false_eq_true, decide_eq_true_eq, ite_true, ite_false, ↓reduceIte, List.length_cons, List.length_nil, true_and, and_true, exists_eq_left', exists_eq_left, List.cons.injEq]
  refine ⟨x, [("found", v)], v, rfl, k1, rfl, by simp only [sizeLine_eq]; omega, fun f hf => ?_⟩
  exact h f _ (e1.trans (Ex.refl.new hf)) (Ex.none e1 hf) upd_same
end
end WR.L

set_option Elab.async false
set_option linter.all false
set_option maxRecDepth 100000
set_option maxHeartbeats 4000000
namespace WR.L
open PySem PySem.Spec PyProof.Rows L2
/-- small data: repr may be asked -/
def Sm (d : PyData) : Prop := d.showable = true ∧ d.depth ≤ 30 ∧ d.leavesShort 40 = true ∧ d.bulk ≤ 2000
theorem Sm.len {d : PyData} (h : Sm d) : d.shown.length ≤ 100000 := by
  have := PyData.shown_le_bulk 40 (by decide) d h.2.2.1
  have := h.2.2.2
  omega
def smS (s : Str) : Bool := (PyData.str s).leavesShort 40 && decide (s.cps.size ≤ 60)
theorem sm_pair {w : Str} {d : PyData} (hw : smS w = true) (h : Sm d) (hd : d.depth ≤ 20) (hb : d.bulk ≤ 1000) : Sm (.tuple [.str w, d]) := by
  obtain ⟨h1, h2, h3, h4⟩ := h
  unfold smS at hw
  simp only [Bool.and_eq_true, decide_eq_true_eq] at hw
  refine ⟨?_, ?_, ?_, ?_⟩
  · simp [PyData.showable, PyData.showableAll, h1]
  · simp only [PyData.depth, PyData.depthAll]; omega
  · simp only [PyData.leavesShort, PyData.leavesShortAll, Bool.and_true, Bool.and_eq_true]; exact ⟨by simpa [PyData.leavesShort] using hw.1, h3⟩
  · simp only [PyData.bulk, PyData.bulkAll]; omega
theorem sm_fin : ∀ c : Fin 301, (PyData.int ((c.val : Int) - 1)).leavesShort 40 = true ∧ (PyData.int ((c.val : Int) - 1)).showable = true := by decide +kernel
theorem sm_int {i : Int} (h : (-1 ≤ i ∧ i < 300) ∨ i = 10 ^ 29) : (PyData.int i).leavesShort 40 = true ∧ (PyData.int i).showable = true := by
  rcases h with ⟨a, b⟩ | rfl
  · have := sm_fin ⟨(i + 1).toNat, by omega⟩
    have e : (((⟨(i + 1).toNat, by omega⟩ : Fin 301).val : Nat) : Int) - 1 = i := by dsimp only; omega
    rw [e] at this; exact this
  · decide +kernel
theorem Sm.int {i : Int} (h : (-1 ≤ i ∧ i < 300) ∨ i = 10 ^ 29) : Sm (.int i) := ⟨(sm_int h).2, by simp [PyData.depth], (sm_int h).1, by simp [PyData.bulk]⟩
theorem sm_w : ∀ w ∈ (["a", "bb", "ccc"] : List Str), smS w = true := by decide +kernel
theorem sm_g : ∀ w ∈ (["a", "z"] : List Str), smS w = true := by decide +kernel
theorem sm_u : ∀ w ∈ (["", "tea", Txt.mul "x" 60] : List Str), smS w = true := by decide +kernel
section
variable {K : PySem.W.Frag} {n : Nat} {H H' : Hp} {Q : VK} {E : XK}
theorem Lt.dx {v : V} (h : Lt H v) : ∃ d, Dx K H v d ∧ Sm d ∧ d.depth ≤ 20 ∧ d.bulk ≤ 1000 := by
  obtain ⟨t, a, b, w, g, u, i, j, k, rfl, h1, h2, h3, hw, hg, hu, hi, hj, hk⟩ := h
  have w1 := sm_w _ hw
  have g1 := sm_g _ hg
  have u1 := sm_u _ hu
  unfold smS at w1 g1 u1
  simp only [Bool.and_eq_true, decide_eq_true_eq] at w1 g1 u1
  have i1 := sm_int (i := i) (.inl ⟨by omega, by omega⟩)
  have j1 := sm_int (i := j) (.inl ⟨by omega, by omega⟩)
  have k1 := sm_int (i := k) (.inl ⟨by omega, by omega⟩)
  refine ⟨.tuple [.str w, .str g, .tuple [.str w, .int i, .int j, .str u], .tuple [.str g, .int k]], ?_, ⟨?_, ?_, ?_, ?_⟩, ?_, ?_⟩
  · refine .tup (look_of_tup h1) (.cons (.str _) (.cons (.str _) (.cons (.tup (look_of_tup h2) ?_) (.cons (.tup (look_of_tup h3) ?_) .nil))))
    · exact .cons (.str _) (.cons (.int _) (.cons (.int _) (.cons (.str _) .nil)))
    · exact .cons (.str _) (.cons (.int _) .nil)
  · have e1 := i1.2; have e2 := j1.2; have e3 := k1.2
    simp only [PyData.showable] at e1 e2 e3 ⊢
    simp only [PyData.showableAll, PyData.showable, Bool.true_and, Bool.and_true, Bool.and_eq_true]
    exact ⟨⟨e1, e2⟩, e3⟩
  · simp [PyData.depth, PyData.depthAll]
  · simp only [PyData.leavesShort, PyData.leavesShortAll, Bool.and_true, Bool.and_eq_true]
    have e0 := w1.1; have e1 := i1.1; have e2 := j1.1; have e3 := k1.1; have e4 := g1.1; have e5 := u1.1
    simp only [PyData.leavesShort] at e0 e1 e2 e3 e4 e5
    exact ⟨e0, e4, ⟨e0, e1, e2, e5⟩, e4, e3⟩
  · simp only [PyData.bulk, PyData.bulkAll]; omega
  · simp [PyData.depth, PyData.depthAll]
  · simp only [PyData.bulk, PyData.bulkAll]; omega
/-- repr(found) == repr(due) -/
theorem fin_repr {S : Str → Sp} {f g : Addr} {w : Str} {v : V} {d : PyData} (hf : H f = some (.tup [.str w, v])) (hg : H g = some (.tup [.str w, v])) (hw : smS w = true) (hd : Dx K H v d) (s : Sm d) (s1 : d.depth ≤ 20) (s2 : d.bulk ≤ 1000) (q : Q (.bl true) H) :
    bRepr K [.ref f] H fun x H1 => bRepr K [.ref g] H1 fun y H2 => oEqG (gg K S) x y H2 Q := by
  have sp := sm_pair hw s s1 s2
  have ln := sp.len
  have ln2 : (PyData.tuple [.str w, d]).shown.length ≤ sizeLine := by simp only [sizeLine_eq]; omega
  refine ⟨_, .tuple [.str w, d], rfl, .tup (look_of_tup hf) (.cons (.str _) (.cons hd .nil)), sp.1, by have := sp.2.1; omega, ln2, ?_⟩
  refine ⟨_, .tuple [.str w, d], rfl, .tup (look_of_tup hg) (.cons (.str _) (.cons hd .nil)), sp.1, by have := sp.2.1; omega, ln2, ?_⟩
  refine eq_scal rfl rfl rfl ?_
  simpa using q
end
theorem tps_fr {l : List Addr} {H H' : Hp} (x : Fr l H H') (h : ∀ a ∈ l, ∃ o, H a = some o ∧ ∀ xs, o ≠ .tup xs) : Tps H H' := fun t xs e => x t _ (fun m => by
  obtain ⟨o, e2, n⟩ := h t m
  rw [e] at e2; cases e2; exact n _ rfl) e
/-- one side: the roads and the law's own state -/
structure Sd (K : PySem.W.Frag) (H : Hp) (p d s t : Addr) (rs : Rw) (m : Nat) : Prop where
  R : RdAt K H p d rs m
  S : H s = some (.dK [(.inr "last", .int m), (.inr "table", .ref t)])
  T : H t = some (.dK (dk rs))
  G : Gd H rs m
  dt : d ≠ t
  sd : s ≠ d
  st : s ≠ t
theorem RdAt.fr {K : PySem.W.Frag} {H H' : Hp} {p d : Addr} {rs : Rw} {m : Nat} {l : List Addr} (x : Fr l H H') (h1 : p ∉ l) (h2 : d ∉ l) (h : RdAt K H p d rs m) : RdAt K H' p d rs m := by
  obtain ⟨⟨dx, e⟩, e2⟩ := h
  exact ⟨⟨dx, x _ _ h1 e⟩, x _ _ h2 e2⟩
theorem Sd.fr {K : PySem.W.Frag} {H H' : Hp} {p d s t : Addr} {rs : Rw} {m : Nat} {l : List Addr} (x : Fr l H H') (h : Sd K H p d s t rs m) (h1 : p ∉ l) (h2 : d ∉ l) (h3 : s ∉ l) (h4 : t ∉ l) (tp : Tps H H') : Sd K H' p d s t rs m :=
  ⟨h.R.fr x h1 h2, x _ _ h3 h.S, x _ _ h4 h.T, h.G.tp tp, h.dt, h.sd, h.st⟩
theorem Sd.ex {K : PySem.W.Frag} {H H' : Hp} {p d s t : Addr} {rs : Rw} {m : Nat} (x : Ex H H') (h : Sd K H p d s t rs m) : Sd K H' p d s t rs m :=
  ⟨h.R.ex x, x _ _ h.S, x _ _ h.T, h.G.tp fun t xs e => x t _ e, h.dt, h.sd, h.st⟩
theorem Sd.nb {K : PySem.W.Frag} {H : Hp} {p d s t b : Addr} {rs : Rw} {m N : Nat} (h : Sd K H p d s t rs m) (hb : Bx H b N) : p ≠ b ∧ d ≠ b ∧ s ≠ b ∧ t ≠ b ∧ p ≠ d ∧ p ≠ s ∧ p ≠ t := by
  obtain ⟨⟨⟨dx, e1⟩, e2⟩, e3, e4, _⟩ := h
  obtain ⟨_, _, _, e5, _⟩ := hb
  refine ⟨?_, ?_, ?_, ?_, ?_, ?_, ?_⟩ <;> intro z <;> subst z <;> simp_all
theorem bx_nt {H : Hp} {b : Addr} {N : Nat} (hb : Bx H b N) : ∃ o, H b = some o ∧ ∀ xs, o ≠ .tup xs := by
  obtain ⟨_, _, _, e, _⟩ := hb
  exact ⟨_, e, fun _ z => nomatch z⟩
theorem st_put {t : Addr} {m : V} {k : V} : putK [((.inr "last" : Key), m), (.inr "table", .ref t)] (.inr "last") k = [(.inr "last", k), (.inr "table", .ref t)] := rfl
theorem st_last {t : Addr} {m : V} : valV [((.inr "last" : Key), m), (.inr "table", V.ref t)] (.inr "last") = some m := rfl
theorem st_table {t : Addr} {m : V} : valV [((.inr "last" : Key), m), (.inr "table", V.ref t)] (.inr "table") = some (.ref t) := rfl
end WR.L

set_option Elab.async false
set_option linter.all false
set_option maxRecDepth 100000
set_option maxHeartbeats 4000000
namespace WR.L
open PySem PySem.Spec PyProof.Rows L2
section
variable {K : PySem.W.Frag} {n : Nat} {H : Hp} {Q : VK} {E : XK}
/-- state["last"] += 1; state["table"][state["last"]] = u: what stands then -/
theorem st_step {p d s t b : Addr} {rs : Rw} {m N : Nat} {u : V} (D : Sd K H p d s t rs m) (B : Bx H b N) (hm : m < 200) (lu : Lt H u) {H1 H2 : Hp} (e1 : H1 = upd H s (.dK [(.inr "last", .int ((m : Int) + 1)), (.inr "table", .ref t)])) (e2 : H2 = upd H1 t (.dK (putK (dk rs) (.inl ((m : Int) + 1)) u))) :
    H1 s = some (.dK [(.inr "last", .int ((m : Int) + 1)), (.inr "table", .ref t)]) ∧ H1 t = some (.dK (dk rs)) ∧ H2 s = some (.dK [(.inr "last", .int ((m : Int) + 1)), (.inr "table", .ref t)]) ∧ H2 t = some (.dK (dk (rs ++ [((m : Int) + 1, u)]))) ∧ RdAt K H2 p d rs m ∧ Tps H H2 ∧ Fr [s, t] H H2 := by
  obtain ⟨n1, n2, n3, n4, n5, n6, n7⟩ := D.nb B
  have a1 : H1 s = some (.dK [(.inr "last", .int ((m : Int) + 1)), (.inr "table", .ref t)]) := by rw [e1, upd_same]
  have a2 : H1 t = some (.dK (dk rs)) := by rw [e1, upd_ne D.st.symm]; exact D.T
  have f : Fr [s, t] H H2 := by rw [e2, e1]; exact (Fr.refl.put (by simp)).put (by simp)
  refine ⟨a1, a2, ?_, ?_, D.R.fr f (by simp [n6, n7]) (by simp [D.sd.symm, D.dt]), ?_, f⟩
  · rw [e2, upd_ne D.st]; exact a1
  · rw [e2, upd_same, dk_put D.G.ne]
  · exact tps_fr f fun a ha => by
      rcases List.mem_cons.mp ha with rfl | ha
      · exact ⟨_, D.S, fun _ z => nomatch z⟩
      · rw [List.mem_singleton] at ha; subst ha; exact ⟨_, D.T, fun _ z => nomatch z⟩
theorem deed_put {p d s t b : Addr} {rs : Rw} {m N : Nat} {W : WX} {D0 : Ends} {w : Int} (D : Sd K H p d s t rs m) (B : Bx H b N) (hN : N < 80000) (hm : m < 200)
    (h : ∀ rs' m' H', Sd K H' p d s t rs' m' → m' ≤ m + 1 → Bx H' b (N + 6) → Fr [p, d, s, t, b] H H' → D0.rt (.bl true) H') :
    (tSeq (tAsg (cCall (SP K (n+2) "_law_letter") 1 0 (fun vs _ => vs) (tCons (cVar 0) tNil) tNil W) (gName 7))
  (tSeq (tAsg (tOp (oAdd K) (tOp (oIx K) (cVar 2) (tC (.str "last"))) (tC (.int 1))) (gSub (cVar 2) (tC (.str "last")) oSet))
  (tSeq (tAsg (cVar 7) (gSub (tOp (oIx K) (cVar 2) (tC (.str "table"))) (tOp (oIx K) (cVar 2) (tC (.str "last"))) oSet))
  (tRet (tOp (oEqG (gg K (SP K (n+2)))) (mC (gg K (SP K (n+2))) "put" 1 0 [] (cVar 1) (tCons (cVar 7) tNil) tNil W) (tOp (oIx K) (cVar 2) (tC (.str "last")))))))) D0 [some (.ref b), some (.ref p), some (.ref s), some (.int w), none, none, none, none] H := by
  refine seq_ fun N1 g1 => ?_
  try simp only [tSeq, tIfS, tNext, tRet, tRetN, tDrop, tAsg, tC, cVar, tOp, tCB, tCons, tNil, tTup, tLst, tIf, tAnd, tOr, tNot, cTest, cTru, oTru, cAnd, cOr, cNot, cUn, cChain, gName, cTupG, gCons, gNil, gSub, oLt, oLe, oGt, oGe, oIs, oIsNot, oSub, oMul, oFdiv, oMod, oPow, cPar, cPar3, cAug, tDNewK, cCall, cAttr, frzE, List.mem_singleton, List.lookup_cons_self, List.getElem?_cons_zero, List.getElem?_cons_succ, List.set_cons_zero, List.set_cons_succ, Option.some.injEq, reduceCtorEq, if_true, if_false, Bool.true_eq_false, Bool.false_eq_true, decide_eq_true_eq, ite_true, ite_false, ↓reduceIte, List.length_cons, List.length_nil, true_and, and_true, exists_eq_left', exists_eq_left, List.cons.injEq]
  refine s_law_letter B (by omega) fun u H1 lu B1 F1 => g1 _ _ (seq_ fun N2 g2 => ?_)
  obtain ⟨n1, n2, n3, n4, n5, n6, n7⟩ := D.nb B
  have D1 : Sd K H1 p d s t rs m := D.fr F1 (by simpa using n1) (by simpa using n2) (by simpa using n3) (by simpa using n4) (tps_fr F1 fun a ha => by rw [List.mem_singleton] at ha; subst ha; exact bx_nt B)
  try simp only [tSeq, tIfS, tNext, tRet, tRetN, tDrop, tAsg, tC, cVar, tOp, tCB, tCons, tNil, tTup, tLst, tIf, tAnd, tOr, tNot, cTest, cTru, oTru, cAnd, cOr, cNot, cUn, cChain, gName, cTupG, gCons, gNil, gSub, oLt, oLe, oGt, oGe, oIs, oIsNot, oSub, oMul, oFdiv, oMod, oPow, cPar, cPar3, cAug, tDNewK, cCall, cAttr, frzE, List.mem_singleton, List.lookup_cons_self, List.getElem?_cons_zero, List.getElem?_cons_succ, List.set_cons_zero, List.set_cons_succ, Option.some.injEq, reduceCtorEq, if_true, if_false, Bool.true_eq_false, Bool.false_eq_true, decide_eq_true_eq, ite_true, ite_false, ↓reduceIte, List.length_cons, List.length_nil, true_and, and_true, exists_eq_left', exists_eq_left, List.cons.injEq]
  rw [ix_dS D1.S st_last]
  simp only [oAdd, tSeq, tIfS, tNext, tRet, tRetN, tDrop, tAsg, tC, cVar, tOp, tCB, tCons, tNil, tTup, tLst, tIf, tAnd, tOr, tNot, cTest, cTru, oTru, cAnd, cOr, cNot, cUn, cChain, gName, cTupG, gCons, gNil, gSub, oLt, oLe, oGt, oGe, oIs, oIsNot, oSub, oMul, oFdiv, oMod, oPow, cPar, cPar3, cAug, tDNewK, cCall, cAttr, frzE, List.mem_singleton, List.lookup_cons_self, List.getElem?_cons_zero, List.getElem?_cons_succ, List.set_cons_zero, List.set_cons_succ, Option.some.injEq, reduceCtorEq, if_true, if_false, Bool.true_eq_false, Bool.false_eq_true, decide_eq_true_eq, ite_true, ite_false, ↓reduceIte, List.length_cons, List.length_nil, true_and, and_true, exists_eq_left', exists_eq_left, List.cons.injEq]
  refine set_dS D1.S (by simp) (g2 _ _ (seq_ fun N3 g3 => ?_))
  rw [st_put]
  obtain ⟨a1, a2, a3, a4, a5, a6, a7⟩ := st_step D1 B1 hm lu rfl rfl
  generalize hH2 : upd H1 s (.dK [(.inr "last", .int ((m : Int) + 1)), (.inr "table", .ref t)]) = H2 at a1 a2 a3 a4 a5 a6 a7 ⊢
  try simp only [tSeq, tIfS, tNext, tRet, tRetN, tDrop, tAsg, tC, cVar, tOp, tCB, tCons, tNil, tTup, tLst, tIf, tAnd, tOr, tNot, cTest, cTru, oTru, cAnd, cOr, cNot, cUn, cChain, gName, cTupG, gCons, gNil, gSub, oLt, oLe, oGt, oGe, oIs, oIsNot, oSub, oMul, oFdiv, oMod, oPow, cPar, cPar3, cAug, tDNewK, cCall, cAttr, frzE, List.mem_singleton, List.lookup_cons_self, List.getElem?_cons_zero, List.getElem?_cons_succ, List.set_cons_zero, List.set_cons_succ, Option.some.injEq, reduceCtorEq, if_true, if_false, Bool.true_eq_false, Bool.false_eq_true, decide_eq_true_eq, ite_true, ite_false, ↓reduceIte, List.length_cons, List.length_nil, true_and, and_true, exists_eq_left', exists_eq_left, List.cons.injEq]
  rw [ix_dS a1 st_table, ix_dS a1 st_last]
  refine set_dI a2 (by rw [dk_len]; have := D.G.1; omega) (g3 _ _ ?_)
  generalize upd H2 t (.dK (putK (dk rs) (.inl ((m : Int) + 1)) u)) = H3 at a3 a4 a5 a6 a7 ⊢
  simp only [tRet]
  obtain ⟨⟨dx, hp⟩, hd⟩ := id a5
  refine mC_own (c_put_1 K _) ?_ fun P P' hh q => mono_var hh q
  try simp only [tSeq, tIfS, tNext, tRet, tRetN, tDrop, tAsg, tC, cVar, tOp, tCB, tCons, tNil, tTup, tLst, tIf, tAnd, tOr, tNot, cTest, cTru, oTru, cAnd, cOr, cNot, cUn, cChain, gName, cTupG, gCons, gNil, gSub, oLt, oLe, oGt, oGe, oIs, oIsNot, oSub, oMul, oFdiv, oMod, oPow, cPar, cPar3, cAug, tDNewK, cCall, cAttr, frzE, List.mem_singleton, List.lookup_cons_self, List.getElem?_cons_zero, List.getElem?_cons_succ, List.set_cons_zero, List.set_cons_succ, Option.some.injEq, reduceCtorEq, if_true, if_false, Bool.true_eq_false, Bool.false_eq_true, decide_eq_true_eq, ite_true, ite_false, ↓reduceIte, List.length_cons, List.length_nil, true_and, and_true, exists_eq_left', exists_eq_left, List.cons.injEq]
  refine ⟨p, dx, _, rfl, hp, lk2 rfl rfl, ?_⟩
  refine s_put a5 (D1.G.tp a6) (by omega) fun H4 R4 F4 => ?_
  have f4s : H4 s = some (.dK [(.inr "last", .int ((m : Int) + 1)), (.inr "table", .ref t)]) := F4 _ _ (by simp [n6.symm, D.sd]) a3
  have f4t := F4 _ _ (by simp [n7.symm, D.dt.symm]) a4
  rw [ix_dS f4s st_last]
  refine eq_scal rfl rfl rfl ?_
  simp only [decide_true]
  have t4 : Tps H3 H4 := tps_fr F4 fun a ha => by
    rcases List.mem_cons.mp ha with rfl | ha
    · exact ⟨_, hp, fun _ z => nomatch z⟩
    · rw [List.mem_singleton] at ha; subst ha; exact ⟨_, hd, fun _ z => nomatch z⟩
  have t14 : Tps H1 H4 := fun x xs e => t4 x xs (a6 x xs e)
  have f14 : Fr [p, d, s, t, b] H1 H4 := (a7.mono (by simp)).trans (F4.mono (by simp))
  refine h _ (m + 1) H4 ⟨R4, ?_, f4t, (D1.G.tp t14).put (lu.tp t14), D.dt, D.sd, D.st⟩ (Nat.le_refl _) (B1.fr (l := [p, d, s, t]) ((a7.mono (by simp)).trans (F4.mono (by simp))) (by simp [n1.symm, n2.symm, n3.symm, n4.symm])) ((F1.mono (by simp)).trans f14)
  rw [f4s]; rfl
/-- due[0] == "told" -/
theorem due_is {S : Str → Sp} {g : Addr} {w : Str} {x : V} {σ : L2.St} (hs : σ[5]? = some (some (.ref g))) (hg : H g = some (.tup [.str w, x])) (q : Q (.bl (decide (w = "told"))) H) : tOp (oEqG (gg K S)) (tOp (oIx K) (cVar 5) (tC (.int 0))) (tC (.str "told")) σ H Q := by
  simp only [tOp, cVar, tC, hs]
  rw [ix_tup (look_of_tup hg) (v := .str w) rfl]
  refine eq_scal rfl rfl rfl ?_
  have : decide (V.str w = V.str "told") = decide (w = "told") := by simp
  rw [this]; exact q
theorem Th.is {H0 : Hp} {rs : Rw} {v : V} (h : Th H0 H v) : (∃ i u, v = .int i ∧ ((-1 ≤ i ∧ i < 300) ∨ i = 10 ^ 29) ∧ rg rs i = some u) ∨ Off K H rs v := by
  rcases h with ⟨i, rfl, b⟩ | rfl | rfl | rfl | ⟨a, rfl, _, e⟩ | ⟨a, rfl, _, e⟩ | ⟨a, rfl, _, e⟩
  · cases q : rg rs i with
    | none => exact .inr (.inl ⟨i, rfl, q⟩)
    | some u => exact .inl ⟨i, u, rfl, b, q⟩
  · exact .inr (.inr ⟨"bool", rfl, .inr ⟨kb_bool_int, kb_bool_bool⟩⟩)
  · exact .inr (.inr ⟨"NoneType", rfl, .inl kb_non_int⟩)
  · exact .inr (.inr ⟨"str", rfl, .inl kb_str_int⟩)
  · exact .inr (.inr ⟨"list", ty_lst (look_of_lst e), .inl kb_list_int⟩)
  · exact .inr (.inr ⟨"tuple", ty_tup (look_of_tup e), .inl kb_tuple_int⟩)
  · exact .inr (.inr ⟨"dict", ty_dK (look_of_dK e), .inl kb_dict_int⟩)
end
end WR.L

set_option Elab.async false
set_option linter.all false
set_option maxRecDepth 100000
set_option maxHeartbeats 4000000
namespace WR.L
open PySem PySem.Spec PyProof.Rows L2
def tailR (K : PySem.W.Frag) (S : Str → Sp) (W : WX) : TS :=
  tSeq (tIfS (cTru K (tCB (bIsi K) (tCons (cVar 4) (tCons (tC (.ty "list")) tNil)))) (tDrop (mC (gg K S) "append" 1 0 [] (cVar 4) (tCons (tC (.str "more")) tNil) tNil W)) tNext)
    (tRet (tOp (oEqG (gg K S)) (tCB (bRepr K) (tCons (cVar 6) tNil)) (tCB (bRepr K) (tCons (cVar 5) tNil))))
section
variable {K : PySem.W.Frag} {n : Nat} {H : Hp} {Q : VK} {E : XK}
/-- the thing was no list -/
theorem tail_int {S : Str → Sp} {W : WX} {D : Ends} {f g : Addr} {w : Str} {v x : V} {nm : String} {d : PyData} {v0 v1 v2 v3 v7 : Option V} (hv : tyN K H v = some nm) (hk : kitB nm "list" = some false) (hf : H f = some (.tup [.str w, x])) (hg : H g = some (.tup [.str w, x])) (hw : smS w = true) (hd : Dx K H x d) (s : Sm d) (s1 : d.depth ≤ 20) (s2 : d.bulk ≤ 1000)
    (h : D.rt (.bl true) H) : tailR K S W D [v0, v1, v2, v3, some v, some (.ref g), some (.ref f), v7] H := by
  unfold tailR
  refine seq_ fun N1 g1 => ifS_ fun A B hA hB => ?_
  try simp only [tSeq, tIfS, tNext, tRet, tRetN, tDrop, tAsg, tC, cVar, tOp, tCB, tCons, tNil, tTup, tLst, tIf, tAnd, tOr, tNot, cTest, cTru, oTru, cAnd, cOr, cNot, cUn, cChain, gName, cTupG, gCons, gNil, gSub, oLt, oLe, oGt, oGe, oIs, oIsNot, oSub, oMul, oFdiv, oMod, oPow, cPar, cPar3, cAug, tDNewK, cCall, cAttr, frzE, List.mem_singleton, List.lookup_cons_self, List.getElem?_cons_zero, List.getElem?_cons_succ, List.set_cons_zero, List.set_cons_succ, Option.some.injEq, reduceCtorEq, if_true, if_false, Bool.true_eq_false, Bool.false_eq_true, decide_eq_true_eq, ite_true, ite_false, ↓reduceIte, List.length_cons, List.length_nil, true_and, and_true, exists_eq_left', exists_eq_left, List.cons.injEq]
  rw [isi_ty hv hk]
  simp only [oTru, tSeq, tIfS, tNext, tRet, tRetN, tDrop, tAsg, tC, cVar, tOp, tCB, tCons, tNil, tTup, tLst, tIf, tAnd, tOr, tNot, cTest, cTru, oTru, cAnd, cOr, cNot, cUn, cChain, gName, cTupG, gCons, gNil, gSub, oLt, oLe, oGt, oGe, oIs, oIsNot, oSub, oMul, oFdiv, oMod, oPow, cPar, cPar3, cAug, tDNewK, cCall, cAttr, frzE, List.mem_singleton, List.lookup_cons_self, List.getElem?_cons_zero, List.getElem?_cons_succ, List.set_cons_zero, List.set_cons_succ, Option.some.injEq, reduceCtorEq, if_true, if_false, Bool.true_eq_false, Bool.false_eq_true, decide_eq_true_eq, ite_true, ite_false, ↓reduceIte, List.length_cons, List.length_nil, true_and, and_true, exists_eq_left', exists_eq_left, List.cons.injEq]
  refine hB _ (g1 _ _ ?_)
  try simp only [tSeq, tIfS, tNext, tRet, tRetN, tDrop, tAsg, tC, cVar, tOp, tCB, tCons, tNil, tTup, tLst, tIf, tAnd, tOr, tNot, cTest, cTru, oTru, cAnd, cOr, cNot, cUn, cChain, gName, cTupG, gCons, gNil, gSub, oLt, oLe, oGt, oGe, oIs, oIsNot, oSub, oMul, oFdiv, oMod, oPow, cPar, cPar3, cAug, tDNewK, cCall, cAttr, frzE, List.mem_singleton, List.lookup_cons_self, List.getElem?_cons_zero, List.getElem?_cons_succ, List.set_cons_zero, List.set_cons_succ, Option.some.injEq, reduceCtorEq, if_true, if_false, Bool.true_eq_false, Bool.false_eq_true, decide_eq_true_eq, ite_true, ite_false, ↓reduceIte, List.length_cons, List.length_nil, true_and, and_true, exists_eq_left', exists_eq_left, List.cons.injEq]
  exact fin_repr hf hg hw hd s s1 s2 h
/-- the thing was a list -/
theorem tail_lst {S : Str → Sp} {W : WX} {D : Ends} {f g a : Addr} {w : Str} {v0 v1 v2 v3 v7 : Option V} (ha : H a = some (.lst [.int 1])) (hf : H f = some (.tup [.str w, .ref a])) (hg : H g = some (.tup [.str w, .ref a])) (hw : smS w = true)
    (h : D.rt (.bl true) (upd H a (.lst [.int 1, .str "more"]))) : tailR K S W D [v0, v1, v2, v3, some (.ref a), some (.ref g), some (.ref f), v7] H := by
  unfold tailR
  refine seq_ fun N1 g1 => ifS_ fun A B hA hB => ?_
  try simp only [tSeq, tIfS, tNext, tRet, tRetN, tDrop, tAsg, tC, cVar, tOp, tCB, tCons, tNil, tTup, tLst, tIf, tAnd, tOr, tNot, cTest, cTru, oTru, cAnd, cOr, cNot, cUn, cChain, gName, cTupG, gCons, gNil, gSub, oLt, oLe, oGt, oGe, oIs, oIsNot, oSub, oMul, oFdiv, oMod, oPow, cPar, cPar3, cAug, tDNewK, cCall, cAttr, frzE, List.mem_singleton, List.lookup_cons_self, List.getElem?_cons_zero, List.getElem?_cons_succ, List.set_cons_zero, List.set_cons_succ, Option.some.injEq, reduceCtorEq, if_true, if_false, Bool.true_eq_false, Bool.false_eq_true, decide_eq_true_eq, ite_true, ite_false, ↓reduceIte, List.length_cons, List.length_nil, true_and, and_true, exists_eq_left', exists_eq_left, List.cons.injEq]
  rw [isi_ty (ty_lst (look_of_lst ha)) kb_list_list]
  simp only [oTru, tSeq, tIfS, tNext, tRet, tRetN, tDrop, tAsg, tC, cVar, tOp, tCB, tCons, tNil, tTup, tLst, tIf, tAnd, tOr, tNot, cTest, cTru, oTru, cAnd, cOr, cNot, cUn, cChain, gName, cTupG, gCons, gNil, gSub, oLt, oLe, oGt, oGe, oIs, oIsNot, oSub, oMul, oFdiv, oMod, oPow, cPar, cPar3, cAug, tDNewK, cCall, cAttr, frzE, List.mem_singleton, List.lookup_cons_self, List.getElem?_cons_zero, List.getElem?_cons_succ, List.set_cons_zero, List.set_cons_succ, Option.some.injEq, reduceCtorEq, if_true, if_false, Bool.true_eq_false, Bool.false_eq_true, decide_eq_true_eq, ite_true, ite_false, ↓reduceIte, List.length_cons, List.length_nil, true_and, and_true, exists_eq_left', exists_eq_left, List.cons.injEq]
  refine hA _ ?_
  simp only [tDrop]
  refine mC_blt ?_ fun P P' hh q => mono_var hh q
  try simp only [tSeq, tIfS, tNext, tRet, tRetN, tDrop, tAsg, tC, cVar, tOp, tCB, tCons, tNil, tTup, tLst, tIf, tAnd, tOr, tNot, cTest, cTru, oTru, cAnd, cOr, cNot, cUn, cChain, gName, cTupG, gCons, gNil, gSub, oLt, oLe, oGt, oGe, oIs, oIsNot, oSub, oMul, oFdiv, oMod, oPow, cPar, cPar3, cAug, tDNewK, cCall, cAttr, frzE, List.mem_singleton, List.lookup_cons_self, List.getElem?_cons_zero, List.getElem?_cons_succ, List.set_cons_zero, List.set_cons_succ, Option.some.injEq, reduceCtorEq, if_true, if_false, Bool.true_eq_false, Bool.false_eq_true, decide_eq_true_eq, ite_true, ite_false, ↓reduceIte, List.length_cons, List.length_nil, true_and, and_true, exists_eq_left', exists_eq_left, List.cons.injEq]
  refine ⟨ins_lst (K := K) (look_of_lst ha), "list", tyB_lst (look_of_lst ha), _, b_append, ?_⟩
  simp only [mAppend, ha, tSeq, tIfS, tNext, tRet, tRetN, tDrop, tAsg, tC, cVar, tOp, tCB, tCons, tNil, tTup, tLst, tIf, tAnd, tOr, tNot, cTest, cTru, oTru, cAnd, cOr, cNot, cUn, cChain, gName, cTupG, gCons, gNil, gSub, oLt, oLe, oGt, oGe, oIs, oIsNot, oSub, oMul, oFdiv, oMod, oPow, cPar, cPar3, cAug, tDNewK, cCall, cAttr, frzE, List.mem_singleton, List.lookup_cons_self, List.getElem?_cons_zero, List.getElem?_cons_succ, List.set_cons_zero, List.set_cons_succ, Option.some.injEq, reduceCtorEq, if_true, if_false, Bool.true_eq_false, Bool.false_eq_true, decide_eq_true_eq, ite_true, ite_false, ↓reduceIte, List.length_cons, List.length_nil, true_and, and_true, exists_eq_left', exists_eq_left, List.cons.injEq]
  refine ⟨by simp only [sizeLine_eq]; omega, g1 _ _ ?_⟩
  try simp only [tSeq, tIfS, tNext, tRet, tRetN, tDrop, tAsg, tC, cVar, tOp, tCB, tCons, tNil, tTup, tLst, tIf, tAnd, tOr, tNot, cTest, cTru, oTru, cAnd, cOr, cNot, cUn, cChain, gName, cTupG, gCons, gNil, gSub, oLt, oLe, oGt, oGe, oIs, oIsNot, oSub, oMul, oFdiv, oMod, oPow, cPar, cPar3, cAug, tDNewK, cCall, cAttr, frzE, List.mem_singleton, List.lookup_cons_self, List.getElem?_cons_zero, List.getElem?_cons_succ, List.set_cons_zero, List.set_cons_succ, Option.some.injEq, reduceCtorEq, if_true, if_false, Bool.true_eq_false, Bool.false_eq_true, decide_eq_true_eq, ite_true, ite_false, ↓reduceIte, List.length_cons, List.length_nil, true_and, and_true, exists_eq_left', exists_eq_left, List.cons.injEq]
  have nf : f ≠ a := fun z => by rw [z, ha] at hf; cases hf
  have ng : g ≠ a := fun z => by rw [z, ha] at hg; cases hg
  refine fin_repr (d := .list [.int 1, .str "more"]) (by rw [upd_ne nf]; exact hf) (by rw [upd_ne ng]; exact hg) hw (.lst (look_of_lst upd_same) (.cons (.int _) (.cons (.str _) .nil))) ?_ ?_ ?_ h
  · exact ⟨by decide +kernel, by decide +kernel, by decide +kernel, by decide +kernel⟩
  · decide +kernel
  · decide +kernel
/-- a thing that is no number of a letter -/
theorem deed_off (hx : y.ex K = true) {H0 : Hp} {b p d s t g : Addr} {rs : Rw} {m : Nat} {v : V} {way : Int} {W : WX} {D0 : Ends} {v0 v7 : Option V} (D : Sd K H p d s t rs m) (th : Th H0 H v) (o : Off K H rs v) (hg : H g = some (.tup [.str "road", v])) (old : ∀ a, H0 a = none → a ∉ [p, d, s, t, b])
    (h : ∀ H', Sd K H' p d s t rs m → (∀ a o, H0 a ≠ none → H a = some o → H' a = some o) → D0.rt (.bl true) H') :
    tSeq (tAsg (cCall (SP K (n+5) "_law_caught") 3 0 (fun vs _ => vs) (tCons (cVar 1) (tCons (cVar 3) (tCons (cVar 4) tNil))) tNil W) (gName 6)) (tailR K (SP K (n+5)) W) D0 [v0, some (.ref p), some (.ref s), some (.int way), some v, some (.ref g), none, v7] H := by
  refine seq_ fun N1 g1 => ?_
  try simp only [tSeq, tIfS, tNext, tRet, tRetN, tDrop, tAsg, tC, cVar, tOp, tCB, tCons, tNil, tTup, tLst, tIf, tAnd, tOr, tNot, cTest, cTru, oTru, cAnd, cOr, cNot, cUn, cChain, gName, cTupG, gCons, gNil, gSub, oLt, oLe, oGt, oGe, oIs, oIsNot, oSub, oMul, oFdiv, oMod, oPow, cPar, cPar3, cAug, tDNewK, cCall, cAttr, frzE, List.mem_singleton, List.lookup_cons_self, List.getElem?_cons_zero, List.getElem?_cons_succ, List.set_cons_zero, List.set_cons_succ, Option.some.injEq, reduceCtorEq, if_true, if_false, Bool.true_eq_false, Bool.false_eq_true, decide_eq_true_eq, ite_true, ite_false, ↓reduceIte, List.length_cons, List.length_nil, true_and, and_true, exists_eq_left', exists_eq_left, List.cons.injEq]
  refine s_caught_off hx D.R o fun f H1 e1 hf kf => g1 _ _ ?_
  have hg1 := e1 _ _ hg
  have D1 := D.ex e1
  have sw : smS "road" = true := by decide +kernel
  have fin := h H1 D1 fun a o _ e => e1 a o e
  rcases th with ⟨i, rfl, bi⟩ | rfl | rfl | rfl | ⟨a, rfl, za, e⟩ | ⟨a, rfl, za, e⟩ | ⟨a, rfl, za, e⟩
  · exact tail_int (nm := "int") rfl kb_int_list kf hg1 sw (.int i) (Sm.int bi) (by simp [PyData.depth]) (by simp [PyData.bulk]) fin
  · exact tail_int (nm := "bool") rfl kb_bool_list kf hg1 sw (.bl true) ⟨by decide +kernel, by decide +kernel, by decide +kernel, by decide +kernel⟩ (by decide +kernel) (by decide +kernel) fin
  · exact tail_int (nm := "NoneType") rfl kb_non_list kf hg1 sw .non ⟨by decide +kernel, by decide +kernel, by decide +kernel, by decide +kernel⟩ (by decide +kernel) (by decide +kernel) fin
  · exact tail_int (nm := "str") rfl kb_str_list kf hg1 sw (.str _) ⟨by decide +kernel, by decide +kernel, by decide +kernel, by decide +kernel⟩ (by decide +kernel) (by decide +kernel) fin
  · have oa := old _ za
    simp only [List.mem_cons, List.not_mem_nil, or_false, not_or] at oa
    have f2 : Fr [a] H1 (upd H1 a (.lst [.int 1, .str "more"])) := Fr.refl.put (by simp)
    have ha1 := e1 _ _ e
    refine tail_lst ha1 kf hg1 sw (h _ (D1.fr f2 (fun z => oa.1 (List.mem_singleton.mp z).symm) (fun z => oa.2.1 (List.mem_singleton.mp z).symm) (fun z => oa.2.2.1 (List.mem_singleton.mp z).symm) (fun z => oa.2.2.2.1 (List.mem_singleton.mp z).symm) (tps_fr f2 fun x hx' => ?_)) fun x o e0 e2 => ?_)
    · rw [List.mem_singleton] at hx'; subst hx'; exact ⟨_, ha1, fun _ z => nomatch z⟩
    · refine f2 _ _ ?_ (e1 _ _ e2)
      intro z
      rw [List.mem_singleton] at z
      rw [z] at e0; exact e0 za
  · exact tail_int (nm := "tuple") (d := .tuple [.int 1]) (ty_tup (look_of_tup (e1 _ _ e))) kb_tuple_list kf hg1 sw (.tup (look_of_tup (e1 _ _ e)) (.cons (.int _) .nil)) ⟨by decide +kernel, by decide +kernel, by decide +kernel, by decide +kernel⟩ (by decide +kernel) (by decide +kernel) fin
  · exact tail_int (nm := "dict") (d := .dict []) (ty_dK (look_of_dK (e1 _ _ e))) kb_dict_list kf hg1 sw (.dic (.inl (e1 _ _ e)) .nil) ⟨by decide +kernel, by decide +kernel, by decide +kernel, by decide +kernel⟩ (by decide +kernel) (by decide +kernel) fin
end
end WR.L

set_option Elab.async false
set_option linter.all false
set_option maxRecDepth 100000
set_option maxHeartbeats 4000000
namespace WR.L
open PySem PySem.Spec PyProof.Rows L2
def toldR (K : PySem.W.Frag) (S : Str → Sp) : TT := cTest (tOp (oEqG (gg K S)) (tOp (oIx K) (cVar 5) (tC (.int 0))) (tC (.str "told")))
def popR (K : PySem.W.Frag) (S : Str → Sp) (W : WX) : TS :=
  tIfS (tAnd (toldR K S) (cTest (tOp oLt (cVar 3) (tC (.int 4))))) (tDrop (mC (gg K S) "pop" 1 0 [] (tOp (oIx K) (cVar 2) (tC (.str "table"))) (tCons (cVar 4) tNil) tNil W)) tNext
def dblR (K : PySem.W.Frag) (S : Str → Sp) (W : WX) : TS :=
  tIfS (tAnd (toldR K S) (cTest (tOp (oEqG (gg K S)) (cVar 3) (tC (.int 4)))))
  (tSeq (tAsg (tOp (oAdd K) (tOp (oIx K) (cVar 2) (tC (.str "last"))) (tC (.int 1))) (gSub (cVar 2) (tC (.str "last")) oSet))
  (tSeq (tAsg (tOp (oIx K) (cVar 5) (tC (.int 1))) (gSub (tOp (oIx K) (cVar 2) (tC (.str "table"))) (tOp (oIx K) (cVar 2) (tC (.str "last"))) oSet))
  (tAsg (tTup (tCons (tC (.str "told")) (tCons (tOp (oIx K) (cVar 2) (tC (.str "last"))) tNil))) (gName 5)))) tNext
def endR (K : PySem.W.Frag) (S : Str → Sp) (W : WX) : TS :=
  tSeq (tAsg (cCall (S "_law_caught") 3 0 (fun vs _ => vs) (tCons (cVar 1) (tCons (cVar 3) (tCons (cVar 4) tNil))) tNil W) (gName 6)) (tailR K S W)
section
variable {K : PySem.W.Frag} {n : Nat} {H : Hp} {Q : VK} {E : XK}
theorem told_ {S : Str → Sp} {g : Addr} {w : Str} {x : V} {σ : L2.St} {R : Bool → Hp → Prop} (hs : σ[5]? = some (some (.ref g))) (hg : H g = some (.tup [.str w, x])) (q : R (decide (w = "told")) H) : toldR K S σ H R := by
  unfold toldR cTest
  exact due_is hs hg q
theorem sw_told : smS "told" = true := by decide +kernel
theorem rd_tps {p d : Addr} {rs : Rw} {m : Nat} {H' : Hp} {l : List Addr} (R : RdAt K H p d rs m) (x : Fr l H H') (hl : ∀ a ∈ l, a = p ∨ a = d) : Tps H H' := by
  obtain ⟨⟨dx, hp⟩, hd⟩ := R
  refine tps_fr x fun a ha => ?_
  rcases hl a ha with rfl | rfl
  · exact ⟨_, hp, fun _ z => nomatch z⟩
  · exact ⟨_, hd, fun _ z => nomatch z⟩
theorem deed_there {b p d s t g : Addr} {rs : Rw} {m N : Nat} {i way : Int} {u : V} {W : WX} {D0 : Ends} (D : Sd K H p d s t rs m) (B : Bx H b N) (hm : m < 200) (hi : rg rs i = some u) (hg : H g = some (.tup [.str "told", u])) (hw : 2 ≤ way ∧ way < 6)
    (h : ∀ rs' m' H', Sd K H' p d s t rs' m' → m' ≤ m + 1 → Fr [p, d, s, t] H H' → D0.rt (.bl true) H') :
    tSeq (popR K (SP K (n+5)) W) (tSeq (dblR K (SP K (n+5)) W) (endR K (SP K (n+5)) W)) D0 [some (.ref b), some (.ref p), some (.ref s), some (.int way), some (.int i), some (.ref g), none, none] H := by
  obtain ⟨n1, n2, n3, n4, n5, n6, n7⟩ := D.nb B
  obtain ⟨⟨dx, hp⟩, hd⟩ := id D.R
  have ib := D.G.2.1 _ (rg_mem hi)
  have lu : Lt H u := ib.2.2
  have ngs : g ≠ s := fun z => by rw [z, D.S] at hg; cases hg
  have ngt : g ≠ t := fun z => by rw [z, D.T] at hg; cases hg
  have ngd : g ≠ d := fun z => by rw [z, hd] at hg; cases hg
  have ngp : g ≠ p := fun z => by rw [z, hp] at hg; cases hg
  refine seq_ fun N1 g1 => ?_
  unfold popR
  refine ifS_ fun A B' hA hB => ?_
  unfold tAnd
  refine told_ rfl hg ?_
  simp only [decide_true, if_true, cTest, tOp, cVar, tC, List.getElem?_cons_zero, List.getElem?_cons_succ, oLt]
  by_cases w4 : way < 4
  · rw [if_pos (by simpa using w4)]
    refine hA _ ?_
    simp only [tDrop]
    refine mC_blt ?_ fun P P' hh q => mono_ixC hh q
    try simp only [tSeq, tIfS, tNext, tRet, tRetN, tDrop, tAsg, tC, cVar, tOp, tCB, tCons, tNil, tTup, tLst, tIf, tAnd, tOr, tNot, cTest, cTru, oTru, cAnd, cOr, cNot, cUn, cChain, gName, cTupG, gCons, gNil, gSub, oLt, oLe, oGt, oGe, oIs, oIsNot, oSub, oMul, oFdiv, oMod, oPow, cPar, cPar3, cAug, tDNewK, cCall, cAttr, frzE, List.mem_singleton, List.lookup_cons_self, List.getElem?_cons_zero, List.getElem?_cons_succ, List.set_cons_zero, List.set_cons_succ, Option.some.injEq, reduceCtorEq, if_true, if_false, Bool.true_eq_false, Bool.false_eq_true, decide_eq_true_eq, ite_true, ite_false, ↓reduceIte, List.length_cons, List.length_nil, true_and, and_true, exists_eq_left', exists_eq_left, List.cons.injEq]
    rw [ix_dS D.S st_table]
    refine ⟨ins_dK (K := K) (look_of_dK D.T), "dict", tyB_dK (K := K) D.T, _, b_pop, ?_⟩
    simp only [mPopD, D.T, keyOf, show valV (dk rs) (.inl i) = some u from hi, tSeq, tIfS, tNext, tRet, tRetN, tDrop, tAsg, tC, cVar, tOp, tCB, tCons, tNil, tTup, tLst, tIf, tAnd, tOr, tNot, cTest, cTru, oTru, cAnd, cOr, cNot, cUn, cChain, gName, cTupG, gCons, gNil, gSub, oLt, oLe, oGt, oGe, oIs, oIsNot, oSub, oMul, oFdiv, oMod, oPow, cPar, cPar3, cAug, tDNewK, cCall, cAttr, frzE, List.mem_singleton, List.lookup_cons_self, List.getElem?_cons_zero, List.getElem?_cons_succ, List.set_cons_zero, List.set_cons_succ, Option.some.injEq, reduceCtorEq, if_true, if_false, Bool.true_eq_false, Bool.false_eq_true, decide_eq_true_eq, ite_true, ite_false, ↓reduceIte, List.length_cons, List.length_nil, true_and, and_true, exists_eq_left', exists_eq_left, List.cons.injEq]
    refine g1 _ _ (seq_ fun N2 g2 => ?_)
    have f1 : Fr [t] H (upd H t (.dK (dropK (dk rs) (.inl i)))) := Fr.refl.put (by simp)
    have k1 : (upd H t (.dK (dropK (dk rs) (.inl i)))) t = some (.dK (dk (rs.filter fun r => decide (r.1 ≠ i)))) := by rw [upd_same, dk_drop]
    generalize upd H t (.dK (dropK (dk rs) (.inl i))) = H1 at f1 k1 ⊢
    have t1 : Tps H H1 := tps_fr f1 fun a ha => by rw [List.mem_singleton] at ha; subst ha; exact ⟨_, D.T, fun _ z => nomatch z⟩
    have R1 := D.R.fr f1 (by simpa using n7) (by simpa using D.dt)
    have S1 := f1 _ _ (by simpa using D.st) D.S
    have hg1 := f1 _ _ (by simpa using ngt) hg
    unfold dblR
    refine ifS_ fun A2 B2 hA2 hB2 => ?_
    unfold tAnd
    refine told_ rfl hg1 ?_
    simp only [decide_true, if_true, cTest, tOp, cVar, tC, List.getElem?_cons_zero, List.getElem?_cons_succ]
    refine eq_scal rfl rfl rfl ?_
    rw [show decide (V.int way = V.int 4) = false from by simp; omega]
    simp only [Bool.false_eq_true, if_false]
    refine hB2 _ (g2 _ _ ?_)
    unfold endR
    refine seq_ fun N3 g3 => ?_
    try simp only [tSeq, tIfS, tNext, tRet, tRetN, tDrop, tAsg, tC, cVar, tOp, tCB, tCons, tNil, tTup, tLst, tIf, tAnd, tOr, tNot, cTest, cTru, oTru, cAnd, cOr, cNot, cUn, cChain, gName, cTupG, gCons, gNil, gSub, oLt, oLe, oGt, oGe, oIs, oIsNot, oSub, oMul, oFdiv, oMod, oPow, cPar, cPar3, cAug, tDNewK, cCall, cAttr, frzE, List.mem_singleton, List.lookup_cons_self, List.getElem?_cons_zero, List.getElem?_cons_succ, List.set_cons_zero, List.set_cons_succ, Option.some.injEq, reduceCtorEq, if_true, if_false, Bool.true_eq_false, Bool.false_eq_true, decide_eq_true_eq, ite_true, ite_false, ↓reduceIte, List.length_cons, List.length_nil, true_and, and_true, exists_eq_left', exists_eq_left, List.cons.injEq]
    refine s_caught_of (R := fun H' => RdAt K H' p d (rs.filter fun r => decide (r.1 ≠ i)) m ∧ Fr [d] H1 H') (fun Q' E' q => s_asked_off1 R1 (D.G.tp t1) hi w4 fun H' r f => q H' ⟨r, f⟩) fun f H2 H3 r hf e3 => g3 _ _ ?_
    obtain ⟨R2, f2⟩ := r
    have e23 : Ex H2 H3 := by rw [e3]; exact Ex.refl.new hf
    have kf : H3 f = some (.tup [.str "told", u]) := by rw [e3, upd_same]
    have t2 := rd_tps R1 f2 (by simp)
    have t3 : Tps H H3 := fun x xs e => e23 _ _ (t2 _ _ (t1 _ _ e))
    have hg3 := e23 _ _ (f2 _ _ (by simpa using ngd) hg1)
    obtain ⟨dd, d1, d2, d3, d4⟩ := (lu.tp t3).dx
    refine tail_int (nm := "int") rfl kb_int_list kf hg3 sw_told d1 d2 d3 d4 (h _ m H3 ⟨R2.ex e23, e23 _ _ (f2 _ _ (by simpa using D.sd) S1), e23 _ _ (f2 _ _ (by simpa using D.dt.symm) k1), (D.G.tp t3).drop, D.dt, D.sd, D.st⟩ (by omega) ?_)
    exact ((f1.mono (by simp)).trans (f2.mono (by simp))).trans (Fr.ex e23)
  · rw [if_neg (by simpa using w4)]
    refine hB _ (g1 _ _ (seq_ fun N2 g2 => ?_))
    unfold dblR
    refine ifS_ fun A2 B2 hA2 hB2 => ?_
    unfold tAnd
    refine told_ rfl hg ?_
    simp only [decide_true, if_true, cTest, tOp, cVar, tC, List.getElem?_cons_zero, List.getElem?_cons_succ]
    refine eq_scal rfl rfl rfl ?_
    by_cases w : way = 4
    · subst w
      simp only [decide_true, if_true]
      refine hA2 _ (seq_ fun N3 g3 => ?_)
      try simp only [tSeq, tIfS, tNext, tRet, tRetN, tDrop, tAsg, tC, cVar, tOp, tCB, tCons, tNil, tTup, tLst, tIf, tAnd, tOr, tNot, cTest, cTru, oTru, cAnd, cOr, cNot, cUn, cChain, gName, cTupG, gCons, gNil, gSub, oLt, oLe, oGt, oGe, oIs, oIsNot, oSub, oMul, oFdiv, oMod, oPow, cPar, cPar3, cAug, tDNewK, cCall, cAttr, frzE, List.mem_singleton, List.lookup_cons_self, List.getElem?_cons_zero, List.getElem?_cons_succ, List.set_cons_zero, List.set_cons_succ, Option.some.injEq, reduceCtorEq, if_true, if_false, Bool.true_eq_false, Bool.false_eq_true, decide_eq_true_eq, ite_true, ite_false, ↓reduceIte, List.length_cons, List.length_nil, true_and, and_true, exists_eq_left', exists_eq_left, List.cons.injEq]
      rw [ix_dS D.S st_last]
      simp only [oAdd, tSeq, tIfS, tNext, tRet, tRetN, tDrop, tAsg, tC, cVar, tOp, tCB, tCons, tNil, tTup, tLst, tIf, tAnd, tOr, tNot, cTest, cTru, oTru, cAnd, cOr, cNot, cUn, cChain, gName, cTupG, gCons, gNil, gSub, oLt, oLe, oGt, oGe, oIs, oIsNot, oSub, oMul, oFdiv, oMod, oPow, cPar, cPar3, cAug, tDNewK, cCall, cAttr, frzE, List.mem_singleton, List.lookup_cons_self, List.getElem?_cons_zero, List.getElem?_cons_succ, List.set_cons_zero, List.set_cons_succ, Option.some.injEq, reduceCtorEq, if_true, if_false, Bool.true_eq_false, Bool.false_eq_true, decide_eq_true_eq, ite_true, ite_false, ↓reduceIte, List.length_cons, List.length_nil, true_and, and_true, exists_eq_left', exists_eq_left, List.cons.injEq]
      refine set_dS D.S (by simp) (g3 _ _ (seq_ fun N4 g4 => ?_))
      rw [st_put]
      obtain ⟨a1, a2, a3, a4, a5, a6, a7⟩ := st_step D B hm lu rfl rfl
      have hg1 : (upd H s (.dK [(.inr "last", .int ((m : Int) + 1)), (.inr "table", .ref t)])) g = some (.tup [.str "told", u]) := by rw [upd_ne ngs]; exact hg
      generalize hH2 : upd H s (.dK [(.inr "last", .int ((m : Int) + 1)), (.inr "table", .ref t)]) = H2 at a1 a2 a3 a4 a5 a6 a7 hg1 ⊢
      try simp only [tSeq, tIfS, tNext, tRet, tRetN, tDrop, tAsg, tC, cVar, tOp, tCB, tCons, tNil, tTup, tLst, tIf, tAnd, tOr, tNot, cTest, cTru, oTru, cAnd, cOr, cNot, cUn, cChain, gName, cTupG, gCons, gNil, gSub, oLt, oLe, oGt, oGe, oIs, oIsNot, oSub, oMul, oFdiv, oMod, oPow, cPar, cPar3, cAug, tDNewK, cCall, cAttr, frzE, List.mem_singleton, List.lookup_cons_self, List.getElem?_cons_zero, List.getElem?_cons_succ, List.set_cons_zero, List.set_cons_succ, Option.some.injEq, reduceCtorEq, if_true, if_false, Bool.true_eq_false, Bool.false_eq_true, decide_eq_true_eq, ite_true, ite_false, ↓reduceIte, List.length_cons, List.length_nil, true_and, and_true, exists_eq_left', exists_eq_left, List.cons.injEq]
      rw [ix_tup (look_of_tup hg1) (v := u) rfl]
      rw [ix_dS a1 st_table, ix_dS a1 st_last]
      refine set_dI a2 (by rw [dk_len]; have := D.G.1; omega) (g4 _ _ ?_)
      generalize upd H2 t (.dK (putK (dk rs) (.inl ((m : Int) + 1)) u)) = H3 at a3 a4 a5 a6 a7 ⊢
      try simp only [tSeq, tIfS, tNext, tRet, tRetN, tDrop, tAsg, tC, cVar, tOp, tCB, tCons, tNil, tTup, tLst, tIf, tAnd, tOr, tNot, cTest, cTru, oTru, cAnd, cOr, cNot, cUn, cChain, gName, cTupG, gCons, gNil, gSub, oLt, oLe, oGt, oGe, oIs, oIsNot, oSub, oMul, oFdiv, oMod, oPow, cPar, cPar3, cAug, tDNewK, cCall, cAttr, frzE, List.mem_singleton, List.lookup_cons_self, List.getElem?_cons_zero, List.getElem?_cons_succ, List.set_cons_zero, List.set_cons_succ, Option.some.injEq, reduceCtorEq, if_true, if_false, Bool.true_eq_false, Bool.false_eq_true, decide_eq_true_eq, ite_true, ite_false, ↓reduceIte, List.length_cons, List.length_nil, true_and, and_true, exists_eq_left', exists_eq_left, List.cons.injEq]
      rw [ix_dS a3 st_last]
      try simp only [tSeq, tIfS, tNext, tRet, tRetN, tDrop, tAsg, tC, cVar, tOp, tCB, tCons, tNil, tTup, tLst, tIf, tAnd, tOr, tNot, cTest, cTru, oTru, cAnd, cOr, cNot, cUn, cChain, gName, cTupG, gCons, gNil, gSub, oLt, oLe, oGt, oGe, oIs, oIsNot, oSub, oMul, oFdiv, oMod, oPow, cPar, cPar3, cAug, tDNewK, cCall, cAttr, frzE, List.mem_singleton, List.lookup_cons_self, List.getElem?_cons_zero, List.getElem?_cons_succ, List.set_cons_zero, List.set_cons_succ, Option.some.injEq, reduceCtorEq, if_true, if_false, Bool.true_eq_false, Bool.false_eq_true, decide_eq_true_eq, ite_true, ite_false, ↓reduceIte, List.length_cons, List.length_nil, true_and, and_true, exists_eq_left', exists_eq_left, List.cons.injEq]
      refine ⟨by simp only [sizeLine_eq]; omega, fun g2' hg2' => g2 _ _ ?_⟩
      have e34 : Ex H3 (upd H3 g2' (.tup [.str "told", .int ((m : Int) + 1)])) := Ex.refl.new hg2'
      have kg : (upd H3 g2' (.tup [.str "told", .int ((m : Int) + 1)])) g2' = some (.tup [.str "told", .int ((m : Int) + 1)]) := upd_same
      generalize upd H3 g2' (.tup [.str "told", .int ((m : Int) + 1)]) = H4 at e34 kg ⊢
      have t4 : Tps H H4 := fun x xs e => e34 _ _ (a6 _ _ e)
      have R4 := a5.ex e34
      unfold endR
      refine seq_ fun N5 g5 => ?_
      try simp only [tSeq, tIfS, tNext, tRet, tRetN, tDrop, tAsg, tC, cVar, tOp, tCB, tCons, tNil, tTup, tLst, tIf, tAnd, tOr, tNot, cTest, cTru, oTru, cAnd, cOr, cNot, cUn, cChain, gName, cTupG, gCons, gNil, gSub, oLt, oLe, oGt, oGe, oIs, oIsNot, oSub, oMul, oFdiv, oMod, oPow, cPar, cPar3, cAug, tDNewK, cCall, cAttr, frzE, List.mem_singleton, List.lookup_cons_self, List.getElem?_cons_zero, List.getElem?_cons_succ, List.set_cons_zero, List.set_cons_succ, Option.some.injEq, reduceCtorEq, if_true, if_false, Bool.true_eq_false, Bool.false_eq_true, decide_eq_true_eq, ite_true, ite_false, ↓reduceIte, List.length_cons, List.length_nil, true_and, and_true, exists_eq_left', exists_eq_left, List.cons.injEq]
      refine s_caught_of (R := fun H' => RdAt K H' p d (rs ++ [((m : Int) + 1, u)]) (m + 1) ∧ Fr [p, d] H4 H') (fun Q' E' q => s_asked_dbl R4 (D.G.tp t4) (by omega) hi fun H' r f => q H' ⟨r, f⟩) fun f H5 H6 r hf e6 => g5 _ _ ?_
      obtain ⟨R5, f5⟩ := r
      have e56 : Ex H5 H6 := by rw [e6]; exact Ex.refl.new hf
      have kf : H6 f = some (.tup [.str "told", .int ((m : Int) + 1)]) := by rw [e6, upd_same]
      have t5 := rd_tps R4 f5 (by simp)
      have t6 : Tps H H6 := fun x xs e => e56 _ _ (t5 _ _ (t4 _ _ e))
      have ngp2 : g2' ≠ p := fun z => by obtain ⟨⟨_, q⟩, _⟩ := R4; rw [← z, kg] at q; cases q
      have ngd2 : g2' ≠ d := fun z => by obtain ⟨_, q⟩ := R4; rw [← z, kg] at q; cases q
      have hg6 := e56 _ _ (f5 _ _ (by simp [ngp2, ngd2]) kg)
      have S6 := e56 _ _ (f5 _ _ (by simp [n6.symm, D.sd]) (e34 _ _ a3))
      have T6 := e56 _ _ (f5 _ _ (by simp [n7.symm, D.dt.symm]) (e34 _ _ a4))
      refine tail_int (nm := "int") rfl kb_int_list kf hg6 sw_told (.int _) (Sm.int (.inl ⟨by omega, by omega⟩)) (by simp [PyData.depth]) (by simp [PyData.bulk]) (h _ (m + 1) H6 ⟨R5.ex e56, ?_, T6, (D.G.tp t6).put (lu.tp t6), D.dt, D.sd, D.st⟩ (Nat.le_refl _) ?_)
      · rw [S6]; rfl
      · exact (((a7.mono (by simp)).trans (Fr.ex e34)).trans (f5.mono (by simp))).trans (Fr.ex e56)
    · rw [show decide (V.int way = V.int 4) = false from by simp; omega]
      simp only [Bool.false_eq_true, if_false]
      refine hB2 _ (g2 _ _ ?_)
      unfold endR
      refine seq_ fun N3 g3 => ?_
      try simp only [tSeq, tIfS, tNext, tRet, tRetN, tDrop, tAsg, tC, cVar, tOp, tCB, tCons, tNil, tTup, tLst, tIf, tAnd, tOr, tNot, cTest, cTru, oTru, cAnd, cOr, cNot, cUn, cChain, gName, cTupG, gCons, gNil, gSub, oLt, oLe, oGt, oGe, oIs, oIsNot, oSub, oMul, oFdiv, oMod, oPow, cPar, cPar3, cAug, tDNewK, cCall, cAttr, frzE, List.mem_singleton, List.lookup_cons_self, List.getElem?_cons_zero, List.getElem?_cons_succ, List.set_cons_zero, List.set_cons_succ, Option.some.injEq, reduceCtorEq, if_true, if_false, Bool.true_eq_false, Bool.false_eq_true, decide_eq_true_eq, ite_true, ite_false, ↓reduceIte, List.length_cons, List.length_nil, true_and, and_true, exists_eq_left', exists_eq_left, List.cons.injEq]
      refine s_caught_of (R := fun H' => H' = H) (fun Q' E' q => s_asked_told D.R D.G hi (by omega) (q H rfl)) fun f H2 H3 r hf e3 => g3 _ _ ?_
      subst r
      have e23 : Ex H2 H3 := by rw [e3]; exact Ex.refl.new hf
      have kf : H3 f = some (.tup [.str "told", u]) := by rw [e3, upd_same]
      have t3 : Tps H2 H3 := fun x xs e => e23 _ _ e
      obtain ⟨dd, d1, d2, d3, d4⟩ := (lu.tp t3).dx
      exact tail_int (nm := "int") rfl kb_int_list kf (e23 _ _ hg) sw_told d1 d2 d3 d4 (h _ m H3 (D.ex e23) (by omega) (Fr.ex e23))
end
end WR.L

set_option Elab.async false
set_option linter.all false
set_option maxRecDepth 100000
set_option maxHeartbeats 4000000
namespace WR.L
open PySem PySem.Spec PyProof.Rows L2
section
variable {K : PySem.W.Frag} {n : Nat} {H : Hp} {Q : VK} {E : XK}
theorem s_law_deed (hx : y.ex K = true) {b p d s t : Addr} {rs : Rw} {m N : Nat} (D : Sd K H p d s t rs m) (B : Bx H b N) (hN : N < 70000) (hm : m < 200)
    (h : ∀ rs' m' H', Sd K H' p d s t rs' m' → m' ≤ m + 1 → Bx H' b (N + 7) → Fr [p, d, s, t, b] H H' → Q (.bl true) H') : SP K (n+6) "_law_deed" [.ref b, .ref p, .ref s] H Q E := by
  refine o__law_deed ?_
  unfold r__law_deed
  refine seq_ fun N1 g1 => ?_
  obtain ⟨n1, n2, n3, n4, n5, n6, n7⟩ := D.nb B
  try simp only [tSeq, tIfS, tNext, tRet, tRetN, tDrop, tAsg, tC, cVar, tOp, tCB, tCons, tNil, tTup, tLst, tIf, tAnd, tOr, tNot, cTest, cTru, oTru, cAnd, cOr, cNot, cUn, cChain, gName, cTupG, gCons, gNil, gSub, oLt, oLe, oGt, oGe, oIs, oIsNot, oSub, oMul, oFdiv, oMod, oPow, cPar, cPar3, cAug, tDNewK, cCall, cAttr, frzE, List.mem_singleton, List.lookup_cons_self, List.getElem?_cons_zero, List.getElem?_cons_succ, List.set_cons_zero, List.set_cons_succ, Option.some.injEq, reduceCtorEq, if_true, if_false, Bool.true_eq_false, Bool.false_eq_true, decide_eq_true_eq, ite_true, ite_false, ↓reduceIte, List.length_cons, List.length_nil, true_and, and_true, exists_eq_left', exists_eq_left, List.cons.injEq]
  refine s_take B (by omega) (by decide) (by decide) fun way H1 w0 w1 B1 F1 => g1 _ _ (seq_ fun N2 g2 => ?_)
  have D1 : Sd K H1 p d s t rs m := D.fr F1 (by simpa using n1) (by simpa using n2) (by simpa using n3) (by simpa using n4) (tps_fr F1 fun a ha => by rw [List.mem_singleton] at ha; subst ha; exact bx_nt B)
  refine ifS_ fun A B' hA hB => ?_
  simp only [cTest, tOp, cVar, tC, List.set_cons_zero, List.set_cons_succ, List.getElem?_cons_zero, List.getElem?_cons_succ, oLt]
  by_cases w2 : way < 2
  · rw [if_pos (by simpa using w2)]
    refine hA _ (deed_put (n := n + 3) D1 B1 (by omega) hm fun rs' m' H' d' l' b' f' => h rs' m' H' d' l' b' ?_)
    exact (F1.mono (by simp)).trans f'
  · rw [if_neg (by simpa using w2)]
    refine hB _ (g2 _ _ (seq_ fun N3 g3 => ?_))
    try simp only [tSeq, tIfS, tNext, tRet, tRetN, tDrop, tAsg, tC, cVar, tOp, tCB, tCons, tNil, tTup, tLst, tIf, tAnd, tOr, tNot, cTest, cTru, oTru, cAnd, cOr, cNot, cUn, cChain, gName, cTupG, gCons, gNil, gSub, oLt, oLe, oGt, oGe, oIs, oIsNot, oSub, oMul, oFdiv, oMod, oPow, cPar, cPar3, cAug, tDNewK, cCall, cAttr, frzE, List.mem_singleton, List.lookup_cons_self, List.getElem?_cons_zero, List.getElem?_cons_succ, List.set_cons_zero, List.set_cons_succ, Option.some.injEq, reduceCtorEq, if_true, if_false, Bool.true_eq_false, Bool.false_eq_true, decide_eq_true_eq, ite_true, ite_false, ↓reduceIte, List.length_cons, List.length_nil, true_and, and_true, exists_eq_left', exists_eq_left, List.cons.injEq]
    rw [ix_dS D1.S st_table, ix_dS D1.S st_last]
    refine s_law_number B1 (by omega) D1.T D1.G (by omega) fun v H2 th B2 F2 => g3 _ _ (seq_ fun N4 g4 => ?_)
    have D2 : Sd K H2 p d s t rs m := D1.fr F2 (by simpa using n1) (by simpa using n2) (by simpa using n3) (by simpa using n4) (tps_fr F2 fun a ha => by rw [List.mem_singleton] at ha; subst ha; exact bx_nt B1)
    try simp only [tSeq, tIfS, tNext, tRet, tRetN, tDrop, tAsg, tC, cVar, tOp, tCB, tCons, tNil, tTup, tLst, tIf, tAnd, tOr, tNot, cTest, cTru, oTru, cAnd, cOr, cNot, cUn, cChain, gName, cTupG, gCons, gNil, gSub, oLt, oLe, oGt, oGe, oIs, oIsNot, oSub, oMul, oFdiv, oMod, oPow, cPar, cPar3, cAug, tDNewK, cCall, cAttr, frzE, List.mem_singleton, List.lookup_cons_self, List.getElem?_cons_zero, List.getElem?_cons_succ, List.set_cons_zero, List.set_cons_succ, Option.some.injEq, reduceCtorEq, if_true, if_false, Bool.true_eq_false, Bool.false_eq_true, decide_eq_true_eq, ite_true, ite_false, ↓reduceIte, List.length_cons, List.length_nil, true_and, and_true, exists_eq_left', exists_eq_left, List.cons.injEq]
    refine ⟨by simp only [sizeLine_eq]; omega, fun g hg => g4 _ _ (seq_ fun N5 g5 => ?_)⟩
    have e3 : Ex H2 (upd H2 g (.tup [.str "road", v])) := Ex.refl.new hg
    have kg : (upd H2 g (.tup [.str "road", v])) g = some (.tup [.str "road", v]) := upd_same
    generalize upd H2 g (.tup [.str "road", v]) = H3 at e3 kg ⊢
    have D3 := D2.ex e3
    have B3 := B2.ex e3
    have th3 : Th H1 H3 v := by
      rcases th with q | q | q | q | ⟨a, q, z, e⟩ | ⟨a, q, z, e⟩ | ⟨a, q, z, e⟩
      · exact .inl q
      · exact .inr (.inl q)
      · exact .inr (.inr (.inl q))
      · exact .inr (.inr (.inr (.inl q)))
      · exact .inr (.inr (.inr (.inr (.inl ⟨a, q, z, e3 _ _ e⟩))))
      · exact .inr (.inr (.inr (.inr (.inr (.inl ⟨a, q, z, e3 _ _ e⟩)))))
      · exact .inr (.inr (.inr (.inr (.inr (.inr ⟨a, q, z, e3 _ _ e⟩)))))
    have F13 : Fr [b] H1 H3 := F2.trans (Fr.ex e3)
    refine ifS_ fun A3 B3' hA3 hB3 => ?_
    simp only [cTru, cCall, tCons, tNil, tOp, cVar, tC, List.set_cons_zero, List.set_cons_succ, List.getElem?_cons_zero, List.getElem?_cons_succ]
    rw [ix_dS D3.S st_table]
    refine ⟨rfl, (by first | rfl | trivial), ?_⟩
    rcases th3.is (rs := rs) with ⟨i, u, rfl, bi, hi⟩ | o
    · refine s_law_is_there D3.T ⟨fun i' u' _ _ => ?_, fun o => ?_⟩ (.inl ⟨i, rfl⟩)
      · simp only [oTru, if_true]
        refine hA3 _ ?_
        try simp only [tSeq, tIfS, tNext, tRet, tRetN, tDrop, tAsg, tC, cVar, tOp, tCB, tCons, tNil, tTup, tLst, tIf, tAnd, tOr, tNot, cTest, cTru, oTru, cAnd, cOr, cNot, cUn, cChain, gName, cTupG, gCons, gNil, gSub, oLt, oLe, oGt, oGe, oIs, oIsNot, oSub, oMul, oFdiv, oMod, oPow, cPar, cPar3, cAug, tDNewK, cCall, cAttr, frzE, List.mem_singleton, List.lookup_cons_self, List.getElem?_cons_zero, List.getElem?_cons_succ, List.set_cons_zero, List.set_cons_succ, Option.some.injEq, reduceCtorEq, if_true, if_false, Bool.true_eq_false, Bool.false_eq_true, decide_eq_true_eq, ite_true, ite_false, ↓reduceIte, List.length_cons, List.length_nil, true_and, and_true, exists_eq_left', exists_eq_left, List.cons.injEq]
        rw [ix_dS D3.S st_table, ix_dI D3.T hi]
        try simp only [tSeq, tIfS, tNext, tRet, tRetN, tDrop, tAsg, tC, cVar, tOp, tCB, tCons, tNil, tTup, tLst, tIf, tAnd, tOr, tNot, cTest, cTru, oTru, cAnd, cOr, cNot, cUn, cChain, gName, cTupG, gCons, gNil, gSub, oLt, oLe, oGt, oGe, oIs, oIsNot, oSub, oMul, oFdiv, oMod, oPow, cPar, cPar3, cAug, tDNewK, cCall, cAttr, frzE, List.mem_singleton, List.lookup_cons_self, List.getElem?_cons_zero, List.getElem?_cons_succ, List.set_cons_zero, List.set_cons_succ, Option.some.injEq, reduceCtorEq, if_true, if_false, Bool.true_eq_false, Bool.false_eq_true, decide_eq_true_eq, ite_true, ite_false, ↓reduceIte, List.length_cons, List.length_nil, true_and, and_true, exists_eq_left', exists_eq_left, List.cons.injEq]
        refine ⟨by simp only [sizeLine_eq]; omega, fun g2' hg2' => g5 _ _ ?_⟩
        have e4 : Ex H3 (upd H3 g2' (.tup [.str "told", u])) := Ex.refl.new hg2'
        have kg4 : (upd H3 g2' (.tup [.str "told", u])) g2' = some (.tup [.str "told", u]) := upd_same
        generalize upd H3 g2' (.tup [.str "told", u]) = H4 at e4 kg4 ⊢
        refine deed_there (n := n) (D3.ex e4) (B3.ex e4) hm hi kg4 ⟨by omega, w1⟩ fun rs' m' H' d' l' f' => h rs' m' H' d' l' ?_ ?_
        · exact ((B3.ex e4).fr f' (by simp [n1.symm, n2.symm, n3.symm, n4.symm])).mono (by omega)
        · exact (((F1.mono (by simp)).trans (F13.mono (by simp))).trans (Fr.ex e4)).trans (f'.mono (by simp))
      · exfalso
        rcases o with ⟨i', e, ho⟩ | ⟨k, hk, hm⟩
        · cases e; rw [hi] at ho; cases ho
        · cases hk
          rcases hm with hm | ⟨_, hm⟩
          · rw [kb_int_int] at hm; cases hm
          · rw [kb_int_bool] at hm; cases hm
    · refine s_law_is_there D3.T ⟨fun i' u' e hi => ?_, fun _ => ?_⟩ (.inr o)
      · exfalso
        subst e
        rcases o with ⟨i', e, ho⟩ | ⟨k, hk, hm⟩
        · cases e; rw [hi] at ho; cases ho
        · cases hk
          rcases hm with hm | ⟨_, hm⟩
          · rw [kb_int_int] at hm; cases hm
          · rw [kb_int_bool] at hm; cases hm
      · simp only [oTru, Bool.false_eq_true, if_false]
        refine hB3 _ ?_
        simp only [tNext]
        refine g5 _ _ (seq_ fun N6 g6 => ?_)
        have nt : ∀ {R : Bool → Hp → Prop} {σ : L2.St}, σ[5]? = some (some (.ref g)) → R false H3 → toldR K (SP K (n+5)) σ H3 R := fun hs q => told_ hs kg (by rw [show decide (("road" : Str) = "told") = false from by decide +kernel]; exact q)
        refine ifS_ fun A4 B4 hA4 hB4 => ?_
        refine nt rfl ?_
        simp only [Bool.false_eq_true, if_false]
        refine hB4 _ ?_
        simp only [tNext]
        refine g6 _ _ (seq_ fun N7 g7 => ?_)
        refine ifS_ fun A5 B5 hA5 hB5 => ?_
        refine nt rfl ?_
        simp only [Bool.false_eq_true, if_false]
        refine hB5 _ ?_
        simp only [tNext]
        refine g7 _ _ ?_
        refine deed_off (n := n) (b := b) hx D3 th3 o kg ?_ fun H' d' f' => h rs m H' d' (by omega) ?_ ?_
        · intro a za hm
          have sd1 := D1
          obtain ⟨⟨⟨dx, z1⟩, z2⟩, z3, z4, _⟩ := sd1
          obtain ⟨_, _, _, z5, _⟩ := B1
          simp only [List.mem_cons, List.not_mem_nil, or_false] at hm
          rcases hm with rfl | rfl | rfl | rfl | rfl <;> simp_all
        · obtain ⟨x1, x2, x3, x4, x5⟩ := B3
          obtain ⟨_, _, _, z5, _⟩ := B1
          exact Bx.mono ⟨x1, x2, x3, f' _ _ (by rw [z5]; simp) x4, x5⟩ (by omega)
        · intro a o na e
          have nb : a ∉ [b] := fun z => na (by rw [List.mem_singleton] at z; simp [z])
          exact f' _ _ (by rw [F1 _ _ nb e]; simp) (F13 _ _ nb (F1 _ _ nb e))
end
end WR.L

set_option Elab.async false
set_option linter.all false
set_option maxRecDepth 100000
set_option maxHeartbeats 4000000
namespace WR.L
open PySem PySem.Spec PyProof.Rows L2
theorem ok_w : ∀ w ∈ (["a", "bb", "ccc"] : List Str), PyData.strOk w = true := by decide +kernel
theorem ok_g : ∀ w ∈ (["a", "z"] : List Str), PyData.strOk w = true := by decide +kernel
theorem ok_u : ∀ w ∈ (["", "tea", Txt.mul "x" 60] : List Str), PyData.strOk w = true := by decide +kernel
section
variable {K : PySem.W.Frag} {n : Nat} {H : Hp} {Q : VK} {E : XK}
theorem Lt.dp {v : V} (h : Lt H v) : ∃ d, Dp K H v d ∧ d.canLay0 = true ∧ d.depth ≤ 10 := by
  obtain ⟨t, a, b, w, g, u, i, j, k, rfl, h1, h2, h3, hw, hg, hu, hi, hj, hk⟩ := h
  refine ⟨.tuple [.str w, .str g, .tuple [.str w, .int i, .int j, .str u], .tuple [.str g, .int k]], ?_, ?_, ?_⟩
  · refine .tup (.of h1) (.cons (.str _) (.cons (.str _) (.cons (.tup (.of h2) ?_) (.cons (.tup (.of h3) ?_) .nil))))
    · exact .cons (.str _) (.cons (.int _) (.cons (.int _) (.cons (.str _) .nil)))
    · exact .cons (.str _) (.cons (.int _) .nil)
  · simp only [PyData.canLay0, PyData.canLayAll0, ok_w _ hw, ok_g _ hg, ok_u _ hu, Bool.and_true, Bool.and_self]
  · simp [PyData.depth, PyData.depthAll]
theorem dp_lets : ∀ (vs : List V), (∀ v ∈ vs, Lt H v) → ∃ ds, DpAll K H vs ds ∧ PyData.canLayAll0 ds = true ∧ PyData.depthAll ds ≤ 10
  | [], _ => ⟨[], .nil, rfl, by simp [PyData.depthAll]⟩
  | v :: vs, h => by
    obtain ⟨d, h1, h2, h3⟩ := Lt.dp (K := K) (h v List.mem_cons_self)
    obtain ⟨ds, k1, k2, k3⟩ := dp_lets vs fun v hv => h v (List.mem_cons_of_mem _ hv)
    exact ⟨d :: ds, .cons h1 k1, by simp [PyData.canLayAll0, h2, k2], by simp [PyData.depthAll]; omega⟩
theorem eq_lets {g : G} {a b : Addr} {vs : List V} (hg : g.K = K) (ha : H a = some (.lst vs)) (hb : H b = some (.lst vs)) (hv : ∀ v ∈ vs, Lt H v) (q : Q (.bl true) H) : oEqG g (.ref a) (.ref b) H Q := by
  subst hg
  unfold oEqG
  rw [ins_lst (K := g.K) (look_of_lst ha)]
  obtain ⟨ds, h1, h2, h3⟩ := dp_lets (K := g.K) vs hv
  have sh : SeqAt.shaped (.list ds) = true := by
    refine Bool.and_eq_true_iff.mpr ⟨by rw [PyData.canLay0]; exact h2, decide_eq_true ?_⟩
    rw [PyData.depth]; omega
  refine .inl (.inr ⟨_, _, .lst (look_lst (look_of_lst ha)) h1, .lst (look_lst (look_of_lst hb)) h1, sh, sh, ?_⟩)
  rw [SeqAt.eqv_refl _ (SeqAt.canLay_of_shaped sh)]
  exact q
theorem s_law_right {p d s t : Addr} {rs : Rw} {m : Nat} (D : Sd K H p d s t rs m) (hm : m < 300) (h : ∀ H', Ex H H' → Q (.bl true) H') : SP K (n+4) "_law_right" [.ref p, .ref s] H Q E := by
  refine o__law_right ?_
  unfold r__law_right
  have gl := D.G.1
  obtain ⟨⟨dx, hp⟩, hd⟩ := id D.R
  refine seq_ fun N1 g1 => ?_
  simp only [tAsg]
  refine mC_own (c_numbers_0 K _) ?_ fun P P' hh q => mono_var hh q
  try simp only [tSeq, tIfS, tNext, tRet, tRetN, tDrop, tAsg, tC, cVar, tOp, tCB, tCons, tNil, tTup, tLst, tIf, tAnd, tOr, tNot, cTest, cTru, oTru, cAnd, cOr, cNot, cUn, cChain, gName, cTupG, gCons, gNil, gSub, oLt, oLe, oGt, oGe, oIs, oIsNot, oSub, oMul, oFdiv, oMod, oPow, cPar, cPar3, cAug, tDNewK, cCall, cAttr, frzE, List.mem_singleton, List.lookup_cons_self, List.getElem?_cons_zero, List.getElem?_cons_succ, List.set_cons_zero, List.set_cons_succ, Option.some.injEq, reduceCtorEq, if_true, if_false, Bool.true_eq_false, Bool.false_eq_true, decide_eq_true_eq, ite_true, ite_false, ↓reduceIte, List.length_cons, List.length_nil, true_and, and_true, exists_eq_left', exists_eq_left, List.cons.injEq]
  refine ⟨p, dx, _, rfl, hp, lk2 rfl rfl, ?_⟩
  refine s_numbers D.R fun l H1 fl e1 kl => g1 _ _ (seq_ fun N2 g2 => ?_)
  have D1 := D.ex e1
  have kl' : H1 l = some (.lst ((rs.map (·.1)).map V.int)) := by rw [kl, List.map_map]; rfl
  refine ifS_ fun A B hA hB => ?_
  simp only [tOr, cTest, tOp, tCB, tCons, tNil, cVar, tC, List.set_cons_zero, List.set_cons_succ, List.getElem?_cons_zero, List.getElem?_cons_succ]
  rw [ix_dS D1.S st_table]
  simp only [bList, look_of_dK (K := K) D1.T, dk_keys]
  intro l2 hl2
  have e2 : Ex H1 (upd H1 l2 (.lst (rs.map fun r => V.int r.1))) := Ex.refl.new hl2
  have k2 : (upd H1 l2 (.lst (rs.map fun r => V.int r.1))) l2 = some (.lst ((rs.map (·.1)).map V.int)) := by rw [upd_same, List.map_map]; rfl
  generalize upd H1 l2 (.lst (rs.map fun r => V.int r.1)) = H2 at e2 k2 ⊢
  have D2 := D1.ex e2
  refine ne_ints rfl (look_of_lst (e2 _ _ kl')) (look_of_lst k2) ?_
  simp only [decide_true, Bool.not_true, Bool.false_eq_true, if_false]
  refine len_own D2.R (by omega) ?_
  rw [ix_dS D2.S st_table, len_dK rfl D2.T, dk_len]
  refine ne_scal rfl rfl rfl ?_
  simp only [decide_true, Bool.not_true, Bool.false_eq_true, if_false]
  refine hB _ ?_
  simp only [tNext]
  have kl2 := e2 _ _ kl'
  have nl : ∀ a o, H a = some o → a ≠ l := fun a o e z => by rw [z, fl] at e; cases e
  refine g2 _ _ (seq_ fun N3 g3 => ?_)
  simp only [tDrop]
  refine mC_blt ?_ fun P P' hh q => mono_var hh q
  try simp only [tSeq, tIfS, tNext, tRet, tRetN, tDrop, tAsg, tC, cVar, tOp, tCB, tCons, tNil, tTup, tLst, tIf, tAnd, tOr, tNot, cTest, cTru, oTru, cAnd, cOr, cNot, cUn, cChain, gName, cTupG, gCons, gNil, gSub, oLt, oLe, oGt, oGe, oIs, oIsNot, oSub, oMul, oFdiv, oMod, oPow, cPar, cPar3, cAug, tDNewK, cCall, cAttr, frzE, List.mem_singleton, List.lookup_cons_self, List.getElem?_cons_zero, List.getElem?_cons_succ, List.set_cons_zero, List.set_cons_succ, Option.some.injEq, reduceCtorEq, if_true, if_false, Bool.true_eq_false, Bool.false_eq_true, decide_eq_true_eq, ite_true, ite_false, ↓reduceIte, List.length_cons, List.length_nil, true_and, and_true, exists_eq_left', exists_eq_left, List.cons.injEq]
  refine ⟨ins_lst (K := K) (look_of_lst kl2), "list", tyB_lst (look_of_lst kl2), _, b_append, ?_⟩
  simp only [mAppend, kl2, tSeq, tIfS, tNext, tRet, tRetN, tDrop, tAsg, tC, cVar, tOp, tCB, tCons, tNil, tTup, tLst, tIf, tAnd, tOr, tNot, cTest, cTru, oTru, cAnd, cOr, cNot, cUn, cChain, gName, cTupG, gCons, gNil, gSub, oLt, oLe, oGt, oGe, oIs, oIsNot, oSub, oMul, oFdiv, oMod, oPow, cPar, cPar3, cAug, tDNewK, cCall, cAttr, frzE, List.mem_singleton, List.lookup_cons_self, List.getElem?_cons_zero, List.getElem?_cons_succ, List.set_cons_zero, List.set_cons_succ, Option.some.injEq, reduceCtorEq, if_true, if_false, Bool.true_eq_false, Bool.false_eq_true, decide_eq_true_eq, ite_true, ite_false, ↓reduceIte, List.length_cons, List.length_nil, true_and, and_true, exists_eq_left', exists_eq_left, List.cons.injEq]
  refine ⟨by simp only [List.length_map, sizeLine_eq]; omega, g3 _ _ (seq_ fun N4 g4 => ?_)⟩
  have e3 : Ex H (upd H2 l (.lst ((rs.map (·.1)).map V.int ++ [V.int 0]))) := fun a o e => by rw [upd_ne (nl a o e)]; exact e2 _ _ (e1 _ _ e)
  have k3 : (upd H2 l (.lst ((rs.map (·.1)).map V.int ++ [V.int 0]))) l = some (.lst ((rs.map (·.1)).map V.int ++ [V.int 0])) := upd_same
  generalize upd H2 l (.lst ((rs.map (·.1)).map V.int ++ [V.int 0])) = H3 at e3 k3 ⊢
  simp only [tDrop]
  refine mC_blt ?_ fun P P' hh q => mono_var hh q
  try simp only [tSeq, tIfS, tNext, tRet, tRetN, tDrop, tAsg, tC, cVar, tOp, tCB, tCons, tNil, tTup, tLst, tIf, tAnd, tOr, tNot, cTest, cTru, oTru, cAnd, cOr, cNot, cUn, cChain, gName, cTupG, gCons, gNil, gSub, oLt, oLe, oGt, oGe, oIs, oIsNot, oSub, oMul, oFdiv, oMod, oPow, cPar, cPar3, cAug, tDNewK, cCall, cAttr, frzE, List.mem_singleton, List.lookup_cons_self, List.getElem?_cons_zero, List.getElem?_cons_succ, List.set_cons_zero, List.set_cons_succ, Option.some.injEq, reduceCtorEq, if_true, if_false, Bool.true_eq_false, Bool.false_eq_true, decide_eq_true_eq, ite_true, ite_false, ↓reduceIte, List.length_cons, List.length_nil, true_and, and_true, exists_eq_left', exists_eq_left, List.cons.injEq]
  refine ⟨ins_lst (K := K) (look_of_lst k3), "list", tyB_lst (look_of_lst k3), _, b_reverse, ?_⟩
  simp only [mReverse, k3, tSeq, tIfS, tNext, tRet, tRetN, tDrop, tAsg, tC, cVar, tOp, tCB, tCons, tNil, tTup, tLst, tIf, tAnd, tOr, tNot, cTest, cTru, oTru, cAnd, cOr, cNot, cUn, cChain, gName, cTupG, gCons, gNil, gSub, oLt, oLe, oGt, oGe, oIs, oIsNot, oSub, oMul, oFdiv, oMod, oPow, cPar, cPar3, cAug, tDNewK, cCall, cAttr, frzE, List.mem_singleton, List.lookup_cons_self, List.getElem?_cons_zero, List.getElem?_cons_succ, List.set_cons_zero, List.set_cons_succ, Option.some.injEq, reduceCtorEq, if_true, if_false, Bool.true_eq_false, Bool.false_eq_true, decide_eq_true_eq, ite_true, ite_false, ↓reduceIte, List.length_cons, List.length_nil, true_and, and_true, exists_eq_left', exists_eq_left, List.cons.injEq]
  refine g4 _ _ ?_
  have e4 : Ex H (upd H3 l (.lst ((rs.map (·.1)).map V.int ++ [V.int 0]).reverse)) := fun a o e => by rw [upd_ne (nl a o e)]; exact e3 _ _ e
  generalize upd H3 l (.lst ((rs.map (·.1)).map V.int ++ [V.int 0]).reverse) = H4 at e4 ⊢
  have D4 := D.ex e4
  simp only [tRet, tOp]
  refine .inl ?_
  simp only [cLc, cIter, frzE]
  refine mC_own (c_numbers_0 K _) ?_ fun P P' hh q => mono_var hh q
  try simp only [tSeq, tIfS, tNext, tRet, tRetN, tDrop, tAsg, tC, cVar, tOp, tCB, tCons, tNil, tTup, tLst, tIf, tAnd, tOr, tNot, cTest, cTru, oTru, cAnd, cOr, cNot, cUn, cChain, gName, cTupG, gCons, gNil, gSub, oLt, oLe, oGt, oGe, oIs, oIsNot, oSub, oMul, oFdiv, oMod, oPow, cPar, cPar3, cAug, tDNewK, cCall, cAttr, frzE, List.mem_singleton, List.lookup_cons_self, List.getElem?_cons_zero, List.getElem?_cons_succ, List.set_cons_zero, List.set_cons_succ, Option.some.injEq, reduceCtorEq, if_true, if_false, Bool.true_eq_false, Bool.false_eq_true, decide_eq_true_eq, ite_true, ite_false, ↓reduceIte, List.length_cons, List.length_nil, true_and, and_true, exists_eq_left', exists_eq_left, List.cons.injEq]
  refine ⟨p, dx, _, rfl, e4 _ _ hp, lk2 rfl rfl, ?_⟩
  refine s_numbers D4.R fun q H5 fq e5 kq => ?_
  simp only [kq, look_of_lst kq]
  intro L hL
  have e45 := e4.trans e5
  have kq' : H5 q = some (.lst ((rs.map (·.1)).map V.int)) := by rw [kq, List.map_map]; rfl
  refine lpc_inv (n := rs.length) (fun j H' => Ex H5 H' ∧ H' L = some (.lst ((rs.take j).map (·.2)))) ?_ ?_ ⟨Ex.refl.new hL, by rw [upd_same]; rfl⟩
  · rintro H' ⟨x1, x2⟩
    refine ⟨itl_stop (x1 _ _ kq') (by simp), ?_⟩
    rw [List.take_length] at x2
    have D5 := D.ex (e45.trans x1)
    simp only [cLV, tOp, cVar, tC, List.getElem?_cons_zero, List.getElem?_cons_succ]
    rw [ix_dS D5.S st_table]
    simp only [D5.T, dk_vals]
    intro z hz
    have ez : Ex H' (upd H' z (.lst (rs.map fun r => r.2))) := Ex.refl.new hz
    refine eq_lets rfl (ez _ _ x2) upd_same (fun v hv => ?_) (h _ ((e45.trans x1).trans ez))
    obtain ⟨r, hr, rfl⟩ := List.mem_map.mp hv
    exact (D5.G.2.1 r hr).2.2.tp ez.tp
  · rintro j H' hj ⟨x1, x2⟩ R hR
    refine ⟨itl_go (x1 _ _ kq') (by simpa using hj), ?_⟩
    intro x H6 hy
    obtain ⟨rfl, hx⟩ := itl_yld (x1 _ _ kq') hy
    have D5 := D.ex (e45.trans x1)
    rw [List.getElem?_map, List.getElem?_map, List.getElem?_eq_getElem hj] at hx
    simp only [Option.map_some, Option.some.injEq] at hx
    subst hx
    simp only [gName, wipe, List.set_cons_zero, List.set_cons_succ, tYes, if_true, List.foldl_cons, List.foldl_nil]
    refine ⟨(by first | rfl | trivial), ?_⟩
    refine mC_own (c_letter_1 K _) ?_ fun P P' hh q => mono_var hh q
    try simp only [tSeq, tIfS, tNext, tRet, tRetN, tDrop, tAsg, tC, cVar, tOp, tCB, tCons, tNil, tTup, tLst, tIf, tAnd, tOr, tNot, cTest, cTru, oTru, cAnd, cOr, cNot, cUn, cChain, gName, cTupG, gCons, gNil, gSub, oLt, oLe, oGt, oGe, oIs, oIsNot, oSub, oMul, oFdiv, oMod, oPow, cPar, cPar3, cAug, tDNewK, cCall, cAttr, frzE, List.mem_singleton, List.lookup_cons_self, List.getElem?_cons_zero, List.getElem?_cons_succ, List.set_cons_zero, List.set_cons_succ, Option.some.injEq, reduceCtorEq, if_true, if_false, Bool.true_eq_false, Bool.false_eq_true, decide_eq_true_eq, ite_true, ite_false, ↓reduceIte, List.length_cons, List.length_nil, true_and, and_true, exists_eq_left', exists_eq_left, List.cons.injEq]
    refine ⟨p, dx, _, rfl, (e45.trans x1) _ _ hp, lk2 rfl rfl, ?_⟩
    refine s_letter D5.R D5.G (rg_of D5.G.2.2 (List.getElem_mem hj)) ⟨_, x2, ?_, hR _ ⟨?_, ?_⟩⟩
    · simp only [List.length_map, List.length_take, sizeLine_eq]; omega
    · intro a o e
      by_cases hb : a = L
      · subst hb; rw [hL] at e; cases e
      · rw [upd_ne hb]; exact x1 a o e
    · rw [upd_same, List.take_add_one, List.getElem?_eq_getElem hj, List.map_append]; rfl
end
end WR.L

set_option Elab.async false
set_option linter.all false
set_option maxRecDepth 100000
set_option maxHeartbeats 4000000
namespace WR.L
open PySem PySem.Spec PyProof.Rows L2
section
variable {K : PySem.W.Frag} {n : Nat} {H : Hp} {Q : VK} {E : XK}
theorem s_init {p dx : Addr} (hp : H p = some (.ins (He.ga K "Roads") dx [])) (h : ∀ d H', RdAt K H' p d [] 0 → H d = none → (∀ b o, b ≠ p → H b = some o → H' b = some o) → Q .non H') : SP K (n+1) "Roads.__init__" [.ref p] H Q E := by
  refine o_Roads___init__ ?_
  unfold r_Roads___init__
  refine seq_ fun N1 g1 => ?_
  simp only [cFldS, tDNewK, cVar, List.getElem?_cons_zero]
  intro d hd
  have ndp : p ≠ d := fun z => by rw [z, hd] at hp; cases hp
  simp only [upd_ne ndp, hp]
  refine ⟨List.mem_singleton_self _, by simp, g1 _ _ ?_⟩
  simp only [cFldS, tC, cVar, List.getElem?_cons_zero, upd_same]
  refine ⟨List.mem_singleton_self _, by simp [putF], ?_⟩
  refine h d _ ⟨⟨dx, ?_⟩, ?_⟩ hd ?_
  · rw [upd_same]; rfl
  · rw [upd_ne ndp.symm, upd_ne ndp.symm, upd_same]; rfl
  · intro b o nb e
    rw [upd_ne nb, upd_ne nb, upd_ne (ne_of_none e hd)]; exact e
theorem mk_roads {σ : L2.St} {W : WX} (h : ∀ p d H', Ex H H' → H p = none → H d = none → p ≠ d → RdAt K H' p d [] 0 → Q (.ref p) H') : cMk (He.ga K "Roads") 0 0 (fun vs _ => vs) (SP K (n+1) "Roads.__init__") tNil tNil W σ H Q := by
  simp only [cMk, tNil]
  refine ⟨rfl, rfl, fun x dx hx hdx ne => ?_⟩
  refine s_init (dx := dx) upd_same fun d0 H1 W1 hd0 k1 => ⟨rfl, ?_⟩
  have ex1 : Ex H H1 := fun b o e => k1 b o (ne_of_none e hx) (by rw [upd_ne (ne_of_none e hx), upd_ne (ne_of_none e hdx)]; exact e)
  have nxd : x ≠ d0 := fun z => by rw [← z, upd_same] at hd0; cases hd0
  have hd : H d0 = none := by
    cases e : H d0 with
    | none => rfl
    | some o =>
      rw [upd_ne nxd.symm] at hd0
      by_cases h2 : d0 = dx
      · rw [h2, upd_same] at hd0; cases hd0
      · rw [upd_ne h2, e] at hd0; cases hd0
  exact h x d0 H1 ex1 hx hd nxd W1
theorem s_copied {p d : Addr} {rs : Rw} {m : Nat} (R : RdAt K H p d rs m) (h : ∀ p' d' H', Ex H H' → H p' = none → H d' = none → RdAt K H' p' d' rs m → Q (.ref p') H') : SP K (n+2) "Roads.copied" [.ref p] H Q E := by
  refine o_Roads_copied ?_
  unfold r_Roads_copied
  refine seq_ fun N1 g1 => ?_
  simp only [tAsg]
  refine mk_roads fun p' d0 H1 e1 fp fd npd R1 => g1 _ _ (seq_ fun N2 g2 => ?_)
  have Ra := R.ex e1
  obtain ⟨⟨dx, hp⟩, hd⟩ := id Ra
  obtain ⟨⟨dx1, hp1⟩, hd1⟩ := id R1
  simp only [cFldS, cAttr, ins_ins hp, tCB, tCons, tNil, gName, cVar, bDict, look_of_dK (K := K) hd, List.lookup_cons_self, List.set_cons_zero, List.set_cons_succ, List.getElem?_cons_zero, List.getElem?_cons_succ]
  refine ⟨List.mem_singleton_self _, fun l hl => ?_⟩
  have npl : p' ≠ l := ne_of_none hp1 hl
  simp only [upd_ne npl, hp1]
  refine ⟨List.mem_singleton_self _, by simp, g2 _ _ (seq_ fun N3 g3 => ?_)⟩
  rw [show putF "by_number" (V.ref l) [(("by_number" : Str), V.ref d0), (("last_number" : Str), V.int ((0 : Nat) : Int))] = [(("by_number" : Str), V.ref l), (("last_number" : Str), V.int ((0 : Nat) : Int))] from rfl]
  have npp : p ≠ p' := by obtain ⟨⟨_, q⟩, _⟩ := id R; exact ne_of_none q fp
  have ndp : d ≠ p' := fun z => by rw [z, hp1] at hd; cases hd
  have e2 : Ex H (upd (upd H1 l (.dK (dk rs))) p' (.ins (He.ga K "Roads") dx1 [("by_number", .ref l), ("last_number", .int ((0 : Nat) : Int))])) := fun b o e => by
    rw [upd_ne (ne_of_none e fp), upd_ne (ne_of_none (e1 _ _ e) hl)]; exact e1 _ _ e
  have k2 : (upd (upd H1 l (.dK (dk rs))) p' (.ins (He.ga K "Roads") dx1 [("by_number", .ref l), ("last_number", .int ((0 : Nat) : Int))])) p' = some (.ins (He.ga K "Roads") dx1 [("by_number", .ref l), ("last_number", .int ((0 : Nat) : Int))]) := upd_same
  have l2 : (upd (upd H1 l (.dK (dk rs))) p' (.ins (He.ga K "Roads") dx1 [("by_number", .ref l), ("last_number", .int ((0 : Nat) : Int))])) l = some (.dK (dk rs)) := by rw [upd_ne npl.symm, upd_same]
  generalize upd (upd H1 l (.dK (dk rs))) p' (.ins (He.ga K "Roads") dx1 [("by_number", .ref l), ("last_number", .int ((0 : Nat) : Int))]) = H2 at e2 k2 l2 ⊢
  have R2 := R.ex e2
  obtain ⟨⟨dx2, hp2⟩, hd2⟩ := id R2
  simp only [cFldS, cAttr, ins_ins hp2, lk_last, cVar, List.set_cons_zero, List.set_cons_succ, List.getElem?_cons_zero, List.getElem?_cons_succ, k2]
  refine ⟨List.mem_singleton_self _, List.mem_singleton_self _, by simp, g3 _ _ ?_⟩
  rw [show putF "last_number" (V.int (m : Int)) [(("by_number" : Str), V.ref l), (("last_number" : Str), V.int ((0 : Nat) : Int))] = [(("by_number" : Str), V.ref l), (("last_number" : Str), V.int m)] from rfl]
  try simp only [tSeq, tIfS, tNext, tRet, tRetN, tDrop, tAsg, tC, cVar, tOp, tCB, tCons, tNil, tTup, tLst, tIf, tAnd, tOr, tNot, cTest, cTru, oTru, cAnd, cOr, cNot, cUn, cChain, gName, cTupG, gCons, gNil, gSub, oLt, oLe, oGt, oGe, oIs, oIsNot, oSub, oMul, oFdiv, oMod, oPow, cPar, cPar3, cAug, tDNewK, cCall, cAttr, frzE, List.mem_singleton, List.lookup_cons_self, List.getElem?_cons_zero, List.getElem?_cons_succ, List.set_cons_zero, List.set_cons_succ, Option.some.injEq, reduceCtorEq, if_true, if_false, Bool.true_eq_false, Bool.false_eq_true, decide_eq_true_eq, ite_true, ite_false, ↓reduceIte, List.length_cons, List.length_nil, true_and, and_true, exists_eq_left', exists_eq_left, List.cons.injEq]
  refine h p' l _ (fun b o e => ?_) fp (Ex.none e1 hl) ⟨⟨dx1, upd_same⟩, ?_⟩
  · rw [upd_ne (ne_of_none e fp)]; exact e2 _ _ e
  · rw [upd_ne npl.symm]; exact l2
end
end WR.L

set_option Elab.async false
set_option linter.all false
set_option maxRecDepth 100000
set_option maxHeartbeats 4000000
namespace WR.L
open PySem PySem.Spec PyProof.Rows L2
def fu {α : Type} (f : Bool → α) (w : Bool) (x : α) : Bool → α := fun v => if v = w then x else f v
theorem fu_same {α : Type} {f : Bool → α} {w : Bool} {x : α} : fu f w x w = x := by simp [fu]
theorem fu_ne {α : Type} {f : Bool → α} {w v : Bool} {x : α} (h : v ≠ w) : fu f w x v = f v := by simp [fu, h]
def bi (w : Bool) : Int := if w then 1 else 0
/-- two sides -/
structure Two (K : PySem.W.Frag) (H : Hp) (a : Addr) (ns : List Int) (bl sl : Addr) (p d s t : Bool → Addr) (rs : Bool → Rw) (m : Bool → Nat) (M : Nat) : Prop where
  A : ∃ o, H a = some (.frz o (.lst (ns.map V.int)))
  both : H bl = some (.lst [.ref (p false), .ref (p true)])
  sts : H sl = some (.lst [.ref (s false), .ref (s true)])
  D : ∀ w, Sd K H (p w) (d w) (s w) (t w) (rs w) (m w)
  hm : ∀ w, m w ≤ M
  ne : ∀ v w, v ≠ w → p v ≠ p w ∧ d v ≠ d w ∧ d v ≠ t w ∧ d v ≠ s w ∧ s v ≠ s w ∧ s v ≠ t w ∧ t v ≠ t w
section
variable {K : PySem.W.Frag} {n : Nat} {H H' : Hp} {Q : VK} {E : XK} {a bl sl b : Addr} {ns : List Int} {p d s t : Bool → Addr} {rs : Bool → Rw} {m : Bool → Nat} {M N : Nat}
theorem Two.ex (x : Ex H H') (T : Two K H a ns bl sl p d s t rs m M) : Two K H' a ns bl sl p d s t rs m M :=
  ⟨by obtain ⟨o, e⟩ := T.A; exact ⟨o, x _ _ e⟩, x _ _ T.both, x _ _ T.sts, fun w => (T.D w).ex x, T.hm, T.ne⟩
theorem Two.mono (T : Two K H a ns bl sl p d s t rs m M) {M' : Nat} (l : M ≤ M') : Two K H a ns bl sl p d s t rs m M' :=
  ⟨T.A, T.both, T.sts, T.D, fun w => Nat.le_trans (T.hm w) l, T.ne⟩
theorem two_w {f : Bool → Addr} {w : Bool} (h : H bl = some (.lst [.ref (f false), .ref (f true)])) (q : Q (.ref (f w)) H) : oIx K (.ref bl) (.int (bi w)) H Q := by
  cases w
  · rw [show bi false = 0 from rfl, ix_lst (look_of_lst h) (v := .ref (f false)) rfl]; exact q
  · rw [show bi true = 1 from rfl, ix_lst (look_of_lst h) (v := .ref (f true)) rfl]; exact q
theorem set_w {f : Bool → Addr} {w : Bool} {x : Addr} {R : Hp → Prop} (h : H bl = some (.lst [.ref (f false), .ref (f true)])) (q : R (upd H bl (.lst [.ref (fu f (!w) x false), .ref (fu f (!w) x true)]))) : oSet (.ref bl) (.int (1 - bi w)) (.ref x) H R := by
  cases w
  · simp only [oSet, h, show (1 : Int) - bi false = 1 from rfl]
    exact q
  · simp only [oSet, h, show (1 : Int) - bi true = 0 from rfl]
    exact q
/-- what a deed leaves -/
theorem Two.deed (T : Two K H a ns bl sl p d s t rs m M) (B : Bx H b N) (n1 : bl ≠ b) (n2 : sl ≠ b) {w : Bool} {rs' : Rw} {m' : Nat} (D' : Sd K H' (p w) (d w) (s w) (t w) rs' m') (l : m' ≤ m w + 1) (F : Fr [p w, d w, s w, t w, b] H H') :
    Two K H' a ns bl sl p d s t (fu rs w rs') (fu m w m') (M + 1) := by
  obtain ⟨o, hA⟩ := T.A
  obtain ⟨⟨⟨dx, e1⟩, e2⟩, e3, e4, _⟩ := id (T.D w)
  obtain ⟨_, _, _, e5, _⟩ := id B
  have out : ∀ {x : Addr} {u : HO}, H x = some u → (∀ C dx fs, u ≠ .ins C dx fs) → (∀ kv, u ≠ .dK kv) → x ≠ b → x ∉ [p w, d w, s w, t w, b] := by
    intro x u e h1 h2 h3 hm
    simp only [List.mem_cons, List.not_mem_nil, or_false] at hm
    rcases hm with rfl | rfl | rfl | rfl | rfl
    · rw [e1] at e; cases e; exact h1 _ _ _ rfl
    · rw [e2] at e; cases e; exact h2 _ rfl
    · rw [e3] at e; cases e; exact h2 _ rfl
    · rw [e4] at e; cases e; exact h2 _ rfl
    · exact h3 rfl
  have nA : a ≠ b := fun z => by rw [z, e5] at hA; cases hA
  refine ⟨⟨o, F _ _ (out hA (fun _ _ _ z => nomatch z) (fun _ z => nomatch z) nA) hA⟩, F _ _ (out T.both (fun _ _ _ z => nomatch z) (fun _ z => nomatch z) n1) T.both, F _ _ (out T.sts (fun _ _ _ z => nomatch z) (fun _ z => nomatch z) n2) T.sts, fun v => ?_, fun v => ?_, T.ne⟩
  · by_cases h : v = w
    · subst h; rw [fu_same, fu_same]; exact D'
    · rw [fu_ne h, fu_ne h]
      obtain ⟨k1, k2, k3, k4, k5, k6, k7⟩ := T.ne v w h
      obtain ⟨_, j2, _, j4, _⟩ := T.ne w v (Ne.symm h)
      have j3 := (T.ne w v (Ne.symm h)).2.2.1
      have j6 := (T.ne w v (Ne.symm h)).2.2.2.2.2.1
      obtain ⟨b1, b2, b3, b4, b5, b6, b7⟩ := (T.D v).nb B
      obtain ⟨⟨⟨dy, f1⟩, f2⟩, f3, f4, _⟩ := id (T.D v)
      have q1 : p v ≠ d w := fun z => by rw [z, e2] at f1; cases f1
      have q2 : p v ≠ s w := fun z => by rw [z, e3] at f1; cases f1
      have q3 : p v ≠ t w := fun z => by rw [z, e4] at f1; cases f1
      have q4 : d v ≠ p w := fun z => by rw [z, e1] at f2; cases f2
      have q5 : s v ≠ p w := fun z => by rw [z, e1] at f3; cases f3
      have q6 : t v ≠ p w := fun z => by rw [z, e1] at f4; cases f4
      refine (T.D v).fr F (by simp [k1, q1, q2, q3, b1]) (by simp [q4, k2, k4, k3, b2]) (by simp [q5, j4.symm, k5, k6, b3]) (by simp [q6, j3.symm, j6.symm, k7, b4]) (tps_fr F fun x hx => ?_)
      simp only [List.mem_cons, List.not_mem_nil, or_false] at hx
      rcases hx with rfl | rfl | rfl | rfl | rfl
      · exact ⟨_, e1, fun _ z => nomatch z⟩
      · exact ⟨_, e2, fun _ z => nomatch z⟩
      · exact ⟨_, e3, fun _ z => nomatch z⟩
      · exact ⟨_, e4, fun _ z => nomatch z⟩
      · exact ⟨_, e5, fun _ z => nomatch z⟩
  · by_cases h : v = w
    · subst h; rw [fu_same]; have := T.hm v; omega
    · rw [fu_ne h]; have := T.hm v; omega
end
end WR.L

set_option Elab.async false
set_option linter.all false
set_option maxRecDepth 100000
set_option maxHeartbeats 4000000
namespace WR.L
open PySem PySem.Spec PyProof.Rows L2
section
variable {K : PySem.W.Frag} {n : Nat} {H H' : Hp} {Q : VK} {E : XK} {a bl sl b : Addr} {ns : List Int} {p d s t : Bool → Addr} {rs : Bool → Rw} {m : Bool → Nat} {M N : Nat}
theorem Two.copy (T : Two K H a ns bl sl p d s t rs m M) (nbs : bl ≠ sl) {w : Bool} {p' d' s' t' : Addr} {H1 H5 : Hp} (e1 : Ex H H1) (fp : H p' = none) (fd : H d' = none) (R : RdAt K H1 p' d' (rs w) (m w))
    (e5 : Ex (upd H1 bl (.lst [.ref (fu p (!w) p' false), .ref (fu p (!w) p' true)])) H5) (fs : (upd H1 bl (.lst [.ref (fu p (!w) p' false), .ref (fu p (!w) p' true)])) s' = none) (ft : (upd H1 bl (.lst [.ref (fu p (!w) p' false), .ref (fu p (!w) p' true)])) t' = none) (nst : s' ≠ t')
    (ks : H5 s' = some (.dK [(.inr "last", .int (m w)), (.inr "table", .ref t')])) (kt : H5 t' = some (.dK (dk (rs w)))) :
    Two K (upd H5 sl (.lst [.ref (fu s (!w) s' false), .ref (fu s (!w) s' true)])) a ns bl sl (fu p (!w) p') (fu d (!w) d') (fu s (!w) s') (fu t (!w) t') (fu rs (!w) (rs w)) (fu m (!w) (m w)) M := by
  have hb1 := e1 _ _ T.both
  have hs1 := e1 _ _ T.sts
  have kb2 : (upd H1 bl (.lst [.ref (fu p (!w) p' false), .ref (fu p (!w) p' true)])) bl = some (.lst [.ref (fu p (!w) p' false), .ref (fu p (!w) p' true)]) := upd_same
  have f2 : ∀ x o, x ≠ bl → H1 x = some o → (upd H1 bl (.lst [.ref (fu p (!w) p' false), .ref (fu p (!w) p' true)])) x = some o := fun x o n e => by rw [upd_ne n]; exact e
  generalize upd H1 bl (.lst [.ref (fu p (!w) p' false), .ref (fu p (!w) p' true)]) = H2 at e5 fs ft kb2 f2
  have F : Fr [bl, sl] H (upd H5 sl (.lst [.ref (fu s (!w) s' false), .ref (fu s (!w) s' true)])) := fun x o nx e => by
    simp only [List.mem_cons, List.not_mem_nil, or_false, not_or] at nx
    rw [upd_ne nx.2]
    exact e5 _ _ (f2 _ _ nx.1 (e1 _ _ e))
  have old : ∀ {x : Addr} {o : HO}, H x = some o → (∀ l, o ≠ .lst l) → x ∉ [bl, sl] := by
    intro x o e h hm
    simp only [List.mem_cons, List.not_mem_nil, or_false] at hm
    rcases hm with rfl | rfl
    · rw [T.both] at e; cases e; exact h _ rfl
    · rw [T.sts] at e; cases e; exact h _ rfl
  have fs0 : H s' = none := by
    cases q : H s' with
    | none => rfl
    | some o =>
      have : s' ≠ bl := fun z => by rw [z, kb2] at fs; cases fs
      rw [f2 _ _ this (e1 _ _ q)] at fs; cases fs
  have ft0 : H t' = none := by
    cases q : H t' with
    | none => rfl
    | some o =>
      have : t' ≠ bl := fun z => by rw [z, kb2] at ft; cases ft
      rw [f2 _ _ this (e1 _ _ q)] at ft; cases ft
  have npb : p' ≠ bl := (ne_of_none T.both fp).symm
  have ndb : d' ≠ bl := (ne_of_none T.both fd).symm
  have nps : p' ≠ sl := (ne_of_none T.sts fp).symm
  have nds : d' ≠ sl := (ne_of_none T.sts fd).symm
  have nss : s' ≠ sl := (ne_of_none T.sts fs0).symm
  have nts : t' ≠ sl := (ne_of_none T.sts ft0).symm
  obtain ⟨⟨dx, r1⟩, r2⟩ := R
  have ntup : Tps H (upd H5 sl (.lst [.ref (fu s (!w) s' false), .ref (fu s (!w) s' true)])) := tps_fr F fun x hx => by
    simp only [List.mem_cons, List.not_mem_nil, or_false] at hx
    rcases hx with rfl | rfl
    · exact ⟨_, T.both, fun _ z => nomatch z⟩
    · exact ⟨_, T.sts, fun _ z => nomatch z⟩
  have nds' : d' ≠ s' := ne_of_none (f2 _ _ ndb r2) fs
  have ndt' : d' ≠ t' := ne_of_none (f2 _ _ ndb r2) ft
  have Dn : Sd K (upd H5 sl (.lst [.ref (fu s (!w) s' false), .ref (fu s (!w) s' true)])) p' d' s' t' (rs w) (m w) := by
    refine ⟨⟨⟨dx, ?_⟩, ?_⟩, ?_, ?_, (T.D w).G.tp ntup, ndt', nds'.symm, nst⟩
    · rw [upd_ne nps]; exact e5 _ _ (f2 _ _ npb r1)
    · rw [upd_ne nds]; exact e5 _ _ (f2 _ _ ndb r2)
    · rw [upd_ne nss]; exact ks
    · rw [upd_ne nts]; exact kt
  have keep : ∀ v, Sd K (upd H5 sl (.lst [.ref (fu s (!w) s' false), .ref (fu s (!w) s' true)])) (p v) (d v) (s v) (t v) (rs v) (m v) := fun v => by
    obtain ⟨⟨⟨dy, f1⟩, f2'⟩, f3, f4, _⟩ := id (T.D v)
    exact (T.D v).fr F (old f1 fun _ z => nomatch z) (old f2' fun _ z => nomatch z) (old f3 fun _ z => nomatch z) (old f4 fun _ z => nomatch z) ntup
  obtain ⟨o, hA⟩ := T.A
  refine ⟨⟨o, F _ _ (old hA fun _ z => nomatch z) hA⟩, ?_, upd_same, fun v => ?_, fun v => ?_, fun v w0 h => ?_⟩
  · rw [upd_ne nbs]; exact e5 _ _ kb2
  · by_cases h : v = !w
    · subst h; simp only [fu_same]; exact Dn
    · simp only [fu_ne h]; exact keep v
  · by_cases h : v = !w
    · subst h; rw [fu_same]; exact T.hm w
    · rw [fu_ne h]; exact T.hm v
  · by_cases h1 : v = !w
    · subst h1
      have h2 : w0 ≠ !w := Ne.symm h
      simp only [fu_same, fu_ne h2]
      obtain ⟨⟨⟨dy, f1⟩, f2'⟩, f3, f4, _⟩ := id (T.D w0)
      exact ⟨(ne_of_none f1 fp).symm, (ne_of_none f2' fd).symm, (ne_of_none f4 fd).symm, (ne_of_none f3 fd).symm, (ne_of_none f3 fs0).symm, (ne_of_none f4 fs0).symm, (ne_of_none f4 ft0).symm⟩
    · simp only [fu_ne h1]
      by_cases h2 : w0 = !w
      · subst h2
        simp only [fu_same]
        obtain ⟨⟨⟨dy, f1⟩, f2'⟩, f3, f4, _⟩ := id (T.D v)
        exact ⟨ne_of_none f1 fp, ne_of_none f2' fd, ne_of_none f2' ft0, ne_of_none f2' fs0, ne_of_none f3 fs0, ne_of_none f3 ft0, ne_of_none f4 ft0⟩
      · simp only [fu_ne h2]
        exact T.ne v w0 h
/-- a copy takes the place of the other one -/
theorem copy_ {v5 : Option V} {k : V} {w : Bool} {W : WX} {D : Ends} (T : Two K H a ns bl sl p d s t rs m M) (nbs : bl ≠ sl)
    (h : ∀ p' d' s' t' rs' m' H', Two K H' a ns bl sl p' d' s' t' rs' m' M → (∀ x o, x ≠ bl → x ≠ sl → H x = some o → H' x = some o) → D.nx [some (.ref a), some (.ref bl), some (.ref sl), some k, some (.ref b), v5, some (.int (bi w))] H') :
    tSeq (tAsg (mC (gg K (SP K (n+2))) "copied" 0 0 [] (tOp (oIx K) (cVar 1) (cVar 6)) tNil tNil W) (gSub (cVar 1) (tOp oSub (tC (.int 1)) (cVar 6)) oSet))
  (tAsg (tDisp [((tC (.str "last")), (tOp (oIx K) (tOp (oIx K) (cVar 2) (cVar 6)) (tC (.str "last")))), ((tC (.str "table")), (tCB (bDict K) (tCons (tOp (oIx K) (tOp (oIx K) (cVar 2) (cVar 6)) (tC (.str "table"))) tNil)))]) (gSub (cVar 2) (tOp oSub (tC (.int 1)) (cVar 6)) oSet)) D [some (.ref a), some (.ref bl), some (.ref sl), some k, some (.ref b), v5, some (.int (bi w))] H := by
  refine seq_ fun N1 g1 => ?_
  simp only [tAsg]
  refine mC_own (c_copied_0 K _) ?_ fun P P' hh q => mono_ix hh q
  try simp only [tSeq, tIfS, tNext, tRet, tRetN, tDrop, tAsg, tC, cVar, tOp, tCB, tCons, tNil, tTup, tLst, tIf, tAnd, tOr, tNot, cTest, cTru, oTru, cAnd, cOr, cNot, cUn, cChain, gName, cTupG, gCons, gNil, gSub, oLt, oLe, oGt, oGe, oIs, oIsNot, oSub, oMul, oFdiv, oMod, oPow, cPar, cPar3, cAug, tDNewK, cCall, cAttr, frzE, List.mem_singleton, List.lookup_cons_self, List.getElem?_cons_zero, List.getElem?_cons_succ, List.set_cons_zero, List.set_cons_succ, Option.some.injEq, reduceCtorEq, if_true, if_false, Bool.true_eq_false, Bool.false_eq_true, decide_eq_true_eq, ite_true, ite_false, ↓reduceIte, List.length_cons, List.length_nil, true_and, and_true, exists_eq_left', exists_eq_left, List.cons.injEq]
  refine two_w T.both ?_
  obtain ⟨⟨⟨dx, hp⟩, hd⟩, hs, ht, _⟩ := id (T.D w)
  refine ⟨p w, dx, _, rfl, hp, lk2 rfl rfl, ?_⟩
  refine s_copied (T.D w).R fun p' d' H1 e1 fp fd R1 => ?_
  refine set_w (e1 _ _ T.both) (g1 _ _ ?_)
  have hsl1 : (upd H1 bl (.lst [.ref (fu p (!w) p' false), .ref (fu p (!w) p' true)])) sl = some (.lst [.ref (s false), .ref (s true)]) := by rw [upd_ne nbs.symm]; exact e1 _ _ T.sts
  have nsb : s w ≠ bl := fun z => by rw [z, T.both] at hs; cases hs
  have ntb : t w ≠ bl := fun z => by rw [z, T.both] at ht; cases ht
  have hs1 : (upd H1 bl (.lst [.ref (fu p (!w) p' false), .ref (fu p (!w) p' true)])) (s w) = some (.dK [(.inr "last", .int (m w)), (.inr "table", .ref (t w))]) := by rw [upd_ne nsb]; exact e1 _ _ hs
  have ht1 : (upd H1 bl (.lst [.ref (fu p (!w) p' false), .ref (fu p (!w) p' true)])) (t w) = some (.dK (dk (rs w))) := by rw [upd_ne ntb]; exact e1 _ _ ht
  have fin := fun s' t' H5 => Two.copy (s' := s') (t' := t') (H5 := H5) T nbs e1 fp fd R1
  have fr1 : ∀ x o, x ≠ bl → H x = some o → (upd H1 bl (.lst [.ref (fu p (!w) p' false), .ref (fu p (!w) p' true)])) x = some o := fun x o nx e => by rw [upd_ne nx]; exact e1 _ _ e
  generalize upd H1 bl (.lst [.ref (fu p (!w) p' false), .ref (fu p (!w) p' true)]) = H2 at hsl1 hs1 ht1 fin fr1 ⊢
  simp only [tAsg, tDisp]
  intro s' hs'
  have e3 : Ex H2 (upd H2 s' (.dK [])) := Ex.refl.new hs'
  have k3 : (upd H2 s' (.dK [])) s' = some (.dK []) := upd_same
  generalize upd H2 s' (.dK []) = H3 at e3 k3 ⊢
  simp only [tPairs, tOp, tC, tCB, tCons, tNil, cVar, List.getElem?_cons_zero, List.getElem?_cons_succ]
  refine two_w (e3 _ _ hsl1) ?_
  rw [ix_dS (e3 _ _ hs1) st_last]
  refine two_w (e3 _ _ hsl1) ?_
  rw [ix_dS (e3 _ _ hs1) st_table]
  simp only [bDict, look_of_dK (K := K) (e3 _ _ ht1)]
  intro t' ht'
  have e4 : Ex H3 (upd H3 t' (.dK (dk (rs w)))) := Ex.refl.new ht'
  have k4 : (upd H3 t' (.dK (dk (rs w)))) t' = some (.dK (dk (rs w))) := upd_same
  have nst : s' ≠ t' := ne_of_none k3 ht'
  generalize upd H3 t' (.dK (dk (rs w))) = H4 at e4 k4 ⊢
  refine ⟨e4 _ _ k3, [(.inr "last", .int (m w)), (.inr "table", .ref t')], rfl, by simp, ?_⟩
  rw [show mergeK [] [((.inr "last" : Key), V.int (m w)), (.inr "table", V.ref t')] = [(.inr "last", .int (m w)), (.inr "table", .ref t')] from rfl]
  have e5 : Ex H2 (upd H4 s' (.dK [(.inr "last", .int (m w)), (.inr "table", .ref t')])) := fun x o e => by
    rw [upd_ne (ne_of_none e hs')]; exact e4 _ _ (e3 _ _ e)
  have k5 : (upd H4 s' (.dK [(.inr "last", .int (m w)), (.inr "table", .ref t')])) s' = some (.dK [(.inr "last", .int (m w)), (.inr "table", .ref t')]) := upd_same
  have k5t : (upd H4 s' (.dK [(.inr "last", .int (m w)), (.inr "table", .ref t')])) t' = some (.dK (dk (rs w))) := by rw [upd_ne nst.symm]; exact k4
  generalize upd H4 s' (.dK [(.inr "last", .int (m w)), (.inr "table", .ref t')]) = H5 at e5 k5 k5t ⊢
  try simp only [tSeq, tIfS, tNext, tRet, tRetN, tDrop, tAsg, tC, cVar, tOp, tCB, tCons, tNil, tTup, tLst, tIf, tAnd, tOr, tNot, cTest, cTru, oTru, cAnd, cOr, cNot, cUn, cChain, gName, cTupG, gCons, gNil, gSub, oLt, oLe, oGt, oGe, oIs, oIsNot, oSub, oMul, oFdiv, oMod, oPow, cPar, cPar3, cAug, tDNewK, cCall, cAttr, frzE, List.mem_singleton, List.lookup_cons_self, List.getElem?_cons_zero, List.getElem?_cons_succ, List.set_cons_zero, List.set_cons_succ, Option.some.injEq, reduceCtorEq, if_true, if_false, Bool.true_eq_false, Bool.false_eq_true, decide_eq_true_eq, ite_true, ite_false, ↓reduceIte, List.length_cons, List.length_nil, true_and, and_true, exists_eq_left', exists_eq_left, List.cons.injEq]
  refine set_w (e5 _ _ hsl1) ?_
  refine h _ _ _ _ _ _ _ (fin s' t' H5 e5 hs' (Ex.none e3 ht') nst k5 k5t) fun x o n1 n2 e => ?_
  rw [upd_ne n2]
  exact e5 _ _ (fr1 _ _ n1 e)
end
end WR.L

set_option Elab.async false
set_option linter.all false
set_option maxRecDepth 100000
set_option maxHeartbeats 4000000
namespace WR.L
open PySem PySem.Spec PyProof.Rows L2
def turnR (K : PySem.W.Frag) (S : Str → Sp) (W : WX) : TS :=
  (tSeq (tAsg (cCall (S "_law_take") 2 0 (fun vs _ => vs) (tCons (cVar 4) (tCons (tC (.int 2)) tNil)) tNil W) (gName 6))
  (tSeq (tIfS (cTest (tOp (oEqG (gg K S)) (cCall (S "_law_take") 2 0 (fun vs _ => vs) (tCons (cVar 4) (tCons (tC (.int 9)) tNil)) tNil W) (tC (.int 0))))
  (tSeq (tAsg (mC (gg K S) "copied" 0 0 [] (tOp (oIx K) (cVar 1) (cVar 6)) tNil tNil W) (gSub (cVar 1) (tOp oSub (tC (.int 1)) (cVar 6)) oSet))
  (tAsg (tDisp [((tC (.str "last")), (tOp (oIx K) (tOp (oIx K) (cVar 2) (cVar 6)) (tC (.str "last")))), ((tC (.str "table")), (tCB (bDict K) (tCons (tOp (oIx K) (tOp (oIx K) (cVar 2) (cVar 6)) (tC (.str "table"))) tNil)))]) (gSub (cVar 2) (tOp oSub (tC (.int 1)) (cVar 6)) oSet)))
  tNext)
  (tSeq (tIfS (tNot (cTru K (cCall (S "_law_deed") 3 0 (fun vs _ => vs) (tCons (cVar 4) (tCons (tOp (oIx K) (cVar 1) (cVar 6)) (tCons (tOp (oIx K) (cVar 2) (cVar 6)) tNil))) tNil W)))
  (tRet (tC (.bl false)))
  tNext)
  (tIfS (tOr (tNot (cTru K (cCall (S "_law_right") 2 0 (fun vs _ => vs) (tCons (tOp (oIx K) (cVar 1) (tC (.int 0))) (tCons (tOp (oIx K) (cVar 2) (tC (.int 0))) tNil)) tNil W))) (tNot (cTru K (cCall (S "_law_right") 2 0 (fun vs _ => vs) (tCons (tOp (oIx K) (cVar 1) (tC (.int 1))) (tCons (tOp (oIx K) (cVar 2) (tC (.int 1))) tNil)) tNil W))))
  (tRet (tC (.bl false)))
  tNext))))
section
variable {K : PySem.W.Frag} {n : Nat} {H H' : Hp} {Q : VK} {E : XK} {a bl sl b : Addr} {ns : List Int} {p d s t : Bool → Addr} {rs : Bool → Rw} {m : Bool → Nat} {M N : Nat}
theorem two_end {D : Ends} {W : WX} {k : V} {v5 : Option V} {w : Bool} (T : Two K H a ns bl sl p d s t rs m M) (hM : M < 210)
    (h : ∀ H', Ex H H' → D.nx [some (.ref a), some (.ref bl), some (.ref sl), some k, some (.ref b), v5, some (.int (bi w))] H') :
    tIfS (tOr (tNot (cTru K (cCall (SP K (n+6) "_law_right") 2 0 (fun vs _ => vs) (tCons (tOp (oIx K) (cVar 1) (tC (.int 0))) (tCons (tOp (oIx K) (cVar 2) (tC (.int 0))) tNil)) tNil W))) (tNot (cTru K (cCall (SP K (n+6) "_law_right") 2 0 (fun vs _ => vs) (tCons (tOp (oIx K) (cVar 1) (tC (.int 1))) (tCons (tOp (oIx K) (cVar 2) (tC (.int 1))) tNil)) tNil W))))
  (tRet (tC (.bl false))) tNext D [some (.ref a), some (.ref bl), some (.ref sl), some k, some (.ref b), v5, some (.int (bi w))] H := by
  refine ifS_ fun A B hA hB => ?_
  simp only [tOr, tNot, cTru, cCall, tCons, tNil, tOp, tC, cVar, List.getElem?_cons_zero, List.getElem?_cons_succ]
  rw [ix_lst (look_of_lst T.both) (v := .ref (p false)) rfl, ix_lst (look_of_lst T.sts) (v := .ref (s false)) rfl]
  refine ⟨rfl, (by first | rfl | trivial), ?_⟩
  have h1 := T.hm false
  have h2 := T.hm true
  refine s_law_right (T.D false) (by omega) fun H1 e1 => ?_
  have T1 := T.ex e1
  simp only [oTru, Bool.not_true, Bool.false_eq_true, if_false]
  rw [ix_lst (look_of_lst T1.both) (v := .ref (p true)) rfl, ix_lst (look_of_lst T1.sts) (v := .ref (s true)) rfl]
  refine ⟨rfl, (by first | rfl | trivial), ?_⟩
  refine s_law_right (T1.D true) (by omega) fun H2 e2 => ?_
  simp only [oTru, Bool.not_true, Bool.false_eq_true, if_false]
  exact hB _ (h _ (e1.trans e2))
theorem turn_ (hx : y.ex K = true) {D : Ends} {W : WX} {k : V} {v5 v6 : Option V} (T : Two K H a ns bl sl p d s t rs m M) (nbs : bl ≠ sl) (B : Bx H b N) (n1 : bl ≠ b) (n2 : sl ≠ b) (hM : M < 190) (hN : N < 60000)
    (h : ∀ p' d' s' t' rs' m' H' w', Two K H' a ns bl sl p' d' s' t' rs' m' (M + 1) → Bx H' b (N + 9) → D.nx [some (.ref a), some (.ref bl), some (.ref sl), some k, some (.ref b), v5, some (.int (bi w'))] H') :
    turnR K (SP K (n+6)) W D [some (.ref a), some (.ref bl), some (.ref sl), some k, some (.ref b), v5, v6] H := by
  unfold turnR
  refine seq_ fun N1 g1 => ?_
  try simp only [tSeq, tIfS, tNext, tRet, tRetN, tDrop, tAsg, tC, cVar, tOp, tCB, tCons, tNil, tTup, tLst, tIf, tAnd, tOr, tNot, cTest, cTru, oTru, cAnd, cOr, cNot, cUn, cChain, gName, cTupG, gCons, gNil, gSub, oLt, oLe, oGt, oGe, oIs, oIsNot, oSub, oMul, oFdiv, oMod, oPow, cPar, cPar3, cAug, tDNewK, cCall, cAttr, frzE, List.mem_singleton, List.lookup_cons_self, List.getElem?_cons_zero, List.getElem?_cons_succ, List.set_cons_zero, List.set_cons_succ, Option.some.injEq, reduceCtorEq, if_true, if_false, Bool.true_eq_false, Bool.false_eq_true, decide_eq_true_eq, ite_true, ite_false, ↓reduceIte, List.length_cons, List.length_nil, true_and, and_true, exists_eq_left', exists_eq_left, List.cons.injEq]
  refine s_take B (by omega) (by decide) (by decide) fun r H1 r0 r1 B1 F1 => ?_
  have bxk : ∀ {p d s t : Bool → Addr} {rs : Bool → Rw} {m : Bool → Nat} {H H1 : Hp} {N : Nat}, Two K H a ns bl sl p d s t rs m M → Bx H b N → Fr [b] H H1 → Two K H1 a ns bl sl p d s t rs m M := by
    intro p d s t rs m H H1 N T B F
    obtain ⟨_, _, _, e5, _⟩ := id B
    have tp := tps_fr F fun a ha => by rw [List.mem_singleton] at ha; subst ha; exact bx_nt B
    obtain ⟨o, hA⟩ := T.A
    have nA : a ≠ b := fun z => by rw [z, e5] at hA; cases hA
    refine ⟨⟨o, F _ _ (by simpa using nA) hA⟩, F _ _ (by simpa using n1) T.both, F _ _ (by simpa using n2) T.sts, fun w => ?_, T.hm, T.ne⟩
    obtain ⟨b1, b2, b3, b4, _⟩ := (T.D w).nb B
    exact (T.D w).fr F (by simpa using b1) (by simpa using b2) (by simpa using b3) (by simpa using b4) tp
  have T1 := bxk T B F1
  obtain ⟨w, rfl⟩ : ∃ w, r = bi w := by
    rcases (by omega : r = 0 ∨ r = 1) with e | e
    · exact ⟨false, e⟩
    · exact ⟨true, e⟩
  refine g1 _ _ (seq_ fun N2 g2 => ?_)
  have rest : ∀ (p d s t : Bool → Addr) (rs : Bool → Rw) (m : Bool → Nat) (H : Hp), Two K H a ns bl sl p d s t rs m M → Bx H b (N + 2) → N2 [some (.ref a), some (.ref bl), some (.ref sl), some k, some (.ref b), v5, some (.int (bi w))] H := by
    intro p d s t rs m H T B
    refine g2 _ _ (seq_ fun N3 g3 => ?_)
    refine ifS_ fun A B' hA hB => ?_
    simp only [tNot, cTru, cCall, tCons, tNil, tOp, tC, cVar, List.getElem?_cons_zero, List.getElem?_cons_succ]
    refine two_w T.both (two_w T.sts ?_)
    refine ⟨rfl, (by first | rfl | trivial), ?_⟩
    have hw := T.hm w
    refine s_law_deed hx (T.D w) B (by omega) (by omega) fun rs' m' H' D' l' B2 F2 => ?_
    simp only [oTru, Bool.not_true, Bool.false_eq_true, if_false]
    refine hB _ ?_
    simp only [tNext]
    refine g3 _ _ ?_
    have T2 := T.deed B n1 n2 D' l' F2
    refine two_end T2 (by omega) fun H3 e3 => h _ _ _ _ _ _ _ _ (T2.ex e3) ((B2.ex e3).mono (by omega))
  refine ifS_ fun A B' hA hB => ?_
  simp only [cTest, cCall, tCons, tNil, tOp, tC, cVar, List.set_cons_zero, List.set_cons_succ, List.getElem?_cons_zero, List.getElem?_cons_succ]
  refine ⟨rfl, (by first | rfl | trivial), ?_⟩
  refine s_take B1 (by omega) (by decide) (by decide) fun c H2 c0 c1 B2 F2 => ?_
  have T2 := bxk T1 B1 F2
  refine eq_scal rfl rfl rfl ?_
  by_cases c2 : c = 0
  · subst c2
    simp only [decide_true, if_true]
    refine hA _ (copy_ (n := n + 4) T2 nbs fun p' d' s' t' rs' m' H3 T3 f3 => rest _ _ _ _ _ _ _ T3 ?_)
    obtain ⟨x1, x2, x3, x4, x5⟩ := B2
    exact Bx.mono ⟨x1, x2, x3, f3 _ _ n1.symm n2.symm x4, x5⟩ (by omega)
  · rw [show decide (V.int c = V.int 0) = false from by simpa using c2]
    simp only [Bool.false_eq_true, if_false]
    refine hB _ ?_
    simp only [tNext]
    exact rest _ _ _ _ _ _ _ T2 (B2.mono (by omega))
end
end WR.L

set_option Elab.async false
set_option linter.all false
set_option maxRecDepth 100000
set_option maxHeartbeats 4000000
namespace WR.L
open PySem PySem.Spec PyProof.Rows L2
section
variable {K : PySem.W.Frag} {n : Nat} {H H' : Hp} {Q : VK} {E : XK}
theorem s_law (hx : y.ex K = true) {a : Addr} {ns : List Int} {o : Obj} (hl : H a = some (.frz o (.lst (ns.map V.int)))) (hn : ns.length ≤ 63) (h : ∀ H', Q (.bl true) H') : SP K (n+7) "law" [.ref a] H Q E := by
  refine o_law ?_
  unfold r_law
  refine seq_ fun N1 g1 => ?_
  simp only [tAsg, tLst, tCons]
  refine mk_roads fun p0 d0 H1 e1 fp0 fd0 n0 R0 => ?_
  refine mk_roads fun p1 d1 H2 e2 fp1 fd1 n1 R1 => ?_
  simp only [tNil]
  refine ⟨by simp only [sizeLine_eq, List.length_cons, List.length_nil]; omega, fun bl hbl => g1 _ _ (seq_ fun N2 g2 => ?_)⟩
  have R0a := R0.ex e2
  have e3 : Ex H2 (upd H2 bl (.lst [.ref p0, .ref p1])) := Ex.refl.new hbl
  have b3 : (upd H2 bl (.lst [.ref p0, .ref p1])) bl = some (.lst [.ref p0, .ref p1]) := upd_same
  generalize upd H2 bl (.lst [.ref p0, .ref p1]) = H3 at e3 b3 ⊢
  simp only [tAsg, tLst, tCons, tDisp, tPairs, tC, tDNewK]
  intro s0 hs0 t0 ht0
  have e4 : Ex H3 (upd H3 s0 (.dK [])) := Ex.refl.new hs0
  have k4 : (upd H3 s0 (.dK [])) s0 = some (.dK []) := upd_same
  generalize upd H3 s0 (.dK []) = H4 at e4 k4 ht0 ⊢
  have nst0 : s0 ≠ t0 := ne_of_none k4 ht0
  have e5 : Ex H4 (upd H4 t0 (.dK [])) := Ex.refl.new ht0
  have k5 : (upd H4 t0 (.dK [])) t0 = some (.dK []) := upd_same
  generalize upd H4 t0 (.dK []) = H5 at e5 k5 ⊢
  refine ⟨e5 _ _ k4, [(.inr "last", .int ((0 : Nat) : Int)), (.inr "table", .ref t0)], rfl, by simp, ?_⟩
  rw [show mergeK [] [((.inr "last" : Key), V.int ((0 : Nat) : Int)), (.inr "table", V.ref t0)] = [(.inr "last", .int ((0 : Nat) : Int)), (.inr "table", .ref t0)] from rfl]
  have e6 : Ex H3 (upd H5 s0 (.dK [(.inr "last", .int ((0 : Nat) : Int)), (.inr "table", .ref t0)])) := fun x o e => by
    rw [upd_ne (ne_of_none e hs0)]; exact e5 _ _ (e4 _ _ e)
  have s6 : (upd H5 s0 (.dK [(.inr "last", .int ((0 : Nat) : Int)), (.inr "table", .ref t0)])) s0 = some (.dK [(.inr "last", .int ((0 : Nat) : Int)), (.inr "table", .ref t0)]) := upd_same
  have t6 : (upd H5 s0 (.dK [(.inr "last", .int ((0 : Nat) : Int)), (.inr "table", .ref t0)])) t0 = some (.dK []) := by rw [upd_ne nst0.symm]; exact k5
  generalize upd H5 s0 (.dK [(.inr "last", .int ((0 : Nat) : Int)), (.inr "table", .ref t0)]) = H6 at e6 s6 t6 ⊢
  intro s1 hs1 t1 ht1
  have e7 : Ex H6 (upd H6 s1 (.dK [])) := Ex.refl.new hs1
  have k7 : (upd H6 s1 (.dK [])) s1 = some (.dK []) := upd_same
  generalize upd H6 s1 (.dK []) = H7 at e7 k7 ht1 ⊢
  have nst1 : s1 ≠ t1 := ne_of_none k7 ht1
  have e8 : Ex H7 (upd H7 t1 (.dK [])) := Ex.refl.new ht1
  have k8 : (upd H7 t1 (.dK [])) t1 = some (.dK []) := upd_same
  generalize upd H7 t1 (.dK []) = H8 at e8 k8 ⊢
  refine ⟨e8 _ _ k7, [(.inr "last", .int ((0 : Nat) : Int)), (.inr "table", .ref t1)], rfl, by simp, ?_⟩
  rw [show mergeK [] [((.inr "last" : Key), V.int ((0 : Nat) : Int)), (.inr "table", V.ref t1)] = [(.inr "last", .int ((0 : Nat) : Int)), (.inr "table", .ref t1)] from rfl]
  have e9 : Ex H6 (upd H8 s1 (.dK [(.inr "last", .int ((0 : Nat) : Int)), (.inr "table", .ref t1)])) := fun x o e => by
    rw [upd_ne (ne_of_none e hs1)]; exact e8 _ _ (e7 _ _ e)
  have s9 : (upd H8 s1 (.dK [(.inr "last", .int ((0 : Nat) : Int)), (.inr "table", .ref t1)])) s1 = some (.dK [(.inr "last", .int ((0 : Nat) : Int)), (.inr "table", .ref t1)]) := upd_same
  have t9 : (upd H8 s1 (.dK [(.inr "last", .int ((0 : Nat) : Int)), (.inr "table", .ref t1)])) t1 = some (.dK []) := by rw [upd_ne nst1.symm]; exact k8
  generalize upd H8 s1 (.dK [(.inr "last", .int ((0 : Nat) : Int)), (.inr "table", .ref t1)]) = H9 at e9 s9 t9 ⊢
  simp only [tNil]
  refine ⟨by simp only [sizeLine_eq, List.length_cons, List.length_nil]; omega, fun sl hsl => g2 _ _ (seq_ fun N3 g3 => .inl ?_)⟩
  have eA : Ex H9 (upd H9 sl (.lst [.ref s0, .ref s1])) := Ex.refl.new hsl
  have kA : (upd H9 sl (.lst [.ref s0, .ref s1])) sl = some (.lst [.ref s0, .ref s1]) := upd_same
  generalize upd H9 sl (.lst [.ref s0, .ref s1]) = HA at eA kA ⊢
  have e39 := e6.trans e9
  have e3A := e39.trans eA
  have e0A := ((e1.trans e2).trans e3).trans e3A
  have nbs : bl ≠ sl := ne_of_none (e39 _ _ b3) hsl
  have D0 : Sd K HA p0 d0 s0 t0 [] 0 := by
    refine ⟨R0a.ex (e3.trans e3A), eA _ _ (e9 _ _ s6), eA _ _ (e9 _ _ t6), ⟨Nat.le_refl _, (fun r hr => nomatch hr), List.nodup_nil⟩, ?_, ?_, nst0⟩
    · exact ne_of_none (e4 _ _ (e3 _ _ R0a.2)) ht0
    · exact (ne_of_none (e3 _ _ R0a.2) hs0).symm
  have D1 : Sd K HA p1 d1 s1 t1 [] 0 := by
    refine ⟨R1.ex (e3.trans e3A), eA _ _ s9, eA _ _ t9, ⟨Nat.le_refl _, (fun r hr => nomatch hr), List.nodup_nil⟩, ?_, ?_, nst1⟩
    · exact ne_of_none (e7 _ _ (e6 _ _ (e3 _ _ R1.2))) ht1
    · exact (ne_of_none (e6 _ _ (e3 _ _ R1.2)) hs1).symm
  obtain ⟨⟨dx0, hp0⟩, hd0⟩ := id R0
  obtain ⟨⟨dx1, hp1⟩, hd1⟩ := id R1
  have c1 : p0 ≠ p1 := ne_of_none hp0 fp1
  have c2 : d0 ≠ d1 := ne_of_none hd0 fd1
  have hd0' := e3 _ _ (e2 _ _ hd0)
  have hd1' := e3 _ _ hd1
  have c3 : d0 ≠ s1 := ne_of_none (e6 _ _ hd0') hs1
  have c4 : d0 ≠ t1 := ne_of_none (e7 _ _ (e6 _ _ hd0')) ht1
  have c5 : d1 ≠ s0 := ne_of_none hd1' hs0
  have c6 : d1 ≠ t0 := ne_of_none (e4 _ _ hd1') ht0
  have c7 : s0 ≠ s1 := ne_of_none s6 hs1
  have c8 : s0 ≠ t1 := ne_of_none (e7 _ _ s6) ht1
  have c9 : t0 ≠ s1 := ne_of_none t6 hs1
  have c10 : t0 ≠ t1 := ne_of_none (e7 _ _ t6) ht1
  have T : Two K HA a ns bl sl (fun w => if w then p1 else p0) (fun w => if w then d1 else d0) (fun w => if w then s1 else s0) (fun w => if w then t1 else t0) (fun _ => []) (fun _ => 0) 0 := by
    refine ⟨⟨o, e0A _ _ hl⟩, e3A _ _ b3, kA, fun w => ?_, fun _ => Nat.le_refl _, fun v w hvw => ?_⟩
    · cases w
      · exact D0
      · exact D1
    · cases v <;> cases w
      · exact absurd rfl hvw
      · exact ⟨c1, c2, c4, c3, c7, c8, c10⟩
      · exact ⟨c1.symm, c2.symm, c6, c5, c7.symm, c9.symm, c10.symm⟩
      · exact absurd rfl hvw
  have hlA : look K HA a = some (.lst (ns.map V.int)) := by unfold look; rw [e0A _ _ hl]
  simp only [cFor, cRng1, tCB, tCons, tNil, tC, cVar, bMax, bMin, List.set_cons_zero, List.set_cons_succ, List.getElem?_cons_zero, List.getElem?_cons_succ]
  rw [len_lst rfl hlA]
  simp only [List.length_map]
  obtain ⟨C, hC, hC2⟩ : ∃ C : Nat, (if (if (ns.length : Int) < 60 then (ns.length : Int) else 60) > 3 then (if (ns.length : Int) < 60 then (ns.length : Int) else 60) else 3) = C ∧ C ≤ 60 := by
    refine ⟨(if (if (ns.length : Int) < 60 then (ns.length : Int) else 60) > 3 then (if (ns.length : Int) < 60 then (ns.length : Int) else 60) else 3).toNat, ?_, ?_⟩ <;> split <;> split <;> omega
  rw [hC]
  refine ⟨⟨by omega, by omega⟩, ?_⟩
  rw [Int.toNat_natCast]
  refine lp_inv (n := C) (fun j σ H' => (∃ v3 v4 v5 v6, σ = [some (.ref a), some (.ref bl), some (.ref sl), v3, v4, v5, v6]) ∧ ∃ p d s t rs m, Two K H' a ns bl sl p d s t rs m (3 * j)) ?_ ?_ ⟨⟨_, _, _, _, rfl⟩, _, _, _, _, _, _, T⟩
  · rintro σ HB ⟨⟨v3, v4, v5, v6, rfl⟩, p, d, s, t, rs, m, TB⟩
    refine ⟨Nat.le_refl _, g3 _ _ ?_⟩
    try simp only [tSeq, tIfS, tNext, tRet, tRetN, tDrop, tAsg, tC, cVar, tOp, tCB, tCons, tNil, tTup, tLst, tIf, tAnd, tOr, tNot, cTest, cTru, oTru, cAnd, cOr, cNot, cUn, cChain, gName, cTupG, gCons, gNil, gSub, oLt, oLe, oGt, oGe, oIs, oIsNot, oSub, oMul, oFdiv, oMod, oPow, cPar, cPar3, cAug, tDNewK, cCall, cAttr, frzE, List.mem_singleton, List.lookup_cons_self, List.getElem?_cons_zero, List.getElem?_cons_succ, List.set_cons_zero, List.set_cons_succ, Option.some.injEq, reduceCtorEq, if_true, if_false, Bool.true_eq_false, Bool.false_eq_true, decide_eq_true_eq, ite_true, ite_false, ↓reduceIte, List.length_cons, List.length_nil, true_and, and_true, exists_eq_left', exists_eq_left, List.cons.injEq]
    exact h HB
  · rintro j σ HB hj ⟨⟨v3, v4, v5, v6, rfl⟩, p, d, s, t, rs, m, TB⟩ R hR
    refine ⟨hj, ?_⟩
    intro x HC hy
    obtain ⟨rfl, rfl⟩ := itr_yld hy
    simp only [gName, List.set_cons_zero, List.set_cons_succ]
    refine seq_ fun N4 g4 => ?_
    obtain ⟨ob, hA⟩ := TB.A
    try simp only [tSeq, tIfS, tNext, tRet, tRetN, tDrop, tAsg, tC, cVar, tOp, tCB, tCons, tNil, tTup, tLst, tIf, tAnd, tOr, tNot, cTest, cTru, oTru, cAnd, cOr, cNot, cUn, cChain, gName, cTupG, gCons, gNil, gSub, oLt, oLe, oGt, oGe, oIs, oIsNot, oSub, oMul, oFdiv, oMod, oPow, cPar, cPar3, cAug, tDNewK, cCall, cAttr, frzE, List.mem_singleton, List.lookup_cons_self, List.getElem?_cons_zero, List.getElem?_cons_succ, List.set_cons_zero, List.set_cons_succ, Option.some.injEq, reduceCtorEq, if_true, if_false, Bool.true_eq_false, Bool.false_eq_true, decide_eq_true_eq, ite_true, ite_false, ↓reduceIte, List.length_cons, List.length_nil, true_and, and_true, exists_eq_left', exists_eq_left, List.cons.injEq]
    rw [show (0 : Int) + (j : Int) = ((j : Nat) : Int) from by omega]
    refine s_cell (ns := ns) (by unfold look; rw [hA]) (by omega) fun c => ?_
    refine s_box fun b HD hb eD BD => g4 _ _ (.inl ?_)
    have TD := TB.ex eD
    have n1 : bl ≠ b := ne_of_none TB.both hb
    have n2 : sl ≠ b := ne_of_none TB.sts hb
    simp only [cFor, cRng1, cCall, tCons, tNil, tC, tOp, cVar, oAdd, List.set_cons_zero, List.set_cons_succ, List.getElem?_cons_zero, List.getElem?_cons_succ]
    refine ⟨rfl, (by first | rfl | trivial), ?_⟩
    refine s_take BD (by omega) (by decide) (by decide) fun r HE r0 r1 BE FE => ?_
    have TE : Two K HE a ns bl sl p d s t rs m (3 * j) := by
      obtain ⟨_, _, _, e5, _⟩ := id BD
      have tp := tps_fr FE fun a ha => by rw [List.mem_singleton] at ha; subst ha; exact bx_nt BD
      obtain ⟨o, hA⟩ := TD.A
      have nA : a ≠ b := fun z => by rw [z, e5] at hA; cases hA
      refine ⟨⟨o, FE _ _ (by simpa using nA) hA⟩, FE _ _ (by simpa using n1) TD.both, FE _ _ (by simpa using n2) TD.sts, fun w => ?_, TD.hm, TD.ne⟩
      obtain ⟨b1, b2, b3, b4, _⟩ := (TD.D w).nb BD
      exact (TD.D w).fr FE (by simpa using b1) (by simpa using b2) (by simpa using b3) (by simpa using b4) tp
    simp only []
    refine ⟨⟨by omega, by omega⟩, ?_⟩
    obtain ⟨q, hq⟩ : ∃ q : Nat, (1 + r).toNat = q ∧ q ≤ 3 := ⟨_, rfl, by omega⟩
    rw [hq.1]
    refine lp_inv (n := q) (fun i σ H' => (∃ v5 v6, σ = [some (.ref a), some (.ref bl), some (.ref sl), some (.int ((j : Nat) : Int)), some (.ref b), v5, v6]) ∧ Bx H' b (1 + 9 * i) ∧ ∃ p d s t rs m, Two K H' a ns bl sl p d s t rs m (3 * j + i)) ?_ ?_ ⟨⟨_, _, rfl⟩, BE.mono (by omega), _, _, _, _, _, _, TE⟩
    · rintro σ HF ⟨⟨v5, v6, rfl⟩, BF, p, d, s, t, rs, m, TF⟩
      refine ⟨Nat.le_refl _, hR _ _ ⟨⟨_, _, _, _, rfl⟩, p, d, s, t, rs, m, TF.mono (by omega)⟩⟩
    · rintro i σ HF hi ⟨⟨v5, v6, rfl⟩, BF, p, d, s, t, rs, m, TF⟩ R2 hR2
      refine ⟨hi, ?_⟩
      intro x HG hy2
      obtain ⟨rfl, rfl⟩ := itr_yld hy2
      simp only [gName, List.set_cons_zero, List.set_cons_succ]
      refine turn_ (n := n) hx TF nbs BF n1 n2 (by omega) (by omega) fun p' d' s' t' rs' m' H' w' T' B' => ?_
      exact hR2 _ _ ⟨⟨_, _, rfl⟩, B'.mono (by omega), p', d', s', t', rs', m', T'⟩
end
theorem law_ok : LawY y 40 12 := by
  intro K hx H a ns hl hO ha
  obtain ⟨o, ha⟩ := ha
  exact s_law (n := 5) hx ha hl fun H' => rfl
end WR.L

set_option maxHeartbeats 0
namespace WR.L
open PySem PySem.Spec PyProof.Rows L2
theorem yok : SyOk y where
  sc := by decide +kernel
  cps := List.forall_mem_cons.mpr ⟨⟨d_is_whole, rfl, rfl, kb1⟩, List.forall_mem_cons.mpr ⟨⟨d__law_cell, rfl, rfl, kb10⟩, List.forall_mem_cons.mpr ⟨⟨d__law_box, rfl, rfl, kb11⟩, List.forall_mem_cons.mpr ⟨⟨d__law_take, rfl, rfl, kb12⟩, List.forall_mem_cons.mpr ⟨⟨d__law_asked, rfl, rfl, kb13⟩, List.forall_mem_cons.mpr ⟨⟨d__law_caught, rfl, rfl, kb14⟩, List.forall_mem_cons.mpr ⟨⟨d__law_letter, rfl, rfl, kb15⟩, List.forall_mem_cons.mpr ⟨⟨d__law_number, rfl, rfl, kb16⟩, List.forall_mem_cons.mpr ⟨⟨d__law_is_there, rfl, rfl, kb17⟩, List.forall_mem_cons.mpr ⟨⟨d__law_deed, rfl, rfl, kb18⟩, List.forall_mem_cons.mpr ⟨⟨d__law_right, rfl, rfl, kb19⟩, List.forall_mem_cons.mpr ⟨⟨d_law, rfl, rfl, kb20⟩, fun c h => nomatch h⟩⟩⟩⟩⟩⟩⟩⟩⟩⟩⟩⟩
  cms := List.forall_mem_cons.mpr ⟨⟨by decide +kernel, d_Roads___len__, rfl, rfl, kb3⟩, List.forall_mem_cons.mpr ⟨⟨by decide +kernel, d_Roads_put, rfl, rfl, kb4⟩, List.forall_mem_cons.mpr ⟨⟨by decide +kernel, d_Roads_letter, rfl, rfl, kb5⟩, List.forall_mem_cons.mpr ⟨⟨by decide +kernel, d_Roads_take_off, rfl, rfl, kb6⟩, List.forall_mem_cons.mpr ⟨⟨by decide +kernel, d_Roads_doubled, rfl, rfl, kb7⟩, List.forall_mem_cons.mpr ⟨⟨by decide +kernel, d_Roads_numbers, rfl, rfl, kb8⟩, List.forall_mem_cons.mpr ⟨⟨by decide +kernel, d_Roads_copied, rfl, rfl, kb9⟩, fun c h => nomatch h⟩⟩⟩⟩⟩⟩⟩
  cks := List.forall_mem_cons.mpr ⟨⟨by decide +kernel, d_Roads___init__, rfl, rfl, kb2⟩, fun c h => nomatch h⟩
  ats := by decide +kernel
  nes := by decide +kernel
  xcs := List.forall_mem_cons.mpr ⟨⟨rfl, rfl, rfl, by decide +kernel, by kernel_rfl, by decide +kernel, by decide +kernel, by decide +kernel, fun _ _ _ _ _ _ us hl => match us, hl with | [_, _], _ => rfl⟩, fun c h => nomatch h⟩
abbrev R : PySem.W.OpenRow := PySem.W.OpenLaw.row PySem.Challenge.rw_peersmeet_k54_roads_bear_letters
theorem run (w : World) : HandSHeadRun.RunEq R (PySem.W.view R.prog [20]) (hkY y) (obY y) 4000 ["Absent", "Barred", "NotOnRoad", "PeerError", "Roads", "_law_asked", "_law_box", "_law_caught", "_law_cell", "_law_deed", "_law_is_there", "_law_letter", "_law_number", "_law_right", "_law_take", "is_whole"] w := by
  intro os
  kernel_rfl
end WR.L
open PySem PySem.W PySem.Calls PyProof.Rows
theorem PySem.Challenge.cw_peersmeet_k54_roads_bear_letters_holds : PySem.Challenge.rw_peersmeet_k54_roads_bear_letters.Holds := by
  w_on; o_law
  refine HandSHeadRun.head_any (r := OpenLaw.row PySem.Challenge.rw_peersmeet_k54_roads_bear_letters) (q := view (OpenLaw.row PySem.Challenge.rw_peersmeet_k54_roads_bear_letters).prog [20]) (H := WR.hkY WR.L.y) (ob := WR.obY WR.L.y) (M := 4000) (loose := ["Absent", "Barred", "NotOnRoad", "PeerError", "Roads", "_law_asked", "_law_box", "_law_caught", "_law_cell", "_law_deed", "_law_is_there", "_law_letter", "_law_number", "_law_right", "_law_take", "is_whole"]) (d := HandSHeadRun.topDef (OpenLaw.row PySem.Challenge.rw_peersmeet_k54_roads_bear_letters).prog 20) (kwd := []) (WR.obY_eq WR.L.y)
    (by kernel_rfl) (fun s => by kernel_rfl) WR.L.run (by kernel_rfl) (by kernel_rfl) (by kernel_rfl) (by rfl) (by first | assumption | decide +kernel) (by decide +kernel) ⟨rfl, rfl, rfl, rfl, rfl, by decide +kernel⟩ ?hw ?hc
  case hw => w_witness2
  case hc => exact WR.walkY (l := PySem.Challenge.rw_peersmeet_k54_roads_bear_letters) WR.L.y 40 12 WR.L.d_law WR.L.yok (by decide +kernel) rfl rfl rfl rfl ⟨_, List.mem_of_getElem? (i := 11) rfl, rfl⟩ (fun _ _ _ _ _ _ us hl => match us, hl with | [_], _ => rfl) rfl (by kernel_rfl) (by kernel_rfl) ⟨rfl, by decide, by decide⟩ WR.L.law_ok

