import PyProof.Rows.All
import Wide.All
import OpenK.AllK
import Wide.FinOn
import KE.KStateDown
import HandS.ForMost
import HandS.ForExc
import HandS.More
import HandS.Defaults
import HandS.Star
import HandS.Property
import HandS.Flow
import HandS.Style
import HandS.Wide
import HandS.IsInst
import HandS.Conv
import HandS.Zip
import HandS.TupAny
import HandS.FStr
import HandS.HeadNt
import HandS.HeadEnd
import HandS.Head2
import HandS.Walk
import KE.KExcSuper
import HandS.TryMany
import HandS.ExcOwn
import HandS.Small
import HandS.MakeKw
import HandS.MakeKwOnly
import PyProof.DictUpdate
import KE.KOpsOwn
import PyProof.ListMulAny
import HandS.SlotsOwn
import HandS.DictComp
import KE.KFmtOwn
import PyProof.EqKinds
import HandS.ExcIs
import PyProof.StrOps2
import PyProof.FitsStr
import PyProof.ReprRoads
import HandS.SetBool
import HandS.Set
import HandS.SetTxt0
import HandS.SetFor
import KE.GoesEnum
import KE.KDictKeyed
import HandS.Spec
import HandS.Iter
import HandS.TupMul
import HandS.Strs
import KE.KDictPairs
import HandS.Deep
import HandS.ExcValue
import HandS.ExcInit
import HandS.ExcField
import PyProof.Rows.StrMeet
import HandS.ClsMeth
import HandS.Text
import KE.KWords
import PyProof.StrLawsTight
import PyProof.StrLawsChain
import KE.DataEq
import PyProof.Rows.IntBool
import PySem.Challenge.RW_owedanswers_k17_errors_made
set_option Elab.async false
set_option linter.all false
set_option maxRecDepth 100000
set_option maxHeartbeats 4000000
namespace My
open PySem PySem.Spec PyProof.Rows L2
abbrev FaB : Type := PySem.W.Frag → Bool
section
variable {fa : List FaB} {fn : List He5.DefA} {K : PySem.W.Frag}
end
def gloF (x : Str) : PySem.W.Frag → Addr := fun K => He.ga K x
section
variable {P : Program} {w : World} {K : PySem.W.Frag} {mg : Str → Option Value} {base : Heap} {x qual : Str} {params : Arguments} {body : List Stmt} {scope : Scope} {dvs : List V} {kws : List (Str × V)} {f : Addr} {fd : FuncData}
theorem FunD.R {N ps : List Str} {k : Nat} {sp : Sp} (F : FunD K x qual params body scope [] kws f fd) (S : FnScope N ps scope) (len : ∀ vs H Q E, sp vs H Q E → vs.length = ps.length)
    (hb : ∀ (kV doc pm : Value) (an : Option Addr) (cdv ct : Value) (us : List Value), us.length = ps.length → bindArgs (PySem.W.fnOf x qual params body scope .none kV doc pm an cdv ct) ⟨us, []⟩ = pure (ps.zip us))
    (hbody : ∀ (cdv : Value) (A : Around) (outer : List Env) (s : Shared) (H : Hp) (vs : List V) (Q : VK) (E : XK), Room k (A.deeper (envOfC qual scope s.heap.objs.size f cdv)) → sp vs H Q E →
      ∃ t, PSs (cxOf CX0 P w K mg base N qual scope f cdv A outer s H E).nox body t ∧ t { nx := fun _ H' => Q .non H', rt := Q } (start N vs) H) : FnR P w K mg base CX0 (k + 1) f sp := by
  have G : FnOk P w K mg base CX0 (k + 1) f fd ps sp := FunD.ok F S len fun cdv A outer s H vs Q E hr hsp => by
    obtain ⟨t, h, q⟩ := hbody cdv A outer s H vs Q E hr hsp
    exact ⟨t, h.nox, q⟩
  refine (FnOk.raw G (FunD.bindsN F hb) .nil).imp fun vs H Q E h => ?_
  rw [List.append_nil]
  exact h
end
section
variable {X : Cx} {CX : CXT} {k : Nat} {f C : Addr} {sp : Sp} {E : XK} {x m : Str} {e o : Expr} {es : List Expr} {ta : TE} {t : TA} {p pos apos : Pos}
def tCallR (sp : Sp) (E : XK) (t : TA) : TE := fun σ H Q => t σ H fun vs H1 => sp vs H1 Q E
theorem pe_callR (F : FnR X.prog X.w X.K X.mg X.base CX k f sp) (hr : Room k X.A) (hg : Gl X x) (hm : X.mg x = some (.ref f)) (hk : PySem.W.keepIn X.K (.ref f) = true) (hx : Passes CX X E) (ha : PA X (e :: es) t)
    (hdb : (x == ("__debug__" : Str)) = false := by decide) (he : starEach (e :: es) X.env = (false, eval e X.env) :: starEach es X.env := by rfl) (hpl : (backTo pos (starEach es X.env)).any (·.1) = false := by rfl) :
    PE X (.Call (.Name x p) (e :: es) [] pos) (tCallR sp E t) := by
  refine ⟨fun pins s σ H Q I h => ?_⟩
  refine wpAny_Call_Name_kw (ld_glob I hg hm ?_ hdb)
  refine PySem.W.callWith_K (h₀ := X.base) I.ok.mod.kin hk (thn (ha.run pos pins s σ H _ I h) fun us s1 ⟨vs, H1, I1, r, q⟩ => ⟨I1.kIn, ?_⟩) he hpl
  exact wpAny_call (run_fnR F hr hx I1 r q)
end
end My

set_option Elab.async false
set_option linter.all false
set_option maxRecDepth 100000
set_option maxHeartbeats 4000000
namespace My
open PySem PySem.Spec PyProof.Rows L2
section
variable {X : Cx}
def CPowW (i j : Int) : Prop := 0 ≤ j ∧ j ≤ 64 ∧ i.natAbs < 2 ^ 4096
theorem op_powW : OpR X (binaryOp .Pow) (rI CPowW fun i j => .int (i ^ j.toNat)) := opI fun i j _ _ _ _ _ hc q => by
  obtain ⟨h0, h1, h2⟩ := hc
  refine pow_int h0 ?_ q
  have h3 : Builtin.Int.intBits i ≤ 4096 := by
    unfold Builtin.Int.intBits
    split
    · exact Nat.zero_le _
    · have := PySem.Flt.log2_lt_of (show 0 < 4096 by decide) h2
      omega
  have h4 : (Builtin.Int.intBits i : Int) * j ≤ 4096 * 64 := Int.mul_le_mul (by omega) h1 h0 (by decide)
  exact Int.le_trans h4 (by decide)
end
section
variable {P : Program} {w : World} {K : PySem.W.Frag} {mg : Str → Option Value} {base : Heap} {x qual : Str} {params : Arguments} {body : List Stmt} {scope : Scope} {dvs : List V} {kws : List (Str × V)} {f : Addr} {fd : FuncData}
theorem FunD.Rd {N ps : List Str} {k : Nat} {sp : Sp} (n j : Nat) (F : FunD K x qual params body scope dvs kws f fd) (S : FnScope N ps scope) (len : ∀ vs H Q E, sp vs H Q E → vs.length = ps.length) (hd : dvs ≠ []) (hn : n + (dvs.length - j) = ps.length)
    (hb : ∀ (T : Addr) (kV doc pm : Value) (an : Option Addr) (cdv ct : Value) (us its : List Value), us.length = n → its.length = dvs.length →
      ∃ k, bindArgs (PySem.W.fnOf x qual params body scope (.ref T) kV doc pm an cdv ct) ⟨us, []⟩ = seqItems? (.ref T) >>= k ∧ k (some its.toArray) = pure (ps.zip (us ++ its.drop j)))
    (hbody : ∀ (cdv : Value) (A : Around) (outer : List Env) (s : Shared) (H : Hp) (vs : List V) (Q : VK) (E : XK), Room k (A.deeper (envOfC qual scope s.heap.objs.size f cdv)) → sp vs H Q E →
      ∃ t, PSs (cxOf CX0 P w K mg base N qual scope f cdv A outer s H E).nox body t ∧ t { nx := fun _ H' => Q .non H', rt := Q } (start N vs) H) :
    FnR P w K mg base CX0 (k + 1) f (fun vs H Q E => sp (vs ++ dvs.drop j) H Q E) := by
  have G : FnOk P w K mg base CX0 (k + 1) f fd ps sp := FunD.ok F S len fun cdv A outer s H vs Q E hr hsp => by
    obtain ⟨t, h, q⟩ := hbody cdv A outer s H vs Q E hr hsp
    exact ⟨t, h.nox, q⟩
  obtain ⟨ds, hv, hB⟩ := FunD.binds1 F n j hd hn hb
  exact FnOk.raw G hB hv
end
theorem Same.upd_new {H H' : Hp} {p : Addr} {o : HO} (s : Same H H') (h : H' p = Option.none) : Same H (upd H' p o) := fun b u e => by
  rw [upd_ne (ne_of_none (s _ _ e) h)]
  exact s _ _ e
theorem Same.new {H : Hp} {p : Addr} {o : HO} (h : H p = Option.none) : Same H (upd H p o) := Same.upd_new (Same.refl H) h
theorem cxK {CX : CXT} {P : Program} {w : World} {K : PySem.W.Frag} {mg : Str → Option Value} {base : Heap} {N : List Str} {qual : Str} {scope : Scope} {f : Addr} {cd : Value} {A : Around} {outer : List Env} {s : Shared} {H : Hp} {E : XK} : (cxOf CX P w K mg base N qual scope f cd A outer s H E).K = K := rfl
theorem ite_dec {c : Prop} [Decidable c] {A B : Prop} (h1 : c → A) (h2 : ¬ c → B) : if decide c = true then A else B := by
  by_cases h : c
  · rw [if_pos (decide_eq_true h)]; exact h1 h
  · rw [if_neg (by rw [decide_eq_false h]; exact Bool.false_ne_true)]; exact h2 h
end My

set_option Elab.async false
set_option linter.all false
set_option maxRecDepth 100000
set_option maxHeartbeats 4000000
namespace My
open PySem PySem.Spec PyProof.Rows L2
section
variable {X : Cx}
theorem OpR.imp {f : Value → Value → Sem Value} {r r' : R2} (h : OpR X f r) (i : ∀ x y H Q, r' x y H Q → r x y H Q) : OpR X f r' := fun pins s σ H x y v u Q I a b c => h pins s σ H x y v u Q I a b (i _ _ _ _ c)
theorem CallR.imp {f : Value} {r r' : List V → Hp → VK → Prop} (h : CallR X f r) (i : ∀ x H Q, r' x H Q → r x H Q) : CallR X f r' := fun pins s σ H xs us Q I a c => h pins s σ H xs us Q I a (i _ _ _ c)
theorem IxR.imp {r r' : R2} (h : IxR X r) (i : ∀ x y H Q, r' x y H Q → r x y H Q) : IxR X r' := fun a b pins s σ H x y v u Q I p q c => h a b pins s σ H x y v u Q I p q (i _ _ _ _ c)
theorem PE.imp {e : Expr} {t t' : TE} (h : PE X e t) (i : ∀ σ H Q, t' σ H Q → t σ H Q) : PE X e t' := ⟨fun pins s σ H Q I q => h.run pins s σ H Q I (i _ _ _ q)⟩
theorem PT.imp {e : Expr} {t t' : TT} (h : PT X e t) (i : ∀ σ H Q, t' σ H Q → t σ H Q) : PT X e t' := ⟨fun pins s σ H Q I q => h.run pins s σ H Q I (i _ _ _ q)⟩
theorem PS.imp {st : Stmt} {t t' : TS} (h : PS X st t) (i : ∀ D σ H, t' D σ H → t D σ H) : PS X st t' := ⟨fun pins s σ H D I q => h.run pins s σ H D I (i _ _ _ q)⟩
def mInt : List V → Hp → VK → Prop := fun xs H Q => ∃ i, xs = [.int i] ∧ Q (.int i) H
theorem int1 : CallR X (.type "int") mInt := CallR.imp call_int1 fun x H Q ⟨i, a, b⟩ => .inl ⟨i, a, b⟩
def mAbs : List V → Hp → VK → Prop := fun xs H Q => ∃ i, xs = [.int i] ∧ Q (.int (if i < 0 then -i else i)) H
theorem abs1 : CallR X (.builtin "abs") mAbs := call_abs
def mMax : List V → Hp → VK → Prop := fun xs H Q => ∃ i j, xs = [.int i, .int j] ∧ Q (.int (if j > i then j else i)) H
def mMin : List V → Hp → VK → Prop := fun xs H Q => ∃ i j, xs = [.int i, .int j] ∧ Q (.int (if j < i then j else i)) H
theorem max2 (hc : X.calm = true) : CallR X (.builtin "max") mMax := call_max2 hc
theorem min2 (hc : X.calm = true) : CallR X (.builtin "min") mMin := call_min2 hc
def mAddS : R2 := fun x y H Q => ∃ i j : Str, x = .str i ∧ y = .str j ∧ i.length + j.length ≤ sizeLine ∧ Q (.str (i ++ j)) H
theorem addS : OpR X (binaryOp .Add) mAddS := op_add_str
end
section
variable {α : Type} {a b c d : α} {l : List α}
theorem atI_0 : atI (a :: l) 0 = some a := by
  unfold atI ixN
  simp
theorem atI_1 : atI (a :: b :: l) 1 = some b := by
  unfold atI ixN
  rw [if_pos (by decide), if_pos (by simp only [List.length_cons]; omega)]
  rfl
theorem atI_2 : atI (a :: b :: c :: l) 2 = some c := by
  unfold atI ixN
  rw [if_pos (by decide), if_pos (by simp only [List.length_cons]; omega)]
  rfl
theorem atI_3 : atI (a :: b :: c :: d :: l) 3 = some d := by
  unfold atI ixN
  rw [if_pos (by decide), if_pos (by simp only [List.length_cons]; omega)]
  rfl
theorem ixN_30 : ixN 3 0 = some 0 := rfl
theorem ixN_31 : ixN 3 1 = some 1 := rfl
theorem ixN_32 : ixN 3 2 = some 2 := rfl
end
end My

set_option Elab.async false
set_option linter.all false
set_option maxRecDepth 100000
set_option maxHeartbeats 4000000
namespace My
open PySem PySem.Spec PyProof.Rows L2
section
variable {X : Cx}
end
theorem kit_NoneType_bool : kitB "NoneType" "bool" = some false := by decide +kernel
theorem kit_NoneType_int : kitB "NoneType" "int" = some false := by decide +kernel
theorem kit_NoneType_str : kitB "NoneType" "str" = some false := by decide +kernel
theorem kit_NoneType_list : kitB "NoneType" "list" = some false := by decide +kernel
theorem kit_NoneType_tuple : kitB "NoneType" "tuple" = some false := by decide +kernel
theorem kit_NoneType_dict : kitB "NoneType" "dict" = some false := by decide +kernel
theorem kit_bool_bool : kitB "bool" "bool" = some true := by decide +kernel
theorem kit_bool_int : kitB "bool" "int" = some true := by decide +kernel
theorem kit_bool_str : kitB "bool" "str" = some false := by decide +kernel
theorem kit_bool_list : kitB "bool" "list" = some false := by decide +kernel
theorem kit_bool_tuple : kitB "bool" "tuple" = some false := by decide +kernel
theorem kit_bool_dict : kitB "bool" "dict" = some false := by decide +kernel
theorem kit_int_bool : kitB "int" "bool" = some false := by decide +kernel
theorem kit_int_int : kitB "int" "int" = some true := by decide +kernel
theorem kit_int_str : kitB "int" "str" = some false := by decide +kernel
theorem kit_int_list : kitB "int" "list" = some false := by decide +kernel
theorem kit_int_tuple : kitB "int" "tuple" = some false := by decide +kernel
theorem kit_int_dict : kitB "int" "dict" = some false := by decide +kernel
theorem kit_str_bool : kitB "str" "bool" = some false := by decide +kernel
theorem kit_str_int : kitB "str" "int" = some false := by decide +kernel
theorem kit_str_str : kitB "str" "str" = some true := by decide +kernel
theorem kit_str_list : kitB "str" "list" = some false := by decide +kernel
theorem kit_str_tuple : kitB "str" "tuple" = some false := by decide +kernel
theorem kit_str_dict : kitB "str" "dict" = some false := by decide +kernel
theorem kit_list_bool : kitB "list" "bool" = some false := by decide +kernel
theorem kit_list_int : kitB "list" "int" = some false := by decide +kernel
theorem kit_list_str : kitB "list" "str" = some false := by decide +kernel
theorem kit_list_list : kitB "list" "list" = some true := by decide +kernel
theorem kit_list_tuple : kitB "list" "tuple" = some false := by decide +kernel
theorem kit_list_dict : kitB "list" "dict" = some false := by decide +kernel
theorem kit_tuple_bool : kitB "tuple" "bool" = some false := by decide +kernel
theorem kit_tuple_int : kitB "tuple" "int" = some false := by decide +kernel
theorem kit_tuple_str : kitB "tuple" "str" = some false := by decide +kernel
theorem kit_tuple_list : kitB "tuple" "list" = some false := by decide +kernel
theorem kit_tuple_tuple : kitB "tuple" "tuple" = some true := by decide +kernel
theorem kit_tuple_dict : kitB "tuple" "dict" = some false := by decide +kernel
theorem kit_dict_bool : kitB "dict" "bool" = some false := by decide +kernel
theorem kit_dict_int : kitB "dict" "int" = some false := by decide +kernel
theorem kit_dict_str : kitB "dict" "str" = some false := by decide +kernel
theorem kit_dict_list : kitB "dict" "list" = some false := by decide +kernel
theorem kit_dict_tuple : kitB "dict" "tuple" = some false := by decide +kernel
theorem kit_dict_dict : kitB "dict" "dict" = some true := by decide +kernel
mutual
inductive Da (H : Hp) : V → PyData → Prop
  | non : Da H .non .none
  | bl (b : Bool) : Da H (.bl b) (.bool b)
  | int (i : Int) : Da H (.int i) (.int i)
  | str (x : Str) : Da H (.str x) (.str x)
  | lst {a : Addr} {xs : List V} {ds : List PyData} : H a = some (.lst xs) → DaAll H xs ds → Da H (.ref a) (.list ds)
  | tup {a : Addr} {xs : List V} {ds : List PyData} : H a = some (.tup xs) → DaAll H xs ds → Da H (.ref a) (.tuple ds)
inductive DaAll (H : Hp) : List V → List PyData → Prop
  | nil : DaAll H [] []
  | cons {v : V} {vs : List V} {d : PyData} {ds : List PyData} : Da H v d → DaAll H vs ds → DaAll H (v :: vs) (d :: ds)
end
mutual
theorem Da.same {H H' : Hp} (s : Same H H') : ∀ (d : PyData) (v : V), Da H v d → Da H' v d
  | .none, _, h => by cases h; exact .non
  | .bool b, _, h => by cases h; exact .bl b
  | .int i, _, h => by cases h; exact .int i
  | .str x, _, h => by cases h; exact .str x
  | .list ds, _, h => by
    cases h with
    | lst e k => exact .lst (s _ _ e) (DaAll.same s ds _ k)
  | .tuple ds, _, h => by
    cases h with
    | tup e k => exact .tup (s _ _ e) (DaAll.same s ds _ k)
  | .dict _, _, h => by cases h
theorem DaAll.same {H H' : Hp} (s : Same H H') : ∀ (ds : List PyData) (vs : List V), DaAll H vs ds → DaAll H' vs ds
  | [], _, h => by cases h; exact .nil
  | d :: ds, _, h => by
    cases h with
    | cons a b => exact .cons (Da.same s d _ a) (DaAll.same s ds _ b)
end
mutual
theorem Da.dp {K : PySem.W.Frag} {H : Hp} : ∀ (d : PyData) (v : V), Da H v d → Dp K H v d
  | .none, _, h => by cases h; exact .non
  | .bool b, _, h => by cases h; exact .bl b
  | .int i, _, h => by cases h; exact .int i
  | .str x, _, h => by cases h; exact .str x
  | .list ds, _, h => by
    cases h with
    | lst e k => exact .lst (SqL.of e) (DaAll.dp ds _ k)
  | .tuple ds, _, h => by
    cases h with
    | tup e k => exact .tup (SqT.of e) (DaAll.dp ds _ k)
  | .dict _, _, h => by cases h
theorem DaAll.dp {K : PySem.W.Frag} {H : Hp} : ∀ (ds : List PyData) (vs : List V), DaAll H vs ds → DpAll K H vs ds
  | [], _, h => by cases h; exact .nil
  | d :: ds, _, h => by
    cases h with
    | cons a b => exact .cons (Da.dp d _ a) (DaAll.dp ds _ b)
end
theorem DaAll.length {H : Hp} : ∀ {vs : List V} {ds : List PyData}, DaAll H vs ds → vs.length = ds.length
  | _, _, .nil => rfl
  | _, _, .cons _ k => by rw [List.length_cons, List.length_cons, DaAll.length k]
theorem DaAll.get {H : Hp} : ∀ {vs : List V} {ds : List PyData} {i : Nat} {v : V}, DaAll H vs ds → vs[i]? = some v → ∃ d, ds[i]? = some d ∧ Da H v d
  | _, _, i, _, .nil, h => by cases i <;> cases h
  | _, _, 0, _, .cons a _, h => by injection h with h; subst h; exact ⟨_, rfl, a⟩
  | _, _, i + 1, v, .cons _ k, h => DaAll.get (i := i) k h
theorem PG.imp {X : Cx} {tg : Expr} {g g' : TG} (h : PG X tg g) (i : ∀ v σ H Q, g' v σ H Q → g v σ H Q) : PG X tg g' := ⟨fun pins s σ H v u Q I r q => h.run pins s σ H v u Q I r (i _ _ _ _ q)⟩
def Loop (J : It) (g : TG) (tb : TS) (D : Ends) (σ : L2.St) (H : Hp) : Prop := ∃ W : Nat → Nat → L2.St → Hp → Prop, (∃ m, W 0 m σ H) ∧ ∀ i m σ H, W i m σ H → (J.stop i H ∧ D.nx σ H) ∨
  (J.go i H ∧ ∃ N : L2.St → Hp → Prop, (∀ σ' H', N σ' H' → ∃ m', m' < m ∧ W (i + 1) m' σ' H') ∧ ∀ x H', J.yld i H x H' → g x σ H' fun σ2 H2 => tb { D with nx := N, ct := N, bk := D.nx } σ2 H2)
def LoopC (J : It) (g : TG) (tt : TT) (te : TE) (vs : List Nat) (σ : L2.St) (H1 : Hp) (D : Addr) (Qd : Hp → Prop) : Prop := ∃ W : Nat → Nat → Hp → Prop, (∃ m, W 0 m (upd H1 D (.lst []))) ∧ ∀ i m H, W i m H → (J.stop i H ∧ Qd H) ∨
  (J.go i H ∧ ∃ Nx : Hp → Prop, (∀ H', Nx H' → ∃ m', m' < m ∧ W (i + 1) m' H') ∧ ∀ x H', J.yld i H x H' → g x (wipe σ vs) H' fun σ2 H2 => wipe σ2 vs = wipe σ vs ∧ tt σ2 H2 fun b H3 =>
    if b = true then te σ2 H3 fun y H4 => ∃ acc, H4 D = some (.lst acc) ∧ acc.length < sizeLine ∧ Nx (upd H4 D (.lst (acc ++ [y]))) else Nx H3)
end My

set_option Elab.async false
set_option linter.all false
set_option maxRecDepth 100000
set_option maxHeartbeats 4000000
namespace PySem
namespace OwX
open PySem.W PySem.Calls PyProof.Rows PySem.HandSPX
section
variable {prog : Program} {w : World} {A : Around} {E : Value → Shared → Prop} {R : Result → Shared → Prop} {s : Shared} {K : Frag} {mg : Str → Option Value} {C fI cc cda : Addr} {cn fl : Str}
end
end OwX
end PySem
namespace My
open PySem PySem.Spec PyProof.Rows L2
section
variable {X : Cx} {C fI cc cda : Addr} {cn fl : Str}
end
end My

set_option Elab.async false
set_option linter.all false
set_option maxRecDepth 100000
set_option maxHeartbeats 4000000
namespace My
open PySem PySem.Spec PyProof.Rows L2
structure DefX where
  cls : Str
  fld : Str
  qual : Str
  params : Arguments
  body : List Stmt
  scope : Scope
def fnXo (K : PySem.W.Frag) (a : Addr) : He.FnW := match K.lookup a with
  | some ⟨_, _, .func fd, _⟩ => some (fd.name, fd.qualname, fd.params, fd.body, fd.scope, fd.globals, [], fd.builtins)
  | _ => none
def DefX.val (d : DefX) : He.FnW := some ("__init__", d.qual, d.params, .stmts d.body, d.scope, mainGlobals, [], builtinsNs)
def exI (cn : Str) (K : PySem.W.Frag) : Addr := He.ma K (He.ga K cn) "__init__"
def exC (cn : Str) (K : PySem.W.Frag) : Addr := match K.lookup (exI cn K) with
  | some ⟨_, _, .func fd, _⟩ => (match fd.closure with
    | [(_, c)] => c
    | _ => 0)
  | _ => 0
def exD (cn : Str) (K : PySem.W.Frag) : Addr := match K.lookup (exI cn K) with
  | some ⟨_, _, .func fd, _⟩ => (match fd.code with
    | .ref c => c
    | _ => 0)
  | _ => 0
def isNo : Value → Bool
  | .none => true
  | _ => false
def clsB (K : PySem.W.Frag) (C : Addr) : Bool := match K.lookup C with
  | some ⟨.type t, _, .cls ⟨_, _, .ref c :: bm, _, _, true, _, _, _, _, false⟩, ⟨[_, _, _, _, some (.builtin b), _]⟩⟩ => t == "type" && (decide (c = C) && (PySem.HandSPX.refsVE bm && b == "ValueError.__new__"))
  | _ => false
def fnB (K : PySem.W.Frag) (cn q : Str) : Bool := match K.lookup (exI cn K) with
  | some ⟨_, _, .func fd, _⟩ => PySem.W.codeIn K fd.code q && (decide (fd.code = .ref (exD cn K)) && (decide (fd.closure = [(("__class__" : Str), exC cn K)]) && (isNo fd.defaults && isNo fd.kwdefaults)))
  | _ => false
def cellB (K : PySem.W.Frag) (cn : Str) : Bool := match K.lookup (exC cn K) with
  | some ⟨_, _, .cell (some v), _⟩ => decide (v = .ref (He.ga K cn))
  | _ => false
def codeB (file : Str) (K : PySem.W.Frag) (cn : Str) : Bool := match K.lookup (exD cn K) with
  | some ⟨_, _, .fields vs, _⟩ => (match (vs[2]? : Option Value) with
    | some (.str f _) => file == f
    | _ => false)
  | _ => false
def owL (file cn fl q : Str) (K : PySem.W.Frag) : List Bool := [
  He.eqO (PySem.W.nsIn K mainGlobals cn) (some (some (.ref (He.ga K cn)))),
  clsB K (He.ga K cn),
  He.eqO (PySem.W.findIn K (.ref (He.ga K cn)) "__setattr__") (some (some (.builtin "object.__setattr__"))),
  He.eqO (PySem.W.findIn K (.ref (He.ga K cn)) "__getattribute__") (some (some (.builtin "BaseException.__getattribute__"))),
  He.eqO (PySem.W.findIn K (.ref (He.ga K cn)) "__getattr__") (some none),
  He.eqO (PySem.W.findIn K (.ref (He.ga K cn)) fl) (some none),
  He.eqO (PySem.W.findIn K (.ref (He.ga K cn)) "__init__") (some (some (.ref (exI cn K)))),
  decide (PySem.W.typeIn K (.ref (exI cn K)) = some (.type "function")),
  PySem.W.keepIn K (.ref (He.ga K cn)),
  decide (PySem.W.subIn K (.ref (He.ga K cn)) (.type "BaseException") = some true),
  decide (PySem.W.typeIn K (.ref (He.ga K cn)) = some (.type "type")),
  PySem.W.hasDictIn K (He.ga K cn),
  decide (PySem.W.mroIn K (He.ga K cn) (.ref (He.ga K cn)) = some true),
  decide (PySem.W.subIn K (.ref (He.ga K cn)) (.type "ValueError") = some true),
  He.eqO (PySem.W.ks_superIn K (He.ga K cn) (He.ga K cn) "__init__") (some (some (.builtin "ValueError.__init__"))),
  He.eqO (PySem.W.nsIn K cStatics "thirdparty.any") (some none),
  He.eqO (PySem.W.nsIn K mainGlobals "super") (some none),
  cellB K cn,
  codeB file K cn,
  fnB K cn q]
def DefX.ok (file : Str) (K : PySem.W.Frag) (d : DefX) : Bool := (owL file d.cls d.fld d.qual K).all id
def obsX (file : Str) (fa : List FaB) (fn : List He5.DefA) (fx : List DefX) (K : PySem.W.Frag) : He.AlD :=
  ((fa.all fun f => f K) && (fn.all (fun d => d.ok K) && fx.all fun d => d.ok file K), fn.map (fun d => He5.fnA K (d.at_ K)) ++ fx.map fun d => fnXo K (exI d.cls K))
def valX (fn : List He5.DefA) (fx : List DefX) : He.AlD := (true, fn.map He5.DefA.val ++ fx.map DefX.val)
def SaysX (file : Str) (fa : List FaB) (fn : List He5.DefA) (fx : List DefX) (K : PySem.W.Frag) : Prop := obsX file fa fn fx K = valX fn fx
def obsXG (n : Nat) (file : Str) (fa : List FaB) (fn : List He5.DefA) (fx : List DefX) (g : Addr → Option Obj) : He.AlD := obsX file fa fn fx (He.frG g (He5.asA g n))
def hookX (n : Nat) (file : Str) (fa : List FaB) (fn : List He5.DefA) (fx : List DefX) : PySem.W.Hook where
  α := He.AlD
  obs := fun s => obsXG n file fa fn fx s.heap.get?
  val := fun _ => valX fn fx
  says := fun _ h => ∃ K : PySem.W.Frag, K.In h ∧ SaysX file fa fn fx K
  of := fun _ _ e => ⟨_, He.frG_in, e⟩
  keeps := fun _ _ _ ⟨K, hK, c⟩ k => ⟨K, PySem.W.Frag.In.keeps hK k, c⟩
theorem obsXG_eq {n : Nat} {file : Str} {fa : List FaB} {fn : List He5.DefA} {fx : List DefX} {g : Addr → Option Obj} {s : Shared} (h : ∀ a, g a = s.heap.get? a) : obsXG n file fa fn fx g = (hookX n file fa fn fx).obs s := by
  have e : g = s.heap.get? := funext h
  rw [e] <;> rfl
section
variable {file : Str} {fa : List FaB} {fn : List He5.DefA} {fx : List DefX} {K : PySem.W.Frag}
theorem SaysX.b (c : SaysX file fa fn fx K) : ((fa.all fun f => f K) && (fn.all (fun d => d.ok K) && fx.all fun d => d.ok file K)) = true := congrArg (fun z : He.AlD => z.1) c
theorem SaysX.fact (c : SaysX file fa fn fx K) (i : Nat) {f : FaB} (h : fa[i]? = some f := by rfl) : f K = true := List.all_eq_true.mp (He.ba c.b).1 f (List.mem_of_getElem? h)
theorem SaysX.fn_ (c : SaysX file fa fn fx K) : fn.map (fun d => He5.fnA K (d.at_ K)) = fn.map He5.DefA.val ∧ fx.map (fun d => fnXo K (exI d.cls K)) = fx.map DefX.val := by
  have e : fn.map (fun d => He5.fnA K (d.at_ K)) ++ fx.map (fun d => fnXo K (exI d.cls K)) = fn.map He5.DefA.val ++ fx.map DefX.val := congrArg (fun z : He.AlD => z.2) c
  exact List.append_inj e (by simp)
theorem SaysX.def_ (c : SaysX file fa fn fx K) (i : Nat) {d : He5.DefA} (h : fn[i]? = some d := by rfl) : ∃ fd, L2.FunD K d.name d.qual d.params d.body d.scope (d.dvs K) (d.kws K) (d.at_ K) fd := by
  have e2 : (fn.map fun d => He5.fnA K (d.at_ K))[i]? = (fn.map He5.DefA.val)[i]? := by rw [c.fn_.1]
  rw [List.getElem?_map, List.getElem?_map, h] at e2
  exact He5.DefA.funD (Option.some.inj e2) (List.all_eq_true.mp (He.ba (He.ba c.b).2).1 d (List.mem_of_getElem? h))
theorem isNo_ok {v : Value} (h : isNo v = true) : v = .none := by
  cases v with
  | none => rfl
  | _ => cases h
theorem clsB_ok {C : Addr} (h : clsB K C = true) : ∃ nm q N bs bm sn sub ab col dd k0 k1 k2 k3 k5, K.lookup C = some (excClassObj nm q C N bs bm true sn sub ab col dd k0 k1 k2 k3 k5 "ValueError.__new__") ∧ PySem.HandSPX.refsVE bm = true := by
  unfold clsB at h
  split at h
  · rename_i e
    obtain ⟨h1, h⟩ := He.ba h
    obtain ⟨h2, h⟩ := He.ba h
    obtain ⟨h3, h4⟩ := He.ba h
    obtain rfl := of_decide_eq_true h2
    obtain rfl := eq_of_beq h1
    obtain rfl := eq_of_beq h4
    exact ⟨_, _, _, _, _, _, _, _, _, _, _, _, _, _, _, e, h3⟩
  · cases h
end
end My

set_option Elab.async false
set_option linter.all false
set_option maxRecDepth 100000
set_option maxHeartbeats 4000000
namespace My
open PySem PySem.Spec PyProof.Rows L2
section
variable {X : Cx} {CX : CXT} {k : Nat} {f C : Addr} {sp : Sp} {E : L2.St → XK} {x m : Str} {e o : Expr} {es : List Expr} {ta : TE} {t : TA} {p pos apos : Pos}
end
section
variable {P : Program} {w : World} {K : PySem.W.Frag} {mg : Str → Option Value} {base : Heap} {x qual : Str} {params : Arguments} {body : List Stmt} {scope : Scope} {dvs : List V} {kws : List (Str × V)} {f : Addr} {fd : FuncData}
theorem FunD.RX {N ps : List Str} {k : Nat} {sp : Sp} (F : FunD K x qual params body scope [] kws f fd) (S : FnScope N ps scope) (len : ∀ vs H Q E, sp vs H Q E → vs.length = ps.length)
    (hb : ∀ (kV doc pm : Value) (an : Option Addr) (cdv ct : Value) (us : List Value), us.length = ps.length → bindArgs (PySem.W.fnOf x qual params body scope .none kV doc pm an cdv ct) ⟨us, []⟩ = pure (ps.zip us))
    (hbody : ∀ (cdv : Value) (A : Around) (outer : List Env) (s : Shared) (H : Hp) (vs : List V) (Q : VK) (E : XK), Room k (A.deeper (envOfC qual scope s.heap.objs.size f cdv)) → sp vs H Q E →
      ∃ t, PSs (cxOf (L2.CX P w) P w K mg base N qual scope f cdv A outer s H E) body t ∧ t { nx := fun _ H' => Q .non H', rt := Q } (start N vs) H) : FnR P w K mg base (L2.CX P w) (k + 1) f sp := by
  have G : FnOk P w K mg base (L2.CX P w) (k + 1) f fd ps sp := FunD.ok F S len hbody
  refine (FnOk.raw G (FunD.bindsN F hb) .nil).imp fun vs H Q E h => ?_
  rw [List.append_nil]
  exact h
theorem FnR.up {CX : CXT} {k : Nat} {sp : Sp} (F : FnR P w K mg base CX0 k f sp) : FnR P w K mg base CX k f sp := fun A outer s H us vs Q E hr e0 r hs => codeAny_mono (F A outer s H us vs Q E hr e0 r hs) fun r s' hq => by
  cases r with
  | error e => exact False.elim hq
  | ok fl => cases fl <;> exact hq
end
abbrev Cl : Type := Option Nat × Value × (Addr → Value → Option Addr → TS)
section
variable {X : Cx} {pins : List (Addr × Obj)} {σ : L2.St} {H : Hp} {D : Ends}
variable {hds : List ExceptHandler} {l : List Cl} {Wout : WX} {a : Addr} {B : Heap} {sI s' : Shared} {cls : Value} {d : Option Addr}
end
section
variable {X : Cx} {body : List Stmt} {h₀ : ExceptHandler} {hds : List ExceptHandler} {l : List Cl} {pos : Pos} {tb : WX → TS} {Wout : WX}
end
end My

set_option Elab.async false
set_option linter.all false
set_option maxRecDepth 100000
set_option maxHeartbeats 4000000
namespace My
open PySem PySem.Spec PyProof.Rows L2
section
variable {X : Cx} {k : Nat} {f C : Addr} {sp : Sp} {E : XK}
end
end My

set_option Elab.async false
set_option linter.all false
set_option maxRecDepth 100000
set_option maxHeartbeats 4000000
namespace My
open PySem PySem.Spec PyProof.Rows L2
section
variable {X : Cx}
end
end My
namespace My
open PySem PySem.Spec PyProof.Rows L2
section
variable {X : Cx}
end
theorem ofS_eq (a b : String) : (Str.ofString a = Str.ofString b) = (a = b) := by
  apply propext
  constructor
  · intro h
    rw [Str.ofString_eq_toList, Str.ofString_eq_toList] at h
    injection h with h
    have h1 : a.toList.map Char.toNat = b.toList.map Char.toNat := by
      have := congrArg Array.toList h
      simpa using this
    have inj : ∀ x y : List Char, x.map Char.toNat = y.map Char.toNat → x = y := by
      intro x
      induction x with
      | nil => intro y h; cases y with
        | nil => rfl
        | cons c y => cases h
      | cons c x ih => intro y h; cases y with
        | nil => cases h
        | cons d y =>
          rw [List.map_cons, List.map_cons] at h
          injection h with h2 h3
          rw [Char.toNat_inj.mp h2, ih y h3]
    exact String.toList_inj.mp (inj _ _ h1)
  · intro h; rw [h]
theorem inV_nil (x : V) : inV x [] = false := rfl
theorem inV_str (x y : Str) (r : List V) : inV (.str x) (.str y :: r) = (decide (x = y) || inV (.str x) r) := by
  unfold inV
  rw [List.any_cons]
  congr 1
  by_cases h : x = y
  · subst h; simp [eqV]
  · have h2 : ¬ y = x := fun e => h e.symm
    simp [h, h2, eqV]
theorem flatV_str (x : Str) : flatV (.str x) = true := rfl
theorem flatV_int (x : Int) : flatV (.int x) = true := rfl
theorem flatV_non : flatV .non = true := rfl
def mIntB : List V → Hp → VK → Prop := fun xs H Q => ∃ k, xs = [.bl k] ∧ Q (.int (if k then 1 else 0)) H
theorem intB {X : Cx} : CallR X (.type "int") mIntB := CallR.imp call_int1 fun x H Q ⟨i, a, b⟩ => .inr ⟨i, a, b⟩
end My
namespace My
open PySem PySem.Spec PyProof.Rows L2
section
variable {X : Cx}
end
end My
namespace My
open PySem PySem.Spec PyProof.Rows L2
theorem leS0 : (0 ≤ sizeLine) = True := eq_true (by decide)
theorem leS1 : (1 ≤ sizeLine) = True := eq_true (by decide)
theorem leS2 : (2 ≤ sizeLine) = True := eq_true (by decide)
theorem leS3 : (3 ≤ sizeLine) = True := eq_true (by decide)
theorem leS4 : (4 ≤ sizeLine) = True := eq_true (by decide)
theorem leS5 : (5 ≤ sizeLine) = True := eq_true (by decide)
theorem leS6 : (6 ≤ sizeLine) = True := eq_true (by decide)
theorem leS7 : (7 ≤ sizeLine) = True := eq_true (by decide)
theorem leS8 : (8 ≤ sizeLine) = True := eq_true (by decide)
theorem leS9 : (9 ≤ sizeLine) = True := eq_true (by decide)
theorem leS10 : (10 ≤ sizeLine) = True := eq_true (by decide)
theorem leS11 : (11 ≤ sizeLine) = True := eq_true (by decide)
theorem leS12 : (12 ≤ sizeLine) = True := eq_true (by decide)
end My
namespace My
open PySem PySem.Spec PyProof.Rows L2
end My
namespace My
open PySem PySem.Spec PyProof.Rows L2
end My
namespace My
open PySem PySem.Spec PyProof.Rows L2
end My
namespace My
open PySem PySem.Spec PyProof.Rows L2
end My

set_option Elab.async false
set_option linter.all false
set_option maxRecDepth 100000
set_option maxHeartbeats 4000000
namespace My
open PySem PySem.Spec PyProof.Rows L2
abbrev SpK := List V → List V → Hp → VK → XK → Prop
def FnK (P : Program) (w : World) (K : PySem.W.Frag) (mg : Str → Option Value) (base : Heap) (CX : CXT) (k : Nat) (f : Addr) (n : Nat) (ks : List Str) (sp : SpK) : Prop :=
  ∀ (A : Around) (outer : List Env) (s : Shared) (H : Hp) (us ws : List Value) (vs zs : List V) (Q : VK) (E : XK), Room k A → Env0 P w K mg base A outer s H → Vals vs us → Vals zs ws → vs.length = n → zs.length = ks.length → sp vs zs H Q E →
    codeAny (model P w) A (.call (.ref f) ⟨us, ks.zip ws⟩) (CR CX outer P w H s Q E) s
theorem FnK.of {P : Program} {w : World} {K : PySem.W.Frag} {mg : Str → Option Value} {base : Heap} {CX : CXT} {k n : Nat} {f : Addr} {fd : FuncData} {ps ks : List Str} {sp : Sp} {g : List Value → List Value → List Value} {gV : List V → List V → List V} (F : FnOk P w K mg base CX k f fd ps sp) (hb : KBn K fd ps n ks g gV) :
    FnK P w K mg base CX k f n ks (fun vs zs => sp (gV vs zs)) := fun A outer s H us ws vs zs Q E hr e0 r rz l1 l2 hs =>
  F.run A outer s H ⟨us, ks.zip ws⟩ (g us ws) (gV vs zs) Q E hr e0 (hb.to s us ws (e0.mod.kin.keeps fun b o e => (e0.bs b o e).1) (r.length.symm.trans l1) (rz.length.symm.trans l2)) (hb.rel r rz) hs
section
variable {X : Cx} {CX : CXT} {k n : Nat} {f C : Addr} {ks : List Str} {sp : SpK} {E : L2.St → XK} {x m : Str} {e o : Expr} {es : List Expr} {kws : List Keyword} {ta : TE} {t tk : TA} {p pos apos : Pos}
end
end My

set_option Elab.async false
set_option linter.all false
set_option maxRecDepth 100000
set_option maxHeartbeats 4000000
namespace My
open PySem PySem.Spec PyProof.Rows L2
section
variable {M : Model} {prog : Program} {w : World} {A : Around} {E : Value → Shared → Prop} {s : Shared} {K : PySem.W.Frag} {x y C : Addr} {ox oy : Obj} {od oe : Option Obj}
end
section
variable {X : Cx} {C : Addr}
end
end My

set_option Elab.async false
set_option linter.all false
set_option maxRecDepth 100000
set_option maxHeartbeats 4000000
namespace My
open PySem PySem.Spec PyProof.Rows L2
section
variable {prog : Program} {w : World} {A : Around} {E : Value → Shared → Prop} {s : Shared}
end
section
variable {prog : Program} {w : World} {A : Around} {E : Value → Shared → Prop} {s : Shared}
end
end My

set_option Elab.async false
set_option linter.all false
set_option maxRecDepth 100000
set_option maxHeartbeats 4000000
namespace My
open PySem PySem.Spec PyProof.Rows L2 StX
section
variable {CX : CXT} {P : Program} {w : World} {K : PySem.W.Frag} {mg : Str → Option Value} {base : Heap} {k n : Nat} {f : Addr} {name qual : Str} {params : Arguments} {body : List Stmt} {scope : Scope} {dV kV doc pm cdv ct oc : Value} {an od : Option Addr}
  {osl : Array (Option Value)} {N ps : List Str} {sp : Sp} {bad : List Str}
end
section
variable {X : Cx} {CX : CXT} {k n : Nat} {bad : List Str} {f C : Addr} {spb : Sp} {E : XK} {x : Str} {e fe kd : Expr} {es : List Expr} {tf te : TE} {t tk : TA} {p pos kp : Pos} {ks : List Str} {kws : List Keyword}
end
end My

set_option Elab.async false
set_option linter.all false
set_option maxRecDepth 100000
set_option maxHeartbeats 4000000
namespace My
open PySem PySem.Spec PyProof.Rows L2 StX
section
open Builtin
end
end My

set_option Elab.async false
set_option linter.all false
set_option maxRecDepth 100000
set_option maxHeartbeats 4000000
namespace My
open PySem PySem.Spec PyProof.Rows L2 StX
section
variable {prog : Program} {w : World} {A : Around} {E : Value → Shared → Prop} {s : Shared} {K : PySem.W.Frag} {x C f r : Addr} {ox : Obj} {od : Option Obj}
end
section
variable {X : Cx} {k : Nat} {f r C : Addr} {sp : Sp} {op : Operator}
end
end My

set_option Elab.async false
set_option linter.all false
set_option maxRecDepth 100000
set_option maxHeartbeats 4000000
namespace My
open PySem PySem.Spec PyProof.Rows L2 StX
section
variable {X : Cx} {pins : List (Addr × Obj)} {σ : L2.St} {H : Hp} {s : Shared}
end
section
variable {X : Cx} {k : Nat} {f C : Addr} {sp : Sp} {e a b : Expr} {es : List Expr} {te ta tb : TE} {t : TA} {p pos : Pos}
end
end My

set_option Elab.async false
set_option linter.all false
set_option maxRecDepth 100000
set_option maxHeartbeats 4000000
namespace My
open PySem PySem.Spec PyProof.Rows L2 StX
section
variable {prog : Program} {w : World} {M : Model} {A : Around} {E : Value → Shared → Prop} {s : Shared} {K : PySem.W.Frag} {x C L f r : Addr} {h₀ : Heap} {m : Str → Option Value} {ox : Obj} {od : Option Obj}
end
section
variable {X : Cx} {k : Nat} {f r C : Addr} {sp : Sp} {op : Operator}
end
end My

set_option Elab.async false
set_option linter.all false
set_option maxRecDepth 100000
set_option maxHeartbeats 4000000
namespace My
open PySem PySem.Spec PyProof.Rows L2
section
variable {X : Cx} {k : Nat} {f C : Addr} {sp : Sp}
end
end My

set_option Elab.async false
set_option linter.all false
set_option maxRecDepth 100000
set_option maxHeartbeats 4000000
namespace My
open PySem PySem.Spec PyProof.Rows L2
section
variable {M : Model} {prog : Program} {w : World} {A : Around} {E : Value → Shared → Prop} {s : Shared} {K : PySem.W.Frag} {x C f : Addr} {ox : Obj} {od : Option Obj} {b : Value}
end
section
variable {X : Cx} {k : Nat} {f C : Addr} {sp : Sp}
end
end My

set_option Elab.async false
set_option linter.all false
set_option maxRecDepth 100000
set_option maxHeartbeats 4000000
namespace My
open PySem PySem.Spec PyProof.Rows L2 StX
section
variable {prog : Program} {w : World} {A : Around} {E : Value → Shared → Prop} {s : Shared} {K : PySem.W.Frag} {x C f : Addr} {ox : Obj} {od : Option Obj}
open Builtin Builtin.Str in
end
section
variable {X : Cx} {k : Nat} {f C : Addr} {sp : Sp}
end
end My

set_option Elab.async false
set_option linter.all false
set_option maxRecDepth 100000
set_option maxHeartbeats 4000000
namespace My
open PySem PySem.Spec PyProof.Rows L2 StX
section
variable {X : Cx} {CX : CXT} {k n : Nat} {f C : Addr} {sp : Sp} {E : L2.St → XK} {x : Str} {e : Expr} {es : List Expr} {t tk : TA} {p pos : Pos}
end
def FnKw (P : Program) (w : World) (K : PySem.W.Frag) (mg : Str → Option Value) (base : Heap) (CX : CXT) (k : Nat) (f : Addr) (n : Nat) (ks : List Str) (sp : Sp) : Prop :=
  ∀ (A : Around) (outer : List Env) (s : Shared) (H : Hp) (us ws : List Value) (vs zs : List V) (Q : VK) (E : XK), Room k A → Env0 P w K mg base A outer s H → Vals vs us → Vals zs ws → vs.length = n → zs.length = ks.length → sp (vs ++ zs) H Q E →
    codeAny (model P w) A (.call (.ref f) ⟨us, ks.zip ws⟩) (CR CX outer P w H s Q E) s
theorem FnOk.kw {P : Program} {w : World} {K : PySem.W.Frag} {mg : Str → Option Value} {base : Heap} {CX : CXT} {k n : Nat} {f : Addr} {fd : FuncData} {ps ks : List Str} {sp : Sp} {g : List Value → List Value → List Value} {gV : List V → List V → List V}
    (F : FnOk P w K mg base CX k f fd ps sp) (hb : KBn K fd ps n ks g gV) : FnKw P w K mg base CX k f n ks (fun vs H Q E => ∃ us zs, vs = us ++ zs ∧ us.length = n ∧ sp (gV us zs) H Q E) := by
  intro A outer s H us ws vs zs Q E hr e0 r rz l1 l2 ⟨vs', zs', e, l3, h⟩
  obtain ⟨rfl, rfl⟩ := List.append_inj e (l1.trans l3.symm)
  have KX : K.In s.heap := e0.mod.kin.keeps fun b o e => (e0.bs b o e).1
  exact F.run A outer s H ⟨us, ks.zip ws⟩ (g us ws) (gV vs zs) Q E hr e0 (hb.to s us ws KX (r.length.symm.trans l1) (rz.length.symm.trans l2)) (hb.rel r rz) h
section
variable {X : Cx} {CX : CXT} {k n : Nat} {f C : Addr} {sp : Sp} {E : L2.St → XK} {x : Str} {e : Expr} {es : List Expr} {t tk : TA} {p pos : Pos} {ks : List Str} {kws : List Keyword}
end
end My

set_option Elab.async false
set_option linter.all false
set_option maxRecDepth 100000
set_option maxHeartbeats 4000000
namespace My
open PySem PySem.Spec PyProof.Rows L2 StX
section
variable {X : Cx} {body orelse : List Stmt} {h₀ : ExceptHandler} {hds : List ExceptHandler} {l : List Cl} {pos : Pos} {tb : WX → TS} {u : TS} {Wout : WX}
end
section
variable {X : Cx}
end
end My

set_option Elab.async false
set_option linter.all false
set_option maxRecDepth 100000
set_option maxHeartbeats 4000000
namespace My
open PySem PySem.Spec PyProof.Rows L2 StX
section
variable {X : Cx} {tg e : Expr} {te : TE}
end
end My

set_option Elab.async false
set_option linter.all false
set_option maxRecDepth 100000
set_option maxHeartbeats 4000000
namespace My
open PySem PySem.Spec PySem.Calls PyProof.Rows PySem.W
section
variable {prog : Program} {w : World} {A : Around} {E : Value → Shared → Prop} {s : Shared} {K : Frag} {x D : Addr} {ox : Obj} {od : Option Obj}
theorem find_class (hdct : hasDictIn K D = true) (ha : findIn K (.ref D) "__class__" = some (some (.builtin "object.__class__"))) (hn : specialIn K (.builtin "object.__class__") "__get__" = some (some (.builtin "getset_descriptor.__get__"))) (htk : takesIn K (.builtin "object.__class__") = some true) :
    findObj K D od "__class__" = some (.bind (.builtin "getset_descriptor.__get__") (.builtin "object.__class__")) := by
  have hc : (clsIn K D).isSome = true := by obtain ⟨cd, hc, _⟩ := any_some hdct; rw [hc]; rfl
  cases od with
  | none => exact findObj_dataN hc ha hn htk
  | some o => exact findObj_data hc ha hn htk
theorem class_of_error {Q : Option Value → Shared → Prop} (hga : findIn K (.ref D) "__getattribute__" = some (some (.builtin "BaseException.__getattribute__"))) (hgt : findIn K (.ref D) "__getattr__" = some none) (hsub : subIn K (.ref D) (.type "BaseException") = some true)
    (hf : findObj K D od "__class__" = some (.bind (.builtin "getset_descriptor.__get__") (.builtin "object.__class__"))) (hm : mroIn K D (.type "object") = some true)
    (X : K.In s.heap) (I : InstAt s.heap x ox D od) (h : Q (some (.ref D)) { s with toks := s.toks + 1 }) : wpAny (model prog w) A (getAttr? (.ref x) "__class__") Q E s := by
  obtain ⟨hp, g, d, t, os⟩ := s
  have tyX := I.type (M := model prog w)
  have gaX := looks_findIn (M := model prog w) X hga
  have gtX := looks_findIn (M := model prog w) X hgt
  have fdX := looks_find (M := model prog w) X I hf
  have isX : Looks (model prog w) hp (isInstance (.ref x) (.type "BaseException")) true := tyX.andThen (looks_subIn X hsub)
  have n1 : (Value.builtin "BaseException.__getattribute__" == Value.builtin "object.__getattribute__") = false := by decide +kernel
  have n2 : (onTheHeap (Value.ref D) && Value.builtin "BaseException.__getattribute__" == Value.builtin "object.__getattribute__") = false := by rw [n1]; rfl
  have n0 : (false && onTheHeap (Value.builtin "BaseException.__getattribute__")) = false := rfl
  unfold getAttr? getAttrBy? getAttrBy
  refine wpAny_bind (wpAny_mkText (wpAny_bind (wpAny_attempt (wpAny_holding (wpAny_bind (tyX.at (wpAny_bind (gaX.at ?_))))))))
  show wpAny _ _ (if (onTheHeap (Value.ref D) && Value.builtin "BaseException.__getattribute__" == Value.builtin "object.__getattribute__") = true then _ else _) _ _ _
  rw [n2, if_neg Bool.false_ne_true]
  unfold getAttrByItsOwn hookBefore
  refine wpAny_bind ?_
  rw [if_pos (show onTheHeap (Value.ref D) = true from rfl)]
  refine gtX.at (wpAny_bind (wpAny_attempt (wpAny_holding ?_)))
  unfold callGetattribute
  rw [n0, if_neg Bool.false_ne_true]
  unfold boundAndCalled
  rw [PySem.F.excAttr_ValueError.ga.bind (.ref x)]
  refine wpAny_bind (wpAny_pure ?_)
  show wpAny _ _ (call (.builtin "BaseException.__getattribute__") [.ref x, .str "__class__" t]) _ _ _
  refine wpAny_call (codeAny_call_builtin PySem.F.excAttr_ValueError.ga.plain PySem.F.entry_bexc_ga ?_)
  refine @check_slot (model prog w) _ _ ⟨hp, g, d, t + 1, os⟩ "BaseException.__getattribute__" "BaseException" "__getattribute__" (.ref x) [.str "__class__" t] [] _ (by decide +kernel) (by decide +kernel) isX (PySem.F.args_bexc_ga (.ref x) (.str "__class__" t)) ?_
  unfold Builtin.«object.__getattribute__»
  refine wpAny_bind (wpAny_of_eq (a := ((Value.ref x : Value), [Value.str "__class__" t])) (by first | rfl | (simp only [slotArgs]; rfl)) ?_)
  refine wpAny_bind (wpAny_pure (wpAny_bind (tyX.at (wpAny_bind (fdX.at ?_)))))
  show wpAny _ _ (holding [Value.builtin "object.__class__"] (call (.builtin "getset_descriptor.__get__") [.builtin "object.__class__", .ref x, .ref D]) >>= ret) _ _ _
  refine wpAny_bind (wpAny_holding (wpAny_call (class_get (s := ⟨hp, g, d, t + 1, os⟩) (ox := ox) (od := od) X I hm ?_)))
  refine wpAny_pure ?_
  show wpAny _ _ (handedOut (.ref D)) _ _ _
  rw [handedOut_of (v := .ref D) rfl]
  first
    | exact wpAny_pure (wpAny_pure h)
    | exact wpAny_pure h
    | exact wpAny_pure (wpAny_bind (wpAny_pure (wpAny_pure h)))
theorem error_kit (hga : findIn K (.ref D) "__getattribute__" = some (some (.builtin "BaseException.__getattribute__"))) (hgt : findIn K (.ref D) "__getattr__" = some none) (hsub : subIn K (.ref D) (.type "BaseException") = some true) (hdct : hasDictIn K D = true)
    (ha : findIn K (.ref D) "__class__" = some (some (.builtin "object.__class__"))) (hn : specialIn K (.builtin "object.__class__") "__get__" = some (some (.builtin "getset_descriptor.__get__"))) (htk : takesIn K (.builtin "object.__class__") = some true) (hm : mroIn K D (.type "object") = some true) :
    KitX K (.ref x) (.ref D) (fun h => ∃ od, InstAt h x ox D od) where
  ty := fun _ _ _ ⟨_, I⟩ => I.type
  it := fun _ _ X _ => by
    obtain ⟨cd, hc, _⟩ := any_some hdct
    unfold clsIn at hc
    split at hc
    · rename_i o1 o2 o3 o4 at_
      intro A' Q' E' s' k q
      unfold isType loadHead
      exact wpAny_bind (wpAny_loadPart (k _ _ (X _ _ at_)) (wpAny_pure q))
    · cases hc
  ne := fun h tp dd its n sl X htp => by
    obtain ⟨cd, hc, _⟩ := any_some hdct
    refine Bool.eq_false_iff.mpr fun q => ?_
    have e : D = tp := Value.ref.inj (beq_iff_eq.mp q)
    subst e
    unfold clsIn at hc
    split at hc
    · rename_i o1 o2 o3 o4 at_
      cases (X _ _ at_).symm.trans htp
    · cases hc
  ca := fun X ⟨_, I⟩ k => class_of_error hga hgt hsub (find_class hdct ha hn htk) hm X I k
structure ErrC (K : Frag) (D : Addr) : Prop where
  ha : findIn K (.ref D) "__class__" = some (some (.builtin "object.__class__"))
  hn : specialIn K (.builtin "object.__class__") "__get__" = some (some (.builtin "getset_descriptor.__get__"))
  ht : takesIn K (.builtin "object.__class__") = some true
  hm : mroIn K D (.type "object") = some true
def errB (x : Str) (K : Frag) : Bool := He.eqO (findIn K (.ref (He.ga K x)) "__class__") (some (some (.builtin "object.__class__"))) && (He.eqO (specialIn K (.builtin "object.__class__") "__get__") (some (some (.builtin "getset_descriptor.__get__"))) && (decide (takesIn K (.builtin "object.__class__") = some true) && decide (mroIn K (He.ga K x) (.type "object") = some true)))
theorem errB_ok {x : Str} (h : errB x K = true) : ErrC K (He.ga K x) := by
  obtain ⟨h1, h⟩ := He.ba h
  obtain ⟨h2, h⟩ := He.ba h
  obtain ⟨h3, h4⟩ := He.ba h
  exact ⟨He.eqO_ok h1, He.eqO_ok h2, of_decide_eq_true h3, of_decide_eq_true h4⟩
end
open L2
section
variable {X : Cx} {C fI cc cda : Addr} {cn fl : Str}
end
end My

set_option Elab.async false
set_option linter.all false
set_option maxRecDepth 100000
set_option maxHeartbeats 4000000
namespace My
open PySem PySem.Spec PyProof.Rows L2
def repS (z : Str) (n : Nat) : Str := ⟨(List.replicate n z.cps).foldl (· ++ ·) #[]⟩
end My

set_option Elab.async false
set_option linter.all false
set_option maxRecDepth 100000
set_option maxHeartbeats 4000000
namespace My
open PySem PySem.Spec PyProof.Rows L2 StX
section
variable {X : Cx} {CX : CXT} {k n : Nat} {bad : List Str} {f C g pa : Addr} {spb sp : Sp} {E : L2.St → XK} {x m : Str} {e o : Expr} {es : List Expr} {ta : TE} {t tk : TA} {p pos apos : Pos} {ks : List Str} {kws : List Keyword} {mc : Value}
end
end My

set_option Elab.async false
set_option linter.all false
set_option maxRecDepth 100000
set_option maxHeartbeats 4000000
namespace My
open PySem PySem.Spec PySem.Calls PyProof.Rows PySem.W
section
variable {M : Model} {A : Around} {E : Value → Shared → Prop} {Q : Bool → Shared → Prop} {s : Shared} {K : Frag} {c1 c2 cls : Value} {tp e : Addr} {b : Bool}
end
end My
namespace My
open PySem PySem.Spec PyProof.Rows L2 StX
section
variable {X : Cx} {pins : List (Addr × Obj)} {σ : L2.St} {H : Hp} {D : Ends} {hds : List ExceptHandler} {l : List Cl} {Wout : WX} {a : Addr} {B : Heap} {sI s' : Shared} {cls c1 c2 : Value} {d : Option Addr} {x1 x2 : Str} {p1 p2 tp pos' : Pos} {kk : Nat} {b₀ : Stmt} {suite : List Stmt} {ts : Addr → Value → Option Addr → TS}
end
section
variable {X : Cx} {body orelse : List Stmt} {hds : List ExceptHandler} {l : List Cl} {pos : Pos} {tb : WX → TS} {u : TS} {Wout : WX} {c1 c2 : Value} {x1 x2 : Str} {p1 p2 tp pos' : Pos} {kk : Nat} {b₀ : Stmt} {suite : List Stmt} {ts : Addr → Value → Option Addr → TS}
end
end My

set_option Elab.async false
set_option linter.all false
set_option maxRecDepth 100000
set_option maxHeartbeats 4000000
namespace My
open PySem PySem.Spec PyProof.Rows L2 StX
section
variable {P : Program} {w : World} {K : PySem.W.Frag} {mg mb : Str → Option Value} {base : Heap} {k : Nat} {f fa a : Addr} {sp : Sp} {x qual : Str} {params : Arguments} {body : List Stmt} {scope : Scope} {kws : List (Str × V)} {fd : FuncData} {N ps : List Str}
def FnC (P : Program) (w : World) (K : PySem.W.Frag) (mg : Str → Option Value) (base : Heap) (k : Nat) (f : Addr) (sp : Sp) : Prop :=
  ∀ (s : Shared) (H : Hp) (us : List Value) (vs : List V) (Q : VK) (E : XK), Room k callerA → Env0 P w K mg base callerA [] s H → Vals vs us → sp vs H Q E → codeAny (model P w) callerA (.call (.ref f) ⟨us, []⟩) (CR CX0 [] P w H s Q E) s
theorem FunD.C (F : FunD K x qual params body scope [] kws f fd) (S : FnScope N ps scope) (len : ∀ vs H Q E, sp vs H Q E → vs.length = ps.length)
    (hb : ∀ (kV doc pm : Value) (an : Option Addr) (cdv ct : Value) (us : List Value), us.length = ps.length → bindArgs (PySem.W.fnOf x qual params body scope .none kV doc pm an cdv ct) ⟨us, []⟩ = pure (ps.zip us))
    (hbody : ∀ (cdv : Value) (s : Shared) (H : Hp) (vs : List V) (Q : VK) (E : XK), Room k (callerA.deeper (envOfC qual scope s.heap.objs.size f cdv)) → sp vs H Q E →
      ∃ t, PSs (cxOf CX0 P w K mg base N qual scope f cdv callerA [] s H E) body t ∧ t { nx := fun _ H' => Q .non H', rt := Q } (start N vs) H) : FnC P w K mg base (k + 1) f sp := by
  intro s H us vs Q E hr e0 r h
  obtain ⟨oc, od, dV, kV, doc, pm, an, cdv, ct, osl, rfl, lk, hcd, hD, _⟩ := F.ex
  rcases hD with ⟨_, rfl⟩ | ⟨e, _⟩
  rotate_left
  · exact absurd rfl e
  have hl := len vs H Q E h
  have hlu : us.length = ps.length := by rw [← r.length]; exact hl
  refine run_bnd lk hcd S hr e0 (G := fun xs H2 => xs = vs ∧ H2 = H ∧ Room k (callerA.deeper (envOfC qual scope s.heap.objs.size f cdv))) (fun A' Ex Q' y => ?_) fun s2 H2 xs g hr' => ?_
  · rw [hb _ _ _ _ _ _ us hlu]
    exact wpAny_pure (y s H vs us e0 (Un.refl) rfl (fun _ _ z => z) r hl ⟨rfl, rfl, hr.deeper _⟩)
  · obtain ⟨rfl, rfl, _⟩ := g
    exact hbody cdv s2 H2 xs Q E hr' h
end
section
variable {X : Cx}
end
end My

set_option Elab.async false
set_option linter.all false
set_option maxRecDepth 100000
set_option maxHeartbeats 4000000
namespace My
open PySem PySem.Spec PyProof.Rows L2
def addT (L : List Str) (k : Str) : List Str := if k ∈ L then L else L ++ [k]
section
variable {P : Program} {w : World} {h h' : Heap} {a : Addr} {L : List Str}
end
section
variable {P : Program} {w : World} {A : Around} {E : Value → Shared → Prop} {s : Shared} {a : Addr} {L : List Str}
end
end My

set_option Elab.async false
set_option linter.all false
set_option maxRecDepth 100000
set_option maxHeartbeats 4000000
namespace My
open PySem PySem.Spec PyProof.Rows L2
section
variable {X : Cx}
end
end My

set_option Elab.async false
set_option linter.all false
set_option maxRecDepth 100000
set_option maxHeartbeats 4000000
namespace My
open PySem PySem.Spec PyProof.Rows L2
section
variable {P : Program} {w : World} {A : Around} {E : Value → Shared → Prop} {s : Shared}
end
section
variable {X : Cx}
end
end My

set_option Elab.async false
set_option linter.all false
set_option maxRecDepth 100000
set_option maxHeartbeats 4000000
namespace My
open PySem PySem.Spec PyProof.Rows L2
open Sem (wp)
section
variable {prog : Program} {w : World} {A : Around} {E : Value → Shared → Prop} {s : Shared}
end
end My

set_option Elab.async false
set_option linter.all false
set_option maxRecDepth 100000
set_option maxHeartbeats 4000000
namespace My
open PySem PySem.Spec PyProof.Rows L2 StX
section
variable {X : Cx} {CX : CXT} {k n : Nat} {C g pa : Addr} {sp : Sp} {E : L2.St → XK} {m : Str} {o : Expr} {ta : TE} {pos apos : Pos} {mc : Value}
end
end My

set_option Elab.async false
set_option linter.all false
set_option maxRecDepth 100000
set_option maxHeartbeats 4000000
namespace My
open PySem PySem.Spec PyProof.Rows L2
mutual
/-- the value v is the key k -/
inductive NKy (K : PySem.W.Frag) (H : Hp) : NestedKey → V → Prop
  | non : NKy K H .none .non
  | num (i : Int) : NKy K H (.num i) (.int i)
  | text (x : Str) : NKy K H (.text x) (.str x)
  | tup {a : Addr} {ks : List NestedKey} {vs : List V} : (H a = some (.tup vs) ∨ ∃ (o : Obj) (its : Array Value) (n : Nat), K.lookup a = some o ∧ o.cls = .type "tuple" ∧ o.data = .seq its n ∧ its.size ≤ sizeLine ∧ Vals vs its.toList) → NKys K H ks vs → NKy K H (.tup ks) (.ref a)
inductive NKys (K : PySem.W.Frag) (H : Hp) : List NestedKey → List V → Prop
  | nil : NKys K H [] []
  | cons {k : NestedKey} {v : V} {ks : List NestedKey} {vs : List V} : NKy K H k v → NKys K H ks vs → NKys K H (k :: ks) (v :: vs)
end
section
variable {P : Program} {w : World} {K : PySem.W.Frag} {H : Hp} {h : Heap}
end
section
variable {K : PySem.W.Frag} {H H' : Hp}
mutual
theorem NKy.kept (t : ∀ a xs, H a = some (.tup xs) → H' a = some (.tup xs)) : ∀ {k : NestedKey} {v : V}, NKy K H k v → NKy K H' k v
  | _, _, .non => .non
  | _, _, .num i => .num i
  | _, _, .text x => .text x
  | _, _, .tup q r => .tup (q.imp (t _ _) id) (NKys.kept t r)
theorem NKys.kept (t : ∀ a xs, H a = some (.tup xs) → H' a = some (.tup xs)) : ∀ {k : List NestedKey} {v : List V}, NKys K H k v → NKys K H' k v
  | _, _, .nil => .nil
  | _, _, .cons a r => .cons (NKy.kept t a) (NKys.kept t r)
end
end
mutual
/-- texts that are texts -/
def okN : NestedKey → Prop
  | .text x => PySem.PyData.strOk x = true
  | .tup ks => okNs ks
  | _ => True
def okNs : List NestedKey → Prop
  | [] => True
  | k :: ks => okN k ∧ okNs ks
end
abbrev NE := NestedKey × Addr × V
def NR : NE → NestedKey × Addr × Value → Prop := fun p q => p.1 = q.1 ∧ p.2.1 = q.2.1 ∧ RelV p.2.2 q.2.2
def NDp (P : Program) (w : World) (a : Addr) (xs : List NE) : Heap → Prop := fun h => xs.length ≤ sizeLine ∧ (a == sysModules) = false ∧ ∃ ys : List (NestedKey × Addr × Value), Paired NR xs ys ∧
  ∃ o es ep, h.get? a = some o ∧ o.ExactDict ∧ o.data = .dict es ep ∧ es.toList = ys.map (entryOfKey (nestedKind P w)) ∧ (ys.map (·.1)).Nodup
def ND (P : Program) (w : World) (a : Addr) (xs : List NE) : HO := .ext (NDp P w a xs)
section
variable {P : Program} {w : World} {K : PySem.W.Frag} {H : Hp} {h h' : Heap} {a : Addr} {xs : List NE}
end
section
variable {X : Cx} {pins : List (Addr × Obj)} {σ : L2.St} {H : Hp} {s : Shared} {a : Addr} {y v d : V} {u r : Value} {o : Option V} {A : Around} {E : Value → Shared → Prop}
end
end My

set_option Elab.async false
set_option linter.all false
set_option maxRecDepth 100000
set_option maxHeartbeats 4000000
namespace My
open PySem PySem.Spec PyProof.Rows L2
section
variable {X : Cx} {o i e f : Expr} {pos apos cpos : Pos} {td ty tx : TE}
end
end My

set_option Elab.async false
set_option linter.all false
set_option maxRecDepth 100000
set_option maxHeartbeats 4000000
namespace My
open PySem PySem.Spec PyProof.Rows L2
section
variable {X : Cx} {pins : List (Addr × Obj)} {σ : L2.St} {H : Hp} {s : Shared} {d c : Addr} {o : Obj} {xs : List NE}
end
section
variable {P : Program} {w : World} {K : PySem.W.Frag} {tg : Expr} {d c : Addr} {o : Obj} {es : Array DictEntry} {ep : Nat}
end
end My

set_option Elab.async false
set_option linter.all false
set_option maxRecDepth 100000
set_option maxHeartbeats 4000000
namespace My
open PySem PySem.Spec PyProof.Rows L2
section
variable {X : Cx}
end
section
variable {X : Cx} {C f : Addr} {k : Nat} {sp : Sp}
end
section
variable {P : Program} {w : World} {K : PySem.W.Frag} {mg : Str → Option Value} {base : Heap} {f : Addr}
theorem FnR.calm {k : Nat} {sp sp' : Sp} (F : FnR P w K mg base (L2.CX P w) k f sp) (h : ∀ vs H Q E, sp' vs H Q E → sp vs H Q (fun _ _ _ => False)) : FnR P w K mg base CX0 k f sp' := fun A outer s H us vs Q E hr e0 r hs => codeAny_mono (F A outer s H us vs Q _ hr e0 r (h _ _ _ _ hs)) fun r s' hq => by
  cases r with
  | error e =>
    obtain ⟨_, _, _, _, _, _, _, _, _, _, _, _, z⟩ := hq
    exact z.elim
  | ok fl => cases fl <;> exact hq
end
end My

set_option Elab.async false
set_option linter.all false
set_option maxRecDepth 100000
set_option maxHeartbeats 4000000
namespace My
open PySem PySem.Spec PyProof.Rows L2
section
variable {w : World} {h h' : Heap} {a : Addr} {L : List Int}
end
section
variable {P : Program} {w : World} {A : Around} {E : Value → Shared → Prop} {s : Shared}
end
section
variable {X : Cx}
end
section
variable {X : Cx}
end
end My

set_option Elab.async false
set_option linter.all false
set_option maxRecDepth 100000
set_option maxHeartbeats 4000000
namespace My
open PySem PySem.Spec PyProof.Rows L2
section
variable {X : Cx} {es : List Expr} {t : TA} {pos : Pos}
end
end My

set_option Elab.async false
set_option linter.all false
set_option maxRecDepth 100000
set_option maxHeartbeats 4000000
namespace My
open PySem PySem.Spec PyProof.Rows L2
section
variable {P : Program} {w : World} {it l : Addr} {xs : Array Value}
end
section
variable {P : Program} {w : World} {A : Around} {E : Value → Shared → Prop} {s : Shared} {z TI TO i1 i2 l1 l2 : Addr} {k : Nat} {xs ys : Array Value} {x y a b : Value} {S1 S2 : Nat → Heap → Prop}
end
section
variable {P : Program} {w : World} {A : Around} {E : Value → Shared → Prop} {s : Shared}
end
end My

set_option Elab.async false
set_option linter.all false
set_option maxRecDepth 100000
namespace My
open PySem PySem.Spec PyProof.Rows L2
end My

set_option Elab.async false
set_option linter.all false
set_option maxRecDepth 100000
set_option maxHeartbeats 4000000
namespace My
open PySem PySem.Spec PyProof.Rows L2 PySem.SeqAt
section
variable {A : Around} {s : Shared} {l : Addr}
end
section
variable {X : Cx}
end
end My

set_option Elab.async false
set_option linter.all false
set_option maxRecDepth 100000
set_option maxHeartbeats 4000000
namespace My
open PySem PySem.Spec PyProof.Rows L2 StX
section
variable {X : Cx} {CX : CXT} {k n : Nat} {C g : Addr} {ks : List Str} {sp : SpK} {E : L2.St → XK} {fe : Expr} {kws : List Keyword} {tf : TE} {tk : TA} {pos : Pos}
end
section
variable {K : PySem.W.Frag} {x qual : Str} {params : Arguments} {body : List Stmt} {scope : Scope} {f : Addr} {fd : FuncData} {ps : List Str}
end
end My

set_option Elab.async false
set_option linter.all false
set_option maxRecDepth 100000
set_option maxHeartbeats 4000000
namespace PySem
namespace OwX
open PySem.W PySem.Calls PyProof.Rows PySem.HandSPX
section
variable {M : Model} {A : Around} {E : Value → Shared → Prop} {h : Heap} {g : Array GenState} {d : Drawn} {t : Nat} {os : OsState}
variable {nm q : Str} {C N : Addr} {bs bm bmB : List Value} {hdct : Bool} {sn : List Str} {sub : List Value} {ab : Bool} {col : Option Bool} {dd : Option Addr} {k0 k1 k2 k3 k5 : Option Value} {B newId initId : String}
theorem check_new_ownK (F : ExcBaseFacts B newId initId bmB) (hT : ∀ X : String, bm.contains (.type X) = bmB.contains (.type X)) {rest : List Value} {kw : List (Str × Value)} {Q : Unit → Shared → Prop}
    (hC : h.get? C = some (excClassObj nm q C N bs bm hdct sn sub ab col dd k0 k1 k2 k3 k5 newId)) (hq : Q () ⟨h, g, d, t, os⟩) : wpAny M A (checkBuiltinCall newId ⟨.ref C :: rest, kw⟩) Q E ⟨h, g, d, t, os⟩ := by
  have hcont : (Value.ref C :: bm).contains (.type B) = true := by rw [List.contains_cons, hT, F.hasB, Bool.or_true]
  have hstar := F.noStar
  simp only [checkBuiltinCall, F.newKind, F.newSplit, F.newRow]
  repeat (first | refine wpAny_loadPart_at hC ?_ | (refine wpAny_isSubtype_exc hC ?_; rw [hcont]) | refine wpAny_staticBase_exc hC ?_ | refine wpAny_madeBy_exc hC ?_ | simp only [bne_self_eq_false, Bool.false_eq_true, if_false] | wp_step)
  exact hq
end
section
variable {prog : Program} {w : World} {A : Around} {E : Value → Shared → Prop} {R : Result → Shared → Prop} {h : Heap} {g : Array GenState} {d : Drawn} {t : Nat} {os : OsState}
variable {nm q : Str} {C N : Addr} {bs bm bmB : List Value} {hdct : Bool} {sn : List Str} {sub : List Value} {ab : Bool} {col : Option Bool} {dd : Option Addr} {k0 k1 k2 k3 k5 : Option Value} {B newId initId : String}
theorem new_ownK (F : ExcBaseFacts B newId initId bmB) (hT : ∀ X : String, bm.contains (.type X) = bmB.contains (.type X)) {rest : List Value} {kw : List (Str × Value)}
    (hC : h.get? C = some (excClassObj nm q C N bs bm hdct sn sub ab col dd k0 k1 k2 k3 k5 newId))
    (hq : R (.ok (.ret (.ref (h.objs.size + 1)))) ⟨(h.push { cls := .type "tuple", data := .seq rest.toArray }).push
      { cls := .ref C, data := .fields #[.ref h.objs.size, .none, .none, .none, .bool false, .none] }, g, d, t, os⟩) (hrest : rest.length ≤ sizeLine) :
    codeAny (model prog w) A (.builtin newId ⟨.ref C :: rest, kw⟩) R ⟨h, g, d, t, os⟩ := by
  have hends := F.ends
  have hcB : (Value.ref C :: bm).contains (.type B) = true := by rw [List.contains_cons, hT, F.hasB, Bool.or_true]
  have hcA : (Value.ref C :: bm).contains (.type "AttributeError") = false := by rw [List.contains_cons, hT, F.noAttr]; rfl
  have hcN : (Value.ref C :: bm).contains (.type "NameError") = false := by rw [List.contains_cons, hT, F.noName]; rfl
  refine codeAny_builtinAt F.entry ?_
  unfold Builtin.«BaseException.__new__»
  refine wpAt_bind ?_
  show wpAt _ _ _ (stack >>= _) _ _ _
  refine wpAt_bind (wpAt_stack fun p below => wpAt_of_wpAny ?_)
  wp_walk
  refine wpAt_of_wpAny ?_
  rw [F.owner]
  repeat (first | with_reducible refine wpAny_madeHere_exc F.canon hC ?_ | with_reducible refine wpAny_loadPart_at hC ?_ | (with_reducible refine wpAny_isSubtype_exc hC ?_; first | rw [hcB] | rw [hcA] | rw [hcN]) | wp_step)
  show R _ _
  rw [Heap.size_push]
  exact hq
theorem type_call_ownK (F : ExcBaseFacts B newId initId bmB) (hT : ∀ X : String, bm.contains (.type X) = bmB.contains (.type X)) {rest : List Value} {kw : List (Str × Value)} {fI : Addr} {Q : Fin → Shared → Prop}
    (hC : h.get? C = some (excClassObj nm q C N bs bm hdct sn sub ab col dd k0 k1 k2 k3 k5 newId))
    (hi : W.Looks (model prog w) h (typeLookup (.ref C) "__init__") (some (.ref fI))) (hb : ∀ self, W.Looks (model prog w) h (bindSpecial (.ref fI) self) (.ref fI, [self])) (hrest : rest.length ≤ sizeLine)
    (hq : codeAny (model prog w) A (.call (.ref fI) ⟨.ref (h.objs.size + 1) :: rest, kw⟩)
      (fun r s' => match r with | .ok (.ret v) => v = .none ∧ Q (.done (.ret (.ref (h.objs.size + 1)))) s' | .ok _ => False | .error e => E e s')
      ⟨(h.push (W.kdv_tup rest)).push (excO C h.objs.size), g, d, t, os⟩) :
    wpAny (model prog w) A (Builtin.«type.__call__» ⟨.ref C :: rest, kw⟩) Q E ⟨h, g, d, t, os⟩ := by
  repeat (first | with_reducible refine wpAny_loadPart_at hC ?_ | with_reducible refine wpAny_madeBy_exc hC ?_ | wp_step)
  refine codeAny_call_builtin_code (Code.quiet_builtin _ F.quiet) (check_new_ownK F hT hC ?_)
  refine new_ownK F hT hC ?_ hrest
  show wpAny _ _ _ _ _ _
  have k : ∀ b o, h.get? b = some o → ((h.push (W.kdv_tup rest)).push (excO C h.objs.size)).get? b = some o := fun b o e => Heap.get?_push_of_some _ (Heap.get?_push_of_some _ e)
  have hC₁ := k _ _ hC
  have hget : ((h.push (W.kdv_tup rest)).push (excO C h.objs.size)).get? (h.objs.size + 1) = some (excO C h.objs.size) := by heap_get
  have hcC : (Value.ref C :: bm).contains (.ref C) = true := by simp
  have i1 := hi.keeps k
  have b1 := (hb (.ref (h.objs.size + 1))).keeps k
  unfold isInstance
  repeat (first | with_reducible refine wpAny_loadPart_at hget ?_ | (with_reducible refine wpAny_isSubtype_exc hC₁ ?_; rw [hcC]) | wp_step)
  show wpAny _ _ (typeLookup (.ref C) _) _ _ _
  refine i1.at ?_
  refine wpAny_holding (wpAny_bind (b1.at ?_))
  refine wpAny_bind (wpAny_call (codeAny_mono hq fun r s' z => ?_))
  rcases r with e | (v | _ | _ | _) <;> first | exact z | exact z.elim | skip
  obtain ⟨rfl, z⟩ := z
  first
    | exact wpAny_pure (wpAny_pure z)
    | (wp_walk; exact z)
theorem check_type_call_subK {M : Model} {rest : List Value} {kw : List (Str × Value)} {Q : Unit → Shared → Prop} (hC : h.get? C = some (excClassObj nm q C N bs bm hdct sn sub ab col dd k0 k1 k2 k3 k5 newId))
    (hq : Q () ⟨h, g, d, t, os⟩) : wpAny M A (checkBuiltinCall "type.__call__" ⟨.ref C :: rest, kw⟩) Q E ⟨h, g, d, t, os⟩ := by
  have f3 := tc_sub
  have hT : (⟨h, g, d, t, os⟩ : Shared).TypeIs (.ref C) "type" := ⟨_, hC, rfl⟩
  simp only [checkBuiltinCall, tc_kind, tc_split]
  repeat (any_goals (first | assumption | with_reducible refine wpAny_loadPart_at hC ?_ | with_reducible refine wpAny_onRaise ?_ | with_reducible refine wpAny_map ?_ | wp_step))
theorem call_ownK (F : ExcBaseFacts B newId initId bmB) (hT : ∀ X : String, bm.contains (.type X) = bmB.contains (.type X)) {rest : List Value} {kw : List (Str × Value)} {fI : Addr}
    (hC : h.get? C = some (excClassObj nm q C N bs bm hdct sn sub ab col dd k0 k1 k2 k3 k5 newId))
    (hi : W.Looks (model prog w) h (typeLookup (.ref C) "__init__") (some (.ref fI))) (hb : ∀ self, W.Looks (model prog w) h (bindSpecial (.ref fI) self) (.ref fI, [self])) (hrest : rest.length ≤ sizeLine)
    (hq : codeAny (model prog w) (A.under (.builtin "type.__call__" ⟨.ref C :: rest, kw⟩)) (.call (.ref fI) ⟨.ref (h.objs.size + 1) :: rest, kw⟩) (W.InitBack (h.objs.size + 1) R)
      ⟨(h.push (W.kdv_tup rest)).push (excO C h.objs.size), g, d, t, os⟩) :
    codeAny (model prog w) A (.call (.ref C) ⟨rest, kw⟩) R ⟨h, g, d, t, os⟩ := by
  have f1 := tc_lookup
  have f2 := tc_bind (.ref C)
  have hTy : (⟨h, g, d, t, os⟩ : Shared).TypeIs (.ref C) "type" := ⟨_, hC, rfl⟩
  refine codeAny_of_tree ?_
  show wpAny _ _ (callAny (.ref C) _) _ _ _
  repeat (any_goals (first | assumption | with_reducible refine wpAny_loadPart_at hC ?_ | wp_step))
  refine ⟨rfl, ?_⟩
  refine codeAny_call_builtin_at (Code.quiet_builtin _ (by decide +kernel)) entry_typeCall (check_type_call_subK hC (type_call_ownK F hT hC hi hb hrest ?_))
  refine codeAny_mono hq fun r s' z => ?_
  rcases r with e | (v | _ | _ | _) <;> exact z
end
end OwX
end PySem
namespace PySem
namespace OwX
open PySem.W PySem.Calls PyProof.Rows PySem.HandSPX
def asg1 (fl : Str) (p : Pos × Pos × Pos × Pos) : Stmt := .Assign [.Attribute (.Name "self" p.1) fl p.2.1] (.Name fl p.2.2.1) p.2.2.2
def sup1 (msg : Str) (j : Nat) (p0 p1 p2 p3 p4 p5 : Pos) : Stmt := .Expr (.Call (.Attribute (.Call (.Name "super" p0) [] [] p1) "__init__" p2) [.Constant (.str msg) j p3] [] p4) p5
structure OwN (fls : List Str) (qual : Str) (params : Arguments) (body : List Stmt) (scope : Scope) : Prop where
  ar : ∃ ar : Arg, (params.posonlyargs ++ params.args).head? = some ar ∧ ar.arg = "self"
  bind : ∀ (doc pm : Value) (an : Option Addr) (cda : Addr) (ct : Value) (cc : Addr) (a : Value) (us : List Value), us.length = fls.length →
    bindArgs (PySem.W.ksFn "__init__" qual params body scope .none .none doc pm an (.ref cda) ct cc) ⟨a :: us, []⟩ = pure ((("self" : Str), a) :: fls.zip us) ∧
    bindArgs (PySem.W.ksFn "__init__" qual params body scope .none .none doc pm an (.ref cda) ct cc) ⟨[a], fls.zip us⟩ = pure ((("self" : Str), a) :: fls.zip us)
  body : ∃ msg j p0 p1 p2 p3 p4 p5 qs, body = sup1 msg j p0 p1 p2 p3 p4 p5 :: (fls.zip qs).map (fun x => asg1 x.1 x.2) ∧ qs.length = fls.length ∧ (∃ pl : Env → Sem Bool, ∀ env : Env, eval (.Call (.Attribute (.Call (.Name "super" p0) [] [] p1) "__init__" p2) [.Constant (.str msg) j p3] [] p4) env = (do
        let ov ← attributeBase (.Call (.Name "super" p0) [] [] p1) "__init__" env (eval (.Call (.Name "super" p0) [] [] p1) env)
        standAt p2.atName
        let (f, first) ← holding [ov] (getMethod ov "__init__" (pl env))
        callWith p4 f first (backTo p4 (starEach [.Constant (.str msg) j p3] env)) [])) ∧
      (∀ env : Env, swapsWith (.Call (.Attribute (.Call (.Name "super" p0) [] [] p1) "__init__" p2) [.Constant (.str msg) j p3] [] p4) none p5.line env = pure false) ∧
      ∀ (fl : Str) (q1 q2 q3 q4 : Pos) (env : Env), swapsWith (.Name fl q3) (some (.Attribute (.Name "self" q1) fl q2)) q4.line env = pure false
  sc : scope.kind = .function ∧ scope.isCoroutine = false ∧ scope.isGenerator = false ∧ (∀ y ∈ scope.names, y.2 ≠ .cell) ∧ scope.names.lookup ("self" : Str) = some .local ∧ (∀ fl ∈ fls, scope.names.lookup fl = some .local ∧ ¬ fl = "self" ∧ (fl == ("__debug__" : Str)) = false) ∧
    scope.names.lookup ("super" : Str) = some .globalImplicit ∧ scope.names.lookup ("__class__" : Str) = some .free
  nd : fls.Nodup
  ne : fls ≠ []
  ln : fls.length ≤ 900
structure OwTN (prog : Program) (K : Frag) (mg : Str → Option Value) (C fI cc cda : Addr) (cn : Str) (fls : List Str) : Prop where
  gC : mg cn = some (.ref C)
  cls : ∃ nm q N bs bm sn sub ab col dd k0 k1 k2 k3 k5, K.lookup C = some (excClassObj nm q C N bs bm true sn sub ab col dd k0 k1 k2 k3 k5 "ValueError.__new__") ∧ refsVE bm = true
  sa : findIn K (.ref C) "__setattr__" = some (some (.builtin "object.__setattr__"))
  ga : findIn K (.ref C) "__getattribute__" = some (some (.builtin "BaseException.__getattribute__"))
  gg : findIn K (.ref C) "__getattr__" = some none
  noN : ∀ fl ∈ fls, findIn K (.ref C) fl = some none
  iC : findIn K (.ref C) "__init__" = some (some (.ref fI))
  tC : typeIn K (.ref fI) = some (.type "function")
  kC : keepIn K (.ref C) = true
  exC : subIn K (.ref C) (.type "BaseException") = some true
  tyC : typeIn K (.ref C) = some (.type "type")
  hdC : hasDictIn K C = true
  self : mroIn K C (.ref C) = some true
  ve : subIn K (.ref C) (.type "ValueError") = some true
  sup : ks_superIn K C C "__init__" = some (some (.builtin "ValueError.__init__"))
  opq : nsIn K cStatics "thirdparty.any" = some none
  nsup : nsIn K mainGlobals "super" = some none
  cell : ∃ cl cld csl, K.lookup cc = some ⟨cl, cld, .cell (some (.ref C)), csl⟩
  code : ∃ ccl cdd vs ccs file tf, K.lookup cda = some ⟨ccl, cdd, .fields vs, ccs⟩ ∧ vs[2]? = some (.str file tf) ∧ ((prog.main.file : Str) == file) = true
  top : (prog.main.scope.names.lookup ("super" : Str)).isSome = false
  fn : ∃ (qual : Str) (params : Arguments) (body : List Stmt) (scope : Scope) (oc : Value) (od : Option Addr) (doc pm : Value) (an : Option Addr) (ct : Value) (osl : Array (Option Value)),
    K.lookup fI = some ⟨oc, od, .func (ksFn "__init__" qual params body scope .none .none doc pm an (.ref cda) ct cc), osl⟩ ∧ codeIn K (.ref cda) qual = true ∧ OwN fls qual params body scope
structure InitN (fls : List Str) (vs : List Value) (h h' : Heap) (x C dx : Addr) : Prop where
  keep : ∀ b o, b ≠ x → h.get? b = some o → h'.get? b = some o
  obj : ∃ t1, h'.get? x = some { cls := .ref C, dict := some dx, data := .fields #[.ref t1, .none, .none, .none, .bool false, .none] }
  dbig : h.objs.size ≤ dx
  dne : dx ≠ x
  ns : ∃ m, h'.Ns1 dx m ∧ ∀ y, m y = (fls.zip vs).lookup y
theorem lk_notin {y : Str} {l : List (Str × Value)} (h : y ∉ l.map (·.1)) : l.lookup y = none := by
  induction l with
  | nil => rfl
  | cons p l ih =>
    obtain ⟨a, b⟩ := p
    simp only [List.map_cons, List.mem_cons, not_or] at h
    have e : (y == a) = false := by simpa using h.1
    rw [List.lookup_cons, e]
    exact ih h.2
theorem lk_app {y : Str} {a b : List (Str × Value)} : (a ++ b).lookup y = match a.lookup y with | some z => some z | none => b.lookup y := by
  induction a with
  | nil => rfl
  | cons p a ih =>
    obtain ⟨c, d⟩ := p
    rw [List.cons_append, List.lookup_cons, List.lookup_cons]
    cases (y == c) with
    | true => rfl
    | false => exact ih
theorem lk_rev {y : Str} {l : List (Str × Value)} (nd : (l.map (·.1)).Nodup) : l.reverse.lookup y = l.lookup y := by
  induction l with
  | nil => rfl
  | cons p l ih =>
    obtain ⟨a, b⟩ := p
    simp only [List.map_cons, List.nodup_cons] at nd
    rw [List.reverse_cons, lk_app, ih nd.2, List.lookup_cons, List.lookup_cons]
    by_cases e : y = a
    · subst e
      rw [lk_notin nd.1]
      simp
    · have e2 : (y == a) = false := by simpa using e
      rw [e2]
      cases l.lookup y <;> rfl
theorem zz_map {α β γ δ : Type} (g : α → β → δ) : ∀ {a : List α} {b : List β} {c : List γ}, a.length = b.length → a.length = c.length → ((a.zip b).zip c).map (fun p => g p.1.1 p.1.2) = (a.zip b).map (fun p => g p.1 p.2)
  | [], _, _, _, _ => rfl
  | x :: a, y :: b, z :: c, h1, h2 => by
    simp only [List.zip_cons_cons, List.map_cons]
    rw [zz_map g (Nat.succ.inj h1) (Nat.succ.inj h2)]
  | _ :: _, [], _, h, _ => by cases h
  | _ :: _, _ :: _, [], _, h => by cases h
theorem zz_name {α β γ : Type} : ∀ {a : List α} {b : List β} {c : List γ}, a.length = b.length → a.length = c.length → ((a.zip b).zip c).map (fun p => (p.1.1, p.2)) = a.zip c
  | [], _, _, _, _ => rfl
  | x :: a, y :: b, z :: c, h1, h2 => by
    simp only [List.zip_cons_cons, List.map_cons]
    rw [zz_name (Nat.succ.inj h1) (Nat.succ.inj h2)]
  | _ :: _, [], _, h, _ => by cases h
  | _ :: _, _ :: _, [], _, h => by cases h
theorem lk_zip {v : Value} {y : Str} : ∀ {a : List Str} {c : List Value}, a.Nodup → a.length = c.length → (y, v) ∈ a.zip c → (a.zip c).lookup y = some v
  | [], _, _, _, h => by cases h
  | x :: a, z :: c, nd, hl, h => by
    rw [List.zip_cons_cons, List.lookup_cons]
    rcases List.mem_cons.mp h with e | h
    · cases e
      simp
    · have hy : y ∈ a := (List.of_mem_zip h).1
      have e : (y == x) = false := by
        simpa using fun e => (List.nodup_cons.mp nd).1 (by rw [← e]; exact hy)
      rw [e]
      exact lk_zip (List.nodup_cons.mp nd).2 (Nat.succ.inj hl) h
  | _ :: _, [], _, h, _ => by cases h
section
variable {prog : Program} {w : World} {A : Around} {E : Value → Shared → Prop} {R : Result → Shared → Prop} {s : Shared} {K : Frag} {mg : Str → Option Value} {C fI cc cda : Addr} {cn : Str} {fls : List Str}
theorem ow_rest {env : Env} {x dx L : Addr} {cd : ClassData} {fv : Array Value} {mL : Str → Option Value} {g : Array GenState} {d : Drawn} {os : OsState} {Q : Flow → Shared → Prop} (hsa : findIn K (.ref C) "__setattr__" = some (some (.builtin "object.__setattr__"))) (hcl : clsIn K C = some cd) (hbm : refsVE cd.mro = true) (hh : cd.hasDict = true)
    (hk : env.scope.kind = .function) (hL : env.locals = L) (hnL : L ≠ dx) (ks : env.kindOf "self" = some .local) (hself : mL "self" = some (.ref x)) (hxd : x ≠ dx) (hKd : ∀ o, K.lookup dx ≠ some o)
    (hsw : ∀ (fl : Str) (q1 q2 q3 q4 : Pos) (env : Env), swapsWith (.Name fl q3) (some (.Attribute (.Name "self" q1) fl q2)) q4.line env = pure false) :
    ∀ (l : List ((Str × (Pos × Pos × Pos × Pos)) × Value)) (h : Heap) (t : Nat) (m0 : Str → Option Value) (nl : List Str), (∀ p ∈ l, env.kindOf p.1.1 = some .local ∧ mL p.1.1 = some p.2 ∧ (p.1.1 == ("__debug__" : Str)) = false ∧ findIn K (.ref C) p.1.1 = some none) →
      K.In h → h.get? x = some { cls := .ref C, dict := some dx, data := .fields fv } → h.Ns1 dx m0 → Within m0 nl → nl.length + l.length ≤ 1000 → h.Ns L mL →
      (∀ h' tk' m, (∀ b o, b ≠ dx → h.get? b = some o → h'.get? b = some o) → h'.Ns1 dx m → (∀ y, m y = match (l.map fun p => (p.1.1, p.2)).reverse.lookup y with | some v => some v | none => m0 y) → Q .next ⟨h', g, d, tk', os⟩) →
      wpAny (model prog w) A (execs (l.map fun p => asg1 p.1.1 p.1.2) env) Q E ⟨h, g, d, t, os⟩ := by
  intro l
  induction l with
  | nil =>
    intro h t m0 nl _ X hx hn hw hlen hN hq
    exact wpAny_execs_nil (hq h t m0 (fun b o _ e => e) hn fun y => rfl)
  | cons p l ih =>
    intro h t m0 nl hp X hx hn hw hlen hN hq
    obtain ⟨⟨f, q1, q2, q3, q4⟩, v⟩ := p
    obtain ⟨kf, hf, ndb, hno⟩ := hp _ (List.mem_cons_self ..)
    dsimp only at kf hf ndb hno
    obtain ⟨oD, _, _, hoD, _, _⟩ := hn.count hw
    rw [← hL] at hN
    refine wpAny_execs_cons (plainObj_wpAny_Assign_Attribute ?_ (hsw f q1 q2 q3 q4 _))
    refine wpAny_Name (wpAny_loadName_local hk kf hN hf ?_) ndb
    refine wpAny_Name (wpAny_loadName_local hk ks hN hself ?_) (by decide)
    refine set_plain X (ox := { cls := .ref C, dict := some dx, data := .fields fv }) (od := some oD) ⟨hx, rfl, rfl, hoD⟩ hsa ?_
    refine PySem.OEX.osa_old X hx hn hw (by rw [List.length_cons] at hlen; omega) hcl hbm hh hno (fun h' tk' k hn' => ?_)
    refine ih h' tk' _ (f :: nl) (fun p hp' => hp p (List.mem_cons_of_mem _ hp')) (fun a o e => k a o (fun z => hKd o (by rw [← z]; exact e)) (X a o e)) (k _ _ hxd hx) hn' (Within.cons f v hw) (by rw [List.length_cons] at hlen ⊢; omega) ?_ fun h2 tk2 m k2 hm em => ?_
    · obtain ⟨oL, es, ep, e1, r⟩ := hN
      rw [hL] at e1
      exact ⟨oL, es, ep, k _ _ hnL e1, r⟩
    · refine hq h2 tk2 m (fun b o hb e => k2 b o hb (k b o hb e)) hm fun y => ?_
      rw [em y, List.map_cons, List.reverse_cons]
      rw [lk_app]
      cases e : ((l.map fun p => (p.1.1, p.2)).reverse).lookup y with
      | some z => rfl
      | none =>
        by_cases e2 : y = f
        · simp [e2, List.lookup_cons]
        · have e3 : (y == f) = false := by simpa using e2
          simp [e2, e3, List.lookup_cons]
theorem ow_initN (T : OwTN prog K mg C fI cc cda cn fls) {x t0 : Addr} {vs : List Value} {ar : Args} (X : K.In s.heap) (hg : s.heap.Ns mainGlobals mg) (hbl : ∃ mb, s.heap.Ns builtinsNs mb ∧ ∀ y : Str, y ≠ "__name__" → mb y = bootBuiltins y) (hlim : s.heap.NoLimit)
    (hx : s.heap.get? x = some (excO C t0)) (nKx : K.lookup x = none) (hKb : ∀ b o, K.lookup b = some o → b < s.heap.objs.size) (hroom : A.depth < recursionLimit) (hl : vs.length = fls.length) (har : ar = ⟨.ref x :: vs, []⟩ ∨ ar = ⟨[.ref x], fls.zip vs⟩)
    (hq : ∀ h' tk dx, InitN fls vs s.heap h' x C dx → R (.ok (.ret .none)) { s with heap := h', toks := tk }) :
    codeAny (model prog w) A (.call (.ref fI) ar) R s := by
  obtain ⟨qual, params, body, scope, oc, od, doc, pm, an, ct, osl, hfn, hcd, O⟩ := T.fn
  obtain ⟨ar0, hhd, har0⟩ := O.ar
  obtain ⟨msg, j, p0, p1, p2, p3, p4, p5, qs, rfl, hqs, ⟨pl, hev⟩, hsw1, hsw2⟩ := O.body
  obtain ⟨hk, hco, hgen, hce, ks, kf, ksu, kcl⟩ := O.sc
  obtain ⟨cl, cld, csl, hcell⟩ := T.cell
  obtain ⟨ccl, cdd, cvs, ccs, file, tf, hcode, hvs, hfile⟩ := T.code
  obtain ⟨nm, q, N, bs, bm, sn, sub, ab, col, dd, k0, k1, k2, k3, k5, hC, hbm⟩ := T.cls
  obtain ⟨mb, hb, hbb⟩ := hbl
  have hcl : clsIn K C = some { name := nm, bases := bs, mro := .ref C :: bm, ns := N, qualname := q, hasDict := true, slotNames := sn, subclasses := sub, abstract := ab, collection := col, hasDel := false } := by unfold clsIn; rw [hC] <;> rfl
  have ezip : (fls.zip vs).map (·.1) = fls := List.map_fst_zip (Nat.le_of_eq hl.symm)
  have hbi : bindArgs (PySem.W.ksFn "__init__" qual params (sup1 msg j p0 p1 p2 p3 p4 p5 :: (fls.zip qs).map (fun x => asg1 x.1 x.2)) scope .none .none doc pm an (.ref cda) ct cc) ar = pure ((("self" : Str), Value.ref x) :: fls.zip vs) := by
    rcases har with e | e
    · rw [e]; exact (O.bind doc pm an cda ct cc (.ref x) vs hl).1
    · rw [e]; exact (O.bind doc pm an cda ct cc (.ref x) vs hl).2
  refine ks_codeAny_call_defAt (binds := (("self" : Str), Value.ref x) :: fls.zip vs) hroom (X _ _ hfn) rfl hlim (codeRec_of X hcd) rfl (BindsTo.of_eq hbi) hce ?_ (fun h1 hns hk1 => ?_) hco hgen hk
  · intro y hy
    rcases List.mem_cons.mp hy with rfl | hy
    · exact ks
    · have z : y.1 ∈ fls := by rw [← ezip]; exact List.mem_map_of_mem hy
      exact (kf _ z).1
  have X1 : K.In h1 := X.keeps hk1
  have hg1 := hg.keeps hk1
  have hb1 := hb.keeps hk1
  have hx1 := hk1 _ _ hx
  have ndS : ((("self" : Str), Value.ref x) :: fls.zip vs).map (·.1) |>.Nodup := by
    rw [List.map_cons, ezip]
    exact List.nodup_cons.mpr ⟨fun z => (kf _ z).2.1 rfl, O.nd⟩
  have hself : (((("self" : Str), Value.ref x) :: fls.zip vs).reverse.lookup ("self" : Str)) = some (.ref x) := by
    rw [lk_rev ndS]
    simp [List.lookup_cons]
  have hfld : ∀ f v, (f, v) ∈ fls.zip vs → (((("self" : Str), Value.ref x) :: fls.zip vs).reverse.lookup f) = some v := fun f v h => by
    have z : f ∈ fls := (List.of_mem_zip h).1
    have e : (f == ("self" : Str)) = false := by simpa using (kf _ z).2.1
    rw [lk_rev ndS, List.lookup_cons, e]
    exact lk_zip O.nd hl.symm h
  have hkM : (scope.kind == ScopeKind.module) = false := by rw [hk]; rfl
  refine ks_wpAt_execs_cons (ks_wpAt_Expr_any (ks_wpAt_MethodCall (pl := pl _) ?_ (hev _)) (by show (scope.kind == ScopeKind.module && scope.more.any fun (n, _) => n == ("interactive" : Str)) = false; rw [hkM]; rfl) (hsw1 _))
  refine ks_wpAt_super_base ksu kcl (by decide) rfl (X1 _ _ hfn) rfl hhd rfl (X1 _ _ hcode) rfl hvs hfile T.top ?_
  refine ks_loadName_global hk ksu (loadGlobal_builtin hg1 (mg_none_of X hg T.nsup) hb1 ((hbb _ (by decide +kernel)).trans (by decide +kernel : bootBuiltins "super" = some (.type "super"))) ⟨rfl, ?_⟩)
  refine wpAny_loadName_free hk kcl rfl ⟨_, X1 _ _ hcell, rfl⟩ ?_
  rw [har0]
  refine wpAny_loadName_local hk ks hns hself ?_
  obtain ⟨oD, hD1, hD2⟩ : ∃ oD, h1.get? C = some oD ∧ oD.data = .cls _ := ⟨_, X1 _ _ hC, rfl⟩
  refine ks_wpAny_isType_cls hD1 hD2 ⟨rfl, ?_⟩
  refine ks_wpAny_call_super hD1 hD2 hx1 rfl (fun c e => by cases e) (looks_mroIn X1 T.self) (fun h2 hso k2 => ?_)
  have X2 : K.In h2 := X1.keeps k2
  have hx2 := k2 _ _ hx1
  have J2 : InstAt h2 x (excO C t0) C none := ⟨hx2, rfl, rfl, trivial⟩
  refine kxs_getMethod kxs_ValueError (l₀ := .ref C :: bm) hso (looks_opaque X2 T.opq) ?_ rfl X2 ?_ (J2.type.andThen (looks_subIn X2 T.ve)) (ks_ne X2 J2 hcl) (by decide) ?_
  · exact fun A Q E s k q => wpAny_bind ((looks_clsIn X2 hcl) A _ E s k (wpAny_pure q))
  · have z := T.sup
    unfold ks_superIn at z
    rw [hcl] at z
    exact z
  have k3 : ∀ b o, h2.get? b = some o → (h2.push (kxs_mw "ValueError.__init__" x)).get? b = some o := fun b o e => Heap.get?_push_of_some _ e
  have hu3 : (h2.push (kxs_mw "ValueError.__init__" x)).get? h2.objs.size = some (kxs_mw "ValueError.__init__" x) := Heap.get?_push_at rfl rfl
  have hx3 := k3 _ _ hx2
  have hC3 := X2.keeps k3 _ _ hC
  refine kxs_callWith (i := "ValueError.__init__") (x := x) rfl (evalArgs_plain ?_)
  refine Calls.spliced_cons (Calls.Constant_str (k := j) (pos := p3) (Calls.spliced_nil ⟨hu3, ?_⟩))
  refine wpAny_call (codeAny_of_tree ?_)
  show wpAny _ _ (callAny (.ref h2.objs.size) _) _ _ _
  simp only [callAny]
  refine wpAny_bind (wpAny_load hu3 ?_)
  simp only [kxs_mw, show (Value.type "method-wrapper" == Value.type "method" || Value.type "method-wrapper" == Value.type "builtin_function_or_method" || Value.type "method-wrapper" == Value.type "method-wrapper") = true by decide, if_true]
  refine KFB.if_so (by decide) ?_
  refine wpAny_bind (check_bound_init F.excBase_ValueError.toExcCallFacts hC3 hx3 rfl ?_)
  refine wpAny_bind (wpAny_pure (wpAny_pure ?_))
  refine ⟨plainId_quiet F.excBase_ValueError.init.plain _, codeAny_builtin F.excBase_ValueError.initEntry ?_⟩
  refine exc_init_tree (cls := .ref C) (t0 := t0) (dv := none) (c2 := .none) (c3 := .none) (b4 := .bool false) hx3 (by show 1 ≤ sizeLine; decide) (fun h4 k4 hx4 ht4 => ?_)
  have hLx : s.heap.objs.size ≠ x := Nat.ne_of_gt (Heap.lt_size hx)
  have k14 : ∀ b o, b ≠ x → h1.get? b = some o → h4.get? b = some o := fun b o hb e => k4 b o hb (k3 b o (k2 b o e))
  have hns4 : h4.Ns s.heap.objs.size (fun y => (((("self" : Str), Value.ref x) :: fls.zip vs).reverse.lookup y)) := by
    obtain ⟨oL, es, ep, hL, r⟩ := hns
    exact ⟨oL, es, ep, k14 _ _ hLx hL, r⟩
  have X4 : K.In h4 := fun a o e => k14 a o (fun z => by rw [z, nKx] at e; cases e) (X1 a o e)
  obtain ⟨f, fls', rfl⟩ : ∃ f fls', fls = f :: fls' := by
    cases e : fls with
    | nil => exact absurd e O.ne
    | cons f l => exact ⟨f, l, rfl⟩
  obtain ⟨v, vs', rfl⟩ : ∃ v vs', vs = v :: vs' := by
    cases vs with
    | nil => cases hl
    | cons v l => exact ⟨v, l, rfl⟩
  obtain ⟨⟨q1, q2, q3, q4⟩, qs', rfl⟩ : ∃ v vs', qs = v :: vs' := by
    cases qs with
    | nil => cases hqs
    | cons v l => exact ⟨v, l, rfl⟩
  have l1 : vs'.length = fls'.length := Nat.succ.inj hl
  have l2 : qs'.length = fls'.length := Nat.succ.inj hqs
  have kf0 := kf f (List.mem_cons_self ..)
  refine wpAt_of_wpAny (wpAny_execs_cons (plainObj_wpAny_Assign_Attribute ?_ (hsw2 f q1 q2 q3 q4 _)))
  refine wpAny_Name (wpAny_loadName_local hk kf0.1 hns4 (hfld f v (List.mem_cons_self ..)) ?_) kf0.2.2
  refine wpAny_Name (wpAny_loadName_local hk ks hns4 hself ?_) (by decide)
  refine set_plain X4 (ox := excO C _) (od := none) ⟨hx4, rfl, rfl, trivial⟩ T.sa ?_
  refine exc_osa X4 hx4 hcl (show refsVE (.ref C :: bm) = true from hbm) rfl (T.noN f (List.mem_cons_self ..)) (fun h5 tk5 dx k5 dn dne hx5 hn5 => ?_)
  have hLd : s.heap.objs.size ≠ dx := Nat.ne_of_lt (Nat.lt_of_lt_of_le hns4.lt dn)
  have hdb : s.heap.objs.size ≤ dx := Nat.le_of_lt (Nat.lt_of_lt_of_le hns4.lt dn)
  have k15 : ∀ b o, b ≠ x → h1.get? b = some o → h5.get? b = some o := fun b o hb e => k5 b o hb (k14 b o hb e)
  have X5 : K.In h5 := fun a o e => k15 a o (fun z => by rw [z, nKx] at e; cases e) (X1 a o e)
  have hns5 : h5.Ns s.heap.objs.size (fun y => (((("self" : Str), Value.ref x) :: (f :: fls').zip (v :: vs')).reverse.lookup y)) := by
    obtain ⟨oL, es, ep, hL, r⟩ := hns4
    exact ⟨oL, es, ep, k5 _ _ hLx hL, r⟩
  have ez := zz_map asg1 (a := fls') (b := qs') (c := vs') l2.symm l1.symm
  have en := zz_name (a := fls') (b := qs') (c := vs') l2.symm l1.symm
  show wpAny (model prog w) _ (execs ((fls'.zip qs').map fun x => asg1 x.1 x.2) _) _ _ _
  rw [← ez]
  refine ow_rest T.sa hcl (show refsVE (.ref C :: bm) = true from hbm) rfl (by exact hk) (by rfl) hLd (by exact ks) hself (Ne.symm dne) (fun o e => absurd (hKb _ _ e) (Nat.not_lt.mpr hdb)) hsw2 _ h5 tk5 _ [f] (fun p hp => ?_) X5 hx5 hn5 (fun y hy => ?_) ?_ hns5 fun h6 tk6 m k6 hm em => ?_
  · obtain ⟨⟨a, b⟩, c⟩ := p
    have z : (a, c) ∈ fls'.zip vs' := by
      rw [← en]
      exact List.mem_map.mpr ⟨((a, b), c), hp, rfl⟩
    have z2 : a ∈ f :: fls' := List.mem_cons_of_mem _ (List.of_mem_zip z).1
    exact ⟨(kf a z2).1, hfld a c (List.mem_cons_of_mem _ z), (kf a z2).2.2, T.noN a z2⟩
  · by_cases e : y = f
    · rw [e]; exact List.mem_cons_self ..
    · exact absurd (if_neg e) hy
  · have := O.ln
    rw [List.length_cons] at this
    rw [List.length_zip, List.length_zip, l1, l2]
    simp
    omega
  · rw [en] at em
    refine hq h6 tk6 dx ⟨fun b o hb e => k6 b o (fun z => ?_) (k15 b o hb (hk1 b o e)), ⟨_, k6 _ _ (Ne.symm dne) hx5⟩, hdb, dne, m, hm, fun y => ?_⟩
    · rw [z] at e
      exact absurd (Heap.lt_size e) (Nat.not_lt.mpr hdb)
    · have nd' := List.nodup_cons.mp O.nd
      have e1 : (fls'.zip vs').map (·.1) = fls' := List.map_fst_zip (Nat.le_of_eq l1.symm)
      rw [em y, lk_rev (by rw [e1]; exact nd'.2), List.zip_cons_cons, List.lookup_cons]
      by_cases e : y = f
      · subst e
        rw [lk_notin (by rw [e1]; exact nd'.1)]
        simp
      · have e2 : (y == f) = false := by simpa using e
        rw [e2]
        cases (fls'.zip vs').lookup y with
        | some z => rfl
        | none => simp [e]
structure OwnN (fls : List Str) (vs : List Value) (h h' : Heap) (e C d : Addr) : Prop where
  keep : ∀ b o, h.get? b = some o → h'.get? b = some o
  new : h.objs.size ≤ e
  obj : ∃ t1, h'.get? e = some { cls := .ref C, dict := some d, data := .fields #[.ref t1, .none, .none, .none, .bool false, .none] }
  dbig : h.objs.size ≤ d
  dne : d ≠ e
  ns : ∃ m, h'.Ns1 d m ∧ ∀ y, m y = (fls.zip vs).lookup y
theorem ow_madeN (T : OwTN prog K mg C fI cc cda cn fls) {vs : List Value} {ar : Args} (X : K.In s.heap) (hg : s.heap.Ns mainGlobals mg) (hbl : ∃ mb, s.heap.Ns builtinsNs mb ∧ ∀ y : Str, y ≠ "__name__" → mb y = bootBuiltins y) (hlim : s.heap.NoLimit) (hroom : A.depth + 1 < recursionLimit) (hl : vs.length = fls.length) (har : ar = ⟨vs, []⟩ ∨ ar = ⟨[], fls.zip vs⟩)
    (hq : ∀ h' tk e d, OwnN fls vs s.heap h' e C d → R (.ok (.ret (.ref e))) { s with heap := h', toks := tk }) :
    codeAny (model prog w) A (.call (.ref C) ar) R s := by
  obtain ⟨nm, q, N, bs, bm, sn, sub, ab, col, dd, k0, k1, k2, k3, k5, hC, hbm⟩ := T.cls
  obtain ⟨hp, g, dr, tk, os⟩ := s
  have hls : vs.length ≤ sizeLine := by
    obtain ⟨_, _, _, _, _, _, _, _, _, _, _, _, _, O⟩ := T.fn
    have := O.ln
    rw [hl, sizeLine_eq]
    omega
  obtain ⟨rest, kw, rfl, hr, har2⟩ : ∃ rest kw, ar = ⟨rest, kw⟩ ∧ rest.length ≤ sizeLine ∧ ∀ x, (⟨x :: rest, kw⟩ : Args) = ⟨x :: vs, []⟩ ∨ (⟨x :: rest, kw⟩ : Args) = ⟨[x], fls.zip vs⟩ := by
    rcases har with e | e
    · exact ⟨vs, [], e, hls, fun x => .inl rfl⟩
    · exact ⟨[], fls.zip vs, e, Nat.zero_le _, fun x => .inr rfl⟩
  have k : ∀ b o, hp.get? b = some o → ((hp.push (kdv_tup rest)).push (excO C hp.objs.size)).get? b = some o := fun b o e => Heap.get?_push_of_some _ (Heap.get?_push_of_some _ e)
  have hget : ((hp.push (kdv_tup rest)).push (excO C hp.objs.size)).get? (hp.objs.size + 1) = some (excO C hp.objs.size) := by heap_get
  have hKb : ∀ b o, K.lookup b = some o → b < hp.objs.size := fun b o e => Heap.lt_size (X _ _ e)
  have hnx : K.lookup (hp.objs.size + 1) = none := by
    cases e : K.lookup (hp.objs.size + 1) with
    | none => rfl
    | some o => exact absurd (Nat.lt_of_succ_lt (hKb _ _ e)) (Nat.lt_irrefl _)
  have hsz : ((hp.push (kdv_tup rest)).push (excO C hp.objs.size)).objs.size = hp.objs.size + 1 + 1 := by rw [Heap.size_push, Heap.size_push]
  refine call_ownK F.excBase_ValueError (fun X => refsVE_contains X bm hbm) (X _ _ hC) (looks_findIn X T.iC) (fun self => bind_fn X self T.tC) hr ?_
  refine ow_initN (s := ⟨(hp.push (kdv_tup rest)).push (excO C hp.objs.size), g, dr, tk, os⟩) T (vs := vs) (X.keeps k) (hg.keeps k) ?_ (hlim.keeps k) hget hnx (fun b o e => by show b < _; rw [hsz]; exact Nat.lt_of_lt_of_le (hKb b o e) (by omega)) ?_ hl (har2 _) fun h' tk' dx ⟨k', hx, dn, dne, hns⟩ => ?_
  · obtain ⟨mb, h1, h2⟩ := hbl
    exact ⟨mb, h1.keeps k, h2⟩
  · show A.depth + 1 < recursionLimit
    exact hroom
  · have old : ∀ b o, hp.get? b = some o → h'.get? b = some o := fun b o e => k' b o (Nat.ne_of_lt (Nat.lt_succ_of_lt (Heap.lt_size e))) (k b o e)
    have z : hp.objs.size + 1 + 1 ≤ dx := by
      have q : ((hp.push (kdv_tup rest)).push (excO C hp.objs.size)).objs.size ≤ dx := dn
      rw [hsz] at q
      exact q
    exact ⟨rfl, hq h' tk' (hp.objs.size + 1) dx ⟨old, Nat.le_succ _, hx, Nat.le_trans (Nat.le_succ_of_le (Nat.le_succ _)) z, dne, hns⟩⟩
end
end OwX
end PySem
namespace My
open PySem PySem.Spec PyProof.Rows L2
section
variable {file : Str} {fa : List FaB} {fn : List He5.DefA} {fx : List DefX} {K : PySem.W.Frag}
theorem SaysX.owN {mg : Str → Option Value} {h : Heap} {P : Program} (c : SaysX file fa fn fx K) (X : K.In h) (G : h.Ns mainGlobals mg) (i : Nat) {d : DefX} (hi : fx[i]? = some d) (fls : List Str) (st : PySem.OwX.OwN fls d.qual d.params d.body d.scope)
    (hno : ∀ fl ∈ fls, fl ≠ d.fld → PySem.W.findIn K (.ref (He.ga K d.cls)) fl = some none) (hfile : ((P.main.file : Str) == file) = true) (htop : (P.main.scope.names.lookup ("super" : Str)).isSome = false) :
    PySem.OwX.OwTN P K mg (He.ga K d.cls) (exI d.cls K) (exC d.cls K) (exD d.cls K) d.cls fls := by
  have hf : fnXo K (exI d.cls K) = d.val := by
    have e2 : (fx.map fun d => fnXo K (exI d.cls K))[i]? = (fx.map DefX.val)[i]? := by rw [c.fn_.2]
    rw [List.getElem?_map, List.getElem?_map, hi] at e2
    exact Option.some.inj e2
  have hb : ∀ b ∈ owL file d.cls d.fld d.qual K, b = true := fun b hb => List.all_eq_true.mp (List.all_eq_true.mp (He.ba (He.ba c.b).2).2 d (List.mem_of_getElem? hi)) b hb
  unfold owL at hb
  simp only [List.forall_mem_cons] at hb
  obtain ⟨b1, b2, b3, b4, b5, b6, b7, b8, b9, b10, b11, b12, b13, b14, b15, b16, b17, b18, b19, b20, _⟩ := hb
  refine ⟨PySem.W.mg_of X G (He.eqO_ok b1), clsB_ok b2, He.eqO_ok b3, He.eqO_ok b4, He.eqO_ok b5, fun fl hfl => ?_, He.eqO_ok b7, of_decide_eq_true b8, b9, of_decide_eq_true b10, of_decide_eq_true b11, b12, of_decide_eq_true b13, of_decide_eq_true b14, He.eqO_ok b15, He.eqO_ok b16, He.eqO_ok b17, ?_, ?_, htop, ?_⟩
  · by_cases e : fl = d.fld
    · rw [e]; exact He.eqO_ok b6
    · exact hno fl hfl e
  · unfold cellB at b18
    split at b18
    · rename_i e
      rw [of_decide_eq_true b18] at e
      exact ⟨_, _, _, e⟩
    · cases b18
  · unfold codeB at b19
    split at b19
    · rename_i e
      split at b19
      · rename_i e2
        obtain rfl := eq_of_beq b19
        exact ⟨_, _, _, _, _, _, e, e2, hfile⟩
      · cases b19
    · cases b19
  · unfold fnB at b20
    unfold fnXo at hf
    split at b20
    · rename_i oc od fd osl e
      rw [e] at hf
      obtain ⟨n1, n2, n3, n4, n5, n6, n7, n8, n9, n10, n11, n12, n13, n14, n15⟩ := fd
      obtain ⟨c1, b20⟩ := He.ba b20
      obtain ⟨c2, b20⟩ := He.ba b20
      obtain ⟨c3, b20⟩ := He.ba b20
      obtain ⟨c4, c5⟩ := He.ba b20
      have g2 : n13 = .ref (exD d.cls K) := of_decide_eq_true c2
      have g3 : n7 = [(("__class__" : Str), exC d.cls K)] := of_decide_eq_true c3
      have g4 : n8 = .none := isNo_ok c4
      have g5 : n9 = .none := isNo_ok c5
      have e2 : (some (n1, n2, n3, n4, n5, n6, ([] : List (Str × Addr)), n15) : He.FnW) = some (("__init__" : Str), d.qual, d.params, FuncBody.stmts d.body, d.scope, mainGlobals, [], builtinsNs) := hf
      simp only [Option.some.injEq, Prod.mk.injEq] at e2
      obtain ⟨h1, h2, h3, h4, h5, h6, -, h8⟩ := e2
      subst h1 h2 h3 h4 h5 h6 h8 g4 g5
      rw [g2, g3] at e
      exact ⟨_, _, _, _, _, _, _, _, _, _, _, e, by rw [← g2]; exact c1, st⟩
    · cases b20
end
theorem relO_zip {fls : List Str} : ∀ {vs : List V} {us : List Value}, Vals vs us → ∀ y, RelO ((fls.zip vs).lookup y) ((fls.zip us).lookup y) := by
  induction fls with
  | nil => intro vs us _ y; exact True.intro
  | cons f l ih =>
    intro vs us r y
    cases r with
    | nil => exact True.intro
    | @cons v u vs' us' ra rr =>
      rw [List.zip_cons_cons, List.zip_cons_cons, List.lookup_cons, List.lookup_cons]
      cases (y == f) with
      | true => exact ra
      | false => exact ih rr y
section
variable {X : Cx} {C fI cc cda : Addr} {cn : Str} {fls : List Str} {k : Nat} {p pos : Pos}
def tMkN (C : Addr) (fls : List Str) (ta : TA) : TE := fun σ H Q => ta σ H fun vs H1 => vs.length = fls.length ∧ ∀ a d, H1 a = none → H1 d = none → d ≠ a → Q (.ref a) (upd (upd H1 d (exd d (fls.zip vs))) a (exo a C (some d)))
theorem ow_end {pins : List (Addr × Obj)} {σ : L2.St} {H1 : Hp} {s1 : Shared} {Q : VK} {vs : List V} {us : List Value} {ar : Args} (T : PySem.OwX.OwTN X.prog X.K X.mg C fI cc cda cn fls) (hr : Room k X.A) (I1 : Inv X pins σ H1 s1) (r1 : Vals vs us) (hl : vs.length = fls.length) (har : ar = ⟨us, []⟩ ∨ ar = ⟨[], fls.zip us⟩)
    (q : ∀ a d, H1 a = none → H1 d = none → d ≠ a → Q (.ref a) (upd (upd H1 d (exd d (fls.zip vs))) a (exo a C (some d)))) :
    wpAny (model X.prog X.w) X.A (call (.ref C) ar.pos ar.kw) (EP X pins σ Q) X.xe s1 := by
  have hlim := I1.nolimit
  have hgl := I1.ok.mod.glob.keeps I1.bk
  have hbl : ∃ mb, s1.heap.Ns builtinsNs mb ∧ ∀ y : Str, y ≠ "__name__" → mb y = bootBuiltins y := by
    obtain ⟨mb, z1, z2⟩ := I1.ok.mod.blt
    exact ⟨mb, z1.keeps I1.bk, z2⟩
  have hk := I1.kIn
  obtain ⟨hp, g, dr, tk, os⟩ := s1
  refine wpAny_call (PySem.OwX.ow_madeN T (vs := us) (ar := ⟨ar.pos, ar.kw⟩) hk hgl hbl hlim (by have := hr.dp; omega) (r1.length.symm.trans hl) (by rcases har with e | e <;> rw [e]; exact .inl rfl; exact .inr rfl) fun h' tk' e d M => ?_)
  obtain ⟨t1, hoe⟩ := M.obj
  obtain ⟨m, hns, em⟩ := M.ns
  have na : H1 e = none := I1.hok.fresh M.new
  have nd : H1 d = none := I1.hok.fresh M.dbig
  have U : Un X.fs [] H1 (upd (upd H1 d (exd d (fls.zip vs))) e (exo e C (some d))) hp h' := {
    keep := fun b o q n _ _ => M.keep b o q
    slot := fun b o q n _ _ => ⟨o.slots, M.keep b o q⟩
    free := fun b o q n _ => by rw [upd_ne (Nat.ne_of_lt (Nat.lt_of_lt_of_le (Heap.lt_size q) M.new)), upd_ne (Nat.ne_of_lt (Nat.lt_of_lt_of_le (Heap.lt_size q) M.dbig))]; exact n
    there := fun b o q _ => ⟨o, M.keep b o q⟩
    tups := fun b xs q => by rw [upd_ne (ne_of_none q na), upd_ne (ne_of_none q nd)]; exact q
    frzs := fun b o v q => by rw [upd_ne (ne_of_none q na), upd_ne (ne_of_none q nd)]; exact q
    tbls := fun b ps q => ⟨#[], by rw [upd_ne (ne_of_none q na), upd_ne (ne_of_none q nd), q]; simp⟩ }
  have J : Inv X pins σ (upd (upd H1 d (exd d (fls.zip vs))) e (exo e C (some d))) ⟨h', g, dr, tk', os⟩ := I1.un (t' := tk') U fun b o q => by
    by_cases hb : b = e
    · subst hb
      rw [upd_same] at q
      cases q
      exact exo_ok hoe
    · rw [upd_ne hb] at q
      by_cases hd : b = d
      · subst hd
        rw [upd_same] at q
        cases q
        exact exd_ok hns fun y => by rw [em y]; exact relO_zip r1 y
      · rw [upd_ne hd] at q
        exact (I1.hok b o q).stay (fun c v _ z => M.keep c v z) (fun c hc => by rw [upd_ne (ne_of_none hc na), upd_ne (ne_of_none hc nd)]; exact hc) fun c xs hc => by rw [upd_ne (ne_of_none hc na), upd_ne (ne_of_none hc nd)]; exact hc
  exact ⟨.ref e, _, J, rfl, q e d na nd M.dne⟩
theorem pe_errN {a : Expr} {es : List Expr} {ta : TA} (T : PySem.OwX.OwTN X.prog X.K X.mg C fI cc cda cn fls) (hr : Room k X.A) (ha : PA X (a :: es) ta) (hg : Gl X cn) (hdb : (cn == ("__debug__" : Str)) = false := by decide)
    (he : starEach (a :: es) X.env = (false, eval a X.env) :: starEach es X.env := by rfl) (hpl : (backTo pos (starEach es X.env)).any (·.1) = false := by rfl) : PE X (.Call (.Name cn p) (a :: es) [] pos) (tMkN C fls ta) := by
  constructor
  intro pins s σ H Q I h
  refine wpAny_Call_Name_kw (ld_glob I hg T.gC ?_ hdb)
  refine PySem.W.callWith_K (h₀ := X.base) I.ok.mod.kin T.kC (thn (ha.run pos pins s σ H _ I h) fun us s1 ⟨vs, H1, I1, r, hl, q⟩ => ⟨I1.kIn, ?_⟩) he hpl
  exact ow_end (ar := ⟨us, []⟩) T hr I1 r hl (.inl rfl) q
theorem pe_errK {kws : List Keyword} {tk : TA} (T : PySem.OwX.OwTN X.prog X.K X.mg C fI cc cda cn fls) (hr : Room k X.A) (hkw : PK X kws tk) (hg : Gl X cn)
    (hall : (backToKw pos (keywordEach kws X.env)).all (·.1.isSome) = true := by rfl) (hks : (backToKw pos (keywordEach kws X.env)).filterMap (·.1) = fls := by rfl) (hdb : (cn == ("__debug__" : Str)) = false := by decide)
    (hpl : ((backTo pos (starEach [] X.env)).any (·.1) || (backToKw pos (keywordEach kws X.env)).any (·.1.isNone)) = false := by rfl) :
    PE X (.Call (.Name cn p) [] kws pos) (tMkN C fls tk) := by
  constructor
  intro pins s σ H Q I h
  refine wpAny_Call_Name_kw (ld_glob I hg T.gC ?_ hdb)
  refine PySem.W.callWith_KW0 (h₀ := X.base) I.ok.mod.kin T.kC hall ?_ hpl
  refine thn (hkw.run pos pins s σ H _ I h) fun ws s2 ⟨zs, H2, I2, rz, hl, q2⟩ => ⟨I2.kIn, ?_⟩
  rw [hks]
  exact ow_end (ar := ⟨[], fls.zip ws⟩) T hr I2 rz hl (.inr rfl) q2
def tFldN (K : PySem.W.Frag) (f : Str) (te : TE) : TE := fun σ H Q => te σ H fun x H1 => ∃ (a C d : Addr) (fs : List (Str × V)) (v : V), x = .ref a ∧ XfC K C ∧ PySem.W.findIn K (.ref C) f = some none ∧ Rd H1 a (exo a C (some d)) ∧ Rd H1 d (exd d fs) ∧ fs.lookup f = some v ∧ Q v H1
theorem rd_exo {P : Program} {w : World} {H : Hp} {h : Heap} {e C : Addr} {d : Option Addr} (hok : HOk P w H h) (he : Rd H e (exo e C d)) : ∃ t1 : Addr, h.get? e = some ({ cls := .ref C, dict := d, data := .fields #[.ref t1, .none, .none, .none, .bool false, .none] } : Obj) := by
  have x : ObjOk P w H h e (.ext fun h => ∃ t1 : Addr, h.get? e = some ({ cls := .ref C, dict := d, data := .fields #[.ref t1, .none, .none, .none, .bool false, .none] } : Obj)) := he.ok hok
  exact x.1
theorem rd_exd {P : Program} {w : World} {H : Hp} {h : Heap} {dx : Addr} {fs : List (Str × V)} (hok : HOk P w H h) (he : Rd H dx (exd dx fs)) : ∃ mA, h.Ns1 dx mA ∧ ∀ f, RelO (fs.lookup f) (mA f) := by
  have x : ObjOk P w H h dx (.ext fun h => ∃ mA, h.Ns1 dx mA ∧ ∀ f, RelO (fs.lookup f) (mA f)) := he.ok hok
  exact x.1
theorem pe_fldN {e : Expr} {te : TE} {f : Str} (he : PE X e te) (hb : attributeBase e f X.env (eval e X.env) = eval e X.env) : PE X (.Attribute e f pos) (tFldN X.K f te) := by
  refine ⟨fun pins s σ H Q I h => ?_⟩
  refine attr_of hb (thn (he.run pins s σ H _ I h) fun u s1 hh => ?_)
  obtain ⟨x, H1, I1, rx, a, C, d, fs, v, ex, T, hno, ea, ed, l, q⟩ := hh
  subst ex
  obtain rfl : u = Value.ref a := rx
  obtain ⟨t1, ho⟩ := rd_exo I1.hok ea
  obtain ⟨mA, hns, hr⟩ := rd_exd I1.hok ed
  obtain ⟨od, hod, hl⟩ := lookIn_ns hns
  obtain ⟨u, hu, ru⟩ := RelO.some_of (v := v) (o := mA f) (by rw [← l]; exact hr f)
  have J : PySem.W.InstAt s1.heap a _ C (some od) := ⟨ho, rfl, rfl, hod⟩
  exact HandSPX.exc_get I1.kIn J T.ga T.gg T.exC (PySem.W.findObj_own T.hdC hno rfl (by rw [hl, hu])) (handed_of ru) ⟨v, H1, I1.tok _, ru, q⟩
def rIsN (K : PySem.W.Frag) : List V → Hp → VK → Prop := fun xs H Q => ∃ (a C : Addr) (c : V) (cv : Value) (b : Bool), xs = [.ref a, c] ∧ XfC K C ∧ ErrC K C ∧ ((∃ d fs, Rd H a (exo a C (some d)) ∧ Rd H d (exd d fs)) ∨ Rd H a (ExO (.ref C) a)) ∧ (∀ u, RelV c u → u = cv) ∧ PySem.W.kitOne K (.ref C) cv = some b ∧ Q (.bl b) H
theorem call_isN : CallR X (.builtin "isinstance") (rIsN X.K) := by
  intro pins s σ H xs us Q I r h
  obtain ⟨a, C, c, cv, b, rfl, T, Z, hd, hcv, e, q⟩ := h
  cases r with
  | cons rx rr =>
    cases rr with
    | cons rt rr =>
      cases rr
      cases rx
      have ec := hcv _ rt
      subst ec
      have J : ∃ ox od, PySem.W.InstAt s.heap a ox C od := by
        rcases hd with ⟨d, fs, ea, ed⟩ | ea
        · obtain ⟨t1, ho⟩ := rd_exo I.hok ea
          obtain ⟨mA, hns, hr⟩ := rd_exd I.hok ed
          obtain ⟨od, hod, _⟩ := lookIn_ns hns
          exact ⟨_, some od, ho, rfl, rfl, hod⟩
        · obtain ⟨⟨oe, vs, ho, hz, hdt, _⟩, _, _⟩ := ea.ok I.hok
          obtain ⟨oc, od, oda, osl⟩ := oe
          obtain ⟨h1, h2⟩ := hz
          dsimp only at h1 h2 hdt
          subst h1 h2 hdt
          exact ⟨_, none, ho, rfl, rfl, trivial⟩
      obtain ⟨ox, od, J⟩ := J
      exact PySem.W.kia_one (error_kit T.ga T.gg T.exC T.hdC Z.ha Z.hn Z.ht Z.hm) I.kIn ⟨od, J⟩ e (fun z => nomatch z) fun tk => ⟨.bl b, H, I.kept (t' := tk) fun _ _ z => z, rfl, q⟩
end
end My

set_option Elab.async false
set_option linter.all false
set_option maxRecDepth 100000
set_option maxHeartbeats 4000000
namespace Av
open PySem PySem.Spec PyProof.Rows L2 My
inductive D where
  | non | bl (b : Bool) | int (i : Int) | str (x : Str) | ty (n : String) | ref (a : Addr)
  | tup (xs : List D) | tux (xs : List D) | lst (xs : List D) | rol (xs : List D) | dct (kvs : List (D × D)) | dtt (z : Program × World) (kvs : List (NestedKey × D)) | obj (C : Addr) (fs : List (Str × D)) | exc (a dd C : Addr) (fs : List (Str × D)) | err (C : Addr) (fs : List (Str × D))
inductive AO where
  | lst (xs : List D) | dct (kvs : List (D × D)) | dtt (z : Program × World) (kvs : List (NestedKey × D)) | lkd (z : Program × World) (kvs : List (NestedKey × D)) (o : Obj) (a : Addr) (es : List NE) | ins (C : Addr) (fs : List (Str × D))
abbrev AH := Addr → Option AO
def put (A : AH) (a : Addr) (o : AO) : AH := fun b => if b = a then some o else A b
def del (A : AH) (a : Addr) : AH := fun b => if b = a then none else A b
theorem put_same {A : AH} {a : Addr} {o : AO} : put A a o a = some o := by unfold put; rw [if_pos rfl]
theorem put_ne {A : AH} {a b : Addr} {o : AO} (h : b ≠ a) : put A a o b = A b := by unfold put; rw [if_neg h]
theorem put_put {A : AH} {a : Addr} {o u : AO} : put (put A a o) a u = put A a u := by funext b; unfold put; split <;> rfl
def frz : AO → D
  | .lst xs => .lst xs
  | .dct kvs => .dct kvs
  | .dtt z kvs => .dtt z kvs
  | .lkd z kvs _ _ _ => .dtt z kvs
  | .ins C fs => .obj C fs
def sOk (x : Str) : Prop := PySem.PyData.strOk x = true
def dK : Key → D
  | .inl i => .int i
  | .inr x => .str x
def okK : Key → Prop
  | .inl _ => True
  | .inr x => sOk x
def TupE (K : PySem.W.Frag) (H : Hp) (a : Addr) (xs : List V) : Prop := H a = some (.tup xs) ∨ ∃ (o : Obj) (its : Array Value) (n : Nat), K.lookup a = some o ∧ o.cls = .type "tuple" ∧ o.data = .seq its n ∧ its.size ≤ sizeLine ∧ Vals xs its.toList
theorem TupE.sq {K : PySem.W.Frag} {H : Hp} {a : Addr} {xs : List V} (h : TupE K H a xs) : SqT K H a xs := h.imp (fun e => .inl e) id
def PTE (H : Hp) (a : Addr) (xs : List V) : Prop := ∃ ob : Obj, ob.dict = none ∧ H a = some (.frz ob (.tup xs))
theorem PTE.sq {K : PySem.W.Frag} {H : Hp} {a : Addr} {xs : List V} (h : PTE H a xs) : SqT K H a xs := by
  obtain ⟨ob, _, e⟩ := h
  exact .inl (.inr ⟨ob, e⟩)
mutual
inductive Rep (K : PySem.W.Frag) (F : Addr → Prop) (H : Hp) : D → V → Prop
  | non : Rep K F H .non .non
  | bl (b : Bool) : Rep K F H (.bl b) (.bl b)
  | int (i : Int) : Rep K F H (.int i) (.int i)
  | str {x : Str} : sOk x → Rep K F H (.str x) (.str x)
  | ty (n : String) : Rep K F H (.ty n) (.ty n)
  | ref (a : Addr) : Rep K F H (.ref a) (.ref a)
  | tup {a : Addr} {ds : List D} {vs : List V} : TupE K H a vs → Reps K F H ds vs → Rep K F H (.tup ds) (.ref a)
  | tux {a : Addr} {ds : List D} {vs : List V} : PTE H a vs → Reps K F H ds vs → Rep K F H (.tux ds) (.ref a)
  | lst {a : Addr} {ds : List D} {vs : List V} : F a → H a = some (.lst vs) → Reps K F H ds vs → Rep K F H (.lst ds) (.ref a)
  | rol {a : Addr} {ds : List D} {vs : List V} : F a → Rd H a (.lst vs) → Reps K F H ds vs → Rep K F H (.rol ds) (.ref a)
  | rolK {a : Addr} {ds : List D} {vs : List V} : (∃ (o : Obj) (its : Array Value) (n : Nat), K.lookup a = some o ∧ o.cls = .type "list" ∧ o.dict = none ∧ o.data = .seq its n ∧ its.size ≤ sizeLine ∧ Vals vs its.toList) → Reps K F H ds vs → Rep K F H (.rol ds) (.ref a)
  | dk {a : Addr} {ds : List (D × D)} {vs : List (Key × V)} : F a → Rd H a (.dK vs) → RepK K F H ds vs → Rep K F H (.dct ds) (.ref a)
  | dt {z : Program × World} {a b : Addr} {ds : List (NestedKey × D)} {es : List NE} : F a → Rd H a (ND z.1 z.2 b es) → RepN K F H ds es → Rep K F H (.dtt z ds) (.ref a)
  | obj {a C dx : Addr} {ds : List (Str × D)} {vs : List (Str × V)} : F a → H a = some (.ins C dx vs) → RepF K F H ds vs → Rep K F H (.obj C ds) (.ref a)
  | exc {a dd C : Addr} {ds : List (Str × D)} {vs : List (Str × V)} : H dd = some (.xd vs) → RepF K F H ds vs → Rep K F H (.exc a dd C ds) (.ref a)
  | err {a dx C : Addr} {ds : List (Str × D)} {vs : List (Str × V)} : F a → Rd H a (exo a C (some dx)) → F dx → Rd H dx (exd dx vs) → RepF K F H ds vs → Rep K F H (.err C ds) (.ref a)
  | err0 {a C : Addr} : F a → Rd H a (ExO (.ref C) a) → Rep K F H (.err C []) (.ref a)
inductive Reps (K : PySem.W.Frag) (F : Addr → Prop) (H : Hp) : List D → List V → Prop
  | nil : Reps K F H [] []
  | cons {d : D} {v : V} {ds : List D} {vs : List V} : Rep K F H d v → Reps K F H ds vs → Reps K F H (d :: ds) (v :: vs)
inductive RepF (K : PySem.W.Frag) (F : Addr → Prop) (H : Hp) : List (Str × D) → List (Str × V) → Prop
  | nil : RepF K F H [] []
  | cons {n : Str} {d : D} {v : V} {ds : List (Str × D)} {vs : List (Str × V)} : Rep K F H d v → RepF K F H ds vs → RepF K F H ((n, d) :: ds) ((n, v) :: vs)
inductive RepK (K : PySem.W.Frag) (F : Addr → Prop) (H : Hp) : List (D × D) → List (Key × V) → Prop
  | nil : RepK K F H [] []
  | cons {k : Key} {d : D} {v : V} {ds : List (D × D)} {vs : List (Key × V)} : okK k → Rep K F H d v → RepK K F H ds vs → RepK K F H ((dK k, d) :: ds) ((k, v) :: vs)
inductive RepN (K : PySem.W.Frag) (F : Addr → Prop) (H : Hp) : List (NestedKey × D) → List NE → Prop
  | nil : RepN K F H [] []
  | cons {k : NestedKey} {b : Addr} {d : D} {v : V} {ds : List (NestedKey × D)} {es : List NE} : NKy K H k (.ref b) → k.depth ≤ 8 → okN k → Rep K F H d v → RepN K F H ds es → RepN K F H ((k, d) :: ds) ((k, b, v) :: es)
end
structure Kept (F F' : Addr → Prop) (H H' : Hp) : Prop where
  f : ∀ a, F a → F' a
  t : ∀ a xs, H a = some (.tup xs) → H' a = some (.tup xs)
  z : ∀ a ob xs, H a = some (.frz ob (.tup xs)) → H' a = some (.frz ob (.tup xs))
  m : ∀ a xs, F a → H a = some (.lst xs) → H' a = some (.lst xs)
  l : ∀ a xs, F a → Rd H a (.lst xs) → Rd H' a (.lst xs)
  k : ∀ a xs, F a → Rd H a (.dK xs) → Rd H' a (.dK xs)
  d : ∀ a φ, F a → Rd H a (.ext φ) → Rd H' a (.ext φ)
  i : ∀ a C dx fs, F a → H a = some (.ins C dx fs) → H' a = some (.ins C dx fs)
  x : ∀ a fs, H a = some (.xd fs) → H' a = some (.xd fs)
mutual
theorem Rep.kept {K : PySem.W.Frag} {F F' : Addr → Prop} {H H' : Hp} (s : Kept F F' H H') : ∀ {d : D} {v : V}, Rep K F H d v → Rep K F' H' d v
  | _, _, .non => .non
  | _, _, .bl b => .bl b
  | _, _, .int i => .int i
  | _, _, .str h => .str h
  | _, _, .ty n => .ty n
  | _, _, .ref a => .ref a
  | _, _, .tup e r => .tup (e.imp (s.t _ _) id) (Reps.kept s r)
  | _, _, .tux e r => .tux (let ⟨ob, hd, e⟩ := e; ⟨ob, hd, s.z _ _ _ e⟩) (Reps.kept s r)
  | _, _, .lst f e r => .lst (s.f _ f) (s.m _ _ f e) (Reps.kept s r)
  | _, _, .rol f e r => .rol (s.f _ f) (s.l _ _ f e) (Reps.kept s r)
  | _, _, .rolK e r => .rolK e (Reps.kept s r)
  | _, _, .dk f e r => .dk (s.f _ f) (s.k _ _ f e) (RepK.kept s r)
  | _, _, .dt f e r => .dt (s.f _ f) (s.d _ _ f e) (RepN.kept s r)
  | _, _, .obj f e r => .obj (s.f _ f) (s.i _ _ _ _ f e) (RepF.kept s r)
  | _, _, .exc e r => .exc (s.x _ _ e) (RepF.kept s r)
  | _, _, .err f e g e2 r => .err (s.f _ f) (s.d _ _ f e) (s.f _ g) (s.d _ _ g e2) (RepF.kept s r)
  | _, _, .err0 f e => .err0 (s.f _ f) (s.d _ _ f e)
theorem Reps.kept {K : PySem.W.Frag} {F F' : Addr → Prop} {H H' : Hp} (s : Kept F F' H H') : ∀ {d : List D} {v : List V}, Reps K F H d v → Reps K F' H' d v
  | _, _, .nil => .nil
  | _, _, .cons a r => .cons (Rep.kept s a) (Reps.kept s r)
theorem RepF.kept {K : PySem.W.Frag} {F F' : Addr → Prop} {H H' : Hp} (s : Kept F F' H H') : ∀ {d : List (Str × D)} {v : List (Str × V)}, RepF K F H d v → RepF K F' H' d v
  | _, _, .nil => .nil
  | _, _, .cons a r => .cons (Rep.kept s a) (RepF.kept s r)
theorem RepK.kept {K : PySem.W.Frag} {F F' : Addr → Prop} {H H' : Hp} (s : Kept F F' H H') : ∀ {d : List (D × D)} {v : List (Key × V)}, RepK K F H d v → RepK K F' H' d v
  | _, _, .nil => .nil
  | _, _, .cons o a r => .cons o (Rep.kept s a) (RepK.kept s r)
theorem RepN.kept {K : PySem.W.Frag} {F F' : Addr → Prop} {H H' : Hp} (s : Kept F F' H H') : ∀ {d : List (NestedKey × D)} {v : List NE}, RepN K F H d v → RepN K F' H' d v
  | _, _, .nil => .nil
  | _, _, .cons n dp o a r => .cons (NKy.kept s.t n) dp o (Rep.kept s a) (RepN.kept s r)
end
inductive RepO (K : PySem.W.Frag) (F : Addr → Prop) (H : Hp) : AO → HO → Prop
  | lst {ds : List D} {vs : List V} : Reps K F H ds vs → RepO K F H (.lst ds) (.lst vs)
  | dk {ds : List (D × D)} {vs : List (Key × V)} : RepK K F H ds vs → RepO K F H (.dct ds) (.dK vs)
  | dt {z : Program × World} {a : Addr} {ds : List (NestedKey × D)} {es : List NE} : RepN K F H ds es → RepO K F H (.dtt z ds) (ND z.1 z.2 a es)
  | lk {z : Program × World} {a : Addr} {o : Obj} {ds : List (NestedKey × D)} {es : List NE} : RepN K F H ds es → RepO K F H (.lkd z ds o a es) (.frz o (ND z.1 z.2 a es))
  | ins {C dx : Addr} {ds : List (Str × D)} {vs : List (Str × V)} : RepF K F H ds vs → RepO K F H (.ins C ds) (.ins C dx vs)
section
variable {K : PySem.W.Frag} {F F' F'' : Addr → Prop} {H H' H'' : Hp} {A A' A'' : AH}
theorem RepO.kept (s : Kept F F' H H') {o : AO} {ho : HO} (r : RepO K F H o ho) : RepO K F' H' o ho := by
  cases r with
  | lst r => exact .lst (r.kept s)
  | dk r => exact .dk (r.kept s)
  | dt r => exact .dt (r.kept s)
  | lk r => exact .lk (r.kept s)
  | ins r => exact .ins (r.kept s)
theorem RepO.frz {a : Addr} (f : F a) {o : AO} {ho : HO} (e : H a = some ho) (r : RepO K F H o ho) : Rep K F H (frz o) (.ref a) := by
  cases r with
  | lst r => exact .lst f e r
  | dk r => exact .dk f (.of e) r
  | dt r => exact .dt f (.of e) r
  | lk r => exact .dt f (.inr ⟨_, e⟩) r
  | ins r => exact .obj f e r
structure Rel (K : PySem.W.Frag) (F : Addr → Prop) (A : AH) (H : Hp) : Prop where
  live : ∀ a o, A a = some o → ¬ F a ∧ ∃ ho, H a = some ho ∧ RepO K F H o ho
  there : ∀ a, F a → ∃ ho, H a = some ho
def DkO : HO → Prop
  | .dK _ => True
  | .ext _ => True
  | _ => False
def Stay (F : Addr → Prop) (a : Addr) (o : HO) (u : Option HO) : Prop := u = some o ∨ (F a ∧ DkO o ∧ ∃ ob, u = some (.frz ob o))
structure Ext (F : Addr → Prop) (A : AH) (H : Hp) (F' : Addr → Prop) (A' : AH) (H' : Hp) : Prop where
  f : ∀ a, F a → F' a
  k : ∀ a o, A a = none → H a = some o → A' a = none ∧ Stay F a o (H' a)
  g : ∀ a o, A a = none → H a = some o → F' a → F a
theorem Ext.refl : Ext F A H F A H := ⟨fun _ h => h, fun _ _ h e => ⟨h, .inl e⟩, fun _ _ _ _ h => h⟩
theorem Ext.there' (x : Ext F A H F' A' H') {a : Addr} {o : HO} (h : A a = none) (e : H a = some o) : ∃ o', H' a = some o' := by
  rcases (x.k a o h e).2 with z | ⟨_, _, ob, z⟩
  · exact ⟨_, z⟩
  · exact ⟨_, z⟩
theorem Ext.trans (x : Ext F A H F' A' H') (y : Ext F' A' H' F'' A'' H'') : Ext F A H F'' A'' H'' := by
  refine ⟨fun a h => y.f a (x.f a h), fun a o h e => ?_, fun a o h e f => ?_⟩
  · obtain ⟨h1, z⟩ := x.k a o h e
    rcases z with z | ⟨f, d, ob, z⟩
    · obtain ⟨h2, z2⟩ := y.k a o h1 z
      refine ⟨h2, ?_⟩
      rcases z2 with z2 | ⟨f2, d2, ob2, z2⟩
      · exact .inl z2
      · exact .inr ⟨x.g a o h e f2, d2, ob2, z2⟩
    · obtain ⟨h2, z2⟩ := y.k a _ h1 z
      refine ⟨h2, ?_⟩
      rcases z2 with z2 | ⟨_, d2, _⟩
      · exact .inr ⟨f, d, ob, z2⟩
      · exact d2.elim
  · obtain ⟨h1, z⟩ := x.k a o h e
    obtain ⟨o', z'⟩ := x.there' h e
    exact x.g a o h e (y.g a o' h1 z' f)
theorem Ext.kn (x : Ext F A H F' A' H') {a : Addr} {o : HO} (h : A a = none) (e : H a = some o) (n : ¬ DkO o) : A' a = none ∧ H' a = some o := by
  obtain ⟨h1, z | ⟨_, d, _⟩⟩ := x.k a o h e
  · exact ⟨h1, z⟩
  · exact absurd d n
theorem Ext.kh (x : Ext F A H F' A' H') {a : Addr} {o : HO} (h : A a = none) (e : H a = some o) (n : ¬ F a) : A' a = none ∧ H' a = some o := by
  obtain ⟨h1, z | ⟨f, _⟩⟩ := x.k a o h e
  · exact ⟨h1, z⟩
  · exact absurd f n
theorem Rel.dead (R : Rel K F A H) {a : Addr} (f : F a) : A a = none := by
  cases e : A a with
  | none => rfl
  | some o => exact absurd f (R.live a o e).1
theorem Rel.dead2 (R : Rel K F A H) {a : Addr} {ho : HO} (e : H a = some ho) (n : ∀ o, ¬ RepO K F H o ho) : A a = none := by
  cases q : A a with
  | none => rfl
  | some o =>
    obtain ⟨_, h2, e2, r⟩ := R.live a o q
    rw [e] at e2; cases e2
    exact absurd r (n o)
theorem Rel.fresh (R : Rel K F A H) {p : Addr} (hp : H p = none) : A p = none ∧ ¬ F p := by
  constructor
  · cases q : A p with
    | none => rfl
    | some o => obtain ⟨_, _, e, _⟩ := R.live p o q; rw [hp] at e; cases e
  · intro f
    obtain ⟨_, e⟩ := R.there p f
    rw [hp] at e; cases e
theorem Rd.keep {a : Addr} {u : HO} (h : ∀ o, H a = some o → H' a = some o) (r : Rd H a u) : Rd H' a u := by
  rcases r with r | ⟨o, r⟩
  · exact .inl (h _ r)
  · exact .inr ⟨o, h _ r⟩
theorem Ext.keptRd (x : Ext F A H F' A' H') {a : Addr} {u : HO} (h : A a = none) (r : Rd H a u) : Rd H' a u := by
  rcases r with r | ⟨o, r⟩
  · rcases (x.k a u h r).2 with z | ⟨_, _, ob, z⟩
    · exact .inl z
    · exact .inr ⟨ob, z⟩
  · exact .inr ⟨o, (x.kn h r (fun d => d)).2⟩
theorem repO_frz {ob : Obj} {xs : List V} : ∀ o, ¬ RepO K F H o (.frz ob (.tup xs)) := fun o h => by
  generalize e : HO.frz ob (.tup xs) = u at h
  cases h with
  | lk r =>
    injection e with _ e2
    unfold ND at e2
    cases e2
  | dt r =>
    unfold ND at e
    cases e
  | lst r => cases e
  | dk r => cases e
  | ins r => cases e
theorem Ext.keptFz (R : Rel K F A H) (x : Ext F A H F' A' H') {a : Addr} {ob : Obj} {xs : List V} (e : H a = some (.frz ob (.tup xs))) : H' a = some (.frz ob (.tup xs)) := (x.kn (R.dead2 e repO_frz) e (fun d => d)).2
theorem Ext.kept (R : Rel K F A H) (x : Ext F A H F' A' H') : Kept F F' H H' where
  f := x.f
  t := fun a xs r => (x.kn (R.dead2 r (fun o h => by cases h)) r (fun d => d)).2
  z := fun a ob xs e => x.keptFz R e
  m := fun a xs f e => (x.kn (R.dead f) e (fun d => d)).2
  l := fun a xs f r => x.keptRd (R.dead f) r
  k := fun a xs f r => x.keptRd (R.dead f) r
  d := fun a xs f r => x.keptRd (R.dead f) r
  i := fun a C dx fs f e => (x.kn (R.dead f) e (fun d => d)).2
  x := fun a fs e => (x.kn (R.dead2 e (fun o h => by cases h)) e (fun d => d)).2
theorem ext_new (R : Rel K F A H) {p : Addr} {ho : HO} (hp : H p = none) : Ext F A H F A (upd H p ho) := ⟨fun _ h => h, fun a o h e => ⟨h, .inl (by rw [upd_ne (ne_of_none e hp)]; exact e)⟩, fun _ _ _ _ h => h⟩
theorem Rel.lay (R : Rel K F A H) {p : Addr} {ho : HO} (hp : H p = none) : Rel K F A (upd H p ho) := ⟨fun a o e => by
    obtain ⟨n, h2, e2, r⟩ := R.live a o e
    exact ⟨n, h2, by rw [upd_ne (ne_of_none e2 hp)]; exact e2, r.kept ((ext_new R hp).kept R)⟩, fun a f => by
    obtain ⟨h2, e2⟩ := R.there a f
    exact ⟨h2, by rw [upd_ne (ne_of_none e2 hp)]; exact e2⟩⟩
theorem Rel.newL (R : Rel K F A H) {p : Addr} {o : AO} {ho : HO} (hp : H p = none) (r : RepO K F H o ho) : Rel K F (put A p o) (upd H p ho) ∧ Ext F A H F (put A p o) (upd H p ho) := by
  have k := (ext_new R hp (ho := ho)).kept R
  have R1 := R.lay hp (ho := ho)
  refine ⟨⟨fun a o' e => ?_, R1.there⟩, fun _ h => h, fun a u h e => ⟨?_, (ext_new R hp).k a u h e |>.2⟩, fun _ _ _ _ h => h⟩
  · by_cases q : a = p
    · subst q
      rw [put_same] at e; cases e
      exact ⟨(R.fresh hp).2, ho, upd_same, r.kept k⟩
    · rw [put_ne q] at e; exact R1.live a o' e
  · rw [put_ne (ne_of_none e hp)]; exact h
theorem kept_frz {p : Addr} : Kept F (fun a => F a ∨ a = p) H H := ⟨fun _ h => .inl h, fun _ _ h => h, fun _ _ _ h => h, fun _ _ _ h => h, fun _ _ _ h => h, fun _ _ _ h => h, fun _ _ _ h => h, fun _ _ _ _ _ h => h, fun _ _ h => h⟩
theorem Rel.newF (R : Rel K F A H) {p : Addr} {o : AO} {ho : HO} (hp : H p = none) (r : RepO K F H o ho) :
    Rel K (fun a => F a ∨ a = p) A (upd H p ho) ∧ Ext F A H (fun a => F a ∨ a = p) A (upd H p ho) ∧ Rep K (fun a => F a ∨ a = p) (upd H p ho) (frz o) (.ref p) := by
  have x0 := ext_new R hp (ho := ho)
  have R1 := R.lay hp (ho := ho)
  have x1 : Ext F A H (fun a => F a ∨ a = p) A (upd H p ho) := ⟨fun _ h => .inl h, x0.k, fun a o h e f => by
    rcases f with f | f
    · exact f
    · rw [f, hp] at e; cases e⟩
  have k1 : Kept F (fun a => F a ∨ a = p) (upd H p ho) (upd H p ho) := kept_frz
  refine ⟨⟨fun a o' e => ?_, fun a f => ?_⟩, x1, (r.kept (x1.kept R)).frz (.inr rfl) upd_same⟩
  · obtain ⟨n, h2, e2, r2⟩ := R1.live a o' e
    refine ⟨fun z => ?_, h2, e2, r2.kept k1⟩
    rcases z with z | z
    · exact n z
    · rw [z, (R.fresh hp).1] at e; cases e
  · rcases f with f | f
    · exact R1.there a f
    · exact ⟨ho, by rw [f]; exact upd_same⟩
theorem Rel.newT (R : Rel K F A H) {p : Addr} {ds : List D} {vs : List V} (hp : H p = none) (r : Reps K F H ds vs) : Rel K F A (upd H p (.tup vs)) ∧ Ext F A H F A (upd H p (.tup vs)) ∧ Rep K F (upd H p (.tup vs)) (.tup ds) (.ref p) :=
  ⟨R.lay hp, ext_new R hp, .tup (.inl upd_same) (r.kept ((ext_new R hp).kept R))⟩
theorem Rel.put (R : Rel K F A H) {a : Addr} {o o' : AO} {ho' : HO} (e : A a = some o) (r : RepO K F H o' ho') : Rel K F (put A a o') (upd H a ho') ∧ Ext F A H F (put A a o') (upd H a ho') := by
  obtain ⟨n, ho, eh, r0⟩ := R.live a o e
  have x : Ext F A H F (Av.put A a o') (upd H a ho') := ⟨fun _ h => h, fun b u h q => by
    have : b ≠ a := fun z => by rw [z, e] at h; cases h
    rw [put_ne this, upd_ne this]; exact ⟨h, .inl q⟩, fun _ _ _ _ h => h⟩
  have k := x.kept R
  refine ⟨⟨fun b u q => ?_, fun b f => ?_⟩, x⟩
  · by_cases z : b = a
    · subst z
      rw [put_same] at q; cases q
      exact ⟨n, ho', upd_same, r.kept k⟩
    · rw [put_ne z] at q
      obtain ⟨n2, h2, e2, r2⟩ := R.live b u q
      exact ⟨n2, h2, by rw [upd_ne z]; exact e2, r2.kept k⟩
  · have : b ≠ a := fun z => n (z ▸ f)
    rw [upd_ne this]; exact R.there b f
theorem Rel.sub (R : Rel K F A H) (s : ∀ a o, A' a = some o → A a = some o) : Rel K F A' H ∧ Ext F A H F A' H := by
  refine ⟨⟨fun a o e => R.live a o (s a o e), R.there⟩, fun _ h => h, fun a o h e => ⟨?_, .inl e⟩, fun _ _ _ _ h => h⟩
  cases q : A' a with
  | none => rfl
  | some u => rw [s a u q] at h; cases h
theorem Rel.frz (R : Rel K F A H) {a : Addr} {o : AO} (e : A a = some o) : Rel K (fun b => F b ∨ b = a) (del A a) H ∧ Ext F A H (fun b => F b ∨ b = a) (del A a) H ∧ Rep K (fun b => F b ∨ b = a) H (Av.frz o) (.ref a) := by
  obtain ⟨n, ho, eh, r0⟩ := R.live a o e
  have s : ∀ b u, del A a b = some u → A b = some u ∧ b ≠ a := fun b u q => by
    unfold del at q
    by_cases z : b = a
    · rw [if_pos z] at q; cases q
    · rw [if_neg z] at q; exact ⟨q, z⟩
  obtain ⟨R1, x1⟩ := R.sub (fun b u q => (s b u q).1)
  have k1 : Kept F (fun b => F b ∨ b = a) H H := kept_frz
  refine ⟨⟨fun b u q => ?_, fun b f => ?_⟩, ⟨fun _ h => .inl h, x1.k, fun b o h q f => ?_⟩, (r0.kept k1).frz (.inr rfl) eh⟩
  · obtain ⟨n2, h2, e2, r2⟩ := R1.live b u q
    refine ⟨fun z => ?_, h2, e2, r2.kept k1⟩
    rcases z with z | z
    · exact n2 z
    · exact (s b u q).2 z
  · rcases f with f | f
    · exact R.there b f
    · exact ⟨ho, by rw [f]; exact eh⟩
  · rcases f with f | f
    · exact f
    · rw [f, e] at h; cases h
theorem kept_hid {p : Addr} {ho ho' : HO} (nF : ¬ F p) (e : H p = some ho) (nt : ∀ xs, ho ≠ .tup xs) (nz : ∀ o u, ho ≠ .frz o u) (nx : ∀ fs, ho ≠ .xd fs) : Kept F F H (upd H p ho') := by
  have ne : ∀ {a : Addr}, F a → a ≠ p := fun f z => nF (z ▸ f)
  have rd : ∀ {a : Addr} {u : HO}, a ≠ p → Rd H a u → Rd (upd H p ho') a u := fun n r => Rd.keep (fun o q => by rw [upd_ne n]; exact q) r
  refine ⟨fun _ h => h, fun a xs r => ?_, fun a ob xs r => ?_, fun a xs f q => by rw [upd_ne (ne f)]; exact q, fun a xs f r => rd (ne f) r, fun a xs f r => rd (ne f) r, fun a xs f r => rd (ne f) r, fun a C dx fs f q => by rw [upd_ne (ne f)]; exact q, fun a fs q => ?_⟩
  · rw [upd_ne (fun z => by subst z; rw [e] at r; cases r; exact nt _ rfl)]; exact r
  · rw [upd_ne (fun z => by subst z; rw [e] at r; cases r; exact nz _ _ rfl)]; exact r
  · rw [upd_ne (fun z => by subst z; rw [e] at q; cases q; exact nx _ rfl)]; exact q
theorem Rel.hid (R : Rel K F A H) {p : Addr} {ho ho' : HO} (nF : ¬ F p) (nA : A p = none) (e : H p = some ho) (nt : ∀ xs, ho ≠ .tup xs) (nz : ∀ o u, ho ≠ .frz o u) (nx : ∀ fs, ho ≠ .xd fs) : Rel K F A (upd H p ho') := by
  have k := kept_hid (ho' := ho') nF e nt nz nx
  refine ⟨fun a o q => ?_, fun a f => ?_⟩
  · obtain ⟨n, h2, e2, r⟩ := R.live a o q
    have : a ≠ p := fun z => by rw [z, nA] at q; cases q
    exact ⟨n, h2, by rw [upd_ne this]; exact e2, r.kept k⟩
  · have : a ≠ p := fun z => nF (z ▸ f)
    rw [upd_ne this]; exact R.there a f
theorem Rel.showL (R : Rel K F A H) {p : Addr} {o : AO} {ho : HO} (nF : ¬ F p) (e : H p = some ho) (r : RepO K F H o ho) : Rel K F (Av.put A p o) H := by
  refine ⟨fun a u q => ?_, R.there⟩
  by_cases z : a = p
  · subst z; rw [put_same] at q; cases q; exact ⟨nF, ho, e, r⟩
  · rw [put_ne z] at q; exact R.live a u q
theorem Rel.showF (R : Rel K F A H) {p : Addr} {o : AO} {ho : HO} (nA : A p = none) (e : H p = some ho) (r : RepO K F H o ho) : Rel K (fun a => F a ∨ a = p) A H ∧ Rep K (fun a => F a ∨ a = p) H (Av.frz o) (.ref p) := by
  have k1 : Kept F (fun b => F b ∨ b = p) H H := kept_frz
  refine ⟨⟨fun a u q => ?_, fun a f => ?_⟩, (r.kept k1).frz (.inr rfl) e⟩
  · obtain ⟨n, h2, e2, r2⟩ := R.live a u q
    refine ⟨fun z => ?_, h2, e2, r2.kept k1⟩
    rcases z with z | z
    · exact n z
    · rw [z, nA] at q; cases q
  · rcases f with f | f
    · exact R.there a f
    · exact ⟨ho, by rw [f]; exact e⟩
end
section
variable {K : PySem.W.Frag} {F : Addr → Prop} {H : Hp}
theorem Reps.length : ∀ {ds : List D} {vs : List V}, Reps K F H ds vs → ds.length = vs.length
  | _, _, .nil => rfl
  | _, _, .cons _ r => by rw [List.length_cons, List.length_cons, Reps.length r]
theorem Reps.get : ∀ {ds : List D} {vs : List V} {i : Nat} {v : V}, Reps K F H ds vs → vs[i]? = some v → ∃ d, ds[i]? = some d ∧ Rep K F H d v
  | _, _, i, _, .nil, h => by cases i <;> cases h
  | _, _, 0, _, .cons a _, h => by injection h with h; subst h; exact ⟨_, rfl, a⟩
  | _, _, i + 1, v, .cons _ k, h => Reps.get (i := i) k h
theorem Reps.get' : ∀ {ds : List D} {vs : List V} {i : Nat} {d : D}, Reps K F H ds vs → ds[i]? = some d → ∃ v, vs[i]? = some v ∧ Rep K F H d v
  | _, _, i, _, .nil, h => by cases i <;> cases h
  | _, _, 0, _, .cons a _, h => by injection h with h; subst h; exact ⟨_, rfl, a⟩
  | _, _, i + 1, v, .cons _ k, h => Reps.get' (i := i) k h
theorem Reps.append : ∀ {ds es : List D} {vs us : List V}, Reps K F H ds vs → Reps K F H es us → Reps K F H (ds ++ es) (vs ++ us)
  | _, _, _, _, .nil, s => s
  | _, _, _, _, .cons a r, s => .cons a (Reps.append r s)
theorem Reps.take : ∀ {ds : List D} {vs : List V} (n : Nat), Reps K F H ds vs → Reps K F H (ds.take n) (vs.take n)
  | _, _, 0, _ => .nil
  | _, _, _ + 1, .nil => .nil
  | _, _, n + 1, .cons a r => .cons a (Reps.take n r)
theorem Reps.drop : ∀ {ds : List D} {vs : List V} (n : Nat), Reps K F H ds vs → Reps K F H (ds.drop n) (vs.drop n)
  | _, _, 0, r => r
  | _, _, _ + 1, .nil => .nil
  | _, _, n + 1, .cons _ r => Reps.drop n r
theorem Reps.set {d : D} {v : V} (q : Rep K F H d v) : ∀ {ds : List D} {vs : List V} (n : Nat), Reps K F H ds vs → Reps K F H (ds.set n d) (vs.set n v)
  | _, _, _, .nil => .nil
  | _, _, 0, .cons _ r => .cons q r
  | _, _, n + 1, .cons a r => .cons a (Reps.set q n r)
theorem RepF.lookup : ∀ {ds : List (Str × D)} {vs : List (Str × V)} {f : Str} {d : D}, RepF K F H ds vs → ds.lookup f = some d → ∃ v, vs.lookup f = some v ∧ Rep K F H d v
  | _, _, f, d, .nil, h => by cases h
  | _, _, f, d, .cons (n := n) a r, h => by
    by_cases e : (f == n) = true
    · rw [List.lookup, e] at h; cases h
      exact ⟨_, by rw [List.lookup, e], a⟩
    · have e' : (f == n) = false := by simpa using e
      rw [List.lookup, e'] at h
      obtain ⟨v, h1, h2⟩ := RepF.lookup r h
      exact ⟨v, by rw [List.lookup, e']; exact h1, h2⟩
theorem RepF.length : ∀ {ds : List (Str × D)} {vs : List (Str × V)}, RepF K F H ds vs → ds.length = vs.length
  | _, _, .nil => rfl
  | _, _, .cons _ r => by rw [List.length_cons, List.length_cons, RepF.length r]
end
inductive RepS (K : PySem.W.Frag) (F : Addr → Prop) (H : Hp) : List (Option D) → List (Option V) → Prop
  | nil : RepS K F H [] []
  | no {v : Option V} {ds : List (Option D)} {vs : List (Option V)} : RepS K F H ds vs → RepS K F H (none :: ds) (v :: vs)
  | yes {d : D} {v : V} {ds : List (Option D)} {vs : List (Option V)} : Rep K F H d v → RepS K F H ds vs → RepS K F H (some d :: ds) (some v :: vs)
section
variable {K : PySem.W.Frag} {F F' : Addr → Prop} {H H' : Hp}
theorem RepS.kept (s : Kept F F' H H') : ∀ {d : List (Option D)} {v : List (Option V)}, RepS K F H d v → RepS K F' H' d v
  | _, _, .nil => .nil
  | _, _, .no r => .no (RepS.kept s r)
  | _, _, .yes a r => .yes (a.kept s) (RepS.kept s r)
theorem RepS.get : ∀ {ds : List (Option D)} {vs : List (Option V)} {i : Nat} {d : D}, RepS K F H ds vs → ds[i]? = some (some d) → ∃ v, vs[i]? = some (some v) ∧ Rep K F H d v
  | _, _, i, _, .nil, h => by cases i <;> cases h
  | _, _, 0, _, .no _, h => by cases h
  | _, _, 0, _, .yes a _, h => by cases h; exact ⟨_, rfl, a⟩
  | _, _, i + 1, d, .no k, h => RepS.get (i := i) k h
  | _, _, i + 1, d, .yes _ k, h => RepS.get (i := i) k h
theorem RepS.set {d : D} {v : V} (q : Rep K F H d v) : ∀ {ds : List (Option D)} {vs : List (Option V)} (n : Nat), RepS K F H ds vs → RepS K F H (ds.set n (some d)) (vs.set n (some v))
  | _, _, _, .nil => .nil
  | _, _, 0, .no r => .yes q r
  | _, _, 0, .yes _ r => .yes q r
  | _, _, n + 1, .no r => .no (RepS.set q n r)
  | _, _, n + 1, .yes a r => .yes a (RepS.set q n r)
theorem RepS.unset : ∀ {ds : List (Option D)} {vs : List (Option V)} {x : Option V} (n : Nat), RepS K F H ds vs → RepS K F H (ds.set n none) (vs.set n x)
  | _, _, _, _, .nil => .nil
  | _, _, _, 0, .no r => .no r
  | _, _, _, 0, .yes _ r => .no r
  | _, _, x, n + 1, .no r => .no (RepS.unset n r)
  | _, _, x, n + 1, .yes a r => .yes a (RepS.unset n r)
theorem RepS.nones : ∀ (n : Nat) (vs : List (Option V)), vs.length = n → RepS K F H (List.replicate n none) vs
  | 0, [], _ => .nil
  | n + 1, v :: vs, h => .no (RepS.nones n vs (by simpa using h))
  | 0, _ :: _, h => by cases h
  | _ + 1, [], h => by cases h
end
end Av
set_option exponentiation.threshold 2000
namespace V17
open PySem PySem.Spec PyProof.Rows L2 My Av
def top (i : Nat) : Stmt := PySem.Challenge.pw_owedanswers_k17_errors_made.main.body.getD i (.Pass ⟨0, 0, 0, 0⟩)
abbrev s_l_bag : Stmt := top 18
abbrev s_l_take : Stmt := top 19
abbrev s_l_of : Stmt := top 20
abbrev s_l_number : Stmt := top 21
abbrev s_l_fields : Stmt := top 22
abbrev s_l_made : Stmt := top 23
abbrev s_l_classes : Stmt := top 24
abbrev s_law : Stmt := top 25
theorem sc_l_bag : FnScope ["_law_script", "_law_place", "_law_cell", "_law_digits"] ["_law_script", "_law_place"] (defScope s_l_bag) := ⟨rfl, rfl, rfl, by decide +kernel, rfl, by decide +kernel, by decide +kernel⟩
theorem sc_l_take : FnScope ["_law_bag_here", "_law_many", "_law_digit", "_law_mixed"] ["_law_bag_here", "_law_many"] (defScope s_l_take) := ⟨rfl, rfl, rfl, by decide +kernel, rfl, by decide +kernel, by decide +kernel⟩
theorem sc_l_of : FnScope ["_law_bag_here", "_law_some"] ["_law_bag_here", "_law_some"] (defScope s_l_of) := ⟨rfl, rfl, rfl, by decide +kernel, rfl, by decide +kernel, by decide +kernel⟩
theorem sc_l_number : FnScope ["_law_bag_here"] ["_law_bag_here"] (defScope s_l_number) := ⟨rfl, rfl, rfl, by decide +kernel, rfl, by decide +kernel, by decide +kernel⟩
theorem sc_l_fields : FnScope ["_law_count", "_law_text", "_law_sizes", "_law_pairs", "_law_one", "_law_fields_here", "_law_counts", "_law_rest"] ["_law_count", "_law_text", "_law_sizes", "_law_pairs"] (defScope s_l_fields) := ⟨rfl, rfl, rfl, by decide +kernel, rfl, by decide +kernel, by decide +kernel⟩
theorem sc_l_made : FnScope ["_law_count", "_law_text", "_law_made_here"] ["_law_count", "_law_text"] (defScope s_l_made) := ⟨rfl, rfl, rfl, by decide +kernel, rfl, by decide +kernel, by decide +kernel⟩
theorem sc_l_classes : FnScope ["_law_e", "_law_found"] ["_law_e"] (defScope s_l_classes) := ⟨rfl, rfl, rfl, by decide +kernel, rfl, by decide +kernel, by decide +kernel⟩
theorem sc_law : FnScope ["_law_script", "_law_place", "_law_bag_here", "_law_count", "_law_text", "_law_sizes", "_law_pairs", "_law_made_here", "_law_k", "_law_bare", "_law_one"] ["_law_script"] (defScope s_law) := ⟨rfl, rfl, rfl, by decide +kernel, rfl, by decide +kernel, by decide +kernel⟩
def fa : List My.FaB := [fun K => (He.Fa.glo "_law_bag").ok K,
  fun K => (He.Fa.keep "_law_bag").ok K,
  fun K => (He.Fa.glo "_law_take").ok K,
  fun K => (He.Fa.keep "_law_take").ok K,
  fun K => (He.Fa.glo "_law_of").ok K,
  fun K => (He.Fa.keep "_law_of").ok K,
  fun K => (He.Fa.glo "_law_number").ok K,
  fun K => (He.Fa.keep "_law_number").ok K,
  fun K => (He.Fa.glo "_law_fields").ok K,
  fun K => (He.Fa.keep "_law_fields").ok K,
  fun K => (He.Fa.glo "_law_made").ok K,
  fun K => (He.Fa.keep "_law_made").ok K,
  fun K => (He.Fa.glo "_law_classes").ok K,
  fun K => (He.Fa.keep "_law_classes").ok K,
  fun K => (He.Fa.glo "law").ok K,
  fun K => (He.Fa.keep "law").ok K,
  fun K => (He.Fa.free "len").ok K,
  fun K => (He.Fa.free "abs").ok K,
  fun K => (He.Fa.free "int").ok K,
  fun K => (He.Fa.free "isinstance").ok K,
  fun K => (He.Fa.free "range").ok K,
  fun K => (He.Fa.free "max").ok K,
  fun K => (He.Fa.free "min").ok K,
  fun K => (He.Fa.free "ValueError").ok K,
  fun K => (He.Fa.glo "OwedError").ok K,
  My.errB "BadSymbol",
  My.errB "BadDomain",
  My.errB "BadFunction",
  My.errB "TooMany",
  My.errB "NotCut",
  My.errB "Amid",
  My.errB "Closed",
  My.errB "Starved",
  My.errB "Failed",
  My.errB "Cut",
  My.errB "BadDoor",
  My.errB "BadName",
  My.errB "NotLent",
  My.errB "BadMove",
  My.errB "Faulty",
  My.errB "OwedError",
  fun K => He.eqO (PySem.W.findIn K (.ref (He.ga K "Faulty")) "lengths") (some none),
  fun K => He.eqO (PySem.W.findIn K (.ref (He.ga K "Faulty")) "moves") (some none),
  fun K => [("BadSymbol" : Str), ("BadDomain" : Str), ("BadFunction" : Str), ("TooMany" : Str), ("NotCut" : Str), ("Amid" : Str), ("Closed" : Str), ("Starved" : Str), ("Failed" : Str), ("Cut" : Str), ("BadDoor" : Str), ("BadName" : Str), ("NotLent" : Str), ("BadMove" : Str), ("Faulty" : Str), ("OwedError" : Str)].all fun a => [("BadSymbol" : Str), ("BadDomain" : Str), ("BadFunction" : Str), ("TooMany" : Str), ("NotCut" : Str), ("Amid" : Str), ("Closed" : Str), ("Starved" : Str), ("Failed" : Str), ("Cut" : Str), ("BadDoor" : Str), ("BadName" : Str), ("NotLent" : Str), ("BadMove" : Str), ("Faulty" : Str)].all fun b => decide (PySem.W.kitOne K (.ref (He.ga K a)) (.ref (He.ga K b)) = some (a == b)),
  fun K => [("BadSymbol" : Str), ("BadDomain" : Str), ("BadFunction" : Str), ("TooMany" : Str), ("NotCut" : Str), ("Amid" : Str), ("Closed" : Str), ("Starved" : Str), ("Failed" : Str), ("Cut" : Str), ("BadDoor" : Str), ("BadName" : Str), ("NotLent" : Str), ("BadMove" : Str), ("Faulty" : Str)].all fun a => decide (PySem.W.kitOne K (.ref (He.ga K a)) (.ref (He.ga K "OwedError")) = some true),
  fun K => [("BadSymbol" : Str), ("BadDomain" : Str), ("BadFunction" : Str), ("TooMany" : Str), ("NotCut" : Str), ("Amid" : Str), ("Closed" : Str), ("Starved" : Str), ("Failed" : Str), ("Cut" : Str), ("BadDoor" : Str), ("BadName" : Str), ("NotLent" : Str), ("BadMove" : Str), ("Faulty" : Str), ("OwedError" : Str)].all fun a => decide (PySem.W.kitOne K (.ref (He.ga K a)) (.type "ValueError") = some true),
  fun K => PySem.W.excIn K (He.ga K "OwedError") [.type "ValueError", .type "Exception", .type "BaseException", .type "object"] "ValueError.__new__",
  fun K => L2.xfB K (He.ga K "OwedError"),
  fun K => (He.Fa.keep "OwedError").ok K]
def D_l_bag : He5.DefA := ⟨My.gloF "_law_bag", "_law_bag", "_law_bag", defArgs s_l_bag, defBody s_l_bag, defScope s_l_bag, [], []⟩
def D_l_take : He5.DefA := ⟨My.gloF "_law_take", "_law_take", "_law_take", defArgs s_l_take, defBody s_l_take, defScope s_l_take, [], []⟩
def D_l_of : He5.DefA := ⟨My.gloF "_law_of", "_law_of", "_law_of", defArgs s_l_of, defBody s_l_of, defScope s_l_of, [], []⟩
def D_l_number : He5.DefA := ⟨My.gloF "_law_number", "_law_number", "_law_number", defArgs s_l_number, defBody s_l_number, defScope s_l_number, [], []⟩
def D_l_fields : He5.DefA := ⟨My.gloF "_law_fields", "_law_fields", "_law_fields", defArgs s_l_fields, defBody s_l_fields, defScope s_l_fields, [], []⟩
def D_l_made : He5.DefA := ⟨My.gloF "_law_made", "_law_made", "_law_made", defArgs s_l_made, defBody s_l_made, defScope s_l_made, [], []⟩
def D_l_classes : He5.DefA := ⟨My.gloF "_law_classes", "_law_classes", "_law_classes", defArgs s_l_classes, defBody s_l_classes, defScope s_l_classes, [], []⟩
def D_law : He5.DefA := ⟨My.gloF "law", "law", "law", defArgs s_law, defBody s_law, defScope s_law, [], []⟩
def fn : List He5.DefA := [D_l_bag, D_l_take, D_l_of, D_l_number, D_l_fields, D_l_made, D_l_classes, D_law]
abbrev Pg : Program := PySem.Challenge.rw_owedanswers_k17_errors_made.prog
abbrev fl : Str := "/claim/cut.py"
abbrev s_BadSymbol : Stmt := inClass (top 2) 0
def X_BadSymbol : My.DefX := ⟨"BadSymbol", "symbol", "BadSymbol.__init__", defArgs s_BadSymbol, defBody s_BadSymbol, defScope s_BadSymbol⟩
abbrev s_BadDomain : Stmt := inClass (top 3) 0
def X_BadDomain : My.DefX := ⟨"BadDomain", "symbol", "BadDomain.__init__", defArgs s_BadDomain, defBody s_BadDomain, defScope s_BadDomain⟩
abbrev s_BadFunction : Stmt := inClass (top 4) 0
def X_BadFunction : My.DefX := ⟨"BadFunction", "row", "BadFunction.__init__", defArgs s_BadFunction, defBody s_BadFunction, defScope s_BadFunction⟩
abbrev s_TooMany : Stmt := inClass (top 5) 0
def X_TooMany : My.DefX := ⟨"TooMany", "what", "TooMany.__init__", defArgs s_TooMany, defBody s_TooMany, defScope s_TooMany⟩
abbrev s_NotCut : Stmt := inClass (top 6) 0
def X_NotCut : My.DefX := ⟨"NotCut", "row", "NotCut.__init__", defArgs s_NotCut, defBody s_NotCut, defScope s_NotCut⟩
abbrev s_Amid : Stmt := inClass (top 7) 0
def X_Amid : My.DefX := ⟨"Amid", "half", "Amid.__init__", defArgs s_Amid, defBody s_Amid, defScope s_Amid⟩
abbrev s_Closed : Stmt := inClass (top 8) 0
def X_Closed : My.DefX := ⟨"Closed", "number", "Closed.__init__", defArgs s_Closed, defBody s_Closed, defScope s_Closed⟩
abbrev s_Starved : Stmt := inClass (top 9) 0
def X_Starved : My.DefX := ⟨"Starved", "number", "Starved.__init__", defArgs s_Starved, defBody s_Starved, defScope s_Starved⟩
abbrev s_Failed : Stmt := inClass (top 10) 0
def X_Failed : My.DefX := ⟨"Failed", "row", "Failed.__init__", defArgs s_Failed, defBody s_Failed, defScope s_Failed⟩
abbrev s_Cut : Stmt := inClass (top 11) 0
def X_Cut : My.DefX := ⟨"Cut", "row", "Cut.__init__", defArgs s_Cut, defBody s_Cut, defScope s_Cut⟩
abbrev s_BadDoor : Stmt := inClass (top 12) 0
def X_BadDoor : My.DefX := ⟨"BadDoor", "word", "BadDoor.__init__", defArgs s_BadDoor, defBody s_BadDoor, defScope s_BadDoor⟩
abbrev s_BadName : Stmt := inClass (top 13) 0
def X_BadName : My.DefX := ⟨"BadName", "name", "BadName.__init__", defArgs s_BadName, defBody s_BadName, defScope s_BadName⟩
abbrev s_NotLent : Stmt := inClass (top 14) 0
def X_NotLent : My.DefX := ⟨"NotLent", "number", "NotLent.__init__", defArgs s_NotLent, defBody s_NotLent, defScope s_NotLent⟩
abbrev s_BadMove : Stmt := inClass (top 15) 0
def X_BadMove : My.DefX := ⟨"BadMove", "at", "BadMove.__init__", defArgs s_BadMove, defBody s_BadMove, defScope s_BadMove⟩
abbrev s_Faulty : Stmt := inClass (top 16) 0
def X_Faulty : My.DefX := ⟨"Faulty", "kind", "Faulty.__init__", defArgs s_Faulty, defBody s_Faulty, defScope s_Faulty⟩
def fx : List My.DefX := [X_BadSymbol, X_BadDomain, X_BadFunction, X_TooMany, X_NotCut, X_Amid, X_Closed, X_Starved, X_Failed, X_Cut, X_BadDoor, X_BadName, X_NotLent, X_BadMove, X_Faulty]
abbrev Rw : PySem.W.OpenRow := PySem.W.OpenLaw.row PySem.Challenge.rw_owedanswers_k17_errors_made
abbrev hk : PySem.W.Hook := My.hookX 5 fl fa fn fx
def ob (s : PySem.W.SharedT) : He.AlD := My.obsXG 5 fl fa fn fx (HandSHeadRun.getT s)
theorem ob_eq (s : PySem.W.SharedT) : ob s = hk.obs s.abs := My.obsXG_eq (HandSHeadRun.getT_eq s)
def names : List PySem.Str := (["OwedError", "BadSymbol", "BadDomain", "BadFunction", "TooMany", "NotCut", "Amid", "Closed", "Starved", "Failed", "Cut", "BadDoor", "BadName", "NotLent", "BadMove", "Faulty", "_law_bag", "_law_take", "_law_of", "_law_number", "_law_fields", "_law_made", "_law_classes"] : List PySem.Str)
theorem run (w : World) : HandSHeadRun.RunEq Rw (PySem.W.view Rw.prog [25]) hk ob 20000 names w := by
  intro os
  kernel_rfl
/-! the run stands -/
end V17

set_option Elab.async false
set_option linter.all false
set_option maxRecDepth 100000
set_option maxHeartbeats 4000000
namespace Av
open PySem PySem.Spec PyProof.Rows L2 My
abbrev AX := Addr → List (Str × D) → AH → Prop
abbrev AQ := D → AH → Prop
abbrev ASt := List (Option D)
abbrev AK (α : Type) := AH → (α → AH → Prop) → AX → Prop
abbrev AM (α : Type) := ASt → AK α
abbrev AE := AM D
abbrev AT := AM Bool
abbrev AA := AM (List D)
def Gx (K : PySem.W.Frag) (W : WX) (F : Addr → Prop) (A : AH) (H : Hp) (σ : L2.St) (E : AX) : Prop :=
  ∀ C fs A' F' H' dd fv, E C fs A' → Ext F A H F' A' H' → Rel K F' A' H' → H' dd = some (.xd fv) → RepF K F' H' fs fv → W (.ref C) (some dd) σ H'
structure At (K : PySem.W.Frag) (W : WX) (δ : ASt) (σ : L2.St) (H : Hp) (F : Addr → Prop) (A : AH) (E : AX) (ds : List D) (vs : List V) : Prop where
  rel : Rel K F A H
  sl : RepS K F H δ σ
  gx : Gx K W F A H σ E
  held : Reps K F H ds vs
abbrev RP (α β : Type) := (Addr → Prop) → Hp → α → β → Prop
def Post {α β : Type} (K : PySem.W.Frag) (Rp : RP α β) (F : Addr → Prop) (A : AH) (H : Hp) (Q' : α → AH → Prop) (Q : β → Hp → Prop) : Prop :=
  ∀ x A' F' H' y, Q' x A' → Ext F A H F' A' H' → Rel K F' A' H' → Rp F' H' x y → Q y H'
def Lf {α β : Type} (Rp : RP α β) (K : PySem.W.Frag) (W : WX) (δ : ASt) (ds : List D) (vs : List V) (k : AK α) (σ : L2.St) (H : Hp) (Q : β → Hp → Prop) : Prop :=
  ∃ F A Q' E', At K W δ σ H F A E' ds vs ∧ k A Q' E' ∧ Post K Rp F A H Q' Q
def lift {α β : Type} (Rp : RP α β) (K : PySem.W.Frag) (W : WX) (t : AM α) : L2.St → Hp → (β → Hp → Prop) → Prop := fun σ H Q => ∃ δ, Lf Rp K W δ [] [] (t δ) σ H Q
abbrev liftE (K : PySem.W.Frag) (W : WX) (t : AE) : TE := lift (Rep K) K W t
abbrev liftT (K : PySem.W.Frag) (W : WX) (t : AT) : TT := lift (fun _ _ x y => x = y) K W t
abbrev liftA (K : PySem.W.Frag) (W : WX) (t : AA) : TA := lift (Reps K) K W t
section
variable {α β γ ε : Type} {R1 : RP α β} {R2 : RP γ ε} {K : PySem.W.Frag} {W : WX} {δ : ASt} {σ : L2.St} {H H' : Hp} {F F' : Addr → Prop} {A A' : AH} {E : AX} {ds : List D} {vs : List V}
theorem Gx.step (g : Gx K W F A H σ E) (x : Ext F A H F' A' H') : Gx K W F' A' H' σ E := fun C fs A2 F2 H2 dd fv e x2 => g C fs A2 F2 H2 dd fv e (x.trans x2)
theorem At.step (a : At K W δ σ H F A E ds vs) (x : Ext F A H F' A' H') (R : Rel K F' A' H') : At K W δ σ H' F' A' E ds vs := ⟨R, a.sl.kept (x.kept a.rel), a.gx.step x, a.held.kept (x.kept a.rel)⟩
theorem Post.step {Q' : α → AH → Prop} {Q : β → Hp → Prop} (p : Post K R1 F A H Q' Q) (x : Ext F A H F' A' H') : Post K R1 F' A' H' Q' Q := fun y A2 F2 H2 z q x2 => p y A2 F2 H2 z q (x.trans x2)
theorem lift.mono {t : AM α} {Q Q2 : β → Hp → Prop} (h : lift R1 K W t σ H Q) (i : ∀ y H', Q y H' → Q2 y H') : lift R1 K W t σ H Q2 := by
  obtain ⟨δ, F, A, Q', E', a, k, p⟩ := h
  exact ⟨δ, F, A, Q', E', a, k, fun x A' F' H' y q x2 r rp => i _ _ (p x A' F' H' y q x2 r rp)⟩
theorem Lf.core {t : AM α} {k : α → AK γ} {Q : ε → Hp → Prop} (h : Lf R2 K W δ ds vs (fun A Q E => t δ A (fun x A1 => k x A1 Q E) E) σ H Q) :
    lift R1 K W t σ H (fun y H1 => ∃ x F1 A1 Q' E', At K W δ σ H1 F1 A1 E' ds vs ∧ R1 F1 H1 x y ∧ k x A1 Q' E' ∧ Post K R2 F1 A1 H1 Q' Q) := by
  obtain ⟨F, A, Q', E', a, kk, p⟩ := h
  exact ⟨δ, F, A, _, E', ⟨a.rel, a.sl, a.gx, .nil⟩, kk, fun x A1 F1 H1 y q x1 r rp => ⟨x, F1, A1, Q', E', a.step x1 r, rp, q, p.step x1⟩⟩
theorem Lf.bindE {t : AE} {k : D → AK γ} {Q : ε → Hp → Prop} (h : Lf R2 K W δ ds vs (fun A Q E => t δ A (fun x A1 => k x A1 Q E) E) σ H Q) :
    liftE K W t σ H (fun y H1 => ∃ x, Lf R2 K W δ (x :: ds) (y :: vs) (k x) σ H1 Q) :=
  (Lf.core (R1 := Rep K) h).mono fun y H1 ⟨x, F1, A1, Q', E', a, r, q, p⟩ => ⟨x, F1, A1, Q', E', ⟨a.rel, a.sl, a.gx, .cons r a.held⟩, q, p⟩
theorem Lf.bindA {t : AA} {k : List D → AK γ} {Q : ε → Hp → Prop} (h : Lf R2 K W δ ds vs (fun A Q E => t δ A (fun x A1 => k x A1 Q E) E) σ H Q) :
    liftA K W t σ H (fun y H1 => ∃ x, Lf R2 K W δ (x ++ ds) (y ++ vs) (k x) σ H1 Q) :=
  (Lf.core (R1 := Reps K) h).mono fun y H1 ⟨x, F1, A1, Q', E', a, r, q, p⟩ => ⟨x, F1, A1, Q', E', ⟨a.rel, a.sl, a.gx, r.append a.held⟩, q, p⟩
theorem Lf.bindT {t : AT} {k : Bool → AK γ} {Q : ε → Hp → Prop} (h : Lf R2 K W δ ds vs (fun A Q E => t δ A (fun x A1 => k x A1 Q E) E) σ H Q) :
    liftT K W t σ H (fun y H1 => Lf R2 K W δ ds vs (k y) σ H1 Q) :=
  (Lf.core (R1 := fun _ _ x y => x = y) h).mono fun y H1 ⟨x, F1, A1, Q', E', a, r, q, p⟩ => by subst r; exact ⟨F1, A1, Q', E', a, q, p⟩
theorem Lf.out {t : AM γ} {Q : ε → Hp → Prop} (h : Lf R2 K W δ ds vs (t δ) σ H Q) : lift R2 K W t σ H Q := by
  obtain ⟨F, A, Q', E', a, kk, p⟩ := h
  exact ⟨δ, F, A, Q', E', ⟨a.rel, a.sl, a.gx, .nil⟩, kk, p⟩
end
def asX (A : AH) : D → Option (List D)
  | .lst xs => some xs
  | .ref a => match A a with
    | some (.lst xs) => some xs
    | _ => none
  | _ => none
def asL (A : AH) : D → Option (List D)
  | .lst xs => some xs
  | .rol xs => some xs
  | .ref a => match A a with
    | some (.lst xs) => some xs
    | _ => none
  | _ => none
def asT : D → Option (List D)
  | .tup xs => some xs
  | .tux xs => some xs
  | _ => none
def asTe : D → Option (List D)
  | .tup xs => some xs
  | _ => none
def asD (A : AH) : D → Option (List (D × D))
  | .dct xs => some xs
  | .ref a => match A a with
    | some (.dct xs) => some xs
    | _ => none
  | _ => none
def asO (A : AH) : D → Option (Addr × List (Str × D))
  | .obj C fs => some (C, fs)
  | .ref a => match A a with
    | some (.ins C fs) => some (C, fs)
    | _ => none
  | _ => none
def aNew (live : Bool) (o : AO) (A : AH) (Q : AQ) : Prop := match live with
  | true => ∀ p, A p = none → Q (.ref p) (put A p o)
  | false => Q (frz o) A
section
variable {K : PySem.W.Frag} {F : Addr → Prop} {A : AH} {H : Hp} {d : D} {v : V}
theorem asL_ok (R : Rel K F A H) (r : Rep K F H d v) {xs : List D} (e : asL A d = some xs) : ∃ a vs, v = .ref a ∧ SqL K H a vs ∧ Reps K F H xs vs := by
  cases r with
  | lst f h r => cases e; exact ⟨_, _, rfl, SqL.of h, r⟩
  | rol f h r => cases e; exact ⟨_, _, rfl, .inl h, r⟩
  | rolK h r => cases e; exact ⟨_, _, rfl, .inr h, r⟩
  | ref a =>
    simp only [asL] at e
    split at e
    · rename_i ys q
      cases e
      obtain ⟨_, ho, eh, r⟩ := R.live a _ q
      cases r with
      | lst r => exact ⟨a, _, rfl, SqL.of eh, r⟩
    · cases e
  | _ => cases e
theorem asX_ok (R : Rel K F A H) (r : Rep K F H d v) {xs : List D} (e : asX A d = some xs) : ∃ a vs, v = .ref a ∧ H a = some (.lst vs) ∧ Reps K F H xs vs := by
  cases r with
  | lst f h r => cases e; exact ⟨_, _, rfl, h, r⟩
  | ref a =>
    simp only [asX] at e
    split at e
    · rename_i ys q
      cases e
      obtain ⟨_, ho, eh, r⟩ := R.live a _ q
      cases r with
      | lst r => exact ⟨a, _, rfl, eh, r⟩
    · cases e
  | _ => cases e
theorem asTe_ok (r : Rep K F H d v) {xs : List D} (e : asTe d = some xs) : ∃ a vs, v = .ref a ∧ TupE K H a vs ∧ Reps K F H xs vs := by
  cases r with
  | tup h r => cases e; exact ⟨_, _, rfl, h, r⟩
  | _ => cases e
theorem asT_ok (r : Rep K F H d v) {xs : List D} (e : asT d = some xs) : ∃ a vs, v = .ref a ∧ SqT K H a vs ∧ Reps K F H xs vs := by
  cases r with
  | tup h r => cases e; exact ⟨_, _, rfl, h.sq, r⟩
  | tux h r => cases e; exact ⟨_, _, rfl, h.sq, r⟩
  | _ => cases e
end
section
variable {K : PySem.W.Frag} {W : WX} {δ : ASt} {σ : L2.St} {H : Hp} {F : Addr → Prop} {A : AH} {E : AX} {ds : List D} {vs : List V} {Q' : AQ} {Q : VK}
theorem aNew_ok {live : Bool} {o : AO} {ho : HO} (R : Rel K F A H) (r : RepO K F H o ho) (h : aNew live o A Q') (p : Post K (Rep K) F A H Q' Q) : ∀ a, H a = none → Q (.ref a) (upd H a ho) := fun a ha => by
  cases live with
  | true =>
    obtain ⟨R1, x1⟩ := R.newL ha r
    exact p _ _ _ _ _ (h a (R.fresh ha).1) x1 R1 (.ref a)
  | false =>
    obtain ⟨R1, x1, r1⟩ := R.newF ha r
    exact p _ _ _ _ _ h x1 R1 r1
theorem tup_ok {xs : List D} {us : List V} (R : Rel K F A H) (r : Reps K F H xs us) (h : Q' (.tup xs) A) (p : Post K (Rep K) F A H Q' Q) : ∀ a, H a = none → Q (.ref a) (upd H a (.tup us)) := fun a ha => by
  obtain ⟨R1, x1, r1⟩ := R.newT ha r
  exact p _ _ _ _ _ h x1 R1 r1
end
section
variable {X : Cx} {W : WX} {pos : Pos}
def aVar (i : Nat) : AE := fun δ A Q _ => ∃ d, δ[i]? = some (some d) ∧ Q d A
def aC (d : D) : AE := fun _ A Q _ => Q d A
theorem ae_var {e : Expr} {i : Nat} (h : PE X e (tVar i)) : PE X e (liftE X.K W (aVar i)) := PE.imp h fun σ H Q ⟨δ, F, A, Q', E', a, ⟨d, e, q⟩, p⟩ => by
  obtain ⟨v, e1, r⟩ := a.sl.get e
  exact ⟨v, e1, p _ _ _ _ _ q Ext.refl a.rel r⟩
theorem ae_c {e : Expr} {v : V} {d : D} (h : PE X e (tC v)) (hr : ∀ F H, Rep X.K F H d v) : PE X e (liftE X.K W (aC d)) := PE.imp h fun σ H Q ⟨δ, F, A, Q', E', a, q, p⟩ => p _ _ _ _ _ q Ext.refl a.rel (hr _ _)
theorem ae_int {i : Int} {j pos} : PE X (.Constant (.int i) j pos) (liftE X.K W (aC (.int i))) := ae_c pe_int fun _ _ => .int i
theorem ae_bl {b : Bool} {j pos} : PE X (.Constant (.bool b) j pos) (liftE X.K W (aC (.bl b))) := ae_c pe_bl fun _ _ => .bl b
theorem ae_str {x : Str} {j pos} (h : sOk x := by unfold sOk; decide +kernel) : PE X (.Constant (.str x) j pos) (liftE X.K W (aC (.str x))) := ae_c pe_str fun _ _ => .str h
abbrev G2 := D → D → AK D
def Lift2 (K : PySem.W.Frag) (g : G2) (r : R2) : Prop := ∀ (W : WX) δ σ H x y v u Q, Lf (Rep K) K W δ [y, x] [u, v] (g x y) σ H Q → r v u H Q
def aOp (g : G2) (ta tb : AE) : AE := fun δ A Q E => ta δ A (fun x A1 => tb δ A1 (fun y A2 => g x y A2 Q E) E) E
variable {a b c : Expr} {ta tb tc : AE} {g : G2} {r : R2}
theorem lift_op (L : Lift2 X.K g r) {σ : L2.St} {H : Hp} {Q : VK} (h : liftE X.K W (aOp g ta tb) σ H Q) : tOp r (liftE X.K W ta) (liftE X.K W tb) σ H Q := by
  obtain ⟨δ, h⟩ := h
  exact (Lf.bindE (k := fun x A1 Q E => tb δ A1 (fun y A2 => g x y A2 Q E) E) h).mono fun v1 H1 ⟨x1, h1⟩ => (Lf.bindE (k := fun y => g x1 y) h1).mono fun v2 H2 ⟨x2, h2⟩ => L W δ σ H2 x1 x2 v1 v2 Q h2
theorem ae_op {op : Operator} (L : Lift2 X.K g r) (ho : OpR X (binaryOp op) r) (ha : PE X a (liftE X.K W ta)) (hb : PE X b (liftE X.K W tb)) : PE X (.BinOp a op b pos) (liftE X.K W (aOp g ta tb)) := PE.imp (pe_op ho ha hb) fun σ H Q h => lift_op L h
theorem ae_cmp {op : CmpOp} (L : Lift2 X.K g r) (ho : OpR X (compareOp op) r) (ha : PE X a (liftE X.K W ta)) (hb : PE X b (liftE X.K W tb)) (hm : behindInMarks op b = false) : PE X (.Compare a [op] [b] pos) (liftE X.K W (aOp g ta tb)) := PE.imp (pe_cmpR ho ha hb hm) fun σ H Q h => lift_op L h
theorem ae_ix (L : Lift2 X.K g r) (hr : IxR X r) (ha : PE X a (liftE X.K W ta)) (hb : PE X b (liftE X.K W tb)) (hs : PlainIx b) : PE X (.Subscript a b pos) (liftE X.K W (aOp g ta tb)) := PE.imp (pe_ix hr ha hb hs) fun σ H Q h => lift_op L h
def aB (t : AE) : AT := fun δ A Q E => t δ A (fun x A1 => ∃ c, x = .bl c ∧ Q c A1) E
theorem lift_B {t : AE} {σ : L2.St} {H : Hp} {Q : Bool → Hp → Prop} (h : liftT X.K W (aB t) σ H Q) : tB (liftE X.K W t) σ H Q := by
  obtain ⟨δ, h⟩ := h
  refine (Lf.bindE (k := fun x A1 Q _ => ∃ c, x = .bl c ∧ Q c A1) h).mono fun v1 H1 ⟨x1, F, A, Q', E', a, ⟨c, e, q⟩, p⟩ => ?_
  subst e
  cases a.held with
  | cons r _ => cases r; exact ⟨c, rfl, p _ _ _ _ _ q Ext.refl a.rel rfl⟩
theorem at_cmp {op : CmpOp} (L : Lift2 X.K g r) (ho : OpR X (compareOp op) r) (ha : PE X a (liftE X.K W ta)) (hb : PE X b (liftE X.K W tb)) (hm : behindInMarks op b = false) : PT X (.Compare a [op] [b] pos) (liftT X.K W (aB (aOp g ta tb))) :=
  PT.imp (pt_cmpR ho ha hb hm) fun σ H Q h => by
    have := lift_B h
    exact (show tTest (tOp r (liftE X.K W ta) (liftE X.K W tb)) σ H Q from lift_op L this)
abbrev G1 := D → AK D
def aUn (g : G1) (ta : AE) : AE := fun δ A Q E => ta δ A (fun x A1 => g x A1 Q E) E
def truD (A : AH) : D → Option Bool
  | .non => some false
  | .bl b => some b
  | .int i => some (i != 0)
  | .str x => some ((x.length : Int) != 0)
  | .tup xs => some (!xs.isEmpty)
  | .lst xs => some (!xs.isEmpty)
  | .ref a => match A a with
    | some (.lst xs) => some (!xs.isEmpty)
    | _ => none
  | _ => none
def lenOk : D → Prop
  | .str x => x.length ≤ sizeLine
  | _ => True
theorem reps_empty {K : PySem.W.Frag} {F : Addr → Prop} {H : Hp} {xs : List D} {us : List V} (r : Reps K F H xs us) : (!xs.isEmpty) = !us.isEmpty := by cases r <;> rfl
theorem truD_ok {K : PySem.W.Frag} {F : Addr → Prop} {A : AH} {H : Hp} {d : D} {v : V} (R : Rel K F A H) (r : Rep K F H d v) {b : Bool} (l : lenOk d) (e : truD A d = some b) : TruV K v H b := by
  cases r with
  | non => cases e; exact rfl
  | bl b => cases e; exact rfl
  | int i => cases e; exact rfl
  | str h => cases e; exact ⟨l, rfl⟩
  | tup h r => cases e; exact .inr (.inl ⟨_, h.sq, reps_empty r⟩)
  | lst f h r => cases e; exact .inl ⟨_, SqL.of h, reps_empty r⟩
  | ref a =>
    simp only [truD] at e
    split at e
    · rename_i ys q
      cases e
      obtain ⟨_, ho, eh, r⟩ := R.live a _ q
      cases r with
      | lst r => exact .inl ⟨_, SqL.of eh, reps_empty r⟩
    · cases e
  | _ => cases e
def aTru (t : AE) : AT := fun δ A Q E => t δ A (fun x A1 => lenOk x ∧ ∃ b, truD A1 x = some b ∧ Q b A1) E
theorem at_truth (ha : PE X a (liftE X.K W ta)) (he : ∀ whole, isTrue a X.env whole = (do let v ← whole; standAt a.pos; holding [v] (truthy v)) := by intro _; rfl) : PT X a (liftT X.K W (aTru ta)) := PT.imp (pt_truth ha he) fun σ H Q ⟨δ, h⟩ => by
  refine (Lf.bindE (k := fun x A1 Q _ => lenOk x ∧ ∃ b, truD A1 x = some b ∧ Q b A1) h).mono fun v1 H1 ⟨x1, F, A, Q', E', a, ⟨l, b, e, q⟩, p⟩ => ?_
  cases a.held with
  | cons r _ => exact ⟨b, truD_ok a.rel r l e, p _ _ _ _ _ q Ext.refl a.rel rfl⟩
def aOrV (ta tb : AE) : AE := fun δ A Q E => ta δ A (fun x A1 => lenOk x ∧ ∃ b, truD A1 x = some b ∧ if b = true then Q x A1 else tb δ A1 Q E) E
def aAndV (ta tb : AE) : AE := fun δ A Q E => ta δ A (fun x A1 => lenOk x ∧ ∃ b, truD A1 x = some b ∧ if b = true then tb δ A1 Q E else Q x A1) E
def aNotV (ta : AE) : AE := fun δ A Q E => ta δ A (fun x A1 => lenOk x ∧ ∃ b, truD A1 x = some b ∧ Q (.bl (!b)) A1) E
variable {rest : List Expr}
theorem ae_one {op} {t : AE} (h : PE X a (liftE X.K W t)) : PE X (.BoolOp op [a] pos) (liftE X.K W t) := pe_one h
theorem ae_and (ha : PE X a (liftE X.K W ta)) (hb : PE X (.BoolOp .And (b :: rest) pos) (liftE X.K W tb)) : PE X (.BoolOp .And (a :: b :: rest) pos) (liftE X.K W (aAndV ta tb)) := PE.imp (pe_andT ha hb) fun σ H Q ⟨δ, h⟩ => by
  refine (Lf.bindE (k := fun x A1 Q E => lenOk x ∧ ∃ b, truD A1 x = some b ∧ if b = true then tb δ A1 Q E else Q x A1) h).mono fun v1 H1 ⟨x1, F, A, Q', E', a, ⟨l, b, e, q⟩, p⟩ => ?_
  cases a.held with
  | cons r n =>
    refine ⟨b, truD_ok a.rel r l e, ?_⟩
    split
    · rw [if_pos (by assumption)] at q; exact ⟨δ, F, A, Q', E', ⟨a.rel, a.sl, a.gx, .nil⟩, q, p⟩
    · rw [if_neg (by assumption)] at q; exact p _ _ _ _ _ q Ext.refl a.rel r
variable {tA tB' : AT}
def aAnd (t u : AT) : AT := fun δ A Q E => t δ A (fun c A1 => if c = true then u δ A1 Q E else Q false A1) E
def aOr (t u : AT) : AT := fun δ A Q E => t δ A (fun c A1 => if c = true then Q true A1 else u δ A1 Q E) E
def aNot (t : AT) : AT := fun δ A Q E => t δ A (fun c A1 => Q (!c) A1) E
theorem PW.imp {e : Expr} {t t' : TT} (h : PW X e t) (i : ∀ σ H Q, t' σ H Q → t σ H Q) : PW X e t' := ⟨fun wh pins s σ H Q I q => h.run wh pins s σ H Q I (i _ _ _ q)⟩
theorem aw_or1 (ha : PT X a (liftT X.K W tA)) : PW X (.BoolOp .Or [a] pos) (liftT X.K W tA) := pw_or1 ha
theorem aw_or (ha : PT X a (liftT X.K W tA)) (hb : PW X (.BoolOp .Or (b :: rest) pos) (liftT X.K W tB')) : PW X (.BoolOp .Or (a :: b :: rest) pos) (liftT X.K W (aOr tA tB')) := PW.imp (pw_or ha hb) fun σ H Q ⟨δ, h⟩ => by
  refine (Lf.bindT (k := fun c A1 Q E => if c = true then Q true A1 else tB' δ A1 Q E) h).mono fun c H1 ⟨F, A, Q', E', a, q, p⟩ => ?_
  dsimp only at q
  split
  · rw [if_pos (by assumption)] at q; exact p _ _ _ _ _ q Ext.refl a.rel rfl
  · rw [if_neg (by assumption)] at q; exact ⟨δ, F, A, Q', E', a, q, p⟩
theorem at_not (ha : PT X a (liftT X.K W tA)) : PT X (.UnaryOp .Not a pos) (liftT X.K W (aNot tA)) := PT.imp (pt_not ha) fun σ H Q ⟨δ, h⟩ =>
  (Lf.bindT (k := fun c A1 Q E => Q (!c) A1) h).mono fun c H1 ⟨F, A, Q', E', a, q, p⟩ => p _ _ _ _ _ q Ext.refl a.rel rfl
def aIf (t : AT) (ta tb : AE) : AE := fun δ A Q E => t δ A (fun c A1 => if c = true then ta δ A1 Q E else tb δ A1 Q E) E
theorem ae_if (hc : PT X c (liftT X.K W tA)) (ha : PE X a (liftE X.K W ta)) (hb : PE X b (liftE X.K W tb)) : PE X (.IfExp c a b pos) (liftE X.K W (aIf tA ta tb)) := PE.imp (pe_ifExp hc ha hb) fun σ H Q ⟨δ, h⟩ => by
  refine (Lf.bindT (k := fun c A1 Q E => if c = true then ta δ A1 Q E else tb δ A1 Q E) h).mono fun c H1 ⟨F, A, Q', E', a, q, p⟩ => ?_
  dsimp only at q
  split
  · rw [if_pos (by assumption)] at q; exact ⟨δ, F, A, Q', E', a, q, p⟩
  · rw [if_neg (by assumption)] at q; exact ⟨δ, F, A, Q', E', a, q, p⟩
variable {g' : G2} {r' : R2}
def aChain (g g' : G2) (ta tb tc : AE) : AE := fun δ A Q E => ta δ A (fun x A1 => tb δ A1 (fun y A2 => g x y A2 (fun z A3 => ∃ k, z = .bl k ∧ if k = true then tc δ A3 (fun w A4 => g' y w A4 Q E) E else Q (.bl false) A3) E) E) E
variable {es : List Expr} {te : AE} {t : AA}
def aNil : AA := fun _ A Q _ => Q [] A
def aCons (te : AE) (t : AA) : AA := fun δ A Q E => te δ A (fun x A1 => t δ A1 (fun xs A2 => Q (x :: xs) A2) E) E
theorem PA.imp {es : List Expr} {t t' : TA} (h : PA X es t) (i : ∀ σ H Q, t' σ H Q → t σ H Q) : PA X es t' := ⟨fun pos pins s σ H Q I q => h.run pos pins s σ H Q I (i _ _ _ q)⟩
theorem aa_nil : PA X [] (liftA X.K W aNil) := PA.imp pa_nil fun σ H Q ⟨δ, F, A, Q', E', a, q, p⟩ => p _ _ _ _ _ q Ext.refl a.rel .nil
theorem aa_cons (ha : PE X a (liftE X.K W te)) (hr : PA X es (liftA X.K W t)) (hs : starEach (a :: es) X.env = (false, eval a X.env) :: starEach es X.env := by rfl) : PA X (a :: es) (liftA X.K W (aCons te t)) := PA.imp (pa_cons ha hr hs) fun σ H Q ⟨δ, h⟩ =>
  (Lf.bindE (k := fun x A1 Q E => t δ A1 (fun xs A2 => Q (x :: xs) A2) E) h).mono fun v1 H1 ⟨x1, h1⟩ => (Lf.core (R1 := Reps X.K) (k := fun xs A2 Q E => Q (x1 :: xs) A2) h1).mono fun vs H2 ⟨xs, F, A, Q', E', a, r, q, p⟩ => by
    cases a.held with
    | cons r0 _ => exact p _ _ _ _ _ q Ext.refl a.rel (.cons r0 r)
def aTup (t : AA) : AE := fun δ A Q E => t δ A (fun xs A1 => xs.length ≤ sizeLine ∧ Q (.tup xs) A1) E
theorem ae_tup {x1} (h : PA X es (liftA X.K W t)) : PE X (.Tuple es x1 pos) (liftE X.K W (aTup t)) := PE.imp (pe_tup h) fun σ H Q ⟨δ, h⟩ =>
  (Lf.core (R1 := Reps X.K) (k := fun xs A1 Q E => xs.length ≤ sizeLine ∧ Q (.tup xs) A1) h).mono fun vs H1 ⟨xs, F, A, Q', E', a, r, ⟨z, q⟩, p⟩ => ⟨by rw [← r.length]; exact z, tup_ok a.rel r q p⟩
def aLst (live : Bool) (t : AA) : AE := fun δ A Q E => t δ A (fun xs A1 => xs.length ≤ sizeLine ∧ aNew live (.lst xs) A1 Q) E
theorem ae_lst (live : Bool) (h : PA X es (liftA X.K W t)) : PE X (.List es pos) (liftE X.K W (aLst live t)) := PE.imp (pe_lst h) fun σ H Q ⟨δ, h⟩ =>
  (Lf.core (R1 := Reps X.K) (k := fun xs A1 Q E => xs.length ≤ sizeLine ∧ aNew live (.lst xs) A1 Q) h).mono fun vs H1 ⟨xs, F, A, Q', E', a, r, ⟨z, q⟩, p⟩ => ⟨by rw [← r.length]; exact z, aNew_ok a.rel (.lst r) q p⟩
abbrev GA := List D → AK D
def LiftA (K : PySem.W.Frag) (g : GA) (r : List V → Hp → VK → Prop) : Prop := ∀ (W : WX) δ σ H xs vs Q, Lf (Rep K) K W δ xs vs (g xs) σ H Q → r vs H Q
def aCB (g : GA) (t : AA) : AE := fun δ A Q E => t δ A (fun xs A1 => g xs A1 Q E) E
theorem lift_cb {gg : GA} {rr : List V → Hp → VK → Prop} (L : LiftA X.K gg rr) {σ : L2.St} {H : Hp} {Q : VK} (h : liftE X.K W (aCB gg t) σ H Q) : tCB rr (liftA X.K W t) σ H Q := by
  obtain ⟨δ, h⟩ := h
  exact (Lf.bindA (k := gg) h).mono fun vs H1 ⟨xs, h1⟩ => by rw [List.append_nil, List.append_nil] at h1; exact L W δ σ H1 xs vs Q h1
def aFrz (te : AE) : AE := fun δ A Q E => te δ A (fun d A1 => ∃ a o, d = .ref a ∧ A1 a = some o ∧ Q (frz o) (del A1 a)) E
end
end Av

set_option Elab.async false
set_option linter.all false
set_option maxRecDepth 100000
set_option maxHeartbeats 4000000
namespace Av
open PySem PySem.Spec PyProof.Rows L2 My
structure AEnds where
  nx : ASt → AH → Prop
  rt : AQ
  bk : ASt → AH → Prop := fun _ _ => False
  ct : ASt → AH → Prop := fun _ _ => False
  ex : Addr → List (Str × D) → ASt → AH → Prop := fun _ _ _ _ => False
abbrev AS := AEnds → ASt → AH → Prop
structure EndsOk (K : PySem.W.Frag) (W : WX) (F : Addr → Prop) (A : AH) (H : Hp) (D' : AEnds) (E : Ends) : Prop where
  nx : ∀ δ A' F' H' σ, D'.nx δ A' → Ext F A H F' A' H' → Rel K F' A' H' → RepS K F' H' δ σ → E.nx σ H'
  rt : ∀ d A' F' H' v, D'.rt d A' → Ext F A H F' A' H' → Rel K F' A' H' → Rep K F' H' d v → E.rt v H'
  bk : ∀ δ A' F' H' σ, D'.bk δ A' → Ext F A H F' A' H' → Rel K F' A' H' → RepS K F' H' δ σ → E.bk σ H'
  ct : ∀ δ A' F' H' σ, D'.ct δ A' → Ext F A H F' A' H' → Rel K F' A' H' → RepS K F' H' δ σ → E.ct σ H'
  ex : ∀ C fs δ A' F' H' σ dd fv, D'.ex C fs δ A' → Ext F A H F' A' H' → Rel K F' A' H' → RepS K F' H' δ σ → H' dd = some (.xd fv) → RepF K F' H' fs fv → W (.ref C) (some dd) σ H'
def liftS (K : PySem.W.Frag) (W : WX) (t : AS) : TS := fun E σ H => ∃ F A δ D', Rel K F A H ∧ RepS K F H δ σ ∧ t D' δ A ∧ EndsOk K W F A H D' E
section
variable {α β : Type} {R1 : RP α β} {K : PySem.W.Frag} {W : WX} {δ : ASt} {σ : L2.St} {H H' : Hp} {F F' : Addr → Prop} {A A' : AH} {D' : AEnds} {E : Ends}
theorem EndsOk.step (e : EndsOk K W F A H D' E) (x : Ext F A H F' A' H') : EndsOk K W F' A' H' D' E :=
  ⟨fun δ A2 F2 H2 σ q x2 => e.nx δ A2 F2 H2 σ q (x.trans x2), fun δ A2 F2 H2 σ q x2 => e.rt δ A2 F2 H2 σ q (x.trans x2), fun δ A2 F2 H2 σ q x2 => e.bk δ A2 F2 H2 σ q (x.trans x2), fun δ A2 F2 H2 σ q x2 => e.ct δ A2 F2 H2 σ q (x.trans x2), fun C fs δ A2 F2 H2 σ dd fv q x2 => e.ex C fs δ A2 F2 H2 σ dd fv q (x.trans x2)⟩
theorem EndsOk.gx (R : Rel K F A H) (s : RepS K F H δ σ) (e : EndsOk K W F A H D' E) : Gx K W F A H σ (fun C fs A1 => D'.ex C fs δ A1) := fun C fs A2 F2 H2 dd fv q x2 R2 h r => e.ex C fs δ A2 F2 H2 σ dd fv q x2 R2 (s.kept (x2.kept R)) h r
theorem EndsOk.setNx {n : ASt → AH → Prop} {n' : L2.St → Hp → Prop} (e : EndsOk K W F A H D' E) (h : ∀ δ A' F' H' σ, n δ A' → Ext F A H F' A' H' → Rel K F' A' H' → RepS K F' H' δ σ → n' σ H') : EndsOk K W F A H { D' with nx := n } { E with nx := n' } := ⟨h, e.rt, e.bk, e.ct, e.ex⟩
theorem st_core {t : AM α} {k : α → AH → Prop} (R : Rel K F A H) (s : RepS K F H δ σ) (e : EndsOk K W F A H D' E) (h : t δ A k (fun C fs A1 => D'.ex C fs δ A1)) :
    lift R1 K W t σ H (fun y H1 => ∃ x F1 A1, R1 F1 H1 x y ∧ Rel K F1 A1 H1 ∧ RepS K F1 H1 δ σ ∧ k x A1 ∧ EndsOk K W F1 A1 H1 D' E ∧ Ext F A H F1 A1 H1) :=
  ⟨δ, F, A, _, _, ⟨R, s, e.gx R s, .nil⟩, h, fun x A1 F1 H1 y q x1 R1' r => ⟨x, F1, A1, r, R1', s.kept (x1.kept R), q, e.step x1, x1⟩⟩
end
section
variable {X : Cx} {W : WX} {pos : Pos} {st : Stmt} {rest : List Stmt} {t u : AS} {te : AE} {e : Expr}
def aNext : AS := fun D δ A => D.nx δ A
def aBrk : AS := fun D δ A => D.bk δ A
def aCont : AS := fun D δ A => D.ct δ A
def aSeq (t u : AS) : AS := fun D δ A => t { D with nx := u D } δ A
theorem PSs.imp {sts : List Stmt} {t t' : TS} (h : PSs X sts t) (i : ∀ D σ H, t' D σ H → t D σ H) : PSs X sts t' := ⟨fun pins s σ H D I q => h.run pins s σ H D I (i _ _ _ q)⟩
theorem next_ok {sts : List Stmt} (h : PSs X sts tNext) : PSs X sts (liftS X.K W aNext) := PSs.imp h fun D σ H ⟨F, A, δ, D', R, s, q, e⟩ => e.nx _ _ _ _ _ q Ext.refl R s
theorem ass_nil : PSs X [] (liftS X.K W aNext) := next_ok pss_nil
theorem ass_cons (h1 : PS X st (liftS X.K W t)) (h2 : PSs X rest (liftS X.K W u)) : PSs X (st :: rest) (liftS X.K W (aSeq t u)) := PSs.imp (pss_cons h1 h2) fun D σ H ⟨F, A, δ, D', R, s, q, e⟩ =>
  ⟨F, A, δ, { D' with nx := u D' }, R, s, q, e.setNx fun δ1 A1 F1 H1 σ1 q1 x1 R1 s1 => ⟨F1, A1, δ1, D', R1, s1, q1, e.step x1⟩⟩
theorem ass_one (h1 : PS X st (liftS X.K W t)) : PSs X [st] (liftS X.K W t) := pss_one h1
def aDrop (te : AE) : AS := fun D δ A => te δ A (fun _ A1 => D.nx δ A1) (fun C fs A1 => D.ex C fs δ A1)
def aRet (te : AE) : AS := fun D δ A => te δ A D.rt (fun C fs A1 => D.ex C fs δ A1)
theorem as_ret (he : PE X e (liftE X.K W te)) : PS X (.Return (some e) pos) (liftS X.K W (aRet te)) := PS.imp (ps_ret he) fun D σ H ⟨F, A, δ, D', R, s, q, e⟩ =>
  (st_core (R1 := Rep X.K) R s e q).mono fun y H1 ⟨x, F1, A1, r, R1, s1, q1, e1, x1⟩ => e1.rt _ _ _ _ _ q1 Ext.refl R1 r
def aRetN : AS := fun D _ A => D.rt .non A
def aIfS (c : AT) (t u : AS) : AS := fun D δ A => c δ A (fun b A1 => if b = true then t D δ A1 else u D δ A1) (fun C fs A1 => D.ex C fs δ A1)
theorem as_if {c : Expr} {a b : List Stmt} {tc : AT} (hc : PT X c (liftT X.K W tc)) (ha : PSs X a (liftS X.K W t)) (hb : PSs X b (liftS X.K W u)) : PS X (.If c a b pos) (liftS X.K W (aIfS tc t u)) := PS.imp (ps_if hc ha hb) fun D σ H ⟨F, A, δ, D', R, s, q, e⟩ => by
  refine (st_core (R1 := fun _ _ x y => x = y) R s e q).mono fun y H1 ⟨x, F1, A1, r, R1, s1, q1, e1, x1⟩ => ?_
  subst r
  split
  · rw [if_pos (by assumption)] at q1; exact ⟨F1, A1, δ, D', R1, s1, q1, e1⟩
  · rw [if_neg (by assumption)] at q1; exact ⟨F1, A1, δ, D', R1, s1, q1, e1⟩
inductive Pat where
  | nm (i : Nat) | tp (ps : List Pat)
mutual
def bindP : Pat → D → ASt → Option ASt
  | .nm i, d, δ => some (δ.set i (some d))
  | .tp ps, .tup ds, δ => bindPs ps ds δ
  | .tp _, _, _ => none
def bindPs : List Pat → List D → ASt → Option ASt
  | [], [], δ => some δ
  | p :: ps, d :: ds, δ => match bindP p d δ with
    | some δ' => bindPs ps ds δ'
    | none => none
  | _, _, _ => none
end
mutual
def slP : Pat → List Nat
  | .nm i => [i]
  | .tp ps => slPs ps
def slPs : List Pat → List Nat
  | [] => []
  | p :: ps => slP p ++ slPs ps
end
mutual
def tgOf (K : PySem.W.Frag) : Pat → TG
  | .nm i => gName i
  | .tp ps => gTup K ps.length (tgsOf K ps)
def tgsOf (K : PySem.W.Frag) : List Pat → TGs
  | [] => gNil
  | p :: ps => gCons (tgOf K p) (tgsOf K ps)
end
theorem wipe_set {σ : L2.St} {i : Nat} {x : Option V} : ∀ {vs : List Nat}, i ∈ vs → wipe (σ.set i x) vs = wipe σ vs
  | v :: vs, h => by
    show (wipe (σ.set i x) vs).set v none = (wipe σ vs).set v none
    by_cases e : i ∈ vs
    · rw [wipe_set e]
    · have : i = v := by
        rcases List.mem_cons.mp h with h | h
        · exact h
        · exact absurd h e
      subst this
      have aux : ∀ (ws : List Nat), (wipe (σ.set i x) ws).set i none = (wipe σ ws).set i none := fun ws => by
        induction ws with
        | nil => show (σ.set i x).set i none = σ.set i none; rw [List.set_set]
        | cons w ws ih =>
          show ((wipe (σ.set i x) ws).set w none).set i none = ((wipe σ ws).set w none).set i none
          by_cases q : w = i
          · subst q; rw [List.set_set, List.set_set, ih]
          · rw [List.set_comm _ _ q, ih, List.set_comm _ _ (Ne.symm q)]
      exact aux vs
mutual
theorem bindP_ok {K : PySem.W.Frag} {F : Addr → Prop} {H : Hp} : ∀ (p : Pat) {d : D} {v : V} {δ δ' : ASt} {σ : L2.St}, bindP p d δ = some δ' → Rep K F H d v → RepS K F H δ σ → ∃ σ', (∀ Q : L2.St → Hp → Prop, Q σ' H → tgOf K p v σ H Q) ∧ RepS K F H δ' σ' ∧ ∀ vs, (∀ i ∈ slP p, i ∈ vs) → wipe σ' vs = wipe σ vs
  | .nm i, d, v, δ, δ', σ, e, r, s => by
    simp only [bindP, Option.some.injEq] at e
    subst e
    exact ⟨σ.set i (some v), fun Q q => by rw [tgOf]; exact q, s.set r i, fun vs h => wipe_set (h i (by simp [slP]))⟩
  | .tp ps, d, v, δ, δ', σ, e, r, s => by
    cases r with
    | tup h r =>
      simp only [bindP] at e
      have hl : ps.length = _ := bindPs_len ps e
      obtain ⟨σ', h1, h2, h3⟩ := bindPs_ok ps e r s
      refine ⟨σ', fun Q q => ?_, h2, fun vs hv => h3 vs (by simpa [slP] using hv)⟩
      rw [tgOf]
      exact ⟨_, _, rfl, h.sq, by rw [hl]; exact r.length.symm, h1 Q q⟩
    | _ => simp only [bindP] at e; cases e
theorem bindPs_ok {K : PySem.W.Frag} {F : Addr → Prop} {H : Hp} : ∀ (ps : List Pat) {ds : List D} {us : List V} {δ δ' : ASt} {σ : L2.St}, bindPs ps ds δ = some δ' → Reps K F H ds us → RepS K F H δ σ → ∃ σ', (∀ Q : L2.St → Hp → Prop, Q σ' H → tgsOf K ps us σ H Q) ∧ RepS K F H δ' σ' ∧ ∀ vs, (∀ i ∈ slPs ps, i ∈ vs) → wipe σ' vs = wipe σ vs
  | [], ds, us, δ, δ', σ, e, r, s => by
    cases r with
    | nil => simp only [bindPs, Option.some.injEq] at e; subst e; exact ⟨σ, fun Q q => by rw [tgsOf]; exact ⟨rfl, q⟩, s, fun _ _ => rfl⟩
    | cons _ _ => simp only [bindPs] at e; cases e
  | p :: ps, ds, us, δ, δ', σ, e, r, s => by
    cases r with
    | nil => simp only [bindPs] at e; cases e
    | cons a r =>
      simp only [bindPs] at e
      split at e
      · rename_i δ1 q
        obtain ⟨σ1, h1, h2, h3⟩ := bindP_ok p q a s
        obtain ⟨σ2, k1, k2, k3⟩ := bindPs_ok ps e r h2
        refine ⟨σ2, fun Q q => ?_, k2, fun vs hv => ?_⟩
        · rw [tgsOf]
          exact ⟨_, _, rfl, h1 (fun σ' H' => tgsOf K ps _ σ' H' Q) (k1 Q q)⟩
        · rw [k3 vs fun i hi => hv i (by simp [slPs, hi]), h3 vs fun i hi => hv i (by simp [slPs, hi])]
      · cases e
theorem bindPs_len : ∀ (ps : List Pat) {ds : List D} {δ δ' : ASt}, bindPs ps ds δ = some δ' → ps.length = ds.length
  | [], [], _, _, _ => rfl
  | [], _ :: _, _, _, e => by simp only [bindPs] at e; cases e
  | _ :: _, [], _, _, e => by simp only [bindPs] at e; cases e
  | p :: ps, d :: ds, δ, δ', e => by
    simp only [bindPs] at e
    split at e
    · rw [List.length_cons, List.length_cons, bindPs_len ps e]
    · cases e
end
def aAsg (te : AE) (p : Pat) : AS := fun D δ A => te δ A (fun d A1 => ∃ δ', bindP p d δ = some δ' ∧ D.nx δ' A1) (fun C fs A1 => D.ex C fs δ A1)
theorem lift_asg {p : Pat} {D : Ends} {σ : L2.St} {H : Hp} (h : liftS X.K W (aAsg te p) D σ H) : tAsg (liftE X.K W te) (tgOf X.K p) D σ H := by
  obtain ⟨F, A, δ, D', R, s, q, e⟩ := h
  refine (st_core (R1 := Rep X.K) R s e q).mono fun y H1 ⟨x, F1, A1, r, R1, s1, ⟨δ', b, q1⟩, e1, x1⟩ => ?_
  obtain ⟨σ', h1, h2, _⟩ := bindP_ok p b r s1
  exact h1 _ (e1.nx _ _ _ _ _ q1 Ext.refl R1 h2)
theorem as_set {i : Nat} {x : Str} {pos' : Pos} (hN : X.N.Nodup) (hi : X.N[i]? = some x) (hx : Loc X.env.scope x) (he : PE X e (liftE X.K W te)) (hs : swapsWith e (some (.Name x pos')) pos.line X.env = pure false := by rfl) (hf : X.fn x = true ∨ X.env.scope.names.lookup x = some .local := by first | exact .inl rfl | exact .inr rfl | assumption) :
    PS X (.Assign [.Name x pos'] e pos) (liftS X.K W (aAsg te (.nm i))) := PS.imp (ps_set hN hi hx he hs hf) fun D σ H h => by
  have := lift_asg h
  rw [tgOf] at this
  exact this
def aPar (is : List Nat) (t : AA) : AS := fun D δ A => t δ A (fun ds A1 => ∃ δ', bindPs (is.map .nm) ds δ = some δ' ∧ D.nx δ' A1) (fun C fs A1 => D.ex C fs δ A1)
theorem lift_par2 {i j : Nat} {t : AA} {D : Ends} {σ : L2.St} {H : Hp} (h : liftS X.K W (aPar [i, j] t) D σ H) : tPar i j (liftA X.K W t) D σ H := by
  obtain ⟨F, A, δ, D', R, s, q, e⟩ := h
  refine (st_core (R1 := Reps X.K) R s e q).mono fun y H1 ⟨x, F1, A1, r, R1, s1, ⟨δ', b, q1⟩, e1, x1⟩ => ?_
  have hl := bindPs_len _ b
  match x, y, r, hl with
  | [d1, d2], [v1, v2], .cons r1 (.cons r2 .nil), _ =>
    simp only [List.map, bindPs, bindP, Option.some.injEq] at b
    subst b
    exact ⟨v1, v2, rfl, e1.nx _ _ _ _ _ q1 Ext.refl R1 ((s1.set r1 i).set r2 j)⟩
structure ItOk (K : PySem.W.Frag) (J : It) (gd : AH → Prop) (ds : List D) (hs : List D) (us : List V) : Prop where
  go : ∀ F A H i, Rel K F A H → gd A → Reps K F H hs us → i < ds.length → J.go i H
  stop : ∀ F A H i, Rel K F A H → gd A → Reps K F H hs us → ds.length ≤ i → J.stop i H
  yld : ∀ F A H i x H', Rel K F A H → gd A → Reps K F H hs us → J.yld i H x H' → i < ds.length → ∃ d, ds[i]? = some d ∧ Ext F A H F A H' ∧ Rel K F A H' ∧ Rep K F H' d x
abbrev IA := (AH → Prop) × List D
structure ItOkP (K : PySem.W.Frag) (J : It) (gd : AH → Prop) (ds : List D) (hs : List D) (us : List V) (φ : (Addr → Prop) → AH → Hp → Prop) : Prop where
  go : ∀ F A H i, Rel K F A H → gd A → Reps K F H hs us → φ F A H → i < ds.length → J.go i H
  stop : ∀ F A H i, Rel K F A H → gd A → Reps K F H hs us → φ F A H → ds.length ≤ i → J.stop i H
  yld : ∀ F A H i x H', Rel K F A H → gd A → Reps K F H hs us → φ F A H → J.yld i H x H' → i < ds.length → ∃ d, ds[i]? = some d ∧ Ext F A H F A H' ∧ Rel K F A H' ∧ Rep K F H' d x
  keep : ∀ F A H F' A' H', Rel K F A H → Ext F A H F' A' H' → φ F A H → φ F' A' H'
def RepI (K : PySem.W.Frag) : RP IA It := fun F H x J => ∃ hs us φ, Reps K F H hs us ∧ (∀ A, Rel K F A H → φ F A H) ∧ ItOkP K J x.1 x.2 hs us φ
theorem RepI.of {K : PySem.W.Frag} {F : Addr → Prop} {H : Hp} {x : IA} {J : It} {hs : List D} {us : List V} (r : Reps K F H hs us) (ok : ItOk K J x.1 x.2 hs us) : RepI K F H x J :=
  ⟨hs, us, fun _ _ _ => True, r, fun _ _ => trivial, fun F A H i R g r _ => ok.go F A H i R g r, fun F A H i R g r _ => ok.stop F A H i R g r, fun F A H i x H' R g r _ => ok.yld F A H i x H' R g r, fun _ _ _ _ _ _ _ _ _ => trivial⟩
abbrev AI := AM IA
abbrev liftI (K : PySem.W.Frag) (W : WX) (t : AI) : TI := lift (RepI K) K W t
def aLoop (gd : AH → Prop) (p : Pat) (tb : AS) (N : AEnds) : List D → ASt → AH → Prop
  | [], δ, A => gd A ∧ N.nx δ A
  | d :: ds, δ, A => gd A ∧ ∃ δ2, bindP p d δ = some δ2 ∧ tb { N with nx := aLoop gd p tb N ds, ct := aLoop gd p tb N ds, bk := N.nx } δ2 A
def aFor (ti : AI) (p : Pat) (tb : AS) : AS := fun D δ A => ti δ A (fun i A1 => aLoop i.1 p tb D i.2 δ A1) (fun C fs A1 => D.ex C fs δ A1)
theorem aLoop_gd {gd : AH → Prop} {p : Pat} {tb : AS} {N : AEnds} {ds : List D} {δ : ASt} {A : AH} (h : aLoop gd p tb N ds δ A) : gd A := by cases ds <;> exact h.1
theorem lift_for {ti : AI} {p : Pat} {tb : AS} {D : Ends} {σ : L2.St} {H : Hp} (h : liftS X.K W (aFor ti p tb) D σ H) : tFor (liftI X.K W ti) (tgOf X.K p) (liftS X.K W tb) D σ H := by
  obtain ⟨F, A, δ, D', R, s, q, e⟩ := h
  refine (st_core (R1 := RepI X.K) R s e q).mono fun J H1 ⟨x, F1, A1, ⟨hs, us, φ, rh, hφ, ok⟩, R1, s1, q1, e1, x1⟩ => ?_
  obtain ⟨gd, ds⟩ := x
  refine ⟨fun i m σ H => m + i = ds.length + 1 ∧ i ≤ ds.length ∧ ∃ F A δ, Rel X.K F A H ∧ RepS X.K F H δ σ ∧ Reps X.K F H hs us ∧ φ F A H ∧ aLoop gd p tb D' (ds.drop i) δ A ∧ EndsOk X.K W F A H D' D, ⟨ds.length + 1, rfl, Nat.zero_le _, F1, A1, δ, R1, s1, rh, hφ A1 R1, q1, e1⟩, ?_⟩
  rintro i m σ H ⟨hm, hi, F, A, δ, R, s, rh, hφ, q, e⟩
  have hgd := aLoop_gd q
  by_cases hl : ds.length ≤ i
  · refine .inl ⟨ok.stop F A H i R hgd rh hφ hl, ?_⟩
    rw [List.drop_eq_nil_of_le hl] at q
    exact e.nx _ _ _ _ _ q.2 Ext.refl R s
  · have hlt : i < ds.length := by omega
    refine .inr ⟨ok.go F A H i R hgd rh hφ hlt, _, fun σ' H' h => ⟨m - 1, by omega, h⟩, fun x H' hy => ?_⟩
    obtain ⟨d, ed, x2, R2, r2⟩ := ok.yld F A H i x H' R hgd rh hφ hy hlt
    rw [List.drop_eq_getElem_cons hlt] at q
    have : ds[i] = d := by
      rw [List.getElem?_eq_getElem hlt] at ed
      exact Option.some.inj ed
    rw [this] at q
    obtain ⟨_, δ2, b, q⟩ := q
    obtain ⟨σ2, h1, h2, _⟩ := bindP_ok p b r2 (s.kept (x2.kept R))
    have rh2 := rh.kept (x2.kept R)
    have hφ2 := ok.keep _ _ _ _ _ _ R x2 hφ
    have e2 := e.step x2
    refine h1 (fun σ2 H2 => liftS X.K W tb { D with nx := _, ct := _, bk := D.nx } σ2 H2) ⟨F, A, δ2, _, R2, h2, q, ?_⟩
    refine ⟨fun δ3 A3 F3 H3 σ3 q3 x3 R3 s3 => ?_, e2.rt, fun δ3 A3 F3 H3 σ3 q3 x3 R3 s3 => e2.nx _ _ _ _ _ q3 x3 R3 s3, fun δ3 A3 F3 H3 σ3 q3 x3 R3 s3 => ?_, e2.ex⟩
    · exact ⟨by omega, by omega, F3, A3, δ3, R3, s3, rh2.kept (x3.kept R2), ok.keep _ _ _ _ _ _ R2 x3 hφ2, q3, e2.step x3⟩
    · exact ⟨by omega, by omega, F3, A3, δ3, R3, s3, rh2.kept (x3.kept R2), ok.keep _ _ _ _ _ _ R2 x3 hφ2, q3, e2.step x3⟩
theorem as_for {tg iter : Expr} {body : List Stmt} {ti : AI} {p : Pat} {tb : AS} (hp : PassesOwn (model X.prog X.w) X.A X.env X.xe) (hc : X.calm = true) (hi : PI X tg iter (liftI X.K W ti)) (hg : PG X tg (tgOf X.K p)) (hb : PSs X body (liftS X.K W tb))
    (hs : ∀ x, foldedSetIterable iter X.env x = pure x := by intro _; rfl) : PS X (.For tg iter body [] pos) (liftS X.K W (aFor ti p tb)) := PS.imp (ps_for hp hc hi hg hb hs) fun D σ H h => lift_for h
end
end Av

set_option Elab.async false
set_option linter.all false
set_option maxRecDepth 100000
set_option maxHeartbeats 4000000
namespace Av
open PySem PySem.Spec PyProof.Rows L2 My
abbrev noW : WX := fun _ _ _ _ => False
abbrev noX : AX := fun _ _ _ => False
def wipeA (δ : ASt) : List Nat → ASt
  | [] => δ
  | v :: vs => (wipeA δ vs).set v none
theorem RepS.wipe {K : PySem.W.Frag} {F : Addr → Prop} {H : Hp} {δ : ASt} {σ : L2.St} (s : RepS K F H δ σ) : ∀ vs : List Nat, RepS K F H (wipeA δ vs) (wipe σ vs)
  | [] => s
  | v :: vs => (RepS.wipe s vs).unset v
theorem gx_no {K : PySem.W.Frag} {F : Addr → Prop} {A : AH} {H : Hp} {W : WX} {σ : L2.St} : Gx K W F A H σ noX := fun _ _ _ _ _ _ _ h => h.elim
theorem show_ok {K : PySem.W.Frag} {F F1 : Addr → Prop} {A A1 : AH} {H H1 : Hp} {Q' : AQ} {Q : VK} {live : Bool} {o : AO} {ho : HO} {p : Addr} (R : Rel K F A H) (x : Ext F1 A1 H1 F A H) (h1 : H1 p = none) (nF : ¬ F p) (nA : A p = none) (e : H p = some ho) (r : RepO K F H o ho) (h : aNew live o A Q') (po : Post K (Rep K) F1 A1 H1 Q' Q) : Q (.ref p) H := by
  cases live with
  | true =>
    refine po _ _ _ _ _ (h p nA) ⟨x.f, fun a u q w => ?_, x.g⟩ (R.showL nF e r) (.ref p)
    rw [put_ne (ne_of_none w h1)]; exact x.k a u q w
  | false =>
    obtain ⟨R2, r2⟩ := R.showF nA e r
    refine po _ _ _ _ _ h ⟨fun a f => .inl (x.f a f), x.k, fun a u q w f => ?_⟩ R2 r2
    rcases f with f | f
    · exact x.g a u q w f
    · rw [f, h1] at w; cases w
section
variable {X : Cx} {W : WX} {pos : Pos}
def aComp (gd : AH → Prop) (p : Pat) (tt : AT) (te : AE) (δ : ASt) : List D → List D → AH → (List D → AH → Prop) → Prop
  | [], acc, A, Q => gd A ∧ Q acc A
  | d :: ds, acc, A, Q => gd A ∧ ∃ δ2, bindP p d δ = some δ2 ∧ tt δ2 A (fun b A1 => if b = true then te δ2 A1 (fun y A2 => acc.length < sizeLine ∧ aComp gd p tt te δ ds (acc ++ [y]) A2 Q) noX else aComp gd p tt te δ ds acc A1 Q) noX
theorem aComp_gd {gd : AH → Prop} {p : Pat} {tt : AT} {te : AE} {δ : ASt} {ds acc : List D} {A : AH} {Q : List D → AH → Prop} (h : aComp gd p tt te δ ds acc A Q) : gd A := by cases ds <;> exact h.1
def aLc (live : Bool) (ti : AI) (p : Pat) (tt : AT) (te : AE) (vs : List Nat) : AE := fun δ A Q E => ti δ A (fun i A1 => aComp i.1 p tt te (wipeA δ vs) i.2 [] A1 (fun xs A2 => aNew live (.lst xs) A2 Q)) E
theorem lift_lc {live : Bool} {ti : AI} {p : Pat} {tt : AT} {te : AE} {vs : List Nat} (hv : ∀ i ∈ slP p, i ∈ vs) {σ : L2.St} {H : Hp} {Q : VK} (h : liftE X.K W (aLc live ti p tt te vs) σ H Q) :
    tLc (liftI X.K W ti) (tgOf X.K p) (liftT X.K noW tt) (liftE X.K noW te) vs σ H Q := by
  obtain ⟨δ, h⟩ := h
  refine (Lf.core (R1 := RepI X.K) (k := fun i A1 Q E => aComp i.1 p tt te (wipeA δ vs) i.2 [] A1 (fun xs A2 => aNew live (.lst xs) A2 Q)) h).mono fun J H1 ⟨x, F1, A1, Q', E', a, ⟨hs, us, φ, rh, hφ, ok⟩, q, po⟩ => ?_
  have hφ := hφ A1 a.rel
  obtain ⟨gd, ds⟩ := x
  intro Dd hDd
  have R0 := a.rel.lay hDd (ho := .lst [])
  have x0 := ext_new a.rel hDd (ho := .lst [])
  have k0 := x0.kept a.rel
  refine ⟨fun i m H => m + i = ds.length + 1 ∧ i ≤ ds.length ∧ ∃ F A acc av, Rel X.K F A H ∧ A Dd = none ∧ ¬ F Dd ∧ H Dd = some (.lst av) ∧ Reps X.K F H acc av ∧ RepS X.K F H (wipeA δ vs) (wipe σ vs) ∧ Reps X.K F H hs us ∧
    aComp gd p tt te (wipeA δ vs) (ds.drop i) acc A (fun xs A2 => aNew live (.lst xs) A2 Q') ∧ Ext F1 A1 H1 F A H, ⟨ds.length + 1, rfl, Nat.zero_le _, F1, A1, [], [], R0, (a.rel.fresh hDd).1, (a.rel.fresh hDd).2, upd_same, .nil, (a.sl.wipe vs).kept k0, rh.kept k0, q, x0⟩, ?_⟩
  rintro i m H ⟨hm, hi, F, A, acc, av, R, nA, nF, eD, ra, s, rh, q, xx⟩
  have hgd := aComp_gd q
  have hφ2 := ok.keep _ _ _ _ _ _ a.rel xx hφ
  by_cases hl : ds.length ≤ i
  · refine .inl ⟨ok.stop F A H i R hgd rh hφ2 hl, ?_⟩
    rw [List.drop_eq_nil_of_le hl] at q
    exact show_ok R xx hDd nF nA eD (.lst ra) q.2 po
  · have hlt : i < ds.length := by omega
    refine .inr ⟨ok.go F A H i R hgd rh hφ2 hlt, _, fun H' h => ⟨m - 1, by omega, h⟩, fun x H' hy => ?_⟩
    obtain ⟨d, ed, x2, R2, r2⟩ := ok.yld F A H i x H' R hgd rh hφ2 hy hlt
    rw [List.drop_eq_getElem_cons hlt] at q
    have : ds[i] = d := by
      rw [List.getElem?_eq_getElem hlt] at ed
      exact Option.some.inj ed
    rw [this] at q
    obtain ⟨_, δ2, b, q⟩ := q
    have k2 := x2.kept R
    obtain ⟨σ2, h1, h2, h3⟩ := bindP_ok p b r2 (s.kept k2)
    have aux : ∀ ws : List Nat, (∀ v ∈ ws, v ∈ vs) → wipe (wipe σ ws) vs = wipe σ vs := fun ws => by
      induction ws with
      | nil => intro _; rfl
      | cons w ws ih =>
        intro hw
        show wipe ((wipe σ ws).set w none) vs = wipe σ vs
        rw [wipe_set (hw w List.mem_cons_self), ih fun v hv => hw v (List.mem_cons_of_mem _ hv)]
    refine h1 _ ⟨(h3 vs hv).trans (aux vs fun _ h => h), ?_⟩
    have eD2 := (x2.kh nA eD nF).2
    refine ⟨δ2, F, A, _, noX, ⟨R2, h2, gx_no, .nil⟩, q, fun bb A3 F3 H3 y q3 x3 R3 ey => ?_⟩
    subst ey
    have k3 := x3.kept R2
    obtain ⟨nA3, eD3⟩ := x3.kh nA eD2 nF
    have nF3 : ¬ F3 Dd := fun z => nF (x3.g Dd _ nA eD2 z)
    have xx3 := (xx.trans x2).trans x3
    split
    · rw [if_pos (by assumption)] at q3
      refine ⟨δ2, F3, A3, _, noX, ⟨R3, h2.kept k3, gx_no, .nil⟩, q3, fun y A4 F4 H4 v ⟨hz, q4⟩ x4 R4 r4 => ?_⟩
      have k4 := x4.kept R3
      obtain ⟨nA4, eD4⟩ := x4.kh nA3 eD3 nF3
      have nF4 : ¬ F4 Dd := fun z => nF3 (x4.g Dd _ nA3 eD3 z)
      have xx4 := xx3.trans x4
      have ra4 := ((ra.kept k2).kept k3).kept k4
      have kh : Kept F4 F4 H4 (upd H4 Dd (.lst (av ++ [v]))) := kept_hid nF4 eD4 (fun _ z => by cases z) (fun _ _ z => by cases z) (fun _ z => by cases z)
      refine ⟨av, eD4, by rw [← ra4.length]; exact hz, by omega, by omega, F4, A4, acc ++ [y], av ++ [v], R4.hid nF4 nA4 eD4 (fun _ z => by cases z) (fun _ _ z => by cases z) (fun _ z => by cases z), nA4, nF4, upd_same, (ra4.append (.cons r4 .nil)).kept kh, ((((s.kept k2).kept k3).kept k4).kept kh), ((((rh.kept k2).kept k3).kept k4).kept kh), q4, xx4.f, fun a o w e => ?_, xx4.g⟩
      rw [upd_ne (ne_of_none e hDd)]
      exact xx4.k a o w e
    · rw [if_neg (by assumption)] at q3
      exact ⟨by omega, by omega, F3, A3, acc, av, R3, nA3, nF3, eD3, (ra.kept k2).kept k3, (s.kept k2).kept k3, (rh.kept k2).kept k3, q3, xx3⟩
end
end Av

set_option Elab.async false
set_option linter.all false
set_option maxRecDepth 100000
set_option maxHeartbeats 4000000
namespace Av
open PySem PySem.Spec PyProof.Rows L2 My
abbrev ASp := List D → AH → AQ → AX → Prop
def liftSp (K : PySem.W.Frag) (asp : ASp) : Sp := fun vs H Q E => ∃ F A ds Q' E', Rel K F A H ∧ Reps K F H ds vs ∧ asp ds A Q' E' ∧ Post K (Rep K) F A H Q' Q ∧ Gx K (fun cls d _ H => E cls d H) F A H [] E'
abbrev anyX : XK := fun _ _ _ => True
structure Tag {β : Type} (_ : β) : Type where mk ::
def Call (asp : ASp) (ds : List D) (A : AH) (Q : AQ) (E : AX) (_ : Tag (Q, E)) : Prop := asp ds A Q E
def aCall (asp : ASp) (t : AA) : AE := fun δ A Q E => t δ A (fun ds A1 => Call asp ds A1 Q E ⟨⟩) E
section
variable {X : Cx} {CX : CXT} {W : WX} {k : Nat} {f C : Addr} {asp : ASp} {x m fl : Str} {e o : Expr} {es : List Expr} {ta tv : AE} {t : AA} {p pos pos' apos : Pos}
theorem Lf.sp {δ : ASt} {σ : L2.St} {H : Hp} {xs : List D} {vs : List V} {Q : VK} (h : Lf (Rep X.K) X.K W δ xs vs (asp xs) σ H Q) : liftSp X.K asp vs H Q (WE W σ) := by
  obtain ⟨F, A, Q', E', a, q, p⟩ := h
  exact ⟨F, A, xs, Q', E', a.rel, a.held, q, p, a.gx⟩
theorem sp_any {vs : List V} {H : Hp} {Q : VK} {E : XK} {K : PySem.W.Frag} (h : liftSp K asp vs H Q E) : liftSp K asp vs H Q anyX := by
  obtain ⟨F, A, ds, Q', E', a, b, c, d, e⟩ := h
  exact ⟨F, A, ds, Q', E', a, b, c, d, fun _ _ _ _ _ _ _ _ _ _ _ _ => trivial⟩
theorem lift_call {σ : L2.St} {H : Hp} {Q : VK} (h : liftE X.K W (aCall asp t) σ H Q) : liftA X.K W t σ H (fun vs H1 => liftSp X.K asp vs H1 Q (WE W σ)) := by
  obtain ⟨δ, h⟩ := h
  exact (Lf.bindA (k := asp) h).mono fun vs H1 ⟨xs, h1⟩ => by rw [List.append_nil, List.append_nil] at h1; exact h1.sp
theorem ae_callR (F : FnR X.prog X.w X.K X.mg X.base CX0 k f (liftSp X.K asp)) (hr : Room k X.A) (hg : Gl X x) (hm : X.mg x = some (.ref f)) (hk : PySem.W.keepIn X.K (.ref f) = true) (ha : PA X (e :: es) (liftA X.K W t))
    (hdb : (x == ("__debug__" : Str)) = false := by decide) (he : starEach (e :: es) X.env = (false, eval e X.env) :: starEach es X.env := by rfl) (hpl : (backTo pos (starEach es X.env)).any (·.1) = false := by rfl) :
    PE X (.Call (.Name x p) (e :: es) [] pos) (liftE X.K W (aCall asp t)) := PE.imp (pe_callR (E := anyX) F hr hg hm hk pass0 ha hdb he hpl) fun σ H Q h => (lift_call h).mono fun vs H1 h1 => sp_any h1
def aMeth (C : Addr) (m : Str) (asp : ASp) (ta : AE) (t : AA) : AE := fun δ A Q E => ta δ A (fun x A1 => (∃ fs, asO A1 x = some (C, fs) ∧ fs.lookup m = none) ∧ t δ A1 (fun ds A2 => Call asp (x :: ds) A2 Q E ⟨⟩) E) E
def aProp (C : Addr) (asp : ASp) (ta : AE) : AE := fun δ A Q E => ta δ A (fun x A1 => (∃ fs, asO A1 x = some (C, fs)) ∧ Call asp [x] A1 Q E ⟨⟩) E
def aFld (K : PySem.W.Frag) (f : Str) (ta : AE) : AE := fun δ A Q E => ta δ A (fun x A1 => ∃ C fs v, asO A1 x = some (C, fs) ∧ Cls K C ∧ NoAttr K C f ∧ fs.lookup f = some v ∧ Q v A1) E
def putFA (f : Str) (v : D) : List (Str × D) → List (Str × D)
  | [] => [(f, v)]
  | (g, x) :: r => if g = f then (g, v) :: r else (g, x) :: putFA f v r
theorem RepF.put {K : PySem.W.Frag} {F : Addr → Prop} {H : Hp} {f : Str} {d : D} {v : V} (q : Rep K F H d v) : ∀ {ds : List (Str × D)} {vs : List (Str × V)}, RepF K F H ds vs → RepF K F H (putFA f d ds) (putF f v vs)
  | _, _, .nil => .cons q .nil
  | _, _, .cons (n := n) a r => by
    rw [putFA, putF]
    split
    · exact .cons q r
    · exact .cons a (RepF.put q r)
def aSetFld (K : PySem.W.Frag) (f : Str) (ta tv : AE) : AS := fun D δ A => tv δ A (fun y A1 => ta δ A1 (fun x A2 => ∃ a C fs, x = .ref a ∧ A2 a = some (.ins C fs) ∧ Cls K C ∧ NoAttr K C f ∧ fs.length < 1000 ∧ D.nx δ (put A2 a (.ins C (putFA f y fs)))) (fun C fs A1 => D.ex C fs δ A1)) (fun C fs A1 => D.ex C fs δ A1)
def aAugFld (K : PySem.W.Frag) (f : Str) (g : Int → Int → Int) (ta tv : AE) : AS := fun D δ A => ta δ A (fun x A1 => ∃ a C fs i, x = .ref a ∧ A1 a = some (.ins C fs) ∧ Cls K C ∧ NoAttr K C f ∧ fs.lookup f = some (.int i) ∧ tv δ A1 (fun y A2 => ∃ j fs', y = .int j ∧ A2 a = some (.ins C fs') ∧ fs'.length < 1000 ∧ D.nx δ (put A2 a (.ins C (putFA f (.int (g i j)) fs')))) (fun C fs A1 => D.ex C fs δ A1)) (fun C fs A1 => D.ex C fs δ A1)
def aRaise (C : Addr) (fl : Str) (t : AA) : AS := fun D δ A => t δ A (fun ds A1 => ∃ v, ds = [v] ∧ D.ex C [(fl, v)] δ A1) (fun C fs A1 => D.ex C fs δ A1)
def fin (Q : AQ) : AQ := fun d A' => ∃ A'', (∀ a o, A'' a = some o → A' a = some o) ∧ Q d A''
theorem fin_id {Q : AQ} {d : D} {A : AH} (h : Q d A) : fin Q d A := ⟨A, fun _ _ e => e, h⟩
def aStart (N : List Str) (ds : List D) : ASt := ds.map some ++ List.replicate (N.length - ds.length) none
theorem start_ok {K : PySem.W.Frag} {F : Addr → Prop} {H : Hp} {N : List Str} {ds : List D} {vs : List V} (r : Reps K F H ds vs) : RepS K F H (aStart N ds) (L2.start N vs) := by
  unfold aStart L2.start
  rw [r.length]
  have : ∀ {ds : List D} {vs : List V} (n : Nat), Reps K F H ds vs → RepS K F H (ds.map some ++ List.replicate n none) (vs.map some ++ List.replicate n none) := by
    intro ds vs n r
    induction ds generalizing vs with
    | nil => cases r; exact RepS.nones n _ (by simp)
    | cons d ds ih => cases r with
      | cons a r => exact .yes a (ih r)
  exact this _ r
def endsOf (Q : AQ) (E : AX) : AEnds := { nx := fun _ A' => fin Q .non A', rt := fin Q, ex := fun C fs _ A' => ∃ A'', (∀ a o, A'' a = some o → A' a = some o) ∧ E C fs A'' }
theorem ends_ok {K : PySem.W.Frag} {W : WX} {F : Addr → Prop} {A : AH} {H : Hp} {Q' : AQ} {E' : AX} {Q : VK} {E : XK} (hW : ∀ c d σ H, E c d H → W c d σ H) (p : Post K (Rep K) F A H Q' Q) (g : Gx K (fun cls d _ H => E cls d H) F A H [] E') : EndsOk K W F A H (endsOf Q' E') { nx := fun _ H' => Q .non H', rt := Q } := by
  refine ⟨fun δ A1 F1 H1 σ ⟨A2, hs, q⟩ x R s => ?_, fun d A1 F1 H1 v ⟨A2, hs, q⟩ x R r => ?_, fun _ _ _ _ _ h => h.elim, fun _ _ _ _ _ h => h.elim, fun C fs δ A1 F1 H1 σ dd fv ⟨A2, hs, q⟩ x R s h r => ?_⟩
  · obtain ⟨R2, x2⟩ := R.sub hs
    exact p _ _ _ _ _ q (x.trans x2) R2 .non
  · obtain ⟨R2, x2⟩ := R.sub hs
    exact p _ _ _ _ _ q (x.trans x2) R2 (r.kept (x2.kept R))
  · obtain ⟨R2, x2⟩ := R.sub hs
    exact hW _ _ _ _ (g C fs A2 F1 H1 dd fv q (x.trans x2) R2 h (r.kept (x2.kept R)))
end
section
variable {P : Program} {w : World} {K : PySem.W.Frag} {mg : Str → Option Value} {base : Heap} {x qual : Str} {params : Arguments} {body : List Stmt} {scope : Scope} {dvs : List V} {kws : List (Str × V)} {f : Addr} {fd : FuncData} {N ps : List Str} {k : Nat} {asp : ASp}
theorem bodyR {dd : List V} (hb : ∀ (cdv : Value) (A0 : Around) (outer : List Env) (s : Shared) (H : Hp) (E0 : XK) (ds : List D) (A : AH) (Q : AQ) (E : AX), Room k (A0.deeper (envOfC qual scope s.heap.objs.size f cdv)) → asp ds A Q E →
      ∃ ts, PSs (cxOf CX0 P w K mg base N qual scope f cdv A0 outer s H E0).nox body (liftS K noW ts) ∧ ts (endsOf Q noX) (aStart N ds) A) :
    ∀ (cdv : Value) (A : Around) (outer : List Env) (s : Shared) (H : Hp) (vs : List V) (Q : VK) (E : XK), Room k (A.deeper (envOfC qual scope s.heap.objs.size f cdv)) → liftSp K asp vs H Q E →
      ∃ t, PSs (cxOf CX0 P w K mg base N qual scope f cdv A outer s H E).nox body t ∧ t { nx := fun _ H' => Q .non H', rt := Q } (L2.start N vs) H := by
  intro cdv A0 outer s H vs Q E hr ⟨F, A, ds, Q', E', R, r, q, p, g⟩
  obtain ⟨ts, h1, h2⟩ := hb cdv A0 outer s H E ds A Q' E' hr q
  exact ⟨_, h1, F, A, aStart N ds, endsOf Q' noX, R, start_ok r, h2, ends_ok (E := fun _ _ _ => False) (fun _ _ _ _ h => h) p (fun _ _ _ _ _ _ _ h => h.elim)⟩
theorem bodyX (hb : ∀ (cdv : Value) (A0 : Around) (outer : List Env) (s : Shared) (H : Hp) (E0 : XK) (ds : List D) (A : AH) (Q : AQ) (E : AX), Room k (A0.deeper (envOfC qual scope s.heap.objs.size f cdv)) → asp ds A Q E →
      ∃ ts, PSs (cxOf (L2.CX P w) P w K mg base N qual scope f cdv A0 outer s H E0) body (liftS K (fun c d _ H => E0 c d H) ts) ∧ ts (endsOf Q E) (aStart N ds) A) :
    ∀ (cdv : Value) (A : Around) (outer : List Env) (s : Shared) (H : Hp) (vs : List V) (Q : VK) (E : XK), Room k (A.deeper (envOfC qual scope s.heap.objs.size f cdv)) → liftSp K asp vs H Q E →
      ∃ t, PSs (cxOf (L2.CX P w) P w K mg base N qual scope f cdv A outer s H E) body t ∧ t { nx := fun _ H' => Q .non H', rt := Q } (L2.start N vs) H := by
  intro cdv A0 outer s H vs Q E hr ⟨F, A, ds, Q', E', R, r, q, p, g⟩
  obtain ⟨ts, h1, h2⟩ := hb cdv A0 outer s H E ds A Q' E' hr q
  exact ⟨_, h1, F, A, aStart N ds, endsOf Q' E', R, start_ok r, h2, ends_ok (E := E) (fun _ _ _ _ h => h) p g⟩
theorem liftSp_len {n : Nat} (len : ∀ ds A Q E, asp ds A Q E → ds.length = n) : ∀ vs H Q E, liftSp K asp vs H Q E → vs.length = n := fun vs H Q E ⟨F, A, ds, Q', E', R, r, q, p, g⟩ => by rw [← r.length]; exact len _ _ _ _ q
theorem FunD.AR (F : FunD K x qual params body scope [] kws f fd) (S : FnScope N ps scope) (len : ∀ ds A Q E, asp ds A Q E → ds.length = ps.length)
    (hb : ∀ (kV doc pm : Value) (an : Option Addr) (cdv ct : Value) (us : List Value), us.length = ps.length → bindArgs (PySem.W.fnOf x qual params body scope .none kV doc pm an cdv ct) ⟨us, []⟩ = pure (ps.zip us))
    (hbody : ∀ (cdv : Value) (A0 : Around) (outer : List Env) (s : Shared) (H : Hp) (E0 : XK) (ds : List D) (A : AH) (Q : AQ) (E : AX), Room k (A0.deeper (envOfC qual scope s.heap.objs.size f cdv)) → asp ds A Q E →
      ∃ ts, PSs (cxOf CX0 P w K mg base N qual scope f cdv A0 outer s H E0).nox body (liftS K noW ts) ∧ ts (endsOf Q noX) (aStart N ds) A) : FnR P w K mg base CX0 (k + 1) f (liftSp K asp) :=
  My.FunD.R F S (liftSp_len len) hb (bodyR (dd := []) hbody)
theorem FunD.AX (F : FunD K x qual params body scope [] kws f fd) (S : FnScope N ps scope) (len : ∀ ds A Q E, asp ds A Q E → ds.length = ps.length)
    (hb : ∀ (kV doc pm : Value) (an : Option Addr) (cdv ct : Value) (us : List Value), us.length = ps.length → bindArgs (PySem.W.fnOf x qual params body scope .none kV doc pm an cdv ct) ⟨us, []⟩ = pure (ps.zip us))
    (hbody : ∀ (cdv : Value) (A0 : Around) (outer : List Env) (s : Shared) (H : Hp) (E0 : XK) (ds : List D) (A : AH) (Q : AQ) (E : AX), Room k (A0.deeper (envOfC qual scope s.heap.objs.size f cdv)) → asp ds A Q E →
      ∃ ts, PSs (cxOf (L2.CX P w) P w K mg base N qual scope f cdv A0 outer s H E0) body (liftS K (fun c d _ H => E0 c d H) ts) ∧ ts (endsOf Q E) (aStart N ds) A) : FnR P w K mg base (L2.CX P w) (k + 1) f (liftSp K asp) :=
  My.FunD.RX F S (liftSp_len len) hb (bodyX hbody)
end
end Av

set_option Elab.async false
set_option linter.all false
set_option maxRecDepth 100000
set_option maxHeartbeats 4000000
namespace Av
open PySem PySem.Spec PyProof.Rows L2 My
section
variable {K : PySem.W.Frag} {F : Addr → Prop} {H : Hp}
theorem Reps.one {d : D} {vs : List V} (r : Reps K F H [d] vs) : ∃ v, vs = [v] ∧ Rep K F H d v := by
  cases r with
  | cons a r => cases r; exact ⟨_, rfl, a⟩
theorem Reps.two {d e : D} {vs : List V} (r : Reps K F H [d, e] vs) : ∃ v u, vs = [v, u] ∧ Rep K F H d v ∧ Rep K F H e u := by
  cases r with
  | cons a r => obtain ⟨u, rfl, b⟩ := r.one; exact ⟨_, _, rfl, a, b⟩
theorem Reps.none {vs : List V} (r : Reps K F H [] vs) : vs = [] := by cases r; rfl
end
section
variable {X : Cx} {W : WX} {k : Nat} {f C : Addr} {asp : ASp} {x fl : Str} {a b e o : Expr} {es : List Expr} {ta tb te tv : AE} {t : AA} {p pos pos' apos : Pos}
def aMake (live : Bool) (C : Addr) (asp : ASp) (t : AA) : AE := fun δ A Q E => t δ A (fun ds A1 => ∀ x, A1 x = none → Call asp (.ref x :: ds) (put A1 x (.ins C [])) (fun d A2 => d = .non ∧ match live with
  | true => Q (.ref x) A2
  | false => ∃ fs, A2 x = some (.ins C fs) ∧ Q (.obj C fs) (del A2 x)) E ⟨⟩) E
def aItL (te : AE) : AI := fun δ A Q E => te δ A (fun d A1 => ∃ xs, asL A1 d = some xs ∧ Q (fun A => asL A d = some xs, xs) A1) E
theorem PI.imp {tg iter : Expr} {wi wi' : TI} (h : PI X tg iter wi) (i : ∀ σ H R, wi' σ H R → wi σ H R) : PI X tg iter wi' := ⟨fun pins s σ H R I q => h.run pins s σ H R I (i _ _ _ q)⟩
def aItT (te : AE) : AI := fun δ A Q E => te δ A (fun d A1 => ∃ xs, asT d = some xs ∧ Q (fun _ => True, xs) A1) E
def rngL (lo : Int) (n : Nat) : List D := (List.range n).map fun (i : Nat) => D.int (lo + (i : Int))
theorem itOk_rng {K : PySem.W.Frag} {lo : Int} {n : Nat} : ItOk K (Itr lo n) (fun _ => True) (rngL lo n) [] [] where
  go := fun F A H i R g r hi => by show i < n; simpa [rngL] using hi
  stop := fun F A H i R g r hi => by show n ≤ i; simpa [rngL] using hi
  yld := fun F A H i x H' R g r y hi => by
    obtain ⟨rfl, rfl⟩ := y
    exact ⟨.int (lo + i), by
      have : i < n := by simpa [rngL] using hi
      simp [rngL, this], Ext.refl, R, .int _⟩
def aRng1 (t : AA) : AI := fun δ A Q E => t δ A (fun ds A1 => ∃ j, ds = [.int j] ∧ -(2 ^ 62) ≤ j ∧ j < 2 ^ 62 ∧ Q (fun _ => True, rngL 0 j.toNat) A1) E
def aRng2 (t : AA) : AI := fun δ A Q E => t δ A (fun ds A1 => ∃ i j, ds = [.int i, .int j] ∧ (-(2 ^ 62) ≤ i ∧ i < 2 ^ 62 ∧ -(2 ^ 62) ≤ j ∧ j < 2 ^ 62) ∧ Q (fun _ => True, rngL i (j - i).toNat) A1) E
theorem ai_range1 {tg : Expr} (hg : Gl X "range") (hm : X.mg "range" = none) (ha : PA X [a] (liftA X.K W t)) (hs : starEach [a] X.env = [(false, eval a X.env)] := by rfl) : PI X tg (.Call (.Name "range" p) [a] [] pos) (liftI X.K W (aRng1 t)) := PI.imp (pi_range1 hg hm ha hs) fun σ H R ⟨δ, h⟩ => by
  refine (Lf.core (R1 := Reps X.K) (k := fun ds A1 Q E => ∃ j, ds = [.int j] ∧ -(2 ^ 62) ≤ j ∧ j < 2 ^ 62 ∧ Q (fun _ => True, rngL 0 j.toNat) A1) h).mono fun vs H1 ⟨ds, F, A, Q', E', a, r, ⟨j, ed, h1, h2, q⟩, po⟩ => ?_
  subst ed
  obtain ⟨v, rfl, r0⟩ := r.one
  · cases r0; exact ⟨j, rfl, h1, h2, po _ _ _ _ _ q Ext.refl a.rel (RepI.of (hs := []) (us := []) (.nil) itOk_rng)⟩
def chL (x : Str) : List D := x.cps.toList.map fun c => .str ⟨#[c]⟩
theorem sOk_ch {x : Str} (h : sOk x) {c : Nat} (hc : c ∈ x.cps.toList) : sOk ⟨#[c]⟩ := by
  unfold sOk PySem.PyData.strOk at *
  have := (Array.all_eq_true'.mp h) c (by simpa using hc)
  simpa using this
def aItS (te : AE) : AI := fun δ A Q E => te δ A (fun d A1 => ∃ x, d = .str x ∧ Q (fun _ => True, chL x) A1) E
def enumL (xs : List D) : List D := xs.mapIdx fun i d => .tup [.int (i : Nat), d]
def aEnum (t : AA) : AI := fun δ A Q E => t δ A (fun ds A1 => ∃ d xs, ds = [d] ∧ asL A1 d = some xs ∧ Q (fun A => asL A d = some xs, enumL xs) A1) E
def zipL (xs ys : List D) : List D := List.zipWith (fun x y => .tup [x, y]) xs ys
def aZip (t : AA) : AI := fun δ A Q E => t δ A (fun ds A1 => ∃ d d2 xs ys, ds = [d, d2] ∧ asL A1 d = some xs ∧ asL A1 d2 = some ys ∧ Q (fun A => asL A d = some xs ∧ asL A d2 = some ys, zipL xs ys) A1) E
def aYes : AT := fun _ A Q _ => Q true A
theorem PTs.imp {ifs : List Expr} {t t' : TT} (h : PTs X ifs t) (i : ∀ σ H Q, t' σ H Q → t σ H Q) : PTs X ifs t' := ⟨fun pins s σ H Q I q => h.run pins s σ H Q I (i _ _ _ q)⟩
theorem ats_nil : PTs X [] (liftT X.K W aYes) := PTs.imp pts_nil fun σ H Q ⟨δ, F, A, Q', E', a, q, po⟩ => po _ _ _ _ _ q Ext.refl a.rel rfl
theorem ae_lc (live : Bool) {elt tg iter : Expr} {ifs : List Expr} {scope : Scope} {own : List (Str × Nat)} {ti : AI} {pt : Pat} {tt : AT} (hc : X.calm = true) (hN : X.N.Nodup) (hi : PI X tg iter (liftI X.K W ti)) (ok : BlkOk X.N X.env.scope scope own) (hv : ∀ i ∈ slP pt, i ∈ own.map (·.2))
    (hg : ∀ (s : Shared) (H : Hp) (C : Addr) (cl : List (Str × Addr)) (fp : List Addr), PG (X.blk s H scope (compEnvC scope cl C X.env) fp) tg (tgOf X.K pt)) (ht : ∀ (s : Shared) (H : Hp) (C : Addr) (cl : List (Str × Addr)) (fp : List Addr), PTs (X.blk s H scope (compEnvC scope cl C X.env) fp) ifs (liftT X.K noW tt))
    (he : ∀ (s : Shared) (H : Hp) (C : Addr) (cl : List (Str × Addr)) (fp : List Addr), PE (X.blk s H scope (compEnvC scope cl C X.env) fp) elt (liftE X.K noW te)) (hs : ∀ x, foldedSetIterable iter X.env x = pure x := by intro _; rfl) :
    PE X (.ListComp elt [⟨tg, iter, ifs, 0⟩] scope pos) (liftE X.K W (aLc live ti pt tt te (own.map (·.2)))) := PE.imp (pe_lc hc hN hi ok hg ht he hs) fun σ H Q h => lift_lc hv h
abbrev AG := D → ASt → AH → (ASt → AH → Prop) → AX → Prop
end
end Av

set_option Elab.async false
set_option linter.all false
set_option maxRecDepth 100000
set_option maxHeartbeats 4000000
namespace Av
open PySem PySem.Spec PyProof.Rows L2 My
abbrev ACl : Type := Option Nat × Value × (Addr → Addr → Addr → List (Str × D) → AS)
def endsAA : Option Nat → AEnds → AEnds
  | none, N => { nx := N.nx, rt := N.rt, bk := N.bk, ct := N.ct }
  | some i, N => { nx := fun δ A => N.nx (δ.set i none) A, rt := N.rt, bk := fun δ A => N.bk (δ.set i none) A, ct := fun δ A => N.ct (δ.set i none) A }
def putAA : Option Nat → D → ASt → ASt
  | none, _, δ => δ
  | some i, d, δ => δ.set i (some d)
def aHandle (K : PySem.W.Frag) (N : AEnds) : List ACl → Addr → List (Str × D) → ASt → AH → Prop
  | [], C, fs, δ, A => N.ex C fs δ A
  | (n, c, ts) :: r, C, fs, δ, A => ∃ b, PySem.W.exmOne K (.ref C) c = some b ∧ (b = true → ∀ a dd, ts a dd C fs (endsAA n N) (putAA n (.exc a dd C fs) δ) A) ∧ (b = false → aHandle K N r C fs δ A)
def aTry (K : PySem.W.Frag) (tb : AS) (l : List ACl) : AS := fun N δ A => tb { N with ex := fun C fs δ A => aHandle K N l C fs δ A } δ A
section
variable {X : Cx} {W : WX} {k : Nat} {f C : Addr} {asp : ASp} {x fl : Str} {a b e o : Expr} {es : List Expr} {ta tb te tv : AE} {t : AA} {p pos pos' apos : Pos}
def aFldX (a dd C CC : Addr) (fl : Str) (te : AE) : AE := fun δ A Q E => te δ A (fun x A1 => ∃ v, x = .exc a dd C [(fl, v)] ∧ C = CC ∧ Q v A1) E
variable {K : PySem.W.Frag}
def gI (c : Int → Int → Prop) (g : Int → Int → D) : G2 := fun x y A Q _ => ∃ i j, x = .int i ∧ y = .int j ∧ c i j ∧ Q (g i j) A
def gI0 (g : Int → Int → D) : G2 := fun x y A Q _ => ∃ i j, x = .int i ∧ y = .int j ∧ Q (g i j) A
theorem l2_I {c : Int → Int → Prop} {g : Int → Int → D} {gv : Int → Int → V} (h : ∀ i j F H, Rep K F H (g i j) (gv i j)) : Lift2 K (gI c g) (rI c gv) := fun W δ σ H x y v u Q ⟨F, A, Q', E', a, ⟨i, j, e1, e2, hc, q⟩, po⟩ => by
  subst e1; subst e2
  obtain ⟨u', v', e, r1, r2⟩ := a.held.two
  cases e; cases r1; cases r2
  exact ⟨i, j, rfl, rfl, hc, po _ _ _ _ _ q Ext.refl a.rel (h i j _ _)⟩
theorem l2_I0 {g : Int → Int → D} {gv : Int → Int → V} (h : ∀ i j F H, Rep K F H (g i j) (gv i j)) : Lift2 K (gI0 g) (rI0 gv) := fun W δ σ H x y v u Q ⟨F, A, Q', E', a, ⟨i, j, e1, e2, q⟩, po⟩ => by
  subst e1; subst e2
  obtain ⟨u', v', e, r1, r2⟩ := a.held.two
  cases e; cases r1; cases r2
  exact ⟨i, j, rfl, rfl, po _ _ _ _ _ q Ext.refl a.rel (h i j _ _)⟩
def gOr (g h : G2) : G2 := fun x y A Q E => g x y A Q E ∨ h x y A Q E
theorem l2_or {g h : G2} {r s : R2} (a : Lift2 K g r) (b : Lift2 K h s) : Lift2 K (gOr g h) (fun x y H Q => r x y H Q ∨ s x y H Q) := fun W δ σ H x y v u Q ⟨F, A, Q', E', at_, q, po⟩ => by
  rcases q with q | q
  · exact .inl (a W δ σ H x y v u Q ⟨F, A, Q', E', at_, q, po⟩)
  · exact .inr (b W δ σ H x y v u Q ⟨F, A, Q', E', at_, q, po⟩)
theorem sOk_app {x y : Str} (h1 : sOk x) (h2 : sOk y) : sOk (x ++ y) := by
  unfold sOk PySem.PyData.strOk at *
  show (x.cps ++ y.cps).all _ = true
  rw [Array.all_append, h1, h2]; rfl
def gCatS : G2 := fun x y A Q _ => ∃ i j, x = .str i ∧ y = .str j ∧ i.length + j.length ≤ sizeLine ∧ Q (.str (i ++ j)) A
theorem l2_catS : Lift2 K gCatS mAddS := fun W δ σ H x y v u Q ⟨F, A, Q', E', a, ⟨i, j, e1, e2, hc, q⟩, po⟩ => by
  subst e1; subst e2
  obtain ⟨u', v', e, r1, r2⟩ := a.held.two
  cases e
  cases r1 with
  | str h1 => cases r2 with
    | str h2 => exact ⟨i, j, rfl, rfl, hc, po _ _ _ _ _ q Ext.refl a.rel (.str (sOk_app h2 h1))⟩
def gCatL (live : Bool) : G2 := fun x y A Q _ => ∃ xs ys, asX A x = some xs ∧ asX A y = some ys ∧ xs.length + ys.length ≤ sizeLine ∧ aNew live (.lst (xs ++ ys)) A Q
theorem l2_catL {live : Bool} : Lift2 K (gCatL live) rCat := fun W δ σ H x y v u Q ⟨F, A, Q', E', a, ⟨xs, ys, e1, e2, hc, q⟩, po⟩ => by
  obtain ⟨u', v', e, r1, r2⟩ := a.held.two
  cases e
  obtain ⟨b1, us, rfl, h1, q1⟩ := asX_ok a.rel r2 e1
  obtain ⟨b2, ws, rfl, h2, q2⟩ := asX_ok a.rel r1 e2
  exact ⟨b1, b2, us, ws, rfl, rfl, h1, h2, by rw [← q1.length, ← q2.length]; exact hc, aNew_ok a.rel (.lst (q1.append q2)) q po⟩
def gCatT : G2 := fun x y A Q _ => ∃ xs ys, x = .tup xs ∧ y = .tup ys ∧ xs.length + ys.length ≤ sizeLine ∧ Q (.tup (xs ++ ys)) A
theorem l2_catT : Lift2 K gCatT (rCatA K) := fun W δ σ H x y v u Q ⟨F, A, Q', E', a, ⟨xs, ys, e1, e2, hc, q⟩, po⟩ => by
  subst e1; subst e2
  obtain ⟨u', v', e, r1, r2⟩ := a.held.two
  cases e
  obtain ⟨b1, us, rfl, h1, q1⟩ := asTe_ok r2 rfl
  obtain ⟨b2, ws, rfl, h2, q2⟩ := asTe_ok r1 rfl
  refine ⟨b1, b2, us, ws, rfl, rfl, h1.sq, h2.sq, by rw [← q1.length, ← q2.length]; exact hc, fun z => ?_, fun _ z => ?_, fun _ _ => ?_⟩
  · subst z
    cases q1
    exact po _ _ _ _ _ q Ext.refl a.rel (.tup h2 q2)
  · subst z
    cases q2
    rw [List.append_nil] at q
    exact po _ _ _ _ _ q Ext.refl a.rel (.tup h1 q1)
  · exact tup_ok a.rel (q1.append q2) q po
def gAdd (live : Bool) : G2 := gOr (gI0 fun i j => .int (i + j)) (gOr gCatS (gOr (gCatL live) gCatT))
theorem ae_add (live : Bool) (ha : PE X a (liftE X.K W ta)) (hb : PE X b (liftE X.K W tb)) : PE X (.BinOp a .Add b pos) (liftE X.K W (aOp (gAdd live) ta tb)) :=
  ae_op (l2_or (l2_I0 fun i j _ _ => .int _) (l2_or l2_catS (l2_or l2_catL l2_catT))) (op_add.or (addS.or (op_cat.or op_catA))) ha hb
theorem ae_sub (ha : PE X a (liftE X.K W ta)) (hb : PE X b (liftE X.K W tb)) : PE X (.BinOp a .Sub b pos) (liftE X.K W (aOp (gI0 fun i j => .int (i - j)) ta tb)) := ae_op (l2_I0 fun i j _ _ => .int _) op_sub ha hb
def gRep (live : Bool) : G2 := fun x y A Q _ => ∃ xs n, asX A x = some xs ∧ y = .int n ∧ -(2 ^ 63) ≤ n ∧ n < 2 ^ 63 ∧ xs.length * n.toNat ≤ sizeLine ∧ aNew live (.lst (List.replicate n.toNat xs).flatten) A Q
theorem reps_rep {F : Addr → Prop} {H : Hp} {xs : List D} {us : List V} (r : Reps K F H xs us) : ∀ n : Nat, Reps K F H (List.replicate n xs).flatten (List.replicate n us).flatten
  | 0 => .nil
  | n + 1 => by rw [List.replicate_succ, List.replicate_succ, List.flatten_cons, List.flatten_cons]; exact r.append (reps_rep r n)
theorem l2_rep {live : Bool} : Lift2 K (gRep live) rRep := fun W δ σ H x y v u Q ⟨F, A, Q', E', a, ⟨xs, n, e1, e2, n1, n2, hc, q⟩, po⟩ => by
  subst e2
  obtain ⟨u', v', e, r1, r2⟩ := a.held.two
  cases e; cases r1
  obtain ⟨b1, us, rfl, h1, q1⟩ := asX_ok a.rel r2 e1
  exact ⟨b1, n, us, rfl, rfl, h1, n1, n2, by rw [← q1.length]; exact hc, aNew_ok a.rel (.lst (reps_rep q1 _)) q po⟩
def gMul (live : Bool) : G2 := gOr (gI CMulW fun i j => .int (i * j)) (gRep live)
theorem ae_mul (live : Bool) (ha : PE X a (liftE X.K W ta)) (hb : PE X b (liftE X.K W tb)) : PE X (.BinOp a .Mult b pos) (liftE X.K W (aOp (gMul live) ta tb)) := ae_op (l2_or (l2_I fun i j _ _ => .int _) l2_rep) (op_mulW.or op_rep) ha hb
theorem ae_mod (ha : PE X a (liftE X.K W ta)) (hb : PE X b (liftE X.K W tb)) : PE X (.BinOp a .Mod b pos) (liftE X.K W (aOp (gI (fun _ j => 0 < j) fun i j => .int (i % j)) ta tb)) := ae_op (l2_I fun i j _ _ => .int _) op_mod ha hb
theorem ae_fdiv (ha : PE X a (liftE X.K W ta)) (hb : PE X b (liftE X.K W tb)) : PE X (.BinOp a .FloorDiv b pos) (liftE X.K W (aOp (gI CDivW fun i j => .int (i / j)) ta tb)) := ae_op (l2_I fun i j _ _ => .int _) op_fdivW ha hb
theorem ae_pow (ha : PE X a (liftE X.K W ta)) (hb : PE X b (liftE X.K W tb)) : PE X (.BinOp a .Pow b pos) (liftE X.K W (aOp (gI CPowW fun i j => .int (i ^ j.toNat)) ta tb)) := ae_op (l2_I fun i j _ _ => .int _) op_powW ha hb
def gNeg : G1 := fun x A Q _ => ∃ i, x = .int i ∧ Q (.int (-i)) A
def gS (g : Str → Str → Bool) : G2 := fun x y A Q _ => ∃ i j, x = .str i ∧ y = .str j ∧ Q (.bl (g i j)) A
theorem l2_S {g : Str → Str → Bool} : Lift2 K (gS g) (fun x y H Q => ∃ i j, x = .str i ∧ y = .str j ∧ Q (.bl (g i j)) H) := fun W δ σ H x y v u Q ⟨F, A, Q', E', a, ⟨i, j, e1, e2, q⟩, po⟩ => by
  subst e1; subst e2
  obtain ⟨u', v', e, r1, r2⟩ := a.held.two
  cases e
  cases r1; cases r2
  exact ⟨i, j, rfl, rfl, po _ _ _ _ _ q Ext.refl a.rel (.bl _)⟩
def gLt : G2 := gOr (gI0 fun i j => .bl (decide (i < j))) (gS fun i j => decide (i.cps.toList < j.cps.toList))
def gLe : G2 := gOr (gI0 fun i j => .bl (decide (i ≤ j))) (gS fun i j => !decide (j.cps.toList < i.cps.toList))
def gGt : G2 := gOr (gI0 fun i j => .bl (decide (j < i))) (gS fun i j => decide (j.cps.toList < i.cps.toList))
def gGe : G2 := gOr (gI0 fun i j => .bl (decide (j ≤ i))) (gS fun i j => !decide (i.cps.toList < j.cps.toList))
def CmpA (X : Cx) (op : CmpOp) (g : G2) : Prop := ∃ r, Lift2 X.K g r ∧ OpR X (compareOp op) r
theorem cmp_lt : CmpA X .Lt gLt := ⟨_, l2_or (l2_I0 fun i j _ _ => .bl _) l2_S, op_lt.or op_lt_str⟩
theorem cmp_gt : CmpA X .Gt gGt := ⟨_, l2_or (l2_I0 fun i j _ _ => .bl _) l2_S, op_gt.or op_gt_str⟩
theorem cmp_ge : CmpA X .GtE gGe := ⟨_, l2_or (l2_I0 fun i j _ _ => .bl _) l2_S, op_ge.or op_ge_str⟩
theorem ae_cmpA {op : CmpOp} {g : G2} (h : CmpA X op g) (ha : PE X a (liftE X.K W ta)) (hb : PE X b (liftE X.K W tb)) (hm : behindInMarks op b = false) : PE X (.Compare a [op] [b] pos) (liftE X.K W (aOp g ta tb)) := by
  obtain ⟨r, L, ho⟩ := h
  exact ae_cmp L ho ha hb hm
theorem at_cmpA {op : CmpOp} {g : G2} (h : CmpA X op g) (ha : PE X a (liftE X.K W ta)) (hb : PE X b (liftE X.K W tb)) (hm : behindInMarks op b = false) : PT X (.Compare a [op] [b] pos) (liftT X.K W (aB (aOp g ta tb))) := by
  obtain ⟨r, L, ho⟩ := h
  exact at_cmp L ho ha hb hm
def isNoD : D → Bool
  | .non => true
  | _ => false
def gIs (neg : Bool) : G2 := fun x y A Q _ => y = .non ∧ Q (.bl (if neg then !isNoD x else isNoD x)) A
def scD : D → Option V
  | .non => some .non
  | .bl b => some (.bl b)
  | .int i => some (.int i)
  | .str x => some (.str x)
  | _ => none
theorem scD_ok {F : Addr → Prop} {H : Hp} {d : D} {v u : V} (r : Rep K F H d v) (e : scD d = some u) : v = u := by cases r <;> simp [scD] at e <;> exact e
def gEqS (neg : Bool) : G2 := fun x y A Q _ => ∃ v u, scD x = some v ∧ scD y = some u ∧ scal v u = true ∧ Q (.bl (if neg then !decide (v = u) else decide (v = u))) A
theorem l2_eqS : Lift2 K (gEqS false) rEq := fun W δ σ H x y v u Q ⟨F, A, Q', E', a, ⟨v1, u1, e1, e2, hs, q⟩, po⟩ => by
  obtain ⟨u', v', e, r1, r2⟩ := a.held.two
  cases e
  obtain rfl := scD_ok r1 e2
  obtain rfl := scD_ok r2 e1
  exact ⟨hs, po _ _ _ _ _ q Ext.refl a.rel (.bl _)⟩
theorem l2_neS : Lift2 K (gEqS true) rNe := fun W δ σ H x y v u Q ⟨F, A, Q', E', a, ⟨v1, u1, e1, e2, hs, q⟩, po⟩ => by
  obtain ⟨u', v', e, r1, r2⟩ := a.held.two
  cases e
  obtain rfl := scD_ok r1 e2
  obtain rfl := scD_ok r2 e1
  exact ⟨hs, po _ _ _ _ _ q Ext.refl a.rel (.bl _)⟩
mutual
def toP : D → Option PyData
  | .non => some .none
  | .bl b => some (.bool b)
  | .int i => some (.int i)
  | .str x => some (.str x)
  | .tup xs => (toPs xs).map .tuple
  | .lst xs => (toPs xs).map .list
  | _ => none
def toPs : List D → Option (List PyData)
  | [] => some []
  | d :: ds => match toP d, toPs ds with
    | some x, some xs => some (x :: xs)
    | _, _ => none
end
def topP (A : AH) : D → Option PyData
  | .ref a => match A a with
    | some (.lst xs) => (toPs xs).map .list
    | _ => none
  | d => toP d
mutual
theorem toP_ok {F : Addr → Prop} {H : Hp} : ∀ (d : D) {v : V} {x : PyData}, Rep K F H d v → toP d = some x → Dp K H v x ∧ x.canLay0 = true
  | .non, _, _, r, e => by cases r; cases e; exact ⟨.non, rfl⟩
  | .bl b, _, _, r, e => by cases r; cases e; exact ⟨.bl b, rfl⟩
  | .int i, _, _, r, e => by cases r; cases e; exact ⟨.int i, rfl⟩
  | .str x, _, _, r, e => by
    cases r with
    | str h => cases e; exact ⟨.str x, by rw [PyData.canLay0]; exact h⟩
  | .ty n, _, _, r, e => by cases e
  | .ref a, _, _, r, e => by cases e
  | .tup xs, _, _, r, e => by
    cases r with
    | tup h r =>
      rw [toP] at e
      cases q : toPs xs with
      | none => rw [q] at e; cases e
      | some ys =>
        rw [q] at e; cases e
        obtain ⟨h1, h2⟩ := toPs_ok xs r q
        exact ⟨.tup h.sq h1, by rw [PyData.canLay0]; exact h2⟩
  | .lst xs, _, _, r, e => by
    cases r with
    | lst f h r =>
      rw [toP] at e
      cases q : toPs xs with
      | none => rw [q] at e; cases e
      | some ys =>
        rw [q] at e; cases e
        obtain ⟨h1, h2⟩ := toPs_ok xs r q
        exact ⟨.lst (SqL.of h) h1, by rw [PyData.canLay0]; exact h2⟩
  | .rol _, _, _, r, e => by cases e
  | .dct _, _, _, r, e => by cases e
  | .dtt _ _, _, _, r, e => by cases e
  | .obj _ _, _, _, r, e => by cases e
  | .exc _ _ _ _, _, _, r, e => by cases e
  | .err _ _, _, _, r, e => by cases e
  | .tux _, _, _, r, e => by cases e
theorem toPs_ok {F : Addr → Prop} {H : Hp} : ∀ (ds : List D) {vs : List V} {xs : List PyData}, Reps K F H ds vs → toPs ds = some xs → DpAll K H vs xs ∧ PyData.canLayAll0 xs = true
  | [], _, _, r, e => by cases r; cases e; exact ⟨.nil, rfl⟩
  | d :: ds, _, _, r, e => by
    cases r with
    | cons a r =>
      rw [toPs] at e
      split at e
      · rename_i x xs e1 e2
        cases e
        obtain ⟨h1, h2⟩ := toP_ok d a e1
        obtain ⟨h3, h4⟩ := toPs_ok ds r e2
        exact ⟨.cons h1 h3, by rw [PyData.canLayAll0, h2, h4]; rfl⟩
      · cases e
end
theorem topP_ok {F : Addr → Prop} {A : AH} {H : Hp} {d : D} {v : V} {x : PyData} (R : Rel K F A H) (r : Rep K F H d v) (e : topP A d = some x) : Dp K H v x ∧ x.canLay0 = true := by
  cases r with
  | ref a =>
    simp only [topP] at e
    split at e
    · rename_i xs q
      obtain ⟨_, ho, eh, r⟩ := R.live a _ q
      cases r with
      | lst r =>
        cases q : toPs xs with
        | none => rw [q] at e; cases e
        | some ys =>
          rw [q] at e; cases e
          obtain ⟨h1, h2⟩ := toPs_ok xs r q
          exact ⟨.lst (SqL.of eh) h1, by rw [PyData.canLay0]; exact h2⟩
    · cases e
  | non => exact toP_ok (F := F) _ .non e
  | bl b => exact toP_ok (F := F) _ (.bl b) e
  | int i => exact toP_ok (F := F) _ (.int i) e
  | str h => exact toP_ok (F := F) _ (.str h) e
  | ty n => cases e
  | tup h r => exact toP_ok _ (.tup h r) e
  | tux h r => cases e
  | lst f h r => exact toP_ok _ (.lst f h r) e
  | rol f h r => cases e
  | rolK h r => cases e
  | dk f h r => cases e
  | dt f h r => cases e
  | obj f h r => cases e
  | exc h r => cases e
  | err _ _ _ _ _ => cases e
  | err0 _ _ => cases e
def gEqP (neg : Bool) : G2 := fun x y A Q _ => ∃ d e, topP A x = some d ∧ topP A y = some e ∧ d.depth ≤ 64 ∧ e.depth ≤ 64 ∧ Q (.bl (if neg then !PyData.eqv d e else PyData.eqv d e)) A
theorem shaped_of {d : PyData} (h : d.canLay0 = true) (h2 : d.depth ≤ 64) : SeqAt.shaped d = true := by
  show (d.canLay0 && decide (d.depth ≤ 64)) = true
  rw [h, decide_eq_true h2]; rfl
theorem l2_eqP : Lift2 K (gEqP false) (rEqD K) := fun W δ σ H x y v u Q ⟨F, A, Q', E', a, ⟨d, e, e1, e2, h1, h2, q⟩, po⟩ => by
  obtain ⟨u', v', e', r1, r2⟩ := a.held.two
  cases e'
  obtain ⟨d1, l1⟩ := topP_ok a.rel r2 e1
  obtain ⟨d2, l2⟩ := topP_ok a.rel r1 e2
  exact ⟨d, e, d1, d2, shaped_of l1 h1, shaped_of l2 h2, po _ _ _ _ _ q Ext.refl a.rel (.bl _)⟩
theorem l2_neP : Lift2 K (gEqP true) (rNeD K) := fun W δ σ H x y v u Q ⟨F, A, Q', E', a, ⟨d, e, e1, e2, h1, h2, q⟩, po⟩ => by
  obtain ⟨u', v', e', r1, r2⟩ := a.held.two
  cases e'
  obtain ⟨d1, l1⟩ := topP_ok a.rel r2 e1
  obtain ⟨d2, l2⟩ := topP_ok a.rel r1 e2
  exact ⟨d, e, d1, d2, shaped_of l1 h1, shaped_of l2 h2, po _ _ _ _ _ q Ext.refl a.rel (.bl _)⟩
def gEq (neg : Bool) : G2 := fun x y A Q E => match scD x, scD y with
  | some v, some u => scal v u = true ∧ Q (.bl (if neg then !decide (v = u) else decide (v = u))) A
  | _, _ => gEqP neg x y A Q E
theorem l2_gEq {neg : Bool} {r s : R2} (h1 : Lift2 K (gEqS neg) r) (h2 : Lift2 K (gEqP neg) s) : Lift2 K (gEq neg) (fun x y H Q => r x y H Q ∨ s x y H Q) := fun W δ σ H x y v u Q ⟨F, A, Q', E', a, q, po⟩ => by
  unfold gEq at q
  split at q
  · rename_i v1 u1 e1 e2
    exact .inl (h1 W δ σ H x y v u Q ⟨F, A, Q', E', a, ⟨v1, u1, e1, e2, q.1, q.2⟩, po⟩)
  · exact .inr (h2 W δ σ H x y v u Q ⟨F, A, Q', E', a, q, po⟩)
theorem cmp_eq (hu : X.A.units + 64 < cLine) : CmpA X .Eq (gEq false) := ⟨_, l2_gEq l2_eqS l2_eqP, op_eq.or (op_eqD hu)⟩
theorem cmp_ne (hu : X.A.units + 64 < cLine) : CmpA X .NotEq (gEq true) := ⟨_, l2_gEq l2_neS l2_neP, op_ne.or (op_neD hu)⟩
end
end Av

set_option Elab.async false
set_option linter.all false
set_option maxRecDepth 100000
set_option maxHeartbeats 4000000
namespace Av
open PySem PySem.Spec PyProof.Rows L2 My
section
variable {X : Cx} {W : WX} {k : Nat} {f C : Addr} {asp : ASp} {x fl : Str} {a b e o : Expr} {es : List Expr} {ta tb te tv : AE} {t : AA} {p pos pos' apos : Pos} {K : PySem.W.Frag}
def scDs : List D → Option (List V)
  | [] => some []
  | d :: ds => match scD d, scDs ds with
    | some v, some vs => some (v :: vs)
    | _, _ => none
theorem scDs_ok {F : Addr → Prop} {H : Hp} : ∀ {ds : List D} {vs us : List V}, Reps K F H ds vs → scDs ds = some us → vs = us
  | _, _, _, .nil, e => by cases e; rfl
  | _, _, _, .cons a r, e => by
    rw [scDs] at e
    split at e
    · rename_i v vs e1 e2
      cases e
      rw [scD_ok a e1, scDs_ok r e2]
    · cases e
theorem scD_flat {d : D} {v : V} (e : scD d = some v) : flatV v = true := by
  cases d <;> simp [scD] at e <;> subst e <;> rfl
theorem scDs_flat : ∀ {ds : List D} {us : List V}, scDs ds = some us → us.all flatV = true
  | [], _, e => by cases e; rfl
  | d :: ds, _, e => by
    rw [scDs] at e
    split at e
    · rename_i v vs e1 e2
      cases e
      rw [List.all_cons, scD_flat e1, scDs_flat e2]; rfl
    · cases e
def asQ (A : AH) (d : D) : Option (List D) := match asL A d with
  | some xs => some xs
  | none => asT d
theorem asQ_ok {F : Addr → Prop} {A : AH} {H : Hp} {d : D} {v : V} (R : Rel K F A H) (r : Rep K F H d v) {xs : List D} (e : asQ A d = some xs) : ∃ a vs, v = .ref a ∧ (SqL K H a vs ∨ SqT K H a vs) ∧ Reps K F H xs vs := by
  unfold asQ at e
  split at e
  · rename_i ys q
    cases e
    obtain ⟨a, vs, h1, h2, h3⟩ := asL_ok R r q
    exact ⟨a, vs, h1, .inl h2, h3⟩
  · obtain ⟨a, vs, h1, h2, h3⟩ := asT_ok r e
    exact ⟨a, vs, h1, .inr h2, h3⟩
def gInQ (neg : Bool) : G2 := fun x y A Q _ => ∃ xs v vs, asQ A y = some xs ∧ scD x = some v ∧ scDs xs = some vs ∧ Q (.bl (if neg then !inV v vs else inV v vs)) A
theorem l2_inQ {neg : Bool} : Lift2 K (gInQ neg) (rIn K neg) := fun W δ σ H x y v u Q ⟨F, A, Q', E', a, ⟨xs, v1, vs, e1, e2, e3, q⟩, po⟩ => by
  obtain ⟨u', v', e, r1, r2⟩ := a.held.two
  cases e
  obtain ⟨b1, us, rfl, h1, q1⟩ := asQ_ok a.rel r1 e1
  obtain rfl := scD_ok r2 e2
  obtain rfl := scDs_ok q1 e3
  exact ⟨b1, us, rfl, h1, scD_flat e2, scDs_flat e3, po _ _ _ _ _ q Ext.refl a.rel (.bl _)⟩
def gInS (neg : Bool) : G2 := fun x y A Q _ => ∃ (c : Nat) (z : Str), x = .str ⟨#[c]⟩ ∧ y = .str z ∧ Q (.bl (if neg then !decide (c ∈ z.cps.toList) else decide (c ∈ z.cps.toList))) A
theorem l2_inS : Lift2 K (gInS false) (fun x y H Q => ∃ (c : Nat) (z : Str), x = .str ⟨#[c]⟩ ∧ y = .str z ∧ Q (.bl (decide (c ∈ z.cps.toList))) H) := fun W δ σ H x y v u Q ⟨F, A, Q', E', a, ⟨c, z, e1, e2, q⟩, po⟩ => by
  subst e1; subst e2
  obtain ⟨u', v', e, r1, r2⟩ := a.held.two
  cases e; cases r1; cases r2
  exact ⟨c, z, rfl, rfl, po _ _ _ _ _ q Ext.refl a.rel (.bl _)⟩
mutual
def keyEq : D → D → Bool
  | .int i, .int j => decide (i = j)
  | .str x, .str y => decide (x = y)
  | .tup xs, .tup ys => keysEq xs ys
  | _, _ => false
def keysEq : List D → List D → Bool
  | [], [] => true
  | x :: xs, y :: ys => keyEq x y && keysEq xs ys
  | _, _ => false
end
def valD (kvs : List (D × D)) (k : D) : Option D := match kvs with
  | [] => none
  | (q, v) :: r => if keyEq q k = true then some v else valD r k
def putD (kvs : List (D × D)) (k v : D) : List (D × D) := if (kvs.any fun p => keyEq p.1 k) = true then kvs.map (fun p => if keyEq p.1 k = true then (p.1, v) else p) else kvs ++ [(k, v)]
def keyOf : D → Option Key
  | .int i => some (.inl i)
  | .str x => some (.inr x)
  | _ => none
theorem RepK.length {F : Addr → Prop} {H : Hp} : ∀ {ds : List (D × D)} {vs : List (Key × V)}, RepK K F H ds vs → ds.length = vs.length
  | _, _, .nil => rfl
  | _, _, .cons _ _ r => by rw [List.length_cons, List.length_cons, RepK.length r]
def gDGet : G2 := fun x y A Q _ => ∃ kvs q v, asD A x = some kvs ∧ keyOf y = some q ∧ valD kvs y = some v ∧ Q v A
def gDIn (neg : Bool) : G2 := fun x y A Q _ => ∃ kvs q, asD A y = some kvs ∧ keyOf x = some q ∧ Q (.bl (if neg then !(valD kvs x).isSome else (valD kvs x).isSome)) A
def aDPut (td ty tv : AE) : AS := fun N δ A => tv δ A (fun v A1 => td δ A1 (fun x A2 => ty δ A2 (fun y A3 => ∃ a kvs q, x = .ref a ∧ A3 a = some (.dct kvs) ∧ keyOf y = some q ∧ kvs.length < sizeLine ∧ N.nx δ (put A3 a (.dct (putD kvs y v)))) (fun C fs A1 => N.ex C fs δ A1)) (fun C fs A1 => N.ex C fs δ A1)) (fun C fs A1 => N.ex C fs δ A1)
def aDGet2 (td ty tx : AE) : AE := fun δ A Q E => td δ A (fun x A1 => (∃ kvs, asD A1 x = some kvs) ∧ ty δ A1 (fun y A2 => tx δ A2 (fun z A3 => ∃ kvs q, asD A3 x = some kvs ∧ keyOf y = some q ∧ Q ((valD kvs y).getD z) A3) E) E) E
def aDGet1 (td ty : AE) : AE := fun δ A Q E => td δ A (fun x A1 => (∃ kvs, asD A1 x = some kvs) ∧ ty δ A1 (fun y A3 => ∃ kvs q, asD A3 x = some kvs ∧ keyOf y = some q ∧ Q ((valD kvs y).getD .non) A3) E) E
def gIx : G2 := fun x y A Q _ => ∃ xs i v, asQ A x = some xs ∧ y = .int i ∧ atI xs i = some v ∧ Q v A
theorem atI_both {α β : Type} {xs : List α} {ys : List β} {i : Int} {x : α} (hl : xs.length = ys.length) (h : atI xs i = some x) : ∃ j : Nat, xs[j]? = some x ∧ ∀ y, ys[j]? = some y → atI ys i = some y := by
  unfold atI at h ⊢
  cases q : ixN xs.length i with
  | none => rw [q] at h; cases h
  | some j => rw [q] at h; exact ⟨j, h, fun y hy => by rw [← hl, q]; exact hy⟩
theorem l2_ix : Lift2 K gIx (fun x y H Q => rIxL K x y H Q ∨ rIxT K x y H Q) := fun W δ σ H x y v u Q ⟨F, A, Q', E', a, ⟨xs, i, w, e1, e2, e3, q⟩, po⟩ => by
  subst e2
  obtain ⟨u', v', e, r1, r2⟩ := a.held.two
  cases e; cases r1
  obtain ⟨b1, us, rfl, h1, q1⟩ := asQ_ok a.rel r2 e1
  obtain ⟨j, hj, hj2⟩ := atI_both (ys := us) q1.length e3
  obtain ⟨v2, hv2, rv2⟩ := q1.get' hj
  rcases h1 with h1 | h1
  · exact .inl ⟨b1, us, i, v2, rfl, rfl, h1, hj2 v2 hv2, po _ _ _ _ _ q Ext.refl a.rel rv2⟩
  · exact .inr ⟨b1, us, i, v2, rfl, rfl, h1, hj2 v2 hv2, po _ _ _ _ _ q Ext.refl a.rel rv2⟩
def gIxS : G2 := fun x y A Q _ => ∃ z i c, x = .str z ∧ y = .int i ∧ z.length ≤ sizeLine ∧ atI z.cps.toList i = some c ∧ Q (.str ⟨#[c]⟩) A
theorem atI_mem2 {α : Type} {xs : List α} {i : Int} {x : α} (h : atI xs i = some x) : x ∈ xs := by
  unfold atI at h
  cases q : ixN xs.length i with
  | none => rw [q] at h; cases h
  | some j => rw [q] at h; exact List.mem_of_getElem? h
theorem l2_ixS : Lift2 K gIxS rIxS := fun W δ σ H x y v u Q ⟨F, A, Q', E', a, ⟨z, i, c, e1, e2, hz, e3, q⟩, po⟩ => by
  subst e1; subst e2
  obtain ⟨u', v', e, r1, r2⟩ := a.held.two
  cases e; cases r1
  cases r2 with
  | str h => exact ⟨z, i, c, rfl, rfl, hz, e3, po _ _ _ _ _ q Ext.refl a.rel (.str (sOk_ch h (atI_mem2 e3)))⟩
def gSubs : G2 := gOr gIx gIxS
theorem ae_subs (ha : PE X a (liftE X.K W ta)) (hb : PE X b (liftE X.K W tb)) (hs : PlainIx b) : PE X (.Subscript a b pos) (liftE X.K W (aOp gSubs ta tb)) := ae_ix (l2_or l2_ix l2_ixS) ((ix_list.or ix_tup).or ix_str) ha hb hs
theorem cmp_in : CmpA X .In (gOr (gInQ false) (gInS false)) := ⟨_, l2_or l2_inQ l2_inS, op_in_seq.or op_in_sign⟩
def aInT (neg : Bool) (ta : AE) (t : AA) : AE := fun δ A Q E => ta δ A (fun x A1 => t δ A1 (fun xs A2 => ∃ v vs, xs.length ≤ sizeLine ∧ scD x = some v ∧ scDs xs = some vs ∧ Q (.bl (if neg then !inV v vs else inV v vs)) A2) E) E
end
end Av

set_option Elab.async false
set_option linter.all false
set_option maxRecDepth 100000
set_option maxHeartbeats 4000000
namespace Av
open PySem PySem.Spec PyProof.Rows L2 My
section
variable {X : Cx} {W : WX} {k : Nat} {f C : Addr} {asp : ASp} {x fl : Str} {a b e o : Expr} {es : List Expr} {ta tb te tv : AE} {t : AA} {p pos pos' apos cpos : Pos} {K : PySem.W.Frag}
def CallA (X : Cx) (f : Value) (g : GA) : Prop := ∃ r, LiftA X.K g r ∧ CallR X f r
def gaOr (g h : GA) : GA := fun xs A Q E => g xs A Q E ∨ h xs A Q E
theorem CallA.or {f : Value} {g h : GA} (a : CallA X f g) (b : CallA X f h) : CallA X f (gaOr g h) := by
  obtain ⟨r, l1, c1⟩ := a
  obtain ⟨s, l2, c2⟩ := b
  refine ⟨_, fun W δ σ H xs vs Q ⟨F, A, Q', E', at_, q, po⟩ => ?_, c1.or c2⟩
  rcases q with q | q
  · exact .inl (l1 W δ σ H xs vs Q ⟨F, A, Q', E', at_, q, po⟩)
  · exact .inr (l2 W δ σ H xs vs Q ⟨F, A, Q', E', at_, q, po⟩)
theorem ae_callB {id : String} {g : GA} (hc : CallA X (.builtin id) g) (hg : Gl X x) (hm : X.mg x = none) (hv : bootBuiltins x = some (.builtin id)) (ha : PA X (e :: es) (liftA X.K W t)) (hn : x ≠ "__name__" := by decide) (hdb : (x == ("__debug__" : Str)) = false := by decide)
    (he : starEach (e :: es) X.env = (false, eval e X.env) :: starEach es X.env := by rfl) (hpl : (backTo pos (starEach es X.env)).any (·.1) = false := by rfl) : PE X (.Call (.Name x p) (e :: es) [] pos) (liftE X.K W (aCB g t)) := by
  obtain ⟨r, L, c⟩ := hc
  exact PE.imp (pe_callB c hg hm hv ha hn hdb he hpl) fun σ H Q h => lift_cb L h
theorem ae_callTy {T : String} {g : GA} (hc : CallA X (.type T) g) (hg : Gl X x) (hm : X.mg x = none) (hv : bootBuiltins x = some (.type T)) (ha : PA X (e :: es) (liftA X.K W t)) (hn : x ≠ "__name__" := by decide) (hdb : (x == ("__debug__" : Str)) = false := by decide)
    (he : starEach (e :: es) X.env = (false, eval e X.env) :: starEach es X.env := by rfl) (hpl : (backTo pos (starEach es X.env)).any (·.1) = false := by rfl) : PE X (.Call (.Name x p) (e :: es) [] pos) (liftE X.K W (aCB g t)) := by
  obtain ⟨r, L, c⟩ := hc
  exact PE.imp (pe_callTy c hg hm hv ha hn hdb he hpl) fun σ H Q h => lift_cb L h
def gLenQ : GA := fun xs A Q _ => ∃ d ys, xs = [d] ∧ asQ A d = some ys ∧ Q (.int (ys.length : Int)) A
def gLenS : GA := fun xs A Q _ => ∃ z : Str, xs = [.str z] ∧ z.length ≤ sizeLine ∧ Q (.int (z.length : Int)) A
theorem ca_len : CallA X (.builtin "len") (gaOr gLenQ gLenS) := by
  refine CallA.or ⟨_, fun W δ σ H xs vs Q ⟨F, A, Q', E', a, ⟨d, ys, e1, e2, q⟩, po⟩ => ?_, call_len_seq⟩ ⟨_, fun W δ σ H xs vs Q ⟨F, A, Q', E', a, ⟨z, e1, e2, q⟩, po⟩ => ?_, call_len_str⟩
  · subst e1
    obtain ⟨v, rfl, r⟩ := a.held.one
    obtain ⟨b1, us, rfl, h1, q1⟩ := asQ_ok a.rel r e2
    exact ⟨b1, us, rfl, h1, by rw [← q1.length]; exact po _ _ _ _ _ q Ext.refl a.rel (.int _)⟩
  · subst e1
    obtain ⟨v, rfl, r⟩ := a.held.one
    cases r
    exact ⟨z, rfl, e2, po _ _ _ _ _ q Ext.refl a.rel (.int _)⟩
def gList (live : Bool) : GA := fun xs A Q _ => ∃ d ys, xs = [d] ∧ asQ A d = some ys ∧ aNew live (.lst ys) A Q
def asQt (A : AH) (d : D) : Option (List D) := match asL A d with
  | some xs => some xs
  | none => asTe d
def gTuple : GA := fun xs A Q _ => ∃ d ys, xs = [d] ∧ asQt A d = some ys ∧ Q (.tup ys) A
def gInt : GA := fun xs A Q _ => (∃ i, xs = [.int i] ∧ Q (.int i) A) ∨ ∃ b, xs = [.bl b] ∧ Q (.int (if b then 1 else 0)) A
theorem ca_int : CallA X (.type "int") gInt := ⟨_, fun W δ σ H xs vs Q ⟨F, A, Q', E', a, q, po⟩ => by
  rcases q with ⟨i, e1, q⟩ | ⟨b, e1, q⟩
  · subst e1
    obtain ⟨v, rfl, r⟩ := a.held.one
    cases r
    exact .inl ⟨i, rfl, po _ _ _ _ _ q Ext.refl a.rel (.int _)⟩
  · subst e1
    obtain ⟨v, rfl, r⟩ := a.held.one
    cases r
    exact .inr ⟨b, rfl, po _ _ _ _ _ q Ext.refl a.rel (.int _)⟩, CallR.or (int1) (intB)⟩
def gAbs : GA := fun xs A Q _ => ∃ i, xs = [.int i] ∧ Q (.int (if i < 0 then -i else i)) A
theorem ca_abs : CallA X (.builtin "abs") gAbs := ⟨_, fun W δ σ H xs vs Q ⟨F, A, Q', E', a, ⟨i, e1, q⟩, po⟩ => by
  subst e1
  obtain ⟨v, rfl, r⟩ := a.held.one
  cases r
  exact ⟨i, rfl, po _ _ _ _ _ q Ext.refl a.rel (.int _)⟩, abs1⟩
def gMax : GA := fun xs A Q _ => ∃ i j, xs = [.int i, .int j] ∧ Q (.int (if j > i then j else i)) A
def gMin : GA := fun xs A Q _ => ∃ i j, xs = [.int i, .int j] ∧ Q (.int (if j < i then j else i)) A
theorem ca_max (hc : X.calm = true) : CallA X (.builtin "max") gMax := ⟨_, fun W δ σ H xs vs Q ⟨F, A, Q', E', a, ⟨i, j, e1, q⟩, po⟩ => by
  subst e1
  obtain ⟨v, u, rfl, r1, r2⟩ := a.held.two
  cases r1; cases r2
  exact ⟨i, j, rfl, po _ _ _ _ _ q Ext.refl a.rel (.int _)⟩, max2 hc⟩
theorem ca_min (hc : X.calm = true) : CallA X (.builtin "min") gMin := ⟨_, fun W δ σ H xs vs Q ⟨F, A, Q', E', a, ⟨i, j, e1, q⟩, po⟩ => by
  subst e1
  obtain ⟨v, u, rfl, r1, r2⟩ := a.held.two
  cases r1; cases r2
  exact ⟨i, j, rfl, po _ _ _ _ _ q Ext.refl a.rel (.int _)⟩, min2 hc⟩
def gStr : GA := fun xs A Q _ => ∃ i : Int, xs = [.int i] ∧ i.natAbs.log2 < 1920 ∧ Q (.str (toString i)) A
def gBool : GA := fun xs A Q _ => ∃ b, xs = [.bl b] ∧ Q (.bl b) A
def blsOf : List D → Option (List Bool)
  | [] => some []
  | .bl b :: ds => (blsOf ds).map (b :: ·)
  | _ => none
def gAll : GA := fun xs A Q _ => ∃ d ys bs, xs = [d] ∧ asX A d = some ys ∧ blsOf ys = some bs ∧ Q (.bl (bs.all id)) A
def gAny : GA := fun xs A Q _ => ∃ d ys bs, xs = [d] ∧ asX A d = some ys ∧ blsOf ys = some bs ∧ Q (.bl (bs.any id)) A
def kdD (A : AH) : D → String
  | .non => "NoneType"
  | .bl _ => "bool"
  | .int _ => "int"
  | .str _ => "str"
  | .tup _ => "tuple"
  | .tux _ => "tuple"
  | .lst _ => "list"
  | .dct _ => "dict"
  | .ref a => match A a with
    | some (.lst _) => "list"
    | some (.dct _) => "dict"
    | _ => "?"
  | _ => "?"
def gIsi : GA := fun xs A Q _ => ∃ (d : D) (n : String), xs = [d, .ty n] ∧ kdD A d ≠ "?" ∧ ∃ b, kitB (kdD A d) n = some b ∧ Q (.bl b) A
def gIsi2 : GA := fun xs A Q _ => ∃ (d : D) (m n : String), xs = [d, .tup [.ty m, .ty n]] ∧ kdD A d ≠ "?" ∧ ∃ b c, kitB (kdD A d) m = some b ∧ kitB (kdD A d) n = some c ∧ Q (.bl (b || c)) A
end
end Av

set_option Elab.async false
set_option linter.all false
set_option maxRecDepth 100000
set_option maxHeartbeats 4000000
namespace Av
open PySem PySem.Spec PyProof.Rows L2 My
section
variable {X : Cx} {W : WX} {k : Nat} {f C : Addr} {asp : ASp} {x fl : Str} {a b e o : Expr} {es : List Expr} {ta tb te tv to : AE} {t : AA} {p pos pos' apos cpos : Pos} {K : PySem.W.Frag}
abbrev GM := Addr → List D → AK D
def aBM (g : GM) (to : AE) (t : AA) : AE := fun δ A Q E => to δ A (fun x A1 => ∃ l, x = .ref l ∧ (∃ ys, A1 l = some (.lst ys)) ∧ t δ A1 (fun ds A2 => g l ds A2 Q E) E) E
def gmAppend : GM := fun l ds A Q _ => ∃ y ys, ds = [y] ∧ A l = some (.lst ys) ∧ ys.length < sizeLine ∧ Q .non (put A l (.lst (ys ++ [y])))
theorem live_l {F : Addr → Prop} {A : AH} {H : Hp} {l : Addr} {ys : List D} (R : Rel K F A H) (e : A l = some (.lst ys)) : ∃ vs, H l = some (.lst vs) ∧ Reps K F H ys vs := by
  obtain ⟨_, ho, eh, ro⟩ := R.live l _ e
  cases ro with
  | lst ro => exact ⟨_, eh, ro⟩
def gmPopAt : GM := fun l ds A Q _ => ∃ i ys j y, ds = [.int i] ∧ A l = some (.lst ys) ∧ -(2 ^ 63) ≤ i ∧ i < 2 ^ 63 ∧ seqIndex? i ys.length = some j ∧ ys[j]? = some y ∧ Q y (put A l (.lst (ys.eraseIdx j)))
def gmPop : GM := fun l ds A Q _ => ∃ ys y, ds = [] ∧ A l = some (.lst ys) ∧ ys[ys.length - 1]? = some y ∧ Q y (put A l (.lst ys.dropLast))
def gmExtT : GM := fun l ds A Q _ => ∃ zs ys, ds = [.tup zs] ∧ A l = some (.lst ys) ∧ ys.length + zs.length ≤ sizeLine ∧ Q .non (put A l (.lst (ys ++ zs)))
abbrev APt := AM (Option Int)
def aNoPart : APt := fun _ A Q _ => Q none A
def aPart (te : AE) : APt := fun δ A Q E => te δ A (fun d A1 => ∃ i, d = .int i ∧ Q (some i) A1) E
def cutD (xs : List D) (lo hi : Option Int) : List D := (xs.drop (HT.sIx xs.length 0 lo)).take (HT.sIx xs.length xs.length hi - HT.sIx xs.length 0 lo)
def aSl (g : D → Option Int → Option Int → AK D) (te : AE) (tl th : APt) : AE := fun δ A Q E => te δ A (fun x A1 => tl δ A1 (fun l A2 => th δ A2 (fun u A3 => g x l u A3 Q E) E) E) E
def gSlL (live : Bool) : D → Option Int → Option Int → AK D := fun x lo hi A Q _ => ∃ xs, asL A x = some xs ∧ aNew live (.lst (cutD xs lo hi)) A Q
def gSlS : D → Option Int → Option Int → AK D := fun x lo hi A Q _ => ∃ z, x = .str z ∧ z.length ≤ sizeLine ∧ Q (.str (cutS z lo hi)) A
def gSlT : D → Option Int → Option Int → AK D := fun x lo hi A Q _ => ∃ xs, x = .tup xs ∧ Q (.tup (cutD xs lo hi)) A
def gSl (live : Bool) : D → Option Int → Option Int → AK D := fun x lo hi A Q E => gSlL live x lo hi A Q E ∨ gSlS x lo hi A Q E ∨ gSlT x lo hi A Q E
def aSetIx (to ti te : AE) : AS := fun N δ A => te δ A (fun v A1 => to δ A1 (fun x A2 => ti δ A2 (fun y A3 => ∃ l i xs j, x = .ref l ∧ y = .int i ∧ A3 l = some (.lst xs) ∧ ixN xs.length i = some j ∧ N.nx δ (put A3 l (.lst (xs.set j v)))) (fun C fs A1 => N.ex C fs δ A1)) (fun C fs A1 => N.ex C fs δ A1)) (fun C fs A1 => N.ex C fs δ A1)
theorem as_setix {i : Expr} {ti : AE} (ho : PE X o (liftE X.K W to)) (hi : PE X i (liftE X.K W ti)) (hv : PE X e (liftE X.K W te))
    (ha : ∀ v, assign (.Subscript o i pos') X.env v = (do
      let ov ← holding [v] (eval o X.env)
      let iv ← holding [v, ov] (eval i X.env)
      standAt pos'
      holding [v, ov, iv] (setItem ov iv v)
      release [v, ov, iv] []) := by intro _; rfl) (hs : swapsWithSole [.Subscript o i pos'] e pos.line X.env = pure false := by rfl) (hw : swappedStores [.Subscript o i pos'] e X.env = pure none := by rfl)
    (h1 : (assignEach [.Subscript o i pos'] X.env).map (·.2) = [assign (.Subscript o i pos') X.env] := by rfl) : PS X (.Assign [.Subscript o i pos'] e pos) (liftS X.K W (aSetIx to ti te)) := PS.imp (ps_asg hv (pg_sub ho hi set_list ha) hs hw h1) fun D σ H ⟨F, A, δ, D', R, s, q, e⟩ => by
  refine (st_core (R1 := Rep X.K) R s e q).mono fun v H1 ⟨dv, F1, A1, r1, R1, s1, q1, e1, x1⟩ => ?_
  refine (st_core (R1 := Rep X.K) R1 s1 e1 q1).mono fun x H2 ⟨dx, F2, A2, r2, R2, s2, q2, e2, x2⟩ => ?_
  refine (st_core (R1 := Rep X.K) R2 s2 e2 q2).mono fun y H3 ⟨dy, F3, A3, r3, R3, s3, ⟨l, i, xs, j, ex, ey, ea, ej, q3⟩, e3, x3⟩ => ?_
  subst ex; subst ey
  cases r2; cases r3
  have rv := (r1.kept (x2.kept R1)).kept (x3.kept R2)
  obtain ⟨us, eh, ro⟩ := live_l R3 ea
  obtain ⟨R4, x4⟩ := R3.put ea (RepO.lst (ro.set rv j))
  exact ⟨l, us, i, j, rfl, rfl, eh, by rw [← ro.length]; exact ej, e3.nx _ _ _ _ _ q3 x4 R4 (s3.kept (x4.kept R3))⟩
abbrev AGs := List D → ASt → AH → (ASt → AH → Prop) → AX → Prop
def agNm (i : Nat) : AG := fun d δ A Q _ => Q (δ.set i (some d)) A
def agNil : AGs := fun ds δ A Q _ => ds = [] ∧ Q δ A
def agCons (g : AG) (u : AGs) : AGs := fun ds δ A Q E => ∃ d r, ds = d :: r ∧ g d δ A (fun δ1 A1 => u r δ1 A1 Q E) E
def agTp (n : Nat) (g : AGs) : AG := fun d δ A Q E => ∃ ds, d = .tup ds ∧ ds.length = n ∧ g ds δ A Q E
def agDk (to ti : AE) : AG := fun d δ A Q E => to δ A (fun x A1 => ti δ A1 (fun y A2 => ∃ a kvs q, x = .ref a ∧ A2 a = some (.dct kvs) ∧ keyOf y = some q ∧ kvs.length < sizeLine ∧ Q δ (put A2 a (.dct (putD kvs y d)))) E) E
def aAsgG (te : AE) (g : AG) : AS := fun N δ A => te δ A (fun d A1 => g d δ A1 N.nx noX) (fun C fs A1 => N.ex C fs δ A1)
def aPairs : List (AE × AE) → ASt → AH → (List (D × D) → AH → Prop) → AX → Prop
  | [], _, A, Q, _ => Q [] A
  | (tk, tv) :: r, δ, A, Q, E => tk δ A (fun x A1 => tv δ A1 (fun y A2 => aPairs r δ A2 (fun ps A3 => Q ((x, y) :: ps) A3) E) E) E
def mergeD (more : List (D × D)) : List (D × D) := more.foldl (fun acc kv => putD acc kv.1 kv.2) []
def keysOk : List (D × D) → Bool
  | [] => true
  | (k, _) :: r => (keyOf k).isSome && keysOk r
def aDisp (live : Bool) (l : List (AE × AE)) : AE := fun δ A Q E => aPairs l δ A (fun ps A1 => keysOk ps = true ∧ ps.length ≤ 15 ∧ aNew live (.dct (mergeD ps)) A1 Q) E
def aDNew (live : Bool) : AE := fun _ A Q _ => aNew live (.dct []) A Q
def gLenO (C : Addr) (asp : ASp) : GA := fun xs A Q _ => ∃ d fs, xs = [d] ∧ asO A d = some (C, fs) ∧ Call asp [d] A (fun r A' => ∃ n : Int, r = .int n ∧ 0 ≤ n ∧ n < 2 ^ 63 ∧ Q r A') noX ⟨⟩
def gInO (neg : Bool) (C : Addr) (asp : ASp) : G2 := fun x y A Q _ => ∃ fs, asO A y = some (C, fs) ∧ Call asp [y, x] A (fun r A' => ∃ b : Bool, r = .bl b ∧ Q (.bl (if neg then !b else b)) A') noX ⟨⟩
end
end Av

set_option Elab.async false
set_option linter.all false
set_option maxRecDepth 100000
set_option maxHeartbeats 4000000
namespace Av
open PySem PySem.Spec PyProof.Rows L2 My
theorem TupE.all {K : PySem.W.Frag} {a : Addr} {vs : List V} (h : ∀ H, SqT K H a vs) (H : Hp) : TupE K H a vs := by
  rcases h (fun _ => none) with h | h
  · rcases h with h | ⟨o, h⟩ <;> cases h
  · exact .inr h
section
variable {X : Cx} {W : WX} {pos : Pos}
end
section
variable {P : Program} {w : World} {K : PySem.W.Frag} {mg : Str → Option Value} {base : Heap} {x qual : Str} {params : Arguments} {body : List Stmt} {scope : Scope} {dvs : List V} {kws : List (Str × V)} {f : Addr} {fd : FuncData} {N ps : List Str} {k : Nat} {asp : ASp}
abbrev BodyR (P : Program) (w : World) (K : PySem.W.Frag) (mg : Str → Option Value) (base : Heap) (qual : Str) (body : List Stmt) (scope : Scope) (f : Addr) (N : List Str) (k : Nat) (asp : ASp) : Prop :=
  ∀ (cdv : Value) (A0 : Around) (outer : List Env) (s : Shared) (H : Hp) (E0 : XK) (ds : List D) (A : AH) (Q : AQ) (E : AX), Room k (A0.deeper (envOfC qual scope s.heap.objs.size f cdv)) → asp ds A Q E →
      ∃ ts, PSs (cxOf CX0 P w K mg base N qual scope f cdv A0 outer s H E0).nox body (liftS K noW ts) ∧ ts (endsOf Q noX) (aStart N ds) A
theorem Reps.split {F : Addr → Prop} {H : Hp} : ∀ {ds es : List D} {vs : List V}, Reps K F H (ds ++ es) vs → ∃ us ws, vs = us ++ ws ∧ Reps K F H ds us ∧ Reps K F H es ws
  | [], _, vs, r => ⟨[], vs, rfl, .nil, r⟩
  | d :: ds, es, _, r => by
    cases r with
    | cons a r =>
      obtain ⟨us, ws, rfl, r1, r2⟩ := Reps.split r
      exact ⟨_ :: us, ws, rfl, .cons a r1, r2⟩
def starSp (n : Nat) (asp : ASp) : ASp := fun ds A Q E => ∃ ws rest, ds = ws ++ rest ∧ ws.length = n ∧ rest.length ≤ sizeLine ∧ asp (ws ++ [.tup rest]) A Q E
end
section
variable {X : Cx} {W : WX} {pos : Pos}
theorem as_par2 {i j : Nat} {x y : Str} {a b : Expr} {t : AA} {px py pt : Pos} {kt k2 pt2} (hc : X.calm = true) (hN : X.N.Nodup) (hi : X.N[i]? = some x) (hj : X.N[j]? = some y) (hij : i ≠ j)
    (hx : X.env.scope.names.lookup x = some .local) (hy : X.env.scope.names.lookup y = some .local) (ha : PA X [a, b] (liftA X.K W t))
    (hw : swappedStores [.Tuple [.Name x px, .Name y py] kt pt] (.Tuple [a, b] k2 pt2) X.env = pure (some [x, y]))
    (hs : swapsWithSole [.Tuple [.Name x px, .Name y py] kt pt] (.Tuple [a, b] k2 pt2) pos.line X.env = pure false := by rfl) :
    PS X (.Assign [.Tuple [.Name x px, .Name y py] kt pt] (.Tuple [a, b] k2 pt2) pos) (liftS X.K W (aPar [i, j] t)) := PS.imp (ps_par hc hN hi hj hij hx hy ha hw hs) fun D σ H h => lift_par2 h
end
section
variable {A A' : AH} {a b p q : Addr} {o u : AO}
end
theorem loop_inv {gd : AH → Prop} {p : Pat} {tb : AS} {N : AEnds} {ds : List D} {δ : ASt} {A : AH} (P : Nat → ASt → AH → Prop) (h0 : P 0 δ A) (hg : ∀ i δ A, i ≤ ds.length → P i δ A → gd A)
    (hs : ∀ i d δ A (R : ASt → AH → Prop), ds[i]? = some d → P i δ A → (∀ δ' A', P (i + 1) δ' A' → R δ' A') → ∃ δ2, bindP p d δ = some δ2 ∧ tb { N with nx := R, ct := R, bk := N.nx } δ2 A)
    (hd : ∀ δ A, P ds.length δ A → N.nx δ A) : aLoop gd p tb N ds δ A := by
  have : ∀ (r : List D) (i : Nat) (δ : ASt) (A : AH), ds.drop i = r → i ≤ ds.length → P i δ A → aLoop gd p tb N r δ A := by
    intro r
    induction r with
    | nil =>
      intro i δ A e hi hp
      have : ds.length ≤ i := by
        have := congrArg List.length e
        simp at this; omega
      obtain rfl : i = ds.length := by omega
      exact ⟨hg _ _ _ hi hp, hd _ _ hp⟩
    | cons d r ih =>
      intro i δ A e hi hp
      have hlt : i < ds.length := by
        have := congrArg List.length e
        simp at this; omega
      rw [List.drop_eq_getElem_cons hlt] at e
      injection e with e1 e2
      obtain ⟨δ2, b, q⟩ := hs i d δ A _ (by rw [List.getElem?_eq_getElem hlt, e1]) hp (fun δ A h => ih (i + 1) δ A e2 (by omega) h)
      exact ⟨hg _ _ _ hi hp, δ2, b, q⟩
  exact this ds 0 δ A (by simp) (Nat.zero_le _) h0
end Av
namespace Av
open PySem PySem.Spec PyProof.Rows L2 My
def zipK (A : AH) (d e : D) (k : IA → Prop) : Prop := (∃ xs ys, asL A d = some xs ∧ asL A e = some ys ∧ k (fun A => asL A d = some xs ∧ asL A e = some ys, zipL xs ys)) ∨ ∃ xs ys, asT d = some xs ∧ asT e = some ys ∧ k (fun _ => True, zipL xs ys)
def aZipA (t : AA) : AI := fun δ A Q E => t δ A (fun ds A1 => ∃ d e, ds = [d, e] ∧ zipK A1 d e (fun i => Q i A1)) E
end Av

set_option Elab.async false
set_option linter.all false
set_option maxRecDepth 100000
set_option maxHeartbeats 4000000
namespace Av
open PySem PySem.Spec PyProof.Rows L2 My
def truO : Option AO → Option Bool
  | some (.lst xs) => some (!xs.isEmpty)
  | _ => none
def lstO : Option AO → Option (List D)
  | some (.lst xs) => some xs
  | _ => none
def dctO : Option AO → Option (List (D × D))
  | some (.dct xs) => some xs
  | _ => none
def insO : Option AO → Option (Addr × List (Str × D))
  | some (.ins C fs) => some (C, fs)
  | _ => none
def kdOO : Option AO → String
  | some (.lst _) => "list"
  | some (.dct _) => "dict"
  | _ => "?"
def topO : Option AO → Option PyData
  | some (.lst xs) => (toPs xs).map .list
  | _ => none
theorem truO_lst {xs : List D} : truO (some (.lst xs)) = some (!xs.isEmpty) := rfl
theorem lstO_lst {xs : List D} : lstO (some (.lst xs)) = some xs := rfl
theorem truO_dct {kvs : List (D × D)} : truO (some (.dct kvs)) = none := rfl
theorem lstO_dct {kvs : List (D × D)} : lstO (some (.dct kvs)) = none := rfl
theorem topO_dct {kvs : List (D × D)} : topO (some (.dct kvs)) = none := rfl
theorem truO_ins {C : Addr} {fs : List (Str × D)} : truO (some (.ins C fs)) = none := rfl
theorem lstO_ins {C : Addr} {fs : List (Str × D)} : lstO (some (.ins C fs)) = none := rfl
theorem topO_ins {C : Addr} {fs : List (Str × D)} : topO (some (.ins C fs)) = none := rfl
theorem dctO_dct {xs : List (D × D)} : dctO (some (.dct xs)) = some xs := rfl
theorem dctO_lst {xs : List D} : dctO (some (.lst xs)) = none := rfl
theorem dctO_ins {C : Addr} {fs : List (Str × D)} : dctO (some (.ins C fs)) = none := rfl
theorem insO_ins {C : Addr} {fs : List (Str × D)} : insO (some (.ins C fs)) = some (C, fs) := rfl
theorem insO_lst {xs : List D} : insO (some (.lst xs)) = none := rfl
theorem insO_dct {xs : List (D × D)} : insO (some (.dct xs)) = none := rfl
theorem kdOO_lst {xs : List D} : kdOO (some (.lst xs)) = "list" := rfl
theorem kdOO_dct {xs : List (D × D)} : kdOO (some (.dct xs)) = "dict" := rfl
theorem topO_lst {xs : List D} : topO (some (.lst xs)) = (toPs xs).map .list := rfl
theorem truD_non {A : AH}  : truD A .non = some false := rfl
theorem truD_bl {A : AH} {b : Bool} : truD A (.bl b) = some b := rfl
theorem truD_int {A : AH} {i : Int} : truD A (.int i) = some (i != 0) := rfl
theorem truD_str {A : AH} {x : Str} : truD A (.str x) = some ((x.length : Int) != 0) := rfl
theorem truD_ty {A : AH} {n : String} : truD A (.ty n) = none := rfl
theorem truD_ref {A : AH} {a : Addr} : truD A (.ref a) = truO (A a) := by unfold truD truO; rfl
theorem truD_tup {A : AH} {xs : List D} : truD A (.tup xs) = some (!xs.isEmpty) := rfl
theorem truD_lst {A : AH} {xs : List D} : truD A (.lst xs) = some (!xs.isEmpty) := rfl
theorem truD_rol {A : AH} {xs : List D} : truD A (.rol xs) = none := rfl
theorem truD_dct {A : AH} {kvs : List (D × D)} : truD A (.dct kvs) = none := rfl
theorem truD_dtt {A : AH} {z : Program × World} {nks : List (NestedKey × D)} : truD A (.dtt z nks) = none := rfl
theorem truD_obj {A : AH} {C : Addr} {fs : List (Str × D)} : truD A (.obj C fs) = none := rfl
theorem truD_exc {A : AH} {a : Addr} {dd : Addr} {C : Addr} {fs : List (Str × D)} : truD A (.exc a dd C fs) = none := rfl
theorem lenOk_non  : lenOk .non = True := rfl
theorem lenOk_bl {b : Bool} : lenOk (.bl b) = True := rfl
theorem lenOk_int {i : Int} : lenOk (.int i) = True := rfl
theorem lenOk_str {x : Str} : lenOk (.str x) = (x.length ≤ sizeLine) := rfl
theorem lenOk_ty {n : String} : lenOk (.ty n) = True := rfl
theorem lenOk_ref {a : Addr} : lenOk (.ref a) = True := rfl
theorem lenOk_tup {xs : List D} : lenOk (.tup xs) = True := rfl
theorem lenOk_lst {xs : List D} : lenOk (.lst xs) = True := rfl
theorem lenOk_rol {xs : List D} : lenOk (.rol xs) = True := rfl
theorem lenOk_dct {kvs : List (D × D)} : lenOk (.dct kvs) = True := rfl
theorem lenOk_dtt {z : Program × World} {nks : List (NestedKey × D)} : lenOk (.dtt z nks) = True := rfl
theorem lenOk_obj {C : Addr} {fs : List (Str × D)} : lenOk (.obj C fs) = True := rfl
theorem lenOk_exc {a : Addr} {dd : Addr} {C : Addr} {fs : List (Str × D)} : lenOk (.exc a dd C fs) = True := rfl
theorem asL_non {A : AH}  : asL A .non = none := rfl
theorem asL_bl {A : AH} {b : Bool} : asL A (.bl b) = none := rfl
theorem asL_int {A : AH} {i : Int} : asL A (.int i) = none := rfl
theorem asL_str {A : AH} {x : Str} : asL A (.str x) = none := rfl
theorem asL_ty {A : AH} {n : String} : asL A (.ty n) = none := rfl
theorem asL_ref {A : AH} {a : Addr} : asL A (.ref a) = lstO (A a) := by unfold asL lstO; rfl
theorem asL_tup {A : AH} {xs : List D} : asL A (.tup xs) = none := rfl
theorem asL_lst {A : AH} {xs : List D} : asL A (.lst xs) = some xs := rfl
theorem asL_rol {A : AH} {xs : List D} : asL A (.rol xs) = some xs := rfl
theorem asL_dct {A : AH} {kvs : List (D × D)} : asL A (.dct kvs) = none := rfl
theorem asL_dtt {A : AH} {z : Program × World} {nks : List (NestedKey × D)} : asL A (.dtt z nks) = none := rfl
theorem asL_obj {A : AH} {C : Addr} {fs : List (Str × D)} : asL A (.obj C fs) = none := rfl
theorem asL_exc {A : AH} {a : Addr} {dd : Addr} {C : Addr} {fs : List (Str × D)} : asL A (.exc a dd C fs) = none := rfl
theorem asX_non {A : AH}  : asX A .non = none := rfl
theorem asX_bl {A : AH} {b : Bool} : asX A (.bl b) = none := rfl
theorem asX_int {A : AH} {i : Int} : asX A (.int i) = none := rfl
theorem asX_str {A : AH} {x : Str} : asX A (.str x) = none := rfl
theorem asX_ty {A : AH} {n : String} : asX A (.ty n) = none := rfl
theorem asX_ref {A : AH} {a : Addr} : asX A (.ref a) = lstO (A a) := by unfold asX lstO; rfl
theorem asX_tup {A : AH} {xs : List D} : asX A (.tup xs) = none := rfl
theorem asX_lst {A : AH} {xs : List D} : asX A (.lst xs) = some xs := rfl
theorem asX_rol {A : AH} {xs : List D} : asX A (.rol xs) = none := rfl
theorem asX_dct {A : AH} {kvs : List (D × D)} : asX A (.dct kvs) = none := rfl
theorem asX_dtt {A : AH} {z : Program × World} {nks : List (NestedKey × D)} : asX A (.dtt z nks) = none := rfl
theorem asX_obj {A : AH} {C : Addr} {fs : List (Str × D)} : asX A (.obj C fs) = none := rfl
theorem asX_exc {A : AH} {a : Addr} {dd : Addr} {C : Addr} {fs : List (Str × D)} : asX A (.exc a dd C fs) = none := rfl
theorem asT_non  : asT .non = none := rfl
theorem asT_bl {b : Bool} : asT (.bl b) = none := rfl
theorem asT_int {i : Int} : asT (.int i) = none := rfl
theorem asT_str {x : Str} : asT (.str x) = none := rfl
theorem asT_ty {n : String} : asT (.ty n) = none := rfl
theorem asT_ref {a : Addr} : asT (.ref a) = none := rfl
theorem asT_tup {xs : List D} : asT (.tup xs) = some xs := rfl
theorem asT_lst {xs : List D} : asT (.lst xs) = none := rfl
theorem asT_rol {xs : List D} : asT (.rol xs) = none := rfl
theorem asT_dct {kvs : List (D × D)} : asT (.dct kvs) = none := rfl
theorem asT_dtt {z : Program × World} {nks : List (NestedKey × D)} : asT (.dtt z nks) = none := rfl
theorem asT_obj {C : Addr} {fs : List (Str × D)} : asT (.obj C fs) = none := rfl
theorem asT_exc {a : Addr} {dd : Addr} {C : Addr} {fs : List (Str × D)} : asT (.exc a dd C fs) = none := rfl
theorem asD_non {A : AH}  : asD A .non = none := rfl
theorem asD_bl {A : AH} {b : Bool} : asD A (.bl b) = none := rfl
theorem asD_int {A : AH} {i : Int} : asD A (.int i) = none := rfl
theorem asD_str {A : AH} {x : Str} : asD A (.str x) = none := rfl
theorem asD_ty {A : AH} {n : String} : asD A (.ty n) = none := rfl
theorem asD_ref {A : AH} {a : Addr} : asD A (.ref a) = dctO (A a) := by unfold asD dctO; rfl
theorem asD_tup {A : AH} {xs : List D} : asD A (.tup xs) = none := rfl
theorem asD_lst {A : AH} {xs : List D} : asD A (.lst xs) = none := rfl
theorem asD_rol {A : AH} {xs : List D} : asD A (.rol xs) = none := rfl
theorem asD_dct {A : AH} {kvs : List (D × D)} : asD A (.dct kvs) = some kvs := rfl
theorem asD_dtt {A : AH} {z : Program × World} {nks : List (NestedKey × D)} : asD A (.dtt z nks) = none := rfl
theorem asD_obj {A : AH} {C : Addr} {fs : List (Str × D)} : asD A (.obj C fs) = none := rfl
theorem asD_exc {A : AH} {a : Addr} {dd : Addr} {C : Addr} {fs : List (Str × D)} : asD A (.exc a dd C fs) = none := rfl
theorem asO_non {A : AH}  : asO A .non = none := rfl
theorem asO_bl {A : AH} {b : Bool} : asO A (.bl b) = none := rfl
theorem asO_int {A : AH} {i : Int} : asO A (.int i) = none := rfl
theorem asO_str {A : AH} {x : Str} : asO A (.str x) = none := rfl
theorem asO_ty {A : AH} {n : String} : asO A (.ty n) = none := rfl
theorem asO_ref {A : AH} {a : Addr} : asO A (.ref a) = insO (A a) := by unfold asO insO; rfl
theorem asO_tup {A : AH} {xs : List D} : asO A (.tup xs) = none := rfl
theorem asO_lst {A : AH} {xs : List D} : asO A (.lst xs) = none := rfl
theorem asO_rol {A : AH} {xs : List D} : asO A (.rol xs) = none := rfl
theorem asO_dct {A : AH} {kvs : List (D × D)} : asO A (.dct kvs) = none := rfl
theorem asO_dtt {A : AH} {z : Program × World} {nks : List (NestedKey × D)} : asO A (.dtt z nks) = none := rfl
theorem asO_obj {A : AH} {C : Addr} {fs : List (Str × D)} : asO A (.obj C fs) = some (C, fs) := rfl
theorem asO_exc {A : AH} {a : Addr} {dd : Addr} {C : Addr} {fs : List (Str × D)} : asO A (.exc a dd C fs) = none := rfl
theorem asQt_ref {A : AH} {a : Addr} : asQt A (.ref a) = lstO (A a) := by unfold asQt; show (match lstO (A a) with | some xs => some xs | none => none) = lstO (A a); cases lstO (A a) <;> rfl
theorem asQt_tup {A : AH} {xs : List D} : asQt A (.tup xs) = some xs := rfl
theorem asQt_lst {A : AH} {xs : List D} : asQt A (.lst xs) = some xs := rfl
theorem asQt_rol {A : AH} {xs : List D} : asQt A (.rol xs) = some xs := rfl
theorem asT_tux {xs : List D} : asT (.tux xs) = some xs := rfl
theorem asQ_tux {A : AH} {xs : List D} : asQ A (.tux xs) = some xs := rfl
theorem kdD_tux {A : AH} {xs : List D} : kdD A (.tux xs) = "tuple" := rfl
theorem asQ_non {A : AH}  : asQ A .non = none := rfl
theorem asQ_bl {A : AH} {b : Bool} : asQ A (.bl b) = none := rfl
theorem asQ_int {A : AH} {i : Int} : asQ A (.int i) = none := rfl
theorem asQ_str {A : AH} {x : Str} : asQ A (.str x) = none := rfl
theorem asQ_ty {A : AH} {n : String} : asQ A (.ty n) = none := rfl
theorem asQ_ref {A : AH} {a : Addr} : asQ A (.ref a) = lstO (A a) := by unfold asQ; show (match lstO (A a) with | some xs => some xs | none => none) = lstO (A a); cases lstO (A a) <;> rfl
theorem asQ_tup {A : AH} {xs : List D} : asQ A (.tup xs) = some xs := rfl
theorem asQ_lst {A : AH} {xs : List D} : asQ A (.lst xs) = some xs := rfl
theorem asQ_rol {A : AH} {xs : List D} : asQ A (.rol xs) = some xs := rfl
theorem asQ_dct {A : AH} {kvs : List (D × D)} : asQ A (.dct kvs) = none := rfl
theorem asQ_dtt {A : AH} {z : Program × World} {nks : List (NestedKey × D)} : asQ A (.dtt z nks) = none := rfl
theorem asQ_obj {A : AH} {C : Addr} {fs : List (Str × D)} : asQ A (.obj C fs) = none := rfl
theorem asQ_exc {A : AH} {a : Addr} {dd : Addr} {C : Addr} {fs : List (Str × D)} : asQ A (.exc a dd C fs) = none := rfl
theorem isNoD_non  : isNoD .non = true := rfl
theorem isNoD_bl {b : Bool} : isNoD (.bl b) = false := rfl
theorem isNoD_int {i : Int} : isNoD (.int i) = false := rfl
theorem isNoD_str {x : Str} : isNoD (.str x) = false := rfl
theorem isNoD_ty {n : String} : isNoD (.ty n) = false := rfl
theorem isNoD_ref {a : Addr} : isNoD (.ref a) = false := rfl
theorem isNoD_tup {xs : List D} : isNoD (.tup xs) = false := rfl
theorem isNoD_lst {xs : List D} : isNoD (.lst xs) = false := rfl
theorem isNoD_rol {xs : List D} : isNoD (.rol xs) = false := rfl
theorem isNoD_dct {kvs : List (D × D)} : isNoD (.dct kvs) = false := rfl
theorem isNoD_dtt {z : Program × World} {nks : List (NestedKey × D)} : isNoD (.dtt z nks) = false := rfl
theorem isNoD_obj {C : Addr} {fs : List (Str × D)} : isNoD (.obj C fs) = false := rfl
theorem isNoD_exc {a : Addr} {dd : Addr} {C : Addr} {fs : List (Str × D)} : isNoD (.exc a dd C fs) = false := rfl
theorem scD_non  : scD .non = some .non := rfl
theorem scD_bl {b : Bool} : scD (.bl b) = some (.bl b) := rfl
theorem scD_int {i : Int} : scD (.int i) = some (.int i) := rfl
theorem scD_str {x : Str} : scD (.str x) = some (.str x) := rfl
theorem scD_ty {n : String} : scD (.ty n) = none := rfl
theorem scD_ref {a : Addr} : scD (.ref a) = none := rfl
theorem scD_tup {xs : List D} : scD (.tup xs) = none := rfl
theorem scD_lst {xs : List D} : scD (.lst xs) = none := rfl
theorem scD_rol {xs : List D} : scD (.rol xs) = none := rfl
theorem scD_dct {kvs : List (D × D)} : scD (.dct kvs) = none := rfl
theorem scD_dtt {z : Program × World} {nks : List (NestedKey × D)} : scD (.dtt z nks) = none := rfl
theorem scD_obj {C : Addr} {fs : List (Str × D)} : scD (.obj C fs) = none := rfl
theorem scD_exc {a : Addr} {dd : Addr} {C : Addr} {fs : List (Str × D)} : scD (.exc a dd C fs) = none := rfl
theorem keyOf_non  : keyOf .non = none := rfl
theorem keyOf_bl {b : Bool} : keyOf (.bl b) = none := rfl
theorem keyOf_int {i : Int} : keyOf (.int i) = some (.inl i) := rfl
theorem keyOf_str {x : Str} : keyOf (.str x) = some (.inr x) := rfl
theorem keyOf_ty {n : String} : keyOf (.ty n) = none := rfl
theorem keyOf_ref {a : Addr} : keyOf (.ref a) = none := rfl
theorem keyOf_tup {xs : List D} : keyOf (.tup xs) = none := rfl
theorem keyOf_lst {xs : List D} : keyOf (.lst xs) = none := rfl
theorem keyOf_rol {xs : List D} : keyOf (.rol xs) = none := rfl
theorem keyOf_dct {kvs : List (D × D)} : keyOf (.dct kvs) = none := rfl
theorem keyOf_dtt {z : Program × World} {nks : List (NestedKey × D)} : keyOf (.dtt z nks) = none := rfl
theorem keyOf_obj {C : Addr} {fs : List (Str × D)} : keyOf (.obj C fs) = none := rfl
theorem keyOf_exc {a : Addr} {dd : Addr} {C : Addr} {fs : List (Str × D)} : keyOf (.exc a dd C fs) = none := rfl
theorem kdD_non {A : AH}  : kdD A .non = "NoneType" := rfl
theorem kdD_bl {A : AH} {b : Bool} : kdD A (.bl b) = "bool" := rfl
theorem kdD_int {A : AH} {i : Int} : kdD A (.int i) = "int" := rfl
theorem kdD_str {A : AH} {x : Str} : kdD A (.str x) = "str" := rfl
theorem kdD_ty {A : AH} {n : String} : kdD A (.ty n) = "?" := rfl
theorem kdD_ref {A : AH} {a : Addr} : kdD A (.ref a) = kdOO (A a) := by unfold kdD kdOO; rfl
theorem kdD_tup {A : AH} {xs : List D} : kdD A (.tup xs) = "tuple" := rfl
theorem kdD_lst {A : AH} {xs : List D} : kdD A (.lst xs) = "list" := rfl
theorem kdD_rol {A : AH} {xs : List D} : kdD A (.rol xs) = "?" := rfl
theorem kdD_dct {A : AH} {kvs : List (D × D)} : kdD A (.dct kvs) = "dict" := rfl
theorem kdD_dtt {A : AH} {z : Program × World} {nks : List (NestedKey × D)} : kdD A (.dtt z nks) = "?" := rfl
theorem kdD_obj {A : AH} {C : Addr} {fs : List (Str × D)} : kdD A (.obj C fs) = "?" := rfl
theorem kdD_exc {A : AH} {a : Addr} {dd : Addr} {C : Addr} {fs : List (Str × D)} : kdD A (.exc a dd C fs) = "?" := rfl
theorem topP_non {A : AH}  : topP A .non = toP .non := rfl
theorem topP_bl {A : AH} {b : Bool} : topP A (.bl b) = toP (.bl b) := rfl
theorem topP_int {A : AH} {i : Int} : topP A (.int i) = toP (.int i) := rfl
theorem topP_str {A : AH} {x : Str} : topP A (.str x) = toP (.str x) := rfl
theorem topP_ty {A : AH} {n : String} : topP A (.ty n) = toP (.ty n) := rfl
theorem topP_ref {A : AH} {a : Addr} : topP A (.ref a) = topO (A a) := by unfold topP topO; rfl
theorem topP_tup {A : AH} {xs : List D} : topP A (.tup xs) = toP (.tup xs) := rfl
theorem topP_lst {A : AH} {xs : List D} : topP A (.lst xs) = toP (.lst xs) := rfl
theorem topP_rol {A : AH} {xs : List D} : topP A (.rol xs) = toP (.rol xs) := rfl
theorem topP_dct {A : AH} {kvs : List (D × D)} : topP A (.dct kvs) = toP (.dct kvs) := rfl
theorem topP_dtt {A : AH} {z : Program × World} {nks : List (NestedKey × D)} : topP A (.dtt z nks) = toP (.dtt z nks) := rfl
theorem topP_obj {A : AH} {C : Addr} {fs : List (Str × D)} : topP A (.obj C fs) = toP (.obj C fs) := rfl
theorem topP_exc {A : AH} {a : Addr} {dd : Addr} {C : Addr} {fs : List (Str × D)} : topP A (.exc a dd C fs) = toP (.exc a dd C fs) := rfl
theorem keyEq_ii {i j : Int} : keyEq (.int i) (.int j) = decide (i = j) := by rw [keyEq]
theorem keyEq_ss {x y : Str} : keyEq (.str x) (.str y) = decide (x = y) := by rw [keyEq]
theorem keyEq_is {i : Int} {y : Str} : keyEq (.int i) (.str y) = false := by rw [keyEq] <;> simp
theorem keyEq_si {i : Int} {y : Str} : keyEq (.str y) (.int i) = false := by rw [keyEq] <;> simp
end Av

set_option Elab.async false
set_option linter.all false
set_option maxRecDepth 100000
set_option maxHeartbeats 4000000
namespace Av
open PySem PySem.Spec PyProof.Rows L2 My
def oK {α : Type} (o : Option α) (k : α → Prop) (_ : Tag k) : Prop := ∃ x, o = some x ∧ k x
theorem oK_some {α : Type} {x : α} {k : α → Prop} {w : Tag k} : oK (some x) k w = k x := by simp [oK]
theorem oK_none {α : Type} {k : α → Prop} {w : Tag k} : oK none k w = False := by simp [oK]
theorem oK_mk {α : Type} {o : Option α} {x : α} {k : α → Prop} {w : Tag k} (h : o = some x) (q : k x) : oK o k w := ⟨x, h, q⟩
theorem Call.mk {asp : ASp} {ds : List D} {A : AH} {Q : AQ} {E : AX} (h : asp ds A Q E) : Call asp ds A Q E ⟨⟩ := h
def Loop (gd : AH → Prop) (p : Pat) (tb : AS) (N : AEnds) (ds : List D) (δ : ASt) (A : AH) (_ : Tag (gd, tb, N)) : Prop := aLoop gd p tb N ds δ A
def LoopC (gd : AH → Prop) (p : Pat) (tt : AT) (te : AE) (δ : ASt) (ds acc : List D) (A : AH) (Q : List D → AH → Prop) (_ : Tag (gd, tt, te, Q)) : Prop := aComp gd p tt te δ ds acc A Q
def bindK (p : Pat) (d : D) (δ : ASt) (k : ASt → Prop) : Prop := ∃ δ', bindP p d δ = some δ' ∧ k δ'
def bindKs (p : List Pat) (d : List D) (δ : ASt) (k : ASt → Prop) : Prop := ∃ δ', bindPs p d δ = some δ' ∧ k δ'
theorem bindK_nm {i : Nat} {d : D} {δ : ASt} {k : ASt → Prop} : bindK (.nm i) d δ k = k (δ.set i (some d)) := by simp [bindK, bindP]
theorem bindK_tp {ps : List Pat} {ds : List D} {δ : ASt} {k : ASt → Prop} : bindK (.tp ps) (.tup ds) δ k = bindKs ps ds δ k := by simp [bindK, bindKs, bindP]
theorem bindKs_nil {δ : ASt} {k : ASt → Prop} : bindKs [] [] δ k = k δ := by simp [bindKs, bindPs]
theorem bindKs_cons {p : Pat} {ps : List Pat} {d : D} {ds : List D} {δ : ASt} {k : ASt → Prop} : bindKs (p :: ps) (d :: ds) δ k = bindK p d δ (fun δ' => bindKs ps ds δ' k) := by
  apply propext
  simp only [bindKs, bindK, bindPs]
  constructor
  · rintro ⟨δ', h, q⟩
    split at h
    · rename_i δ1 e; exact ⟨δ1, e, δ', h, q⟩
    · cases h
  · rintro ⟨δ1, e, δ', h, q⟩
    exact ⟨δ', by rw [e]; exact h, q⟩
def truK (A : AH) (d : D) (k : Bool → Prop) : Prop := lenOk d ∧ ∃ b, truD A d = some b ∧ k b
def oneK (ds : List D) (k : D → Prop) : Prop := ∃ v, ds = [v] ∧ k v
theorem oneK_eq {d : D} {k : D → Prop} : oneK [d] k = k d := by simp [oneK]
def twoK (ds : List D) (k : D → D → Prop) : Prop := ∃ v u, ds = [v, u] ∧ k v u
theorem twoK_eq {d e : D} {k : D → D → Prop} : twoK [d, e] k = k d e := by
  apply propext; constructor
  · rintro ⟨v, u, h, q⟩; cases h; exact q
  · intro h; exact ⟨d, e, rfl, h⟩
def ch1 : D → Option Nat
  | .str ⟨⟨[c]⟩⟩ => some c
  | _ => none
theorem ch1_str {c : Nat} : ch1 (.str ⟨#[c]⟩) = some c := rfl
theorem ch1_some {x : D} {c : Nat} (h : ch1 x = some c) : x = .str ⟨#[c]⟩ := by
  unfold ch1 at h
  split at h
  · cases h; rfl
  · cases h
theorem lstO_some {ob : Option AO} {xs : List D} (h : lstO ob = some xs) : ob = some (.lst xs) := by
  cases ob with
  | none => cases h
  | some u => cases u <;> cases h; rfl
theorem dctO_some {ob : Option AO} {xs : List (D × D)} (h : dctO ob = some xs) : ob = some (.dct xs) := by
  cases ob with
  | none => cases h
  | some u => cases u <;> cases h; rfl
section
variable {A : AH} {Q : AQ} {E : AX} {δ : ASt} {N : AEnds} {k : Bool → Prop}
theorem truK_non  : truK A .non k = k false := by simp [truK, lenOk, truD]
theorem truK_bl {b : Bool} : truK A (.bl b) k = k b := by simp [truK, lenOk, truD]
theorem truK_int {i : Int} : truK A (.int i) k = k (i != 0) := by simp [truK, lenOk, truD]
theorem truK_str {x : Str} : truK A (.str x) k = (x.length ≤ sizeLine ∧ k ((x.length : Int) != 0)) := by simp [truK, lenOk, truD]
theorem truK_tup {xs : List D} : truK A (.tup xs) k = k (!xs.isEmpty) := by
  apply propext
  constructor
  · rintro ⟨_, b, e, h⟩; cases e; exact h
  · intro h; exact ⟨trivial, _, rfl, h⟩
theorem truK_lst {xs : List D} : truK A (.lst xs) k = k (!xs.isEmpty) := by
  apply propext
  constructor
  · rintro ⟨_, b, e, h⟩; cases e; exact h
  · intro h; exact ⟨trivial, _, rfl, h⟩
theorem truK_ref {a : Addr} : truK A (.ref a) k = oK (truO (A a)) k ⟨⟩ := by simp only [truK, lenOk, truD_ref, true_and, oK]
theorem aSeq_eq {t u : AS} : aSeq t u N δ A = t { N with nx := u N } δ A := rfl
theorem aNext_eq  : aNext N δ A = N.nx δ A := rfl
theorem aBrk_eq  : aBrk N δ A = N.bk δ A := rfl
theorem aCont_eq  : aCont N δ A = N.ct δ A := rfl
theorem aDrop_eq {te : AE} : aDrop te N δ A = te δ A (fun _ A1 => N.nx δ A1) (fun C fs A1 => N.ex C fs δ A1) := rfl
theorem aRet_eq {te : AE} : aRet te N δ A = te δ A (fun d A1 => N.rt d A1) (fun C fs A1 => N.ex C fs δ A1) := rfl
theorem aRetN_eq  : aRetN N δ A = N.rt .non A := rfl
theorem aIfS_eq {c : AT} {t u : AS} : aIfS c t u N δ A = c δ A (fun b A1 => if b = true then t N δ A1 else u N δ A1) (fun C fs A1 => N.ex C fs δ A1) := rfl
theorem aAsg_eq {te : AE} {p : Pat} : aAsg te p N δ A = te δ A (fun d A1 => bindK p d δ (fun δ' => N.nx δ' A1)) (fun C fs A1 => N.ex C fs δ A1) := rfl
theorem aPar_eq {is : List Nat} {t : AA} : aPar is t N δ A = t δ A (fun ds A1 => bindKs (is.map .nm) ds δ (fun δ' => N.nx δ' A1)) (fun C fs A1 => N.ex C fs δ A1) := rfl
theorem aFor_eq {ti : AI} {p : Pat} {tb : AS} : aFor ti p tb N δ A = ti δ A (fun i A1 => Loop i.1 p tb N i.2 δ A1 ⟨⟩) (fun C fs A1 => N.ex C fs δ A1) := rfl
theorem aVar_0 {d : D} : aVar 0 (some d :: δ) A Q E = Q d A := by simp [aVar]
theorem aVar_s {d : Option D} {i : Nat} : aVar (i + 1) (d :: δ) A Q E = aVar i δ A Q E := by simp [aVar]
theorem aC_eq {d : D} : aC d δ A Q E = Q d A := rfl
theorem aOp_eq {g : G2} {ta tb : AE} : aOp g ta tb δ A Q E = ta δ A (fun x A1 => tb δ A1 (fun y A2 => g x y A2 Q E) E) E := rfl
theorem aUn_eq {g : G1} {ta : AE} : aUn g ta δ A Q E = ta δ A (fun x A1 => g x A1 Q E) E := rfl
def blK (d : D) (k : Bool → Prop) : Prop := ∃ c, d = .bl c ∧ k c
theorem blK_bl {b : Bool} : blK (.bl b) k = k b := by simp [blK]
theorem aB_eq {t : AE} {Q : Bool → AH → Prop} : aB t δ A Q E = t δ A (fun x A1 => blK x (fun c => Q c A1)) E := rfl
theorem aTru_eq {t : AE} {Q : Bool → AH → Prop} : aTru t δ A Q E = t δ A (fun x A1 => truK A1 x (fun c => Q c A1)) E := rfl
theorem aOrV_eq {ta tb : AE} : aOrV ta tb δ A Q E = ta δ A (fun x A1 => truK A1 x (fun b => if b = true then Q x A1 else tb δ A1 Q E)) E := rfl
theorem aAndV_eq {ta tb : AE} : aAndV ta tb δ A Q E = ta δ A (fun x A1 => truK A1 x (fun b => if b = true then tb δ A1 Q E else Q x A1)) E := rfl
theorem aNotV_eq {ta : AE} : aNotV ta δ A Q E = ta δ A (fun x A1 => truK A1 x (fun b => Q (.bl (!b)) A1)) E := rfl
theorem aAnd_eq {t u : AT} {Q : Bool → AH → Prop} : aAnd t u δ A Q E = t δ A (fun c A1 => if c = true then u δ A1 Q E else Q false A1) E := rfl
theorem aOr_eq {t u : AT} {Q : Bool → AH → Prop} : aOr t u δ A Q E = t δ A (fun c A1 => if c = true then Q true A1 else u δ A1 Q E) E := rfl
theorem aNot_eq {t : AT} {Q : Bool → AH → Prop} : aNot t δ A Q E = t δ A (fun c A1 => Q (!c) A1) E := rfl
theorem aYes_eq {Q : Bool → AH → Prop} : aYes δ A Q E = Q true A := rfl
theorem aIf_eq {t : AT} {ta tb : AE} : aIf t ta tb δ A Q E = t δ A (fun c A1 => if c = true then ta δ A1 Q E else tb δ A1 Q E) E := rfl
theorem aNil_eq {Q : List D → AH → Prop} : aNil δ A Q E = Q [] A := rfl
theorem aCons_eq {te : AE} {t : AA} {Q : List D → AH → Prop} : aCons te t δ A Q E = te δ A (fun x A1 => t δ A1 (fun xs A2 => Q (x :: xs) A2) E) E := rfl
theorem aTup_eq {t : AA} : aTup t δ A Q E = t δ A (fun xs A1 => xs.length ≤ sizeLine ∧ Q (.tup xs) A1) E := rfl
theorem aLst_eq {live : Bool} {t : AA} : aLst live t δ A Q E = t δ A (fun xs A1 => xs.length ≤ sizeLine ∧ aNew live (.lst xs) A1 Q) E := rfl
theorem aNew_t {ob : AO} : aNew true ob A Q = (∀ p, A p = none → Q (.ref p) (put A p ob)) := rfl
theorem aNew_f {ob : AO} : aNew false ob A Q = Q (frz ob) A := rfl
theorem frz_lst {xs : List D} : frz (.lst xs) = .lst xs := rfl
theorem frz_dct {xs : List (D × D)} : frz (.dct xs) = .dct xs := rfl
theorem frz_ins {C : Addr} {fs : List (Str × D)} : frz (.ins C fs) = .obj C fs := rfl
theorem aCB_eq {g : GA} {t : AA} : aCB g t δ A Q E = t δ A (fun xs A1 => g xs A1 Q E) E := rfl
theorem aCall_eq {g : ASp} {t : AA} : aCall g t δ A Q E = t δ A (fun xs A1 => Call g xs A1 Q E ⟨⟩) E := rfl
theorem aMeth_eq {C : Addr} {m : Str} {asp : ASp} {ta : AE} {t : AA} : aMeth C m asp ta t δ A Q E = ta δ A (fun x A1 => oK (asO A1 x) (fun z => z.1 = C ∧ z.2.lookup m = none ∧ t δ A1 (fun ds A2 => Call asp (x :: ds) A2 Q E ⟨⟩) E) ⟨⟩) E := by
  unfold aMeth
  congr 1
  funext x A1
  apply propext
  constructor
  · rintro ⟨⟨fs, e1, e2⟩, h⟩; exact ⟨(C, fs), e1, rfl, e2, h⟩
  · rintro ⟨⟨C', fs⟩, e1, rfl, e2, h⟩; exact ⟨⟨fs, e1, e2⟩, h⟩
theorem aProp_eq {C : Addr} {asp : ASp} {ta : AE} : aProp C asp ta δ A Q E = ta δ A (fun x A1 => oK (asO A1 x) (fun z => z.1 = C ∧ Call asp [x] A1 Q E ⟨⟩) ⟨⟩) E := by
  unfold aProp
  congr 1
  funext x A1
  apply propext
  constructor
  · rintro ⟨⟨fs, e1⟩, h⟩; exact ⟨(C, fs), e1, rfl, h⟩
  · rintro ⟨⟨C', fs⟩, e1, rfl, h⟩; exact ⟨⟨fs, e1⟩, h⟩
theorem aFld_eq {K : PySem.W.Frag} {f : Str} {ta : AE} : aFld K f ta δ A Q E = ta δ A (fun x A1 => oK (asO A1 x) (fun z => Cls K z.1 ∧ NoAttr K z.1 f ∧ oK (z.2.lookup f) (fun v => Q v A1) ⟨⟩) ⟨⟩) E := by
  unfold aFld
  congr 1
  funext x A1
  apply propext
  constructor
  · rintro ⟨C, fs, v, e1, e2, e3, e4, h⟩; exact ⟨(C, fs), e1, e2, e3, v, e4, h⟩
  · rintro ⟨⟨C, fs⟩, e1, e2, e3, v, e4, h⟩; exact ⟨C, fs, v, e1, e2, e3, e4, h⟩
def refK (d : D) (k : Addr → Prop) : Prop := ∃ a, d = .ref a ∧ k a
theorem refK_ref {a : Addr} {k : Addr → Prop} : refK (.ref a) k = k a := by simp [refK]
theorem aSetFld_eq {K : PySem.W.Frag} {f : Str} {ta tv : AE} : aSetFld K f ta tv N δ A = tv δ A (fun y A1 => ta δ A1 (fun x A2 => refK x (fun a => oK (insO (A2 a)) (fun z => Cls K z.1 ∧ NoAttr K z.1 f ∧ z.2.length < 1000 ∧ N.nx δ (put A2 a (.ins z.1 (putFA f y z.2)))) ⟨⟩)) (fun C fs A1 => N.ex C fs δ A1)) (fun C fs A1 => N.ex C fs δ A1) := by
  unfold aSetFld
  congr 1
  funext y A1
  congr 1
  funext x A2
  apply propext
  constructor
  · rintro ⟨a, C, fs, rfl, e1, e2, e3, e4, h⟩; exact ⟨a, rfl, (C, fs), by rw [e1]; rfl, e2, e3, e4, h⟩
  · rintro ⟨a, rfl, ⟨C, fs⟩, e1, e2, e3, e4, h⟩
    refine ⟨a, C, fs, rfl, ?_, e2, e3, e4, h⟩
    cases q : A2 a with
    | none => rw [q] at e1; cases e1
    | some u => rw [q] at e1; cases u <;> cases e1; rfl
theorem aRaise_eq {C : Addr} {fl : Str} {t : AA} : aRaise C fl t N δ A = t δ A (fun ds A1 => oneK ds (fun v => N.ex C [(fl, v)] δ A1)) (fun C fs A1 => N.ex C fs δ A1) := rfl
theorem aMake_t {C : Addr} {asp : ASp} {t : AA} : aMake true C asp t δ A Q E = t δ A (fun ds A1 => ∀ x, A1 x = none → Call asp (.ref x :: ds) (put A1 x (.ins C [])) (fun d A2 => d = .non ∧ Q (.ref x) A2) E ⟨⟩) E := rfl
theorem aMake_f {C : Addr} {asp : ASp} {t : AA} : aMake false C asp t δ A Q E = t δ A (fun ds A1 => ∀ x, A1 x = none → Call asp (.ref x :: ds) (put A1 x (.ins C [])) (fun d A2 => d = .non ∧ ∃ fs, A2 x = some (.ins C fs) ∧ Q (.obj C fs) (del A2 x)) E ⟨⟩) E := rfl
theorem aItL_eq {te : AE} {Q : IA → AH → Prop} : aItL te δ A Q E = te δ A (fun d A1 => oK (asL A1 d) (fun xs => Q (fun A => asL A d = some xs, xs) A1) ⟨⟩) E := rfl
theorem aItT_eq {te : AE} {Q : IA → AH → Prop} : aItT te δ A Q E = te δ A (fun d A1 => oK (asT d) (fun xs => Q (fun _ => True, xs) A1) ⟨⟩) E := rfl
def intK (d : D) (k : Int → Prop) : Prop := ∃ i, d = .int i ∧ k i
theorem intK_int {i : Int} {k : Int → Prop} : intK (.int i) k = k i := by simp [intK]
theorem aRng1_eq {t : AA} {Q : IA → AH → Prop} : aRng1 t δ A Q E = t δ A (fun ds A1 => oneK ds (fun d => intK d (fun j => -(2 ^ 62) ≤ j ∧ j < 2 ^ 62 ∧ Q (fun _ => True, rngL 0 j.toNat) A1))) E := by
  unfold aRng1
  congr 1
  funext ds A1
  apply propext
  constructor
  · rintro ⟨j, rfl, h⟩; exact ⟨_, rfl, j, rfl, h⟩
  · rintro ⟨_, rfl, j, rfl, h⟩; exact ⟨j, rfl, h⟩
theorem aRng2_eq {t : AA} {Q : IA → AH → Prop} : aRng2 t δ A Q E = t δ A (fun ds A1 => twoK ds (fun d e => intK d (fun i => intK e (fun j => (-(2 ^ 62) ≤ i ∧ i < 2 ^ 62 ∧ -(2 ^ 62) ≤ j ∧ j < 2 ^ 62) ∧ Q (fun _ => True, rngL i (j - i).toNat) A1)))) E := by
  unfold aRng2
  congr 1
  funext ds A1
  apply propext
  constructor
  · rintro ⟨i, j, rfl, h⟩; exact ⟨_, _, rfl, i, rfl, j, rfl, h⟩
  · rintro ⟨_, _, rfl, i, rfl, j, rfl, h⟩; exact ⟨i, j, rfl, h⟩
theorem aEnum_eq {t : AA} {Q : IA → AH → Prop} : aEnum t δ A Q E = t δ A (fun ds A1 => oneK ds (fun d => oK (asL A1 d) (fun xs => Q (fun A => asL A d = some xs, enumL xs) A1) ⟨⟩)) E := by
  unfold aEnum
  congr 1
  funext ds A1
  apply propext
  constructor
  · rintro ⟨d, xs, rfl, e, h⟩; exact ⟨_, rfl, xs, e, h⟩
  · rintro ⟨d, rfl, xs, e, h⟩; exact ⟨d, xs, rfl, e, h⟩
theorem aZip_eq {t : AA} {Q : IA → AH → Prop} : aZip t δ A Q E = t δ A (fun ds A1 => twoK ds (fun d e => oK (asL A1 d) (fun xs => oK (asL A1 e) (fun ys => Q (fun A => asL A d = some xs ∧ asL A e = some ys, zipL xs ys) A1) ⟨⟩) ⟨⟩)) E := by
  unfold aZip
  congr 1
  funext ds A1
  apply propext
  constructor
  · rintro ⟨d, e, xs, ys, rfl, e1, e2, h⟩; exact ⟨_, _, rfl, xs, e1, ys, e2, h⟩
  · rintro ⟨d, e, rfl, xs, e1, ys, e2, h⟩; exact ⟨d, e, xs, ys, rfl, e1, e2, h⟩
theorem aZipA_eq {t : AA} {Q : IA → AH → Prop} : aZipA t δ A Q E = t δ A (fun ds A1 => twoK ds (fun d e => zipK A1 d e (fun i => Q i A1))) E := rfl
theorem zipK_l {xs ys : List D} {k : IA → Prop} : zipK A (.lst xs) (.lst ys) k = k (fun A => asL A (.lst xs) = some xs ∧ asL A (.lst ys) = some ys, zipL xs ys) := by
  apply propext
  constructor
  · rintro (⟨_, _, h1, h2, h3⟩ | ⟨_, _, h1, _⟩)
    · cases h1; cases h2; exact h3
    · cases h1
  · intro h; exact .inl ⟨_, _, rfl, rfl, h⟩
theorem zipK_xt {xs ys : List D} {k : IA → Prop} : zipK A (.tux xs) (.tup ys) k = k (fun _ => True, zipL xs ys) := by
  apply propext
  constructor
  · rintro (⟨_, _, h1, h2, h3⟩ | ⟨_, _, h1, h2, h3⟩)
    · cases h1
    · cases h1; cases h2; exact h3
  · intro h; exact .inr ⟨_, _, rfl, rfl, h⟩
theorem zipK_tx {xs ys : List D} {k : IA → Prop} : zipK A (.tup xs) (.tux ys) k = k (fun _ => True, zipL xs ys) := by
  apply propext
  constructor
  · rintro (⟨_, _, h1, h2, h3⟩ | ⟨_, _, h1, h2, h3⟩)
    · cases h1
    · cases h1; cases h2; exact h3
  · intro h; exact .inr ⟨_, _, rfl, rfl, h⟩
theorem zipK_xx {xs ys : List D} {k : IA → Prop} : zipK A (.tux xs) (.tux ys) k = k (fun _ => True, zipL xs ys) := by
  apply propext
  constructor
  · rintro (⟨_, _, h1, h2, h3⟩ | ⟨_, _, h1, h2, h3⟩)
    · cases h1
    · cases h1; cases h2; exact h3
  · intro h; exact .inr ⟨_, _, rfl, rfl, h⟩
theorem zipK_t {xs ys : List D} {k : IA → Prop} : zipK A (.tup xs) (.tup ys) k = k (fun _ => True, zipL xs ys) := by
  apply propext
  constructor
  · rintro (⟨_, _, h1, h2, h3⟩ | ⟨_, _, h1, h2, h3⟩)
    · cases h1
    · cases h1; cases h2; exact h3
  · intro h; exact .inr ⟨_, _, rfl, rfl, h⟩
def strK (d : D) (k : Str → Prop) : Prop := ∃ i, d = .str i ∧ k i
theorem strK_str {i : Str} {k : Str → Prop} : strK (.str i) k = k i := by simp [strK]
theorem aItS_eq {te : AE} {Q : IA → AH → Prop} : aItS te δ A Q E = te δ A (fun d A1 => strK d (fun x => Q (fun _ => True, chL x) A1)) E := rfl
theorem aLc_eq {live : Bool} {ti : AI} {p : Pat} {tt : AT} {te : AE} {vs : List Nat} : aLc live ti p tt te vs δ A Q E = ti δ A (fun i A1 => LoopC i.1 p tt te (wipeA δ vs) i.2 [] A1 (fun xs A2 => aNew live (.lst xs) A2 Q) ⟨⟩) E := rfl
theorem aTry_eq {K : PySem.W.Frag} {tb : AS} {l : List ACl} : aTry K tb l N δ A = tb { N with ex := fun C fs δ A => aHandle K N l C fs δ A } δ A := rfl
theorem aFldX_eq {a dd C CC : Addr} {fl : Str} {te : AE} : aFldX a dd C CC fl te δ A Q E = te δ A (fun x A1 => ∃ v, x = .exc a dd C [(fl, v)] ∧ C = CC ∧ Q v A1) E := rfl
theorem gI_eq {c : Int → Int → Prop} {g : Int → Int → D} {i j : Int} : gI c g (.int i) (.int j) A Q E = (c i j ∧ Q (g i j) A) := by simp [gI]
theorem gI0_eq {g : Int → Int → D} {i j : Int} : gI0 g (.int i) (.int j) A Q E = (Q (g i j) A) := by simp [gI0]
theorem gAdd_i {l : Bool} {i j : Int} : gAdd l (.int i) (.int j) A Q E = Q (.int (i + j)) A := by apply propext; simp [gAdd, gOr, gI0, gCatS, gCatL, gCatT, asX, oK, lstO]
theorem gAdd_s {l : Bool} {i j : Str} : gAdd l (.str i) (.str j) A Q E = (i.length + j.length ≤ sizeLine ∧ Q (.str (i ++ j)) A) := by apply propext; simp [gAdd, gOr, gI0, gCatS, gCatL, gCatT, asX, oK, lstO]
theorem gAdd_t {l : Bool} {i j : List D} : gAdd l (.tup i) (.tup j) A Q E = (i.length + j.length ≤ sizeLine ∧ Q (.tup (i ++ j)) A) := by apply propext; simp [gAdd, gOr, gI0, gCatS, gCatL, gCatT, asX, oK, lstO]
theorem gAdd_l {l : Bool} {i j : List D} : gAdd l (.lst i) (.lst j) A Q E = (i.length + j.length ≤ sizeLine ∧ aNew l (.lst (i ++ j)) A Q) := by apply propext; simp [gAdd, gOr, gI0, gCatS, gCatL, gCatT, asX, oK, lstO]
theorem gAdd_rl {l : Bool} {a : Addr} {j : List D} : gAdd l (.ref a) (.lst j) A Q E = oK (lstO (A a)) (fun i => i.length + j.length ≤ sizeLine ∧ aNew l (.lst (i ++ j)) A Q) ⟨⟩ := by
  apply propext
  simp only [gAdd, gOr, gI0, gCatS, gCatL, gCatT, asX_ref, asX_lst, oK, reduceCtorEq, false_and, exists_false, exists_const, false_or, or_false, Option.some.injEq, exists_and_left, exists_eq_left']
theorem gAdd_lr {l : Bool} {a : Addr} {i : List D} : gAdd l (.lst i) (.ref a) A Q E = oK (lstO (A a)) (fun j => i.length + j.length ≤ sizeLine ∧ aNew l (.lst (i ++ j)) A Q) ⟨⟩ := by
  apply propext
  simp only [gAdd, gOr, gI0, gCatS, gCatL, gCatT, asX_ref, asX_lst, oK, reduceCtorEq, false_and, exists_false, exists_const, false_or, or_false, Option.some.injEq, exists_and_left, exists_eq_left']
theorem gAdd_rr {l : Bool} {a b : Addr} : gAdd l (.ref a) (.ref b) A Q E = oK (lstO (A a)) (fun i => oK (lstO (A b)) (fun j => i.length + j.length ≤ sizeLine ∧ aNew l (.lst (i ++ j)) A Q) ⟨⟩) ⟨⟩ := by
  apply propext
  simp only [gAdd, gOr, gI0, gCatS, gCatL, gCatT, asX_ref, asX_lst, oK, reduceCtorEq, false_and, exists_false, exists_const, false_or, or_false, Option.some.injEq, exists_and_left, exists_eq_left']
theorem gMul_i {l : Bool} {i j : Int} : gMul l (.int i) (.int j) A Q E = (CMulW i j ∧ Q (.int (i * j)) A) := by apply propext; simp [gMul, gOr, gI, gRep, asX]
theorem gMul_l {l : Bool} {xs : List D} {j : Int} : gMul l (.lst xs) (.int j) A Q E = (-(2 ^ 63) ≤ j ∧ j < 2 ^ 63 ∧ xs.length * j.toNat ≤ sizeLine ∧ aNew l (.lst (List.replicate j.toNat xs).flatten) A Q) := by
  apply propext
  simp only [gMul, gOr, gI, gRep, asX_lst, reduceCtorEq, false_and, exists_false, exists_const, false_or, Option.some.injEq, D.int.injEq, exists_and_left, exists_eq_left']
theorem gNeg_eq {i : Int} : gNeg (.int i) A Q E = Q (.int (-i)) A := by simp [gNeg]
theorem gLt_i {i j : Int} : gLt (.int i) (.int j) A Q E = Q (.bl (decide (i < j))) A := by simp [gLt, gOr, gI0, gS]
theorem gLt_s {x y : Str} : gLt (.str x) (.str y) A Q E = Q (.bl (decide (x.cps.toList < y.cps.toList))) A := by simp [gLt, gOr, gI0, gS]
theorem gLe_i {i j : Int} : gLe (.int i) (.int j) A Q E = Q (.bl (decide (i ≤ j))) A := by simp [gLe, gOr, gI0, gS]
theorem gLe_s {x y : Str} : gLe (.str x) (.str y) A Q E = Q (.bl (!decide (y.cps.toList < x.cps.toList))) A := by simp [gLe, gOr, gI0, gS]
theorem gGt_i {i j : Int} : gGt (.int i) (.int j) A Q E = Q (.bl (decide (j < i))) A := by simp [gGt, gOr, gI0, gS]
theorem gGt_s {x y : Str} : gGt (.str x) (.str y) A Q E = Q (.bl (decide (y.cps.toList < x.cps.toList))) A := by simp [gGt, gOr, gI0, gS]
theorem gGe_i {i j : Int} : gGe (.int i) (.int j) A Q E = Q (.bl (decide (j ≤ i))) A := by simp [gGe, gOr, gI0, gS]
theorem gGe_s {x y : Str} : gGe (.str x) (.str y) A Q E = Q (.bl (!decide (x.cps.toList < y.cps.toList))) A := by simp [gGe, gOr, gI0, gS]
theorem gIs_f {x : D} : gIs false x .non A Q E = Q (.bl (isNoD x)) A := by simp [gIs]
theorem gIs_t {x : D} : gIs true x .non A Q E = Q (.bl (!isNoD x)) A := by simp [gIs]
theorem gEq_fii {i j : Int} : gEq false (.int i) (.int j) A Q E = Q (.bl (decide (i = j))) A := by simp [gEq, scD, scal]
theorem gEq_fss {i j : Str} : gEq false (.str i) (.str j) A Q E = Q (.bl (decide (i = j))) A := by simp [gEq, scD, scal]
theorem gEq_fbb {i j : Bool} : gEq false (.bl i) (.bl j) A Q E = Q (.bl (decide (i = j))) A := by simp [gEq, scD, scal]
theorem gEq_fnn  : gEq false .non .non A Q E = Q (.bl true) A := by simp [gEq, scD, scal]
theorem gEq_fns {j : Str} : gEq false .non (.str j) A Q E = Q (.bl false) A := by simp [gEq, scD, scal]
theorem gEq_fsn {j : Str} : gEq false (.str j) .non A Q E = Q (.bl false) A := by simp [gEq, scD, scal]
theorem gEq_fni {j : Int} : gEq false .non (.int j) A Q E = Q (.bl false) A := by simp [gEq, scD, scal]
theorem gEq_fin {j : Int} : gEq false (.int j) .non A Q E = Q (.bl false) A := by simp [gEq, scD, scal]
theorem gEq_fis {i : Int} {j : Str} : gEq false (.int i) (.str j) A Q E = Q (.bl false) A := by simp [gEq, scD, scal]
theorem gEq_fsi {i : Str} {j : Int} : gEq false (.str i) (.int j) A Q E = Q (.bl false) A := by simp [gEq, scD, scal]
theorem gEq_flstlst {xs : List D} {ys : List D} : gEq false (.lst xs) (.lst ys) A Q E = oK (topP A (.lst xs)) (fun d => oK (topP A (.lst ys)) (fun e => d.depth ≤ 64 ∧ e.depth ≤ 64 ∧ Q (.bl (PyData.eqv d e)) A) ⟨⟩) ⟨⟩ := by
  apply propext
  simp only [gEq, scD, gEqP, oK]
  constructor
  · rintro ⟨d, e, h1, h2, h3, h4, h5⟩; exact ⟨d, h1, e, h2, h3, h4, h5⟩
  · rintro ⟨d, h1, e, h2, h3, h4, h5⟩; exact ⟨d, e, h1, h2, h3, h4, h5⟩
theorem gEq_flsttup {xs : List D} {ys : List D} : gEq false (.lst xs) (.tup ys) A Q E = oK (topP A (.lst xs)) (fun d => oK (topP A (.tup ys)) (fun e => d.depth ≤ 64 ∧ e.depth ≤ 64 ∧ Q (.bl (PyData.eqv d e)) A) ⟨⟩) ⟨⟩ := by
  apply propext
  simp only [gEq, scD, gEqP, oK]
  constructor
  · rintro ⟨d, e, h1, h2, h3, h4, h5⟩; exact ⟨d, h1, e, h2, h3, h4, h5⟩
  · rintro ⟨d, h1, e, h2, h3, h4, h5⟩; exact ⟨d, e, h1, h2, h3, h4, h5⟩
theorem gEq_flstref {xs : List D} {b : Addr} : gEq false (.lst xs) (.ref b) A Q E = oK (topP A (.lst xs)) (fun d => oK (topP A (.ref b)) (fun e => d.depth ≤ 64 ∧ e.depth ≤ 64 ∧ Q (.bl (PyData.eqv d e)) A) ⟨⟩) ⟨⟩ := by
  apply propext
  simp only [gEq, scD, gEqP, oK]
  constructor
  · rintro ⟨d, e, h1, h2, h3, h4, h5⟩; exact ⟨d, h1, e, h2, h3, h4, h5⟩
  · rintro ⟨d, h1, e, h2, h3, h4, h5⟩; exact ⟨d, e, h1, h2, h3, h4, h5⟩
theorem gEq_ftuplst {xs : List D} {ys : List D} : gEq false (.tup xs) (.lst ys) A Q E = oK (topP A (.tup xs)) (fun d => oK (topP A (.lst ys)) (fun e => d.depth ≤ 64 ∧ e.depth ≤ 64 ∧ Q (.bl (PyData.eqv d e)) A) ⟨⟩) ⟨⟩ := by
  apply propext
  simp only [gEq, scD, gEqP, oK]
  constructor
  · rintro ⟨d, e, h1, h2, h3, h4, h5⟩; exact ⟨d, h1, e, h2, h3, h4, h5⟩
  · rintro ⟨d, h1, e, h2, h3, h4, h5⟩; exact ⟨d, e, h1, h2, h3, h4, h5⟩
theorem gEq_ftuptup {xs : List D} {ys : List D} : gEq false (.tup xs) (.tup ys) A Q E = oK (topP A (.tup xs)) (fun d => oK (topP A (.tup ys)) (fun e => d.depth ≤ 64 ∧ e.depth ≤ 64 ∧ Q (.bl (PyData.eqv d e)) A) ⟨⟩) ⟨⟩ := by
  apply propext
  simp only [gEq, scD, gEqP, oK]
  constructor
  · rintro ⟨d, e, h1, h2, h3, h4, h5⟩; exact ⟨d, h1, e, h2, h3, h4, h5⟩
  · rintro ⟨d, h1, e, h2, h3, h4, h5⟩; exact ⟨d, e, h1, h2, h3, h4, h5⟩
theorem gEq_ftupref {xs : List D} {b : Addr} : gEq false (.tup xs) (.ref b) A Q E = oK (topP A (.tup xs)) (fun d => oK (topP A (.ref b)) (fun e => d.depth ≤ 64 ∧ e.depth ≤ 64 ∧ Q (.bl (PyData.eqv d e)) A) ⟨⟩) ⟨⟩ := by
  apply propext
  simp only [gEq, scD, gEqP, oK]
  constructor
  · rintro ⟨d, e, h1, h2, h3, h4, h5⟩; exact ⟨d, h1, e, h2, h3, h4, h5⟩
  · rintro ⟨d, h1, e, h2, h3, h4, h5⟩; exact ⟨d, e, h1, h2, h3, h4, h5⟩
theorem gEq_freflst {a : Addr} {ys : List D} : gEq false (.ref a) (.lst ys) A Q E = oK (topP A (.ref a)) (fun d => oK (topP A (.lst ys)) (fun e => d.depth ≤ 64 ∧ e.depth ≤ 64 ∧ Q (.bl (PyData.eqv d e)) A) ⟨⟩) ⟨⟩ := by
  apply propext
  simp only [gEq, scD, gEqP, oK]
  constructor
  · rintro ⟨d, e, h1, h2, h3, h4, h5⟩; exact ⟨d, h1, e, h2, h3, h4, h5⟩
  · rintro ⟨d, h1, e, h2, h3, h4, h5⟩; exact ⟨d, e, h1, h2, h3, h4, h5⟩
theorem gEq_freftup {a : Addr} {ys : List D} : gEq false (.ref a) (.tup ys) A Q E = oK (topP A (.ref a)) (fun d => oK (topP A (.tup ys)) (fun e => d.depth ≤ 64 ∧ e.depth ≤ 64 ∧ Q (.bl (PyData.eqv d e)) A) ⟨⟩) ⟨⟩ := by
  apply propext
  simp only [gEq, scD, gEqP, oK]
  constructor
  · rintro ⟨d, e, h1, h2, h3, h4, h5⟩; exact ⟨d, h1, e, h2, h3, h4, h5⟩
  · rintro ⟨d, h1, e, h2, h3, h4, h5⟩; exact ⟨d, e, h1, h2, h3, h4, h5⟩
theorem gEq_frefref {a : Addr} {b : Addr} : gEq false (.ref a) (.ref b) A Q E = oK (topP A (.ref a)) (fun d => oK (topP A (.ref b)) (fun e => d.depth ≤ 64 ∧ e.depth ≤ 64 ∧ Q (.bl (PyData.eqv d e)) A) ⟨⟩) ⟨⟩ := by
  apply propext
  simp only [gEq, scD, gEqP, oK]
  constructor
  · rintro ⟨d, e, h1, h2, h3, h4, h5⟩; exact ⟨d, h1, e, h2, h3, h4, h5⟩
  · rintro ⟨d, h1, e, h2, h3, h4, h5⟩; exact ⟨d, e, h1, h2, h3, h4, h5⟩
theorem gIn_flst {x : D} {xs : List D} : gOr (gInQ false) (gInS false) x (.lst xs) A Q E = oK (scD x) (fun v => oK (scDs xs) (fun vs => Q (.bl (inV v vs)) A) ⟨⟩) ⟨⟩ := by
  apply propext
  unfold gOr gInQ gInS oK
  constructor
  · rintro (⟨xs', v, vs, h0, h1, h2, h3⟩ | ⟨c, z, h0, h1, h2⟩)
    · cases h0; exact ⟨v, h1, vs, h2, by simpa using h3⟩
    · cases h1
  · rintro ⟨v, h1, vs, h2, h3⟩; exact .inl ⟨xs, v, vs, rfl, h1, h2, by simpa using h3⟩
theorem gIn_ftup {x : D} {xs : List D} : gOr (gInQ false) (gInS false) x (.tup xs) A Q E = oK (scD x) (fun v => oK (scDs xs) (fun vs => Q (.bl (inV v vs)) A) ⟨⟩) ⟨⟩ := by
  apply propext
  unfold gOr gInQ gInS oK
  constructor
  · rintro (⟨xs', v, vs, h0, h1, h2, h3⟩ | ⟨c, z, h0, h1, h2⟩)
    · cases h0; exact ⟨v, h1, vs, h2, by simpa using h3⟩
    · cases h1
  · rintro ⟨v, h1, vs, h2, h3⟩; exact .inl ⟨xs, v, vs, rfl, h1, h2, by simpa using h3⟩
theorem gIn_fref {x : D} {a : Addr} : gOr (gInQ false) (gInS false) x (.ref a) A Q E = oK (lstO (A a)) (fun xs => oK (scD x) (fun v => oK (scDs xs) (fun vs => Q (.bl (inV v vs)) A) ⟨⟩) ⟨⟩) ⟨⟩ := by
  apply propext
  unfold gOr gInQ gInS oK
  constructor
  · rintro (⟨xs', v, vs, h0, h1, h2, h3⟩ | ⟨c, z, h0, h1, h2⟩)
    · rw [asQ_ref] at h0; exact ⟨xs', h0, v, h1, vs, h2, by simpa using h3⟩
    · cases h1
  · rintro ⟨xs, h0, v, h1, vs, h2, h3⟩; exact .inl ⟨xs, v, vs, by rw [asQ_ref]; exact h0, h1, h2, by simpa using h3⟩
theorem gIn_fstr {x : D} {z : Str} : gOr (gInQ false) (gInS false) x (.str z) A Q E = oK (ch1 x) (fun c => Q (.bl (decide (c ∈ z.cps.toList))) A) ⟨⟩ := by
  apply propext
  unfold gOr gInQ gInS oK
  constructor
  · rintro (⟨xs', v, vs, h0, h1, h2, h3⟩ | ⟨c, z', h0, h1, h2⟩)
    · cases h0
    · subst h0; cases h1; exact ⟨c, rfl, by simpa using h2⟩
  · rintro ⟨c, h0, h2⟩; exact .inr ⟨c, z, ch1_some h0, rfl, by simpa using h2⟩
theorem aInT_f {ta : AE} {t : AA} : aInT false ta t δ A Q E = ta δ A (fun x A1 => t δ A1 (fun xs A2 => xs.length ≤ sizeLine ∧ oK (scD x) (fun v => oK (scDs xs) (fun vs => Q (.bl (inV v vs)) A2) ⟨⟩) ⟨⟩) E) E := by
  unfold aInT
  congr 1
  funext x A1
  congr 1
  funext xs A2
  apply propext
  constructor
  · rintro ⟨v, vs, h0, h1, h2, h3⟩; exact ⟨h0, v, h1, vs, h2, by simpa using h3⟩
  · rintro ⟨h0, v, h1, vs, h2, h3⟩; exact ⟨v, vs, h0, h1, h2, by simpa using h3⟩
theorem gDIn_f {x y : D} : gDIn false x y A Q E = oK (asD A y) (fun kvs => oK (keyOf x) (fun _ => Q (.bl ((valD kvs x).isSome)) A) ⟨⟩) ⟨⟩ := by
  apply propext
  unfold gDIn oK
  constructor
  · rintro ⟨kvs, q, h1, h2, h3⟩; exact ⟨kvs, h1, q, h2, by simpa using h3⟩
  · rintro ⟨kvs, h1, q, h2, h3⟩; exact ⟨kvs, q, h1, h2, by simpa using h3⟩
theorem gInO_f {C : Addr} {asp : ASp} {x y : D} : gInO false C asp x y A Q E = oK (asO A y) (fun z => z.1 = C ∧ Call asp [y, x] A (fun r A' => blK r (fun b => Q (.bl (b)) A')) noX ⟨⟩) ⟨⟩ := by
  apply propext
  unfold gInO oK
  constructor
  · rintro ⟨fs, e1, h⟩; exact ⟨(C, fs), e1, rfl, h⟩
  · rintro ⟨⟨C', fs⟩, e1, rfl, h⟩; exact ⟨fs, e1, h⟩
theorem gEq_tii {i j : Int} : gEq true (.int i) (.int j) A Q E = Q (.bl (!decide (i = j))) A := by simp [gEq, scD, scal]
theorem gEq_tss {i j : Str} : gEq true (.str i) (.str j) A Q E = Q (.bl (!decide (i = j))) A := by simp [gEq, scD, scal]
theorem gEq_tbb {i j : Bool} : gEq true (.bl i) (.bl j) A Q E = Q (.bl (!decide (i = j))) A := by simp [gEq, scD, scal]
theorem gEq_tnn  : gEq true .non .non A Q E = Q (.bl false) A := by simp [gEq, scD, scal]
theorem gEq_tns {j : Str} : gEq true .non (.str j) A Q E = Q (.bl true) A := by simp [gEq, scD, scal]
theorem gEq_tsn {j : Str} : gEq true (.str j) .non A Q E = Q (.bl true) A := by simp [gEq, scD, scal]
theorem gEq_tni {j : Int} : gEq true .non (.int j) A Q E = Q (.bl true) A := by simp [gEq, scD, scal]
theorem gEq_tin {j : Int} : gEq true (.int j) .non A Q E = Q (.bl true) A := by simp [gEq, scD, scal]
theorem gEq_tis {i : Int} {j : Str} : gEq true (.int i) (.str j) A Q E = Q (.bl true) A := by simp [gEq, scD, scal]
theorem gEq_tsi {i : Str} {j : Int} : gEq true (.str i) (.int j) A Q E = Q (.bl true) A := by simp [gEq, scD, scal]
theorem gEq_tlstlst {xs : List D} {ys : List D} : gEq true (.lst xs) (.lst ys) A Q E = oK (topP A (.lst xs)) (fun d => oK (topP A (.lst ys)) (fun e => d.depth ≤ 64 ∧ e.depth ≤ 64 ∧ Q (.bl (!PyData.eqv d e)) A) ⟨⟩) ⟨⟩ := by
  apply propext
  simp only [gEq, scD, gEqP, oK]
  constructor
  · rintro ⟨d, e, h1, h2, h3, h4, h5⟩; exact ⟨d, h1, e, h2, h3, h4, h5⟩
  · rintro ⟨d, h1, e, h2, h3, h4, h5⟩; exact ⟨d, e, h1, h2, h3, h4, h5⟩
theorem gEq_tlsttup {xs : List D} {ys : List D} : gEq true (.lst xs) (.tup ys) A Q E = oK (topP A (.lst xs)) (fun d => oK (topP A (.tup ys)) (fun e => d.depth ≤ 64 ∧ e.depth ≤ 64 ∧ Q (.bl (!PyData.eqv d e)) A) ⟨⟩) ⟨⟩ := by
  apply propext
  simp only [gEq, scD, gEqP, oK]
  constructor
  · rintro ⟨d, e, h1, h2, h3, h4, h5⟩; exact ⟨d, h1, e, h2, h3, h4, h5⟩
  · rintro ⟨d, h1, e, h2, h3, h4, h5⟩; exact ⟨d, e, h1, h2, h3, h4, h5⟩
theorem gEq_tlstref {xs : List D} {b : Addr} : gEq true (.lst xs) (.ref b) A Q E = oK (topP A (.lst xs)) (fun d => oK (topP A (.ref b)) (fun e => d.depth ≤ 64 ∧ e.depth ≤ 64 ∧ Q (.bl (!PyData.eqv d e)) A) ⟨⟩) ⟨⟩ := by
  apply propext
  simp only [gEq, scD, gEqP, oK]
  constructor
  · rintro ⟨d, e, h1, h2, h3, h4, h5⟩; exact ⟨d, h1, e, h2, h3, h4, h5⟩
  · rintro ⟨d, h1, e, h2, h3, h4, h5⟩; exact ⟨d, e, h1, h2, h3, h4, h5⟩
theorem gEq_ttuplst {xs : List D} {ys : List D} : gEq true (.tup xs) (.lst ys) A Q E = oK (topP A (.tup xs)) (fun d => oK (topP A (.lst ys)) (fun e => d.depth ≤ 64 ∧ e.depth ≤ 64 ∧ Q (.bl (!PyData.eqv d e)) A) ⟨⟩) ⟨⟩ := by
  apply propext
  simp only [gEq, scD, gEqP, oK]
  constructor
  · rintro ⟨d, e, h1, h2, h3, h4, h5⟩; exact ⟨d, h1, e, h2, h3, h4, h5⟩
  · rintro ⟨d, h1, e, h2, h3, h4, h5⟩; exact ⟨d, e, h1, h2, h3, h4, h5⟩
theorem gEq_ttuptup {xs : List D} {ys : List D} : gEq true (.tup xs) (.tup ys) A Q E = oK (topP A (.tup xs)) (fun d => oK (topP A (.tup ys)) (fun e => d.depth ≤ 64 ∧ e.depth ≤ 64 ∧ Q (.bl (!PyData.eqv d e)) A) ⟨⟩) ⟨⟩ := by
  apply propext
  simp only [gEq, scD, gEqP, oK]
  constructor
  · rintro ⟨d, e, h1, h2, h3, h4, h5⟩; exact ⟨d, h1, e, h2, h3, h4, h5⟩
  · rintro ⟨d, h1, e, h2, h3, h4, h5⟩; exact ⟨d, e, h1, h2, h3, h4, h5⟩
theorem gEq_ttupref {xs : List D} {b : Addr} : gEq true (.tup xs) (.ref b) A Q E = oK (topP A (.tup xs)) (fun d => oK (topP A (.ref b)) (fun e => d.depth ≤ 64 ∧ e.depth ≤ 64 ∧ Q (.bl (!PyData.eqv d e)) A) ⟨⟩) ⟨⟩ := by
  apply propext
  simp only [gEq, scD, gEqP, oK]
  constructor
  · rintro ⟨d, e, h1, h2, h3, h4, h5⟩; exact ⟨d, h1, e, h2, h3, h4, h5⟩
  · rintro ⟨d, h1, e, h2, h3, h4, h5⟩; exact ⟨d, e, h1, h2, h3, h4, h5⟩
theorem gEq_treflst {a : Addr} {ys : List D} : gEq true (.ref a) (.lst ys) A Q E = oK (topP A (.ref a)) (fun d => oK (topP A (.lst ys)) (fun e => d.depth ≤ 64 ∧ e.depth ≤ 64 ∧ Q (.bl (!PyData.eqv d e)) A) ⟨⟩) ⟨⟩ := by
  apply propext
  simp only [gEq, scD, gEqP, oK]
  constructor
  · rintro ⟨d, e, h1, h2, h3, h4, h5⟩; exact ⟨d, h1, e, h2, h3, h4, h5⟩
  · rintro ⟨d, h1, e, h2, h3, h4, h5⟩; exact ⟨d, e, h1, h2, h3, h4, h5⟩
theorem gEq_treftup {a : Addr} {ys : List D} : gEq true (.ref a) (.tup ys) A Q E = oK (topP A (.ref a)) (fun d => oK (topP A (.tup ys)) (fun e => d.depth ≤ 64 ∧ e.depth ≤ 64 ∧ Q (.bl (!PyData.eqv d e)) A) ⟨⟩) ⟨⟩ := by
  apply propext
  simp only [gEq, scD, gEqP, oK]
  constructor
  · rintro ⟨d, e, h1, h2, h3, h4, h5⟩; exact ⟨d, h1, e, h2, h3, h4, h5⟩
  · rintro ⟨d, h1, e, h2, h3, h4, h5⟩; exact ⟨d, e, h1, h2, h3, h4, h5⟩
theorem gEq_trefref {a : Addr} {b : Addr} : gEq true (.ref a) (.ref b) A Q E = oK (topP A (.ref a)) (fun d => oK (topP A (.ref b)) (fun e => d.depth ≤ 64 ∧ e.depth ≤ 64 ∧ Q (.bl (!PyData.eqv d e)) A) ⟨⟩) ⟨⟩ := by
  apply propext
  simp only [gEq, scD, gEqP, oK]
  constructor
  · rintro ⟨d, e, h1, h2, h3, h4, h5⟩; exact ⟨d, h1, e, h2, h3, h4, h5⟩
  · rintro ⟨d, h1, e, h2, h3, h4, h5⟩; exact ⟨d, e, h1, h2, h3, h4, h5⟩
theorem gIn_tlst {x : D} {xs : List D} : gOr (gInQ true) (gInS true) x (.lst xs) A Q E = oK (scD x) (fun v => oK (scDs xs) (fun vs => Q (.bl (!inV v vs)) A) ⟨⟩) ⟨⟩ := by
  apply propext
  unfold gOr gInQ gInS oK
  constructor
  · rintro (⟨xs', v, vs, h0, h1, h2, h3⟩ | ⟨c, z, h0, h1, h2⟩)
    · cases h0; exact ⟨v, h1, vs, h2, by simpa using h3⟩
    · cases h1
  · rintro ⟨v, h1, vs, h2, h3⟩; exact .inl ⟨xs, v, vs, rfl, h1, h2, by simpa using h3⟩
theorem gIn_ttup {x : D} {xs : List D} : gOr (gInQ true) (gInS true) x (.tup xs) A Q E = oK (scD x) (fun v => oK (scDs xs) (fun vs => Q (.bl (!inV v vs)) A) ⟨⟩) ⟨⟩ := by
  apply propext
  unfold gOr gInQ gInS oK
  constructor
  · rintro (⟨xs', v, vs, h0, h1, h2, h3⟩ | ⟨c, z, h0, h1, h2⟩)
    · cases h0; exact ⟨v, h1, vs, h2, by simpa using h3⟩
    · cases h1
  · rintro ⟨v, h1, vs, h2, h3⟩; exact .inl ⟨xs, v, vs, rfl, h1, h2, by simpa using h3⟩
theorem gIn_tref {x : D} {a : Addr} : gOr (gInQ true) (gInS true) x (.ref a) A Q E = oK (lstO (A a)) (fun xs => oK (scD x) (fun v => oK (scDs xs) (fun vs => Q (.bl (!inV v vs)) A) ⟨⟩) ⟨⟩) ⟨⟩ := by
  apply propext
  unfold gOr gInQ gInS oK
  constructor
  · rintro (⟨xs', v, vs, h0, h1, h2, h3⟩ | ⟨c, z, h0, h1, h2⟩)
    · rw [asQ_ref] at h0; exact ⟨xs', h0, v, h1, vs, h2, by simpa using h3⟩
    · cases h1
  · rintro ⟨xs, h0, v, h1, vs, h2, h3⟩; exact .inl ⟨xs, v, vs, by rw [asQ_ref]; exact h0, h1, h2, by simpa using h3⟩
theorem gIn_tstr {x : D} {z : Str} : gOr (gInQ true) (gInS true) x (.str z) A Q E = oK (ch1 x) (fun c => Q (.bl (!decide (c ∈ z.cps.toList))) A) ⟨⟩ := by
  apply propext
  unfold gOr gInQ gInS oK
  constructor
  · rintro (⟨xs', v, vs, h0, h1, h2, h3⟩ | ⟨c, z', h0, h1, h2⟩)
    · cases h0
    · subst h0; cases h1; exact ⟨c, rfl, by simpa using h2⟩
  · rintro ⟨c, h0, h2⟩; exact .inr ⟨c, z, ch1_some h0, rfl, by simpa using h2⟩
theorem aInT_t {ta : AE} {t : AA} : aInT true ta t δ A Q E = ta δ A (fun x A1 => t δ A1 (fun xs A2 => xs.length ≤ sizeLine ∧ oK (scD x) (fun v => oK (scDs xs) (fun vs => Q (.bl (!inV v vs)) A2) ⟨⟩) ⟨⟩) E) E := by
  unfold aInT
  congr 1
  funext x A1
  congr 1
  funext xs A2
  apply propext
  constructor
  · rintro ⟨v, vs, h0, h1, h2, h3⟩; exact ⟨h0, v, h1, vs, h2, by simpa using h3⟩
  · rintro ⟨h0, v, h1, vs, h2, h3⟩; exact ⟨v, vs, h0, h1, h2, by simpa using h3⟩
theorem gDIn_t {x y : D} : gDIn true x y A Q E = oK (asD A y) (fun kvs => oK (keyOf x) (fun _ => Q (.bl (!(valD kvs x).isSome)) A) ⟨⟩) ⟨⟩ := by
  apply propext
  unfold gDIn oK
  constructor
  · rintro ⟨kvs, q, h1, h2, h3⟩; exact ⟨kvs, h1, q, h2, by simpa using h3⟩
  · rintro ⟨kvs, h1, q, h2, h3⟩; exact ⟨kvs, q, h1, h2, by simpa using h3⟩
theorem gInO_t {C : Addr} {asp : ASp} {x y : D} : gInO true C asp x y A Q E = oK (asO A y) (fun z => z.1 = C ∧ Call asp [y, x] A (fun r A' => blK r (fun b => Q (.bl (!b)) A')) noX ⟨⟩) ⟨⟩ := by
  apply propext
  unfold gInO oK
  constructor
  · rintro ⟨fs, e1, h⟩; exact ⟨(C, fs), e1, rfl, h⟩
  · rintro ⟨⟨C', fs⟩, e1, rfl, h⟩; exact ⟨fs, e1, h⟩
theorem gDGet_eq {x y : D} : gDGet x y A Q E = oK (asD A x) (fun kvs => oK (keyOf y) (fun _ => oK (valD kvs y) (fun v => Q v A) ⟨⟩) ⟨⟩) ⟨⟩ := by
  apply propext
  unfold gDGet oK
  constructor
  · rintro ⟨kvs, q, v, h1, h2, h3, h4⟩; exact ⟨kvs, h1, q, h2, v, h3, h4⟩
  · rintro ⟨kvs, h1, q, h2, v, h3, h4⟩; exact ⟨kvs, q, v, h1, h2, h3, h4⟩
theorem aDPut_eq {td ty tv : AE} : aDPut td ty tv N δ A = tv δ A (fun v A1 => td δ A1 (fun x A2 => ty δ A2 (fun y A3 => refK x (fun a => oK (dctO (A3 a)) (fun kvs => oK (keyOf y) (fun _ => kvs.length < sizeLine ∧ N.nx δ (put A3 a (.dct (putD kvs y v)))) ⟨⟩) ⟨⟩)) (fun C fs A1 => N.ex C fs δ A1)) (fun C fs A1 => N.ex C fs δ A1)) (fun C fs A1 => N.ex C fs δ A1) := by
  unfold aDPut
  congr 1
  funext v A1
  congr 1
  funext x A2
  congr 1
  funext y A3
  apply propext
  constructor
  · rintro ⟨a, kvs, q, rfl, h1, h2, h3⟩; exact ⟨a, rfl, kvs, by rw [h1]; rfl, q, h2, h3⟩
  · rintro ⟨a, rfl, kvs, h1, q, h2, h3⟩; exact ⟨a, kvs, q, rfl, dctO_some h1, h2, h3⟩
theorem aDGet2_eq {td ty tx : AE} : aDGet2 td ty tx δ A Q E = td δ A (fun x A1 => oK (asD A1 x) (fun _ => ty δ A1 (fun y A2 => tx δ A2 (fun z A3 => oK (asD A3 x) (fun kvs => oK (keyOf y) (fun _ => Q ((valD kvs y).getD z) A3) ⟨⟩) ⟨⟩) E) E) ⟨⟩) E := by
  unfold aDGet2
  congr 1
  funext x A1
  have e : ∀ (y : D), (fun z A3 => ∃ kvs q, asD A3 x = some kvs ∧ keyOf y = some q ∧ Q ((valD kvs y).getD z) A3) = (fun z A3 => oK (asD A3 x) (fun kvs => oK (keyOf y) (fun _ => Q ((valD kvs y).getD z) A3) ⟨⟩) ⟨⟩) := by
    intro y; funext z A3; apply propext; constructor
    · rintro ⟨kvs, q, h1, h2, h3⟩; exact ⟨kvs, h1, q, h2, h3⟩
    · rintro ⟨kvs, h1, q, h2, h3⟩; exact ⟨kvs, q, h1, h2, h3⟩
  simp only [e]
  apply propext
  constructor
  · rintro ⟨⟨kvs, h1⟩, h2⟩; exact ⟨kvs, h1, h2⟩
  · rintro ⟨kvs, h1, h2⟩; exact ⟨⟨kvs, h1⟩, h2⟩
theorem aDGet1_eq {td ty : AE} : aDGet1 td ty δ A Q E = td δ A (fun x A1 => oK (asD A1 x) (fun _ => ty δ A1 (fun y A3 => oK (asD A3 x) (fun kvs => oK (keyOf y) (fun _ => Q ((valD kvs y).getD .non) A3) ⟨⟩) ⟨⟩) E) ⟨⟩) E := by
  unfold aDGet1
  congr 1
  funext x A1
  have e : (fun y A3 => ∃ kvs q, asD A3 x = some kvs ∧ keyOf y = some q ∧ Q ((valD kvs y).getD .non) A3) = (fun y A3 => oK (asD A3 x) (fun kvs => oK (keyOf y) (fun _ => Q ((valD kvs y).getD .non) A3) ⟨⟩) ⟨⟩) := by
    funext y A3; apply propext; constructor
    · rintro ⟨kvs, q, h1, h2, h3⟩; exact ⟨kvs, h1, q, h2, h3⟩
    · rintro ⟨kvs, h1, q, h2, h3⟩; exact ⟨kvs, q, h1, h2, h3⟩
  simp only [e]
  apply propext
  constructor
  · rintro ⟨⟨kvs, h1⟩, h2⟩; exact ⟨kvs, h1, h2⟩
  · rintro ⟨kvs, h1, h2⟩; exact ⟨⟨kvs, h1⟩, h2⟩
theorem gSubs_lst {xs : List D} {i : Int} : gSubs (.lst xs) (.int i) A Q E = oK (atI xs i) (fun v => Q v A) ⟨⟩ := by
  apply propext
  unfold gSubs gOr gIx gIxS oK
  constructor
  · rintro (⟨xs', i', v, h0, h1, h2, h3⟩ | ⟨z, i', c, h0, h1, h2⟩)
    · cases h0; cases h1; exact ⟨v, h2, h3⟩
    · cases h0
  · rintro ⟨v, h2, h3⟩; exact .inl ⟨xs, i, v, rfl, rfl, h2, h3⟩
theorem gSubs_tup {xs : List D} {i : Int} : gSubs (.tup xs) (.int i) A Q E = oK (atI xs i) (fun v => Q v A) ⟨⟩ := by
  apply propext
  unfold gSubs gOr gIx gIxS oK
  constructor
  · rintro (⟨xs', i', v, h0, h1, h2, h3⟩ | ⟨z, i', c, h0, h1, h2⟩)
    · cases h0; cases h1; exact ⟨v, h2, h3⟩
    · cases h0
  · rintro ⟨v, h2, h3⟩; exact .inl ⟨xs, i, v, rfl, rfl, h2, h3⟩
theorem gSubs_rol {xs : List D} {i : Int} : gSubs (.rol xs) (.int i) A Q E = oK (atI xs i) (fun v => Q v A) ⟨⟩ := by
  apply propext
  unfold gSubs gOr gIx gIxS oK
  constructor
  · rintro (⟨xs', i', v, h0, h1, h2, h3⟩ | ⟨z, i', c, h0, h1, h2⟩)
    · cases h0; cases h1; exact ⟨v, h2, h3⟩
    · cases h0
  · rintro ⟨v, h2, h3⟩; exact .inl ⟨xs, i, v, rfl, rfl, h2, h3⟩
theorem gSubs_ref {a : Addr} {i : Int} : gSubs (.ref a) (.int i) A Q E = oK (lstO (A a)) (fun xs => oK (atI xs i) (fun v => Q v A) ⟨⟩) ⟨⟩ := by
  apply propext
  unfold gSubs gOr gIx gIxS oK
  constructor
  · rintro (⟨xs', i', v, h0, h1, h2, h3⟩ | ⟨z, i', c, h0, h1, h2⟩)
    · rw [asQ_ref] at h0; cases h1; exact ⟨xs', h0, v, h2, h3⟩
    · cases h0
  · rintro ⟨xs, h0, v, h2, h3⟩; exact .inl ⟨xs, i, v, by rw [asQ_ref]; exact h0, rfl, h2, h3⟩
theorem gSubs_str {z : Str} {i : Int} : gSubs (.str z) (.int i) A Q E = (z.length ≤ sizeLine ∧ oK (atI z.cps.toList i) (fun c => Q (.str ⟨#[c]⟩) A) ⟨⟩) := by
  apply propext
  unfold gSubs gOr gIx gIxS oK
  constructor
  · rintro (⟨xs', i', v, h0, h1, h2, h3⟩ | ⟨z', i', c, h0, h1, h2, h3, h4⟩)
    · cases h0
    · cases h0; cases h1; exact ⟨h2, c, h3, h4⟩
  · rintro ⟨h2, c, h3, h4⟩; exact .inr ⟨z, i, c, rfl, rfl, h2, h3, h4⟩
theorem gLen_lst {xs : List D} : gaOr gLenQ gLenS [.lst xs] A Q E = oK (asQ A (.lst xs)) (fun ys => Q (.int (ys.length : Int)) A) ⟨⟩ := by
  apply propext
  unfold gaOr gLenQ gLenS oK
  constructor
  · rintro (⟨d, ys, h0, h1, h2⟩ | ⟨z, h0, h1⟩)
    · cases h0; exact ⟨ys, h1, h2⟩
    · cases h0
  · rintro ⟨ys, h1, h2⟩; exact .inl ⟨_, ys, rfl, h1, h2⟩
theorem gLen_tup {xs : List D} : gaOr gLenQ gLenS [.tup xs] A Q E = oK (asQ A (.tup xs)) (fun ys => Q (.int (ys.length : Int)) A) ⟨⟩ := by
  apply propext
  unfold gaOr gLenQ gLenS oK
  constructor
  · rintro (⟨d, ys, h0, h1, h2⟩ | ⟨z, h0, h1⟩)
    · cases h0; exact ⟨ys, h1, h2⟩
    · cases h0
  · rintro ⟨ys, h1, h2⟩; exact .inl ⟨_, ys, rfl, h1, h2⟩
theorem gLen_rol {xs : List D} : gaOr gLenQ gLenS [.rol xs] A Q E = oK (asQ A (.rol xs)) (fun ys => Q (.int (ys.length : Int)) A) ⟨⟩ := by
  apply propext
  unfold gaOr gLenQ gLenS oK
  constructor
  · rintro (⟨d, ys, h0, h1, h2⟩ | ⟨z, h0, h1⟩)
    · cases h0; exact ⟨ys, h1, h2⟩
    · cases h0
  · rintro ⟨ys, h1, h2⟩; exact .inl ⟨_, ys, rfl, h1, h2⟩
theorem gLen_ref {xs : Addr} : gaOr gLenQ gLenS [.ref xs] A Q E = oK (asQ A (.ref xs)) (fun ys => Q (.int (ys.length : Int)) A) ⟨⟩ := by
  apply propext
  unfold gaOr gLenQ gLenS oK
  constructor
  · rintro (⟨d, ys, h0, h1, h2⟩ | ⟨z, h0, h1⟩)
    · cases h0; exact ⟨ys, h1, h2⟩
    · cases h0
  · rintro ⟨ys, h1, h2⟩; exact .inl ⟨_, ys, rfl, h1, h2⟩
theorem gLen_str {z : Str} : gaOr gLenQ gLenS [.str z] A Q E = (z.length ≤ sizeLine ∧ Q (.int (z.length : Int)) A) := by
  apply propext
  unfold gaOr gLenQ gLenS
  constructor
  · rintro (⟨d, ys, h0, h1, h2⟩ | ⟨z, h0, h1⟩)
    · cases h0; cases h1
    · cases h0; exact h1
  · intro h; exact .inr ⟨_, rfl, h⟩
theorem gList_eq {l : Bool} {d : D} : gList l [d] A Q E = oK (asQ A d) (fun ys => aNew l (.lst ys) A Q) ⟨⟩ := by
  apply propext
  unfold gList oK
  constructor
  · rintro ⟨d, ys, h0, h1, h2⟩; cases h0; exact ⟨ys, h1, h2⟩
  · rintro ⟨ys, h1, h2⟩; exact ⟨_, ys, rfl, h1, h2⟩
theorem gTuple_eq {d : D} : gTuple [d] A Q E = oK (asQt A d) (fun ys => Q (.tup ys) A) ⟨⟩ := by
  apply propext
  unfold gTuple oK
  constructor
  · rintro ⟨d, ys, h0, h1, h2⟩; cases h0; exact ⟨ys, h1, h2⟩
  · rintro ⟨ys, h1, h2⟩; exact ⟨_, ys, rfl, h1, h2⟩
theorem gInt_i {i : Int} : gInt [.int i] A Q E = Q (.int i) A := by simp [gInt]
theorem gInt_b {b : Bool} : gInt [.bl b] A Q E = Q (.int (if b then 1 else 0)) A := by simp [gInt]
theorem gAbs_eq {i : Int} : gAbs [.int i] A Q E = Q (.int (if i < 0 then -i else i)) A := by simp [gAbs]
theorem gMax_eq {i j : Int} : gMax [.int i, .int j] A Q E = Q (.int (if j > i then j else i)) A := by
  apply propext
  constructor
  · rintro ⟨i, j, e, h⟩; cases e; exact h
  · intro h; exact ⟨_, _, rfl, h⟩
theorem gMin_eq {i j : Int} : gMin [.int i, .int j] A Q E = Q (.int (if j < i then j else i)) A := by
  apply propext
  constructor
  · rintro ⟨i, j, e, h⟩; cases e; exact h
  · intro h; exact ⟨_, _, rfl, h⟩
theorem gStr_eq {i : Int} : gStr [.int i] A Q E = (i.natAbs.log2 < 1920 ∧ Q (.str (toString i)) A) := by simp [gStr]
theorem gBool_eq {b : Bool} : gBool [.bl b] A Q E = Q (.bl b) A := by simp [gBool]
theorem gAll_eq {d : D} : gAll [d] A Q E = oK (asX A d) (fun ys => oK (blsOf ys) (fun bs => Q (.bl (bs.all id)) A) ⟨⟩) ⟨⟩ := by
  apply propext
  unfold gAll oK
  constructor
  · rintro ⟨d, ys, bs, h0, h1, h2, h3⟩; cases h0; exact ⟨ys, h1, bs, h2, h3⟩
  · rintro ⟨ys, h1, bs, h2, h3⟩; exact ⟨_, ys, bs, rfl, h1, h2, h3⟩
theorem gAny_eq {d : D} : gAny [d] A Q E = oK (asX A d) (fun ys => oK (blsOf ys) (fun bs => Q (.bl (bs.any id)) A) ⟨⟩) ⟨⟩ := by
  apply propext
  unfold gAny oK
  constructor
  · rintro ⟨d, ys, bs, h0, h1, h2, h3⟩; cases h0; exact ⟨ys, h1, bs, h2, h3⟩
  · rintro ⟨ys, h1, bs, h2, h3⟩; exact ⟨_, ys, bs, rfl, h1, h2, h3⟩
theorem gIsi_eq {d : D} {n : String} : gIsi [d, .ty n] A Q E = (¬ kdD A d = "?" ∧ oK (kitB (kdD A d) n) (fun b => Q (.bl b) A) ⟨⟩) := by
  apply propext
  unfold gIsi oK
  constructor
  · rintro ⟨d, n, h0, h1, h2⟩; cases h0; exact ⟨h1, h2⟩
  · rintro ⟨h1, h2⟩; exact ⟨_, _, rfl, h1, h2⟩
theorem gIsi2_eq {d : D} {m n : String} : gIsi2 [d, .tup [.ty m, .ty n]] A Q E = (¬ kdD A d = "?" ∧ oK (kitB (kdD A d) m) (fun b => oK (kitB (kdD A d) n) (fun c => Q (.bl (b || c)) A) ⟨⟩) ⟨⟩) := by
  apply propext
  unfold gIsi2 oK
  constructor
  · rintro ⟨d, m, n, h0, h1, b, c, h2, h3, h4⟩; cases h0; exact ⟨h1, b, h2, c, h3, h4⟩
  · rintro ⟨h1, b, h2, c, h3, h4⟩; exact ⟨_, _, _, rfl, h1, b, c, h2, h3, h4⟩
theorem aBM_eq {g : GM} {to : AE} {t : AA} : aBM g to t δ A Q E = to δ A (fun x A1 => refK x (fun l => oK (lstO (A1 l)) (fun _ => t δ A1 (fun ds A2 => g l ds A2 Q E) E) ⟨⟩)) E := by
  unfold aBM
  congr 1
  funext x A1
  apply propext
  constructor
  · rintro ⟨l, rfl, ⟨ys, h1⟩, h2⟩; exact ⟨l, rfl, ys, by rw [h1]; rfl, h2⟩
  · rintro ⟨l, rfl, ys, h1, h2⟩; exact ⟨l, rfl, ⟨ys, lstO_some h1⟩, h2⟩
theorem gmAppend_eq {l : Addr} {y : D} : gmAppend l [y] A Q E = oK (lstO (A l)) (fun ys => ys.length < sizeLine ∧ Q .non (put A l (.lst (ys ++ [y])))) ⟨⟩ := by
  apply propext
  unfold gmAppend oK
  constructor
  · rintro ⟨y, ys, h0, h1, h2⟩; cases h0; exact ⟨ys, by rw [h1]; rfl, h2⟩
  · rintro ⟨ys, h1, h2⟩; exact ⟨_, ys, rfl, lstO_some h1, h2⟩
theorem gmPop_eq {l : Addr} : gmPop l [] A Q E = oK (lstO (A l)) (fun ys => oK ys[ys.length - 1]? (fun y => Q y (put A l (.lst ys.dropLast))) ⟨⟩) ⟨⟩ := by
  apply propext
  unfold gmPop oK
  constructor
  · rintro ⟨ys, y, h0, h1, h2, h3⟩; exact ⟨ys, by rw [h1]; rfl, y, h2, h3⟩
  · rintro ⟨ys, h1, y, h2, h3⟩; exact ⟨ys, y, rfl, lstO_some h1, h2, h3⟩
theorem gmPopAt_eq {l : Addr} {i : Int} : gmPopAt l [.int i] A Q E = oK (lstO (A l)) (fun ys => -(2 ^ 63) ≤ i ∧ i < 2 ^ 63 ∧ oK (seqIndex? i ys.length) (fun j => oK ys[j]? (fun y => Q y (put A l (.lst (ys.eraseIdx j)))) ⟨⟩) ⟨⟩) ⟨⟩ := by
  apply propext
  unfold gmPopAt oK
  constructor
  · rintro ⟨i, ys, j, y, h0, h1, h2, h3, h4, h5, h6⟩; cases h0; exact ⟨ys, by rw [h1]; rfl, h2, h3, j, h4, y, h5, h6⟩
  · rintro ⟨ys, h1, h2, h3, j, h4, y, h5, h6⟩; exact ⟨_, ys, j, y, rfl, lstO_some h1, h2, h3, h4, h5, h6⟩
theorem gmExtT_eq {l : Addr} {zs : List D} : gmExtT l [.tup zs] A Q E = oK (lstO (A l)) (fun ys => ys.length + zs.length ≤ sizeLine ∧ Q .non (put A l (.lst (ys ++ zs)))) ⟨⟩ := by
  apply propext
  unfold gmExtT oK
  constructor
  · rintro ⟨zs, ys, h0, h1, h2⟩; cases h0; exact ⟨ys, by rw [h1]; rfl, h2⟩
  · rintro ⟨ys, h1, h2⟩; exact ⟨_, ys, rfl, lstO_some h1, h2⟩
theorem aNoPart_eq {Q : Option Int → AH → Prop} : aNoPart δ A Q E = Q none A := rfl
theorem aPart_eq {te : AE} {Q : Option Int → AH → Prop} : aPart te δ A Q E = te δ A (fun d A1 => intK d (fun i => Q (some i) A1)) E := rfl
theorem aSl_eq {g : D → Option Int → Option Int → AK D} {te : AE} {tl th : APt} : aSl g te tl th δ A Q E = te δ A (fun x A1 => tl δ A1 (fun l A2 => th δ A2 (fun u A3 => g x l u A3 Q E) E) E) E := rfl
theorem gSl_lst {l : Bool} {xs : List D} {lo hi : Option Int} : gSl l (.lst xs) lo hi A Q E = aNew l (.lst (cutD xs lo hi)) A Q := by
  apply propext
  unfold gSl gSlL gSlS gSlT
  constructor
  · rintro (⟨xs', h0, h1⟩ | ⟨z, h0, h1⟩ | ⟨xs', h0, h1⟩)
    · cases h0; exact h1
    · cases h0
    · cases h0
  · intro h; exact .inl ⟨xs, rfl, h⟩
theorem gSl_rol {l : Bool} {xs : List D} {lo hi : Option Int} : gSl l (.rol xs) lo hi A Q E = aNew l (.lst (cutD xs lo hi)) A Q := by
  apply propext
  unfold gSl gSlL gSlS gSlT
  constructor
  · rintro (⟨xs', h0, h1⟩ | ⟨z, h0, h1⟩ | ⟨xs', h0, h1⟩)
    · cases h0; exact h1
    · cases h0
    · cases h0
  · intro h; exact .inl ⟨xs, rfl, h⟩
theorem gSl_tup {l : Bool} {xs : List D} {lo hi : Option Int} : gSl l (.tup xs) lo hi A Q E = Q (.tup (cutD xs lo hi)) A := by
  apply propext
  unfold gSl gSlL gSlS gSlT
  constructor
  · rintro (⟨xs', h0, h1⟩ | ⟨z, h0, h1⟩ | ⟨xs', h0, h1⟩)
    · cases h0
    · cases h0
    · cases h0; exact h1
  · intro h; exact .inr (.inr ⟨xs, rfl, h⟩)
theorem gSl_str {l : Bool} {xs : Str} {lo hi : Option Int} : gSl l (.str xs) lo hi A Q E = (xs.length ≤ sizeLine ∧ Q (.str (cutS xs lo hi)) A) := by
  apply propext
  unfold gSl gSlL gSlS gSlT
  constructor
  · rintro (⟨xs', h0, h1⟩ | ⟨z, h0, h1⟩ | ⟨xs', h0, h1⟩)
    · cases h0
    · cases h0; exact h1
    · cases h0
  · intro h; exact .inr (.inl ⟨xs, rfl, h⟩)
theorem gSl_ref {l : Bool} {a : Addr} {lo hi : Option Int} : gSl l (.ref a) lo hi A Q E = oK (lstO (A a)) (fun xs => aNew l (.lst (cutD xs lo hi)) A Q) ⟨⟩ := by
  apply propext
  unfold gSl gSlL gSlS gSlT oK
  constructor
  · rintro (⟨xs', h0, h1⟩ | ⟨z, h0, h1⟩ | ⟨xs', h0, h1⟩)
    · rw [asL_ref] at h0; exact ⟨xs', h0, h1⟩
    · cases h0
    · cases h0
  · rintro ⟨xs, h0, h⟩; exact .inl ⟨xs, by rw [asL_ref]; exact h0, h⟩
theorem aSetIx_eq {to ti te : AE} : aSetIx to ti te N δ A = te δ A (fun v A1 => to δ A1 (fun x A2 => ti δ A2 (fun y A3 => refK x (fun l => intK y (fun i => oK (lstO (A3 l)) (fun xs => oK (ixN xs.length i) (fun j => N.nx δ (put A3 l (.lst (xs.set j v)))) ⟨⟩) ⟨⟩))) (fun C fs A1 => N.ex C fs δ A1)) (fun C fs A1 => N.ex C fs δ A1)) (fun C fs A1 => N.ex C fs δ A1) := by
  unfold aSetIx
  congr 1
  funext v A1
  congr 1
  funext x A2
  congr 1
  funext y A3
  apply propext
  constructor
  · rintro ⟨l, i, xs, j, rfl, rfl, h1, h2, h3⟩; exact ⟨l, rfl, i, rfl, xs, by rw [h1]; rfl, j, h2, h3⟩
  · rintro ⟨l, rfl, i, rfl, xs, h1, j, h2, h3⟩; exact ⟨l, i, xs, j, rfl, rfl, lstO_some h1, h2, h3⟩
theorem agNm_eq {i : Nat} {d : D} {Q : ASt → AH → Prop} : agNm i d δ A Q E = Q (δ.set i (some d)) A := rfl
theorem agNil_eq {Q : ASt → AH → Prop} : agNil [] δ A Q E = Q δ A := by simp [agNil]
theorem agCons_eq {g : AG} {u : AGs} {d : D} {ds : List D} {Q : ASt → AH → Prop} : agCons g u (d :: ds) δ A Q E = g d δ A (fun δ1 A1 => u ds δ1 A1 Q E) E := by
  apply propext
  constructor
  · rintro ⟨d, r, e, h⟩; cases e; exact h
  · intro h; exact ⟨_, _, rfl, h⟩
theorem agTp_eq {n : Nat} {g : AGs} {ds : List D} {Q : ASt → AH → Prop} : agTp n g (.tup ds) δ A Q E = (ds.length = n ∧ g ds δ A Q E) := by simp [agTp]
theorem agDk_eq {to ti : AE} {d : D} {Q : ASt → AH → Prop} : agDk to ti d δ A Q E = to δ A (fun x A1 => ti δ A1 (fun y A2 => refK x (fun a => oK (dctO (A2 a)) (fun kvs => oK (keyOf y) (fun _ => kvs.length < sizeLine ∧ Q δ (put A2 a (.dct (putD kvs y d)))) ⟨⟩) ⟨⟩)) E) E := by
  unfold agDk
  congr 1
  funext x A1
  congr 1
  funext y A2
  apply propext
  constructor
  · rintro ⟨a, kvs, q, rfl, h1, h2, h3⟩; exact ⟨a, rfl, kvs, by rw [h1]; rfl, q, h2, h3⟩
  · rintro ⟨a, rfl, kvs, h1, q, h2, h3⟩; exact ⟨a, kvs, q, rfl, dctO_some h1, h2, h3⟩
theorem aAsgG_eq {te : AE} {g : AG} : aAsgG te g N δ A = te δ A (fun d A1 => g d δ A1 N.nx noX) (fun C fs A1 => N.ex C fs δ A1) := rfl
theorem aPairs_nil {Q : List (D × D) → AH → Prop} : aPairs [] δ A Q E = Q [] A := by rw [aPairs]
theorem aPairs_cons {tk tv : AE} {r : List (AE × AE)} {Q : List (D × D) → AH → Prop} : aPairs ((tk, tv) :: r) δ A Q E = tk δ A (fun x A1 => tv δ A1 (fun y A2 => aPairs r δ A2 (fun ps A3 => Q ((x, y) :: ps) A3) E) E) E := by rw [aPairs]
theorem aDisp_eq {l : Bool} {r : List (AE × AE)} : aDisp l r δ A Q E = aPairs r δ A (fun ps A1 => keysOk ps = true ∧ ps.length ≤ 15 ∧ aNew l (.dct (mergeD ps)) A1 Q) E := rfl
theorem aDNew_eq {l : Bool} : aDNew l δ A Q E = aNew l (.dct []) A Q := rfl
theorem gLenO_eq {C : Addr} {asp : ASp} {d : D} : gLenO C asp [d] A Q E = oK (asO A d) (fun z => z.1 = C ∧ Call asp [d] A (fun r A' => intK r (fun n => 0 ≤ n ∧ n < 2 ^ 63 ∧ Q (.int n) A')) noX ⟨⟩) ⟨⟩ := by
  apply propext
  unfold gLenO oK
  constructor
  · rintro ⟨d, fs, h0, e1, h⟩; cases h0; refine ⟨(C, fs), e1, rfl, ?_⟩; have e : (fun r A' => ∃ n : Int, r = .int n ∧ 0 ≤ n ∧ n < 2 ^ 63 ∧ Q r A') = (fun r A' => intK r (fun n => 0 ≤ n ∧ n < 2 ^ 63 ∧ Q (.int n) A')) := (by funext r A'; apply propext; constructor <;> (rintro ⟨n, rfl, h1, h2, h3⟩; exact ⟨n, rfl, h1, h2, h3⟩)); rw [← e]; exact h
  · rintro ⟨⟨C', fs⟩, e1, rfl, h⟩; refine ⟨_, fs, rfl, e1, ?_⟩; have e : (fun r A' => ∃ n : Int, r = .int n ∧ 0 ≤ n ∧ n < 2 ^ 63 ∧ Q r A') = (fun r A' => intK r (fun n => 0 ≤ n ∧ n < 2 ^ 63 ∧ Q (.int n) A')) := (by funext r A'; apply propext; constructor <;> (rintro ⟨n, rfl, h1, h2, h3⟩; exact ⟨n, rfl, h1, h2, h3⟩)); rw [e]; exact h
theorem aFrz_eq {te : AE} : aFrz te δ A Q E = te δ A (fun d A1 => refK d (fun a => oK (A1 a) (fun ob => Q (frz ob) (del A1 a)) ⟨⟩)) E := by
  unfold aFrz
  congr 1
  funext d A1
  apply propext
  constructor
  · rintro ⟨a, ob, rfl, h1, h2⟩; exact ⟨a, rfl, ob, h1, h2⟩
  · rintro ⟨a, rfl, ob, h1, h2⟩; exact ⟨a, ob, rfl, h1, h2⟩
theorem endsOf_nx {x : ASt} : (endsOf Q E).nx x A = fin Q .non A := rfl
theorem endsOf_rt {d : D} : (endsOf Q E).rt d A = fin Q d A := rfl
theorem endsOf_ex {C : Addr} {fs : List (Str × D)} {x : ASt} : (endsOf Q E).ex C fs x A = ∃ A'', (∀ a o, A'' a = some o → A a = some o) ∧ E C fs A'' := rfl
end
end Av

set_option Elab.async false
set_option linter.all false
set_option maxRecDepth 100000
set_option maxHeartbeats 4000000
namespace Av
open PySem PySem.Spec PyProof.Rows L2 My
theorem comp_map {gd : AH → Prop} {p : Pat} {te : AE} {δ : ASt} {A : AH} {Q : List D → AH → Prop} (f : D → D) (hg : gd A) : ∀ (ds acc : List D), acc.length + ds.length ≤ sizeLine → (∀ d ∈ ds, ∀ R : D → AH → Prop, R (f d) A → bindK p d δ (fun δ2 => te δ2 A R noX)) → Q (acc ++ ds.map f) A → aComp gd p aYes te δ ds acc A Q
  | [], acc, _, _, q => ⟨hg, by simpa using q⟩
  | d :: ds, acc, hl, h, q => by
    refine ⟨hg, ?_⟩
    show bindK p d δ (fun δ2 => aYes δ2 A (fun b A1 => if b = true then te δ2 A1 (fun y A2 => acc.length < sizeLine ∧ aComp gd p aYes te δ ds (acc ++ [y]) A2 Q) noX else aComp gd p aYes te δ ds acc A1 Q) noX)
    simp only [aYes_eq, if_true]
    refine h d List.mem_cons_self _ ⟨?_, comp_map f hg ds (acc ++ [f d]) ?_ (fun x hx => h x (List.mem_cons_of_mem _ hx)) ?_⟩
    · rw [List.length_cons] at hl; omega
    · rw [List.length_append, List.length_cons, List.length_nil]; rw [List.length_cons] at hl; omega
    · rw [List.append_assoc]; exact q
theorem loop_for {gd : AH → Prop} {p : Pat} {tb : AS} {N : AEnds} {ds : List D} {δ : ASt} {A : AH} (P : Nat → ASt → AH → Prop) (h0 : P 0 δ A) (hg : ∀ i δ A, i ≤ ds.length → P i δ A → gd A)
    (hs : ∀ i d δ A (R : ASt → AH → Prop), ds[i]? = some d → P i δ A → (∀ δ' A', P (i + 1) δ' A' → R δ' A') → bindK p d δ (fun δ2 => tb { N with nx := R, ct := R, bk := N.nx } δ2 A))
    (hd : ∀ δ A, P ds.length δ A → N.nx δ A) : aLoop gd p tb N ds δ A := loop_inv P h0 hg (fun i d δ A R h1 h2 h3 => hs i d δ A R h1 h2 h3) hd
theorem rngL_get {lo : Int} {n i : Nat} {d : D} (h : (rngL lo n)[i]? = some d) : i < n ∧ d = .int (lo + i) := by
  unfold rngL at h
  rw [List.getElem?_map] at h
  cases e : (List.range n)[i]? with
  | none => rw [e] at h; cases h
  | some j =>
    rw [e] at h
    obtain ⟨h1, h2⟩ := List.getElem?_eq_some_iff.mp e
    simp at h1 h2
    subst h2
    exact ⟨h1, (Option.some.inj h).symm⟩
theorem rngL_len {lo : Int} {n : Nat} : (rngL lo n).length = n := by simp [rngL]
def putM (kvs : List (D × D)) (k v : D) : List (D × D) := putD kvs k v
theorem putM_eq {kvs : List (D × D)} {k v : D} : putM kvs k v = if (kvs.any fun p => keyEq p.1 k) = true then kvs.map (fun p => if keyEq p.1 k = true then (p.1, v) else p) else kvs ++ [(k, v)] := rfl
theorem mergeD_eq {l : List (D × D)} : mergeD l = l.foldl (fun acc kv => putM acc kv.1 kv.2) [] := rfl
theorem valD_nil {k : D} : valD [] k = none := rfl
theorem valD_cons {q v k : D} {r : List (D × D)} : valD ((q, v) :: r) k = if keyEq q k = true then some v else valD r k := by rw [valD]
end Av

set_option Elab.async false
set_option linter.all false
set_option maxRecDepth 100000
set_option maxHeartbeats 4000000
namespace Av
open PySem PySem.Spec PyProof.Rows L2 My
section
variable {X : Cx} {W : WX} {k n : Nat} {f C : Addr} {asp : ASp} {x m nm : Str} {e o : Expr} {es : List Expr} {ks : List Str} {kws : List Keyword} {ta te : AE} {t : AA} {kpos p pos apos : Pos} {nmo : Option Str}
theorem PK.imp {t t' : TA} (h : PK X kws t) (i : ∀ σ H Q, t' σ H Q → t σ H Q) : PK X kws t' := ⟨fun pos pins s σ H Q I q => h.run pos pins s σ H Q I (i _ _ _ q)⟩
theorem ak_nil : PK X [] (liftA X.K W aNil) := PK.imp pk_nil fun σ H Q ⟨δ, F, A, Q', E', a, q, p⟩ => p _ _ _ _ _ q Ext.refl a.rel .nil
theorem ak_cons (ha : PE X e (liftE X.K W te)) (hr : PK X kws (liftA X.K W t)) : PK X (⟨nmo, e, kpos⟩ :: kws) (liftA X.K W (aCons te t)) := PK.imp (pk_cons ha hr) fun σ H Q ⟨δ, h⟩ =>
  (Lf.bindE (k := fun x A1 Q E => t δ A1 (fun xs A2 => Q (x :: xs) A2) E) h).mono fun v1 H1 ⟨x1, h1⟩ => (Lf.core (R1 := Reps X.K) (k := fun xs A2 Q E => Q (x1 :: xs) A2) h1).mono fun vs H2 ⟨xs, F, A, Q', E', a, r, q, p⟩ => by
    cases a.held with
    | cons r0 _ => exact p _ _ _ _ _ q Ext.refl a.rel (.cons r0 r)
abbrev FnKA (P : Program) (w : World) (K : PySem.W.Frag) (mg : Str → Option Value) (base : Heap) (CX : CXT) (k : Nat) (f : Addr) (n : Nat) (ks : List Str) (asp : ASp) : Prop := FnK P w K mg base CX k f n ks (fun vs zs => liftSp K asp (vs ++ zs))
end
section
variable {P : Program} {w : World} {K : PySem.W.Frag} {mg : Str → Option Value} {base : Heap} {x qual : Str} {params : Arguments} {body : List Stmt} {scope : Scope} {dvs : List V} {kws : List (Str × V)} {f : Addr} {fd : FuncData} {N ps ks : List Str} {k : Nat} {asp : ASp}
theorem FunD.AK (n : Nat) (ks : List Str) (F : FunD K x qual params body scope dvs kws f fd) (S : FnScope N ps scope) (len : ∀ ds A Q E, asp ds A Q E → ds.length = ps.length) (hd : dvs ≠ [])
    (hb : ∀ (T : Addr) (kV doc pm : Value) (an : Option Addr) (cdv ct : Value) (us its ws : List Value), us.length = n → its.length = dvs.length → ws.length = ks.length →
      ∃ k, bindArgs (PySem.W.fnOf x qual params body scope (.ref T) kV doc pm an cdv ct) ⟨us, ks.zip ws⟩ = seqItems? (.ref T) >>= k ∧ k (some its.toArray) = pure (ps.zip (us ++ ws)))
    (hbody : BodyR P w K mg base qual body scope f N k asp) : FnKA P w K mg base CX0 (k + 1) f n ks asp := by
  obtain ⟨its, hB⟩ := FunD.kbindsD (ps := ps) F n ks (fun us _ ws => us ++ ws) hd (fun r1 _ r3 => r1.append r3) hb
  refine FnK.of (sp := liftSp K asp) (FunD.ok F S (liftSp_len len) fun cdv A outer s H vs Q E hr h => ?_) hB
  obtain ⟨t, ht, hq⟩ := bodyR (dd := []) hbody cdv A outer s H vs Q E hr h
  exact ⟨t, ht.nox, hq⟩
end
end Av

set_option Elab.async false
set_option linter.all false
set_option maxRecDepth 100000
set_option maxHeartbeats 4000000
namespace Av
open PySem PySem.Spec PyProof.Rows L2 My
theorem reps_ints {K : PySem.W.Frag} {F : Addr → Prop} {H : Hp} : ∀ ns : List Int, Reps K F H (ns.map D.int) (ns.map V.int)
  | [] => .nil
  | n :: ns => .cons (.int n) (reps_ints ns)
def aFrzS (i : Nat) (t : AS) : AS := fun N δ A => ∃ p o, δ[i]? = some (some (.ref p)) ∧ A p = some o ∧ t N (δ.set i (some (frz o))) (del A p)
theorem aFrzS_eq {i : Nat} {t : AS} {N : AEnds} {δ : ASt} {A : AH} : aFrzS i t N δ A = aVar i δ A (fun d A1 => refK d (fun a => oK (A1 a) (fun o => t N (δ.set i (some (frz o))) (del A1 a)) ⟨⟩)) noX := by
  apply propext
  unfold aFrzS aVar refK oK
  constructor
  · rintro ⟨q, o, h0, h1, h2⟩; exact ⟨_, h0, q, rfl, o, h1, h2⟩
  · rintro ⟨d, h0, q, rfl, o, h1, h2⟩; exact ⟨q, o, h0, h1, h2⟩
theorem law_lift {K : PySem.W.Frag} {H : Hp} {a : Addr} {ns : List Int} {Q : VK} {E : XK} {asp : ASp} (hS : SqL K H a (ns.map V.int)) (h : ∀ (A : AH) (Q' : AQ), (∀ A', Q' (.bl true) A') → asp [.rol (ns.map D.int)] A Q' noX) (k : ∀ H', Q (.bl true) H') : liftSp K asp [.ref a] H Q E := by
  have po : ∀ {F : Addr → Prop}, Post K (Rep K) F (fun _ => none) H (fun d _ => d = .bl true) Q := fun x A' F' H' y e _ _ r => by
    have e : x = .bl true := e
    subst e
    cases r
    exact k _
  rcases hS with hS | hS
  · refine ⟨fun c => c = a, fun _ => none, _, fun d _ => d = .bl true, noX, ⟨(fun _ _ z => by cases z), fun c e => ?_⟩, .cons (.rol rfl hS (reps_ints ns)) .nil, h _ _ (fun _ => rfl), po, fun C fs A' F' H' dd fv z => z.elim⟩
    subst e
    rcases hS with hS | ⟨o, hS⟩
    · exact ⟨_, hS⟩
    · exact ⟨_, hS⟩
  · exact ⟨fun _ => False, fun _ => none, _, fun d _ => d = .bl true, noX, ⟨(fun _ _ z => by cases z), fun c e => e.elim⟩, .cons (.rolK hS (reps_ints ns)) .nil, h _ _ (fun _ => rfl), po, fun C fs A' F' H' dd fv z => z.elim⟩
def gmRev : GM := fun l ds A Q _ => ∃ ys, ds = [] ∧ A l = some (.lst ys) ∧ Q .non (put A l (.lst ys.reverse))
theorem gmRev_eq {A : AH} {Q : AQ} {E : AX} {l : Addr} : gmRev l [] A Q E = oK (lstO (A l)) (fun ys => Q .non (put A l (.lst ys.reverse))) ⟨⟩ := by
  apply propext
  unfold gmRev oK
  constructor
  · rintro ⟨ys, h0, h1, h2⟩; exact ⟨ys, by rw [h1]; rfl, h2⟩
  · rintro ⟨ys, h1, h2⟩; exact ⟨ys, rfl, lstO_some h1, h2⟩
end Av

set_option Elab.async false
set_option linter.all false
set_option maxRecDepth 100000
set_option maxHeartbeats 4000000
namespace Av
open PySem PySem.Spec PyProof.Rows L2 My
def leS (a b : Str) : Bool := decide (a.cps.toList ≤ b.cps.toList)
def srt (l : List Str) : List Str := l.mergeSort leS
section
variable {X : Cx} {K : PySem.W.Frag}
end
end Av

set_option Elab.async false
set_option linter.all false
set_option maxRecDepth 100000
set_option maxHeartbeats 4000000
namespace Av
open PySem PySem.Spec PyProof.Rows L2 My
section
variable {K : PySem.W.Frag} {F : Addr → Prop} {A : AH} {H : Hp}
def itemsL (kvs : List (D × D)) : List D := kvs.map fun p => .tup [p.1, p.2]
end
section
variable {X : Cx} {W : WX} {e tg : Expr} {te : AE} {pos apos cpos : Pos}
def dctD : D → Option (List (D × D))
  | .dct kvs => some kvs
  | _ => none
def aItK (te : AE) : AI := fun δ A Q E => te δ A (fun d A1 => ∃ kvs, d = .dct kvs ∧ Q (fun _ => True, kvs.map (·.1)) A1) E
def aItI (te : AE) : AI := fun δ A Q E => te δ A (fun d A1 => ∃ kvs, d = .dct kvs ∧ Q (fun _ => True, itemsL kvs) A1) E
theorem dctD_some {d : D} {kvs : List (D × D)} (h : dctD d = some kvs) : d = .dct kvs := by
  cases d <;> first | (cases h; rfl) | cases h
def aDComp (gd : AH → Prop) (p : Pat) (tt : AT) (tk tv : AE) (δ : ASt) : List D → List (D × D) → AH → (List (D × D) → AH → Prop) → Prop
  | [], acc, A, Q => gd A ∧ Q acc A
  | d :: ds, acc, A, Q => gd A ∧ ∃ δ2, bindP p d δ = some δ2 ∧ tt δ2 A (fun b A1 => if b = true then tk δ2 A1 (fun y A2 => tv δ2 A2 (fun z A3 => (keyOf y).isSome = true ∧ acc.length < sizeLine ∧ aDComp gd p tt tk tv δ ds (putD acc y z) A3 Q) noX) noX else aDComp gd p tt tk tv δ ds acc A1 Q) noX
def aDc (live : Bool) (ti : AI) (p : Pat) (tt : AT) (tk tv : AE) (vs : List Nat) : AE := fun δ A Q E => ti δ A (fun i A1 => aDComp i.1 p tt tk tv (wipeA δ vs) i.2 [] A1 (fun xs A2 => aNew live (.dct xs) A2 Q)) E
end
end Av

set_option Elab.async false
set_option linter.all false
set_option maxRecDepth 100000
set_option maxHeartbeats 4000000
namespace Av
open PySem PySem.Spec PyProof.Rows L2 My
section
variable {X : Cx} {W : WX} {k n : Nat} {f r C g : Addr} {asp : ASp} {x m : Str} {a b e o fe kd : Expr} {es : List Expr} {ta tb te tf tk tv : AE} {t : AA} {p pos pos' apos kp : Pos} {K : PySem.W.Frag} {op : Operator} {bad ks : List Str} {kws : List Keyword}
def pairsD : List (D × D) → List D := List.map fun p => .tup [p.1, p.2]
def gDictP (live : Bool) : GA := fun xs A Q _ => ∃ d ps, xs = [d] ∧ asL A d = some (pairsD ps) ∧ keysOk ps = true ∧ aNew live (.dct (mergeD ps)) A Q
def gListD (live : Bool) : GA := fun xs A Q _ => ∃ d kvs, xs = [d] ∧ asD A d = some kvs ∧ aNew live (.lst (kvs.map (·.1))) A Q
def aStarD (te : AE) (t : AA) : AA := fun δ A Q E => te δ A (fun d A1 => ∃ kvs, asD A1 d = some kvs ∧ t δ A1 (fun xs A2 => Q (kvs.map (·.1) ++ xs) A2) E) E
def isO (C : Addr) (A : AH) (d : D) : Prop := ∃ fs, asO A d = some (C, fs)
def gOwnL (C : Addr) (asp : ASp) : G2 := fun x y A Q _ => isO C A x ∧ (isO C A y ∨ ∃ i, y = .int i) ∧ Call asp [x, y] A Q noX ⟨⟩
def gOwnR (C : Addr) (asp : ASp) : G2 := fun x y A Q _ => (∃ i, x = .int i) ∧ isO C A y ∧ Call asp [y, x] A Q noX ⟨⟩
def gNegO (C : Addr) (asp : ASp) : G1 := fun x A Q _ => isO C A x ∧ Call asp [x] A Q noX ⟨⟩
def gIxO (C : Addr) (asp : ASp) : G2 := fun x y A Q _ => isO C A x ∧ Call asp [x, y] A Q noX ⟨⟩
def aAugO (i : Nat) (g : G2) (te : AE) : AS := fun D δ A => ∃ z, δ[i]? = some (some z) ∧ te δ A (fun y A1 => g z y A1 (fun r A2 => D.nx (δ.set i (some r)) A2) noX) (fun C fs A1 => D.ex C fs δ A1)
def aCallO (C : Addr) (asp : ASp) (tf : AE) (t : AA) : AE := fun δ A Q E => tf δ A (fun x A1 => isO C A1 x ∧ t δ A1 (fun ds A2 => isO C A2 x ∧ Call asp (x :: ds) A2 Q noX ⟨⟩) E) E
def aCMeth (C : Addr) (asp : ASp) (ta : AE) (t : AA) : AE := fun δ A Q E => ta δ A (fun x A1 => x = .ref C ∧ t δ A1 (fun ds A2 => Call asp (.ref C :: ds) A2 Q noX ⟨⟩) E) E
def gIsiC (K : PySem.W.Frag) (C : Addr) : GA := fun xs A Q _ => ∃ d, xs = [d, .ref C] ∧ ((isO C A d ∧ Q (.bl true) A) ∨ (kdD A d ≠ "?" ∧ PySem.W.kitOne K (.type (kdD A d)) (.ref C) = some false ∧ Q (.bl false) A))
def aMakeSS (C : Addr) (n : Nat) (bad : List Str) (asp : ASp) (tf : AE) (t : AA) (te : AE) : AE := fun δ A Q E => tf δ A (fun y A0 => y = .ref C ∧ t δ A0 (fun ds A1 => te δ A1 (fun kd A2 => ∃ (kvs : List (D × D)) (ks : List Str), asD A2 kd = some kvs ∧ kvs.map (·.1) = ks.map D.str ∧ (∀ k ∈ ks, k ∉ bad) ∧ ds.length + 1 = n ∧
  ∀ x, A2 x = none → Call asp (.ref x :: ds ++ [.dct kvs]) (put A2 x (.ins C [])) (fun d A3 => d = .non ∧ ∃ fs, A3 x = some (.ins C fs) ∧ Q (.obj C fs) (del A3 x)) noX ⟨⟩) E) E) E
def aMakeKS (C : Addr) (n : Nat) (ks : List Str) (asp : ASp) (t tk : AA) : AE := fun δ A Q E => t δ A (fun ds A1 => tk δ A1 (fun zs A2 => ds.length + 1 = n ∧ zs.length = ks.length ∧
  ∀ x, A2 x = none → Call asp (.ref x :: ds ++ [.dct ((ks.map D.str).zip zs)]) (put A2 x (.ins C [])) (fun d A3 => d = .non ∧ ∃ fs, A3 x = some (.ins C fs) ∧ Q (.obj C fs) (del A3 x)) noX ⟨⟩) E) E
end
end Av

set_option Elab.async false
set_option linter.all false
set_option maxRecDepth 100000
set_option maxHeartbeats 4000000
namespace Av
open PySem PySem.Spec PyProof.Rows L2 My StX
section
variable {P : Program} {w : World} {K : PySem.W.Frag} {mg : Str → Option Value} {base : Heap} {CX : CXT} {k n : Nat} {f : Addr} {bad : List Str} {spb spb' : Sp} {asp : ASp}
variable {x qual : Str} {n1 n2 n3 : Option Expr} {p1 p2 p3 : Pos} {kwd : List (Option Expr)} {df : List Expr} {body : List Stmt} {scope : Scope} {kws : List (Str × V)} {fd : FuncData} {N : List Str} {i : Int}
end
section
variable {A : AH} {Q : AQ} {E : AX} {δ : ASt} {N : AEnds}
theorem aItK_eq {te : AE} {Q : IA → AH → Prop} : aItK te δ A Q E = te δ A (fun d A1 => oK (dctD d) (fun kvs => Q (fun _ => True, kvs.map (·.1)) A1) ⟨⟩) E := by
  unfold aItK
  congr 1
  funext d A1
  apply propext
  constructor
  · rintro ⟨kvs, rfl, h⟩; exact ⟨kvs, rfl, h⟩
  · rintro ⟨kvs, e, h⟩; exact ⟨kvs, dctD_some e, h⟩
theorem aItI_eq {te : AE} {Q : IA → AH → Prop} : aItI te δ A Q E = te δ A (fun d A1 => oK (dctD d) (fun kvs => Q (fun _ => True, itemsL kvs) A1) ⟨⟩) E := by
  unfold aItI
  congr 1
  funext d A1
  apply propext
  constructor
  · rintro ⟨kvs, rfl, h⟩; exact ⟨kvs, rfl, h⟩
  · rintro ⟨kvs, e, h⟩; exact ⟨kvs, dctD_some e, h⟩
theorem dctD_dct {kvs : List (D × D)} : dctD (.dct kvs) = some kvs := rfl
def LoopD (gd : AH → Prop) (p : Pat) (tt : AT) (tk tv : AE) (δ : ASt) (ds : List D) (acc : List (D × D)) (A : AH) (Q : List (D × D) → AH → Prop) (_ : Tag (gd, tt, tk, tv, Q)) : Prop := aDComp gd p tt tk tv δ ds acc A Q
theorem aDc_eq {live : Bool} {ti : AI} {p : Pat} {tt : AT} {tk tv : AE} {vs : List Nat} : aDc live ti p tt tk tv vs δ A Q E = ti δ A (fun i A1 => LoopD i.1 p tt tk tv (wipeA δ vs) i.2 [] A1 (fun xs A2 => aNew live (.dct xs) A2 Q) ⟨⟩) E := rfl
theorem gDictP_eq {live : Bool} {d : D} : gDictP live [d] A Q E = oK (asL A d) (fun ys => ∃ ps, ys = pairsD ps ∧ keysOk ps = true ∧ aNew live (.dct (mergeD ps)) A Q) ⟨⟩ := by
  apply propext
  constructor
  · rintro ⟨d', ps, e, h1, h2, h3⟩; cases e; exact ⟨_, h1, ps, rfl, h2, h3⟩
  · rintro ⟨ys, h1, ps, rfl, h2, h3⟩; exact ⟨d, ps, rfl, h1, h2, h3⟩
theorem gListD_eq {live : Bool} {d : D} : gListD live [d] A Q E = oK (asD A d) (fun kvs => aNew live (.lst (kvs.map (·.1))) A Q) ⟨⟩ := by
  apply propext
  constructor
  · rintro ⟨d', kvs, e, h1, h2⟩; cases e; exact ⟨_, h1, h2⟩
  · rintro ⟨kvs, h1, h2⟩; exact ⟨d, kvs, rfl, h1, h2⟩
theorem aStarD_eq {te : AE} {t : AA} {Q : List D → AH → Prop} : aStarD te t δ A Q E = te δ A (fun d A1 => oK (asD A1 d) (fun kvs => t δ A1 (fun xs A2 => Q (kvs.map (·.1) ++ xs) A2) E) ⟨⟩) E := rfl
theorem isO_obj {C : Addr} {fs : List (Str × D)} : isO C A (.obj C fs) = True := by
  apply propext
  exact ⟨fun _ => trivial, fun _ => ⟨fs, rfl⟩⟩
theorem isO_int {C : Addr} {i : Int} : isO C A (.int i) = False := by
  apply propext
  refine ⟨fun z => ?_, fun z => z.elim⟩
  obtain ⟨_, h⟩ := z
  cases h
theorem gOwnL_eq {C : Addr} {asp : ASp} {x y : D} : gOwnL C asp x y A Q E = (isO C A x ∧ (isO C A y ∨ ∃ i, y = .int i) ∧ Call asp [x, y] A Q noX ⟨⟩) := rfl
theorem gOwnR_eq {C : Addr} {asp : ASp} {x y : D} : gOwnR C asp x y A Q E = ((∃ i, x = .int i) ∧ isO C A y ∧ Call asp [y, x] A Q noX ⟨⟩) := rfl
theorem gNegO_eq {C : Addr} {asp : ASp} {x : D} : gNegO C asp x A Q E = (isO C A x ∧ Call asp [x] A Q noX ⟨⟩) := rfl
theorem gIxO_eq {C : Addr} {asp : ASp} {x y : D} : gIxO C asp x y A Q E = (isO C A x ∧ Call asp [x, y] A Q noX ⟨⟩) := rfl
theorem aAugO_eq {i : Nat} {g : G2} {te : AE} : aAugO i g te N δ A = aVar i δ A (fun z _ => te δ A (fun y A1 => g z y A1 (fun r A2 => N.nx (δ.set i (some r)) A2) noX) (fun C fs A1 => N.ex C fs δ A1)) noX := rfl
theorem aCallO_eq {C : Addr} {asp : ASp} {tf : AE} {t : AA} : aCallO C asp tf t δ A Q E = tf δ A (fun x A1 => isO C A1 x ∧ t δ A1 (fun ds A2 => isO C A2 x ∧ Call asp (x :: ds) A2 Q noX ⟨⟩) E) E := rfl
theorem aCMeth_eq {C : Addr} {asp : ASp} {ta : AE} {t : AA} : aCMeth C asp ta t δ A Q E = ta δ A (fun x A1 => x = .ref C ∧ t δ A1 (fun ds A2 => Call asp (.ref C :: ds) A2 Q noX ⟨⟩) E) E := rfl
theorem gIsiC_eq {K : PySem.W.Frag} {C : Addr} {d : D} : gIsiC K C [d, .ref C] A Q E = ((isO C A d ∧ Q (.bl true) A) ∨ (kdD A d ≠ "?" ∧ PySem.W.kitOne K (.type (kdD A d)) (.ref C) = some false ∧ Q (.bl false) A)) := by
  apply propext
  constructor
  · rintro ⟨d', e, h⟩; cases e; exact h
  · intro h; exact ⟨d, rfl, h⟩
theorem aMakeSS_eq {C : Addr} {n : Nat} {bad : List Str} {asp : ASp} {tf te : AE} {t : AA} : aMakeSS C n bad asp tf t te δ A Q E = tf δ A (fun y A0 => y = .ref C ∧ t δ A0 (fun ds A1 => te δ A1 (fun kd A2 => oK (asD A2 kd) (fun kvs => ∃ ks : List Str, kvs.map (·.1) = ks.map D.str ∧ (∀ k ∈ ks, k ∉ bad) ∧ ds.length + 1 = n ∧
  ∀ x, A2 x = none → Call asp (.ref x :: ds ++ [.dct kvs]) (put A2 x (.ins C [])) (fun d A3 => d = .non ∧ ∃ fs, A3 x = some (.ins C fs) ∧ Q (.obj C fs) (del A3 x)) noX ⟨⟩) ⟨⟩) E) E) E := by
  unfold aMakeSS
  congr 1
  funext y A0
  apply propext
  refine and_congr Iff.rfl ?_
  apply iff_of_eq
  congr 1
  funext ds A1
  congr 1
  funext kd A2
  apply propext
  constructor
  · rintro ⟨kvs, ks, h1, h2⟩; exact ⟨kvs, h1, ks, h2⟩
  · rintro ⟨kvs, h1, ks, h2⟩; exact ⟨kvs, ks, h1, h2⟩
theorem aMakeKS_eq {C : Addr} {n : Nat} {ks : List Str} {asp : ASp} {t tk : AA} : aMakeKS C n ks asp t tk δ A Q E = t δ A (fun ds A1 => tk δ A1 (fun zs A2 => ds.length + 1 = n ∧ zs.length = ks.length ∧
  ∀ x, A2 x = none → Call asp (.ref x :: ds ++ [.dct ((ks.map D.str).zip zs)]) (put A2 x (.ins C [])) (fun d A3 => d = .non ∧ ∃ fs, A3 x = some (.ins C fs) ∧ Q (.obj C fs) (del A3 x)) noX ⟨⟩) E) E := rfl
end
section
variable {X : Cx} {C : Addr}
def gIsiTC (K : PySem.W.Frag) (n : String) (C : Addr) : GA := fun xs A Q _ => ∃ d, xs = [d, .tup [.ty n, .ref C]] ∧ kdD A d ≠ "?" ∧ ∃ b, kitB (kdD A d) n = some b ∧ PySem.W.kitOne K (.type (kdD A d)) (.ref C) = some false ∧ Q (.bl b) A
def gIsiTO (K : PySem.W.Frag) (n : String) (C : Addr) : GA := fun xs A Q _ => ∃ d, xs = [d, .tup [.ty n, .ref C]] ∧ isO C A d ∧ Q (.bl true) A
theorem isiT_int {A : AH} {Q : AQ} {E : AX} {K : PySem.W.Frag} {i : Int} (hk : PySem.W.kitOne K (.type "int") (.ref C) = some false) (q : Q (.bl true) A) : gaOr (gIsiTC K "int" C) (gIsiTO K "int" C) [.int i, .tup [.ty "int", .ref C]] A Q E := .inl ⟨_, rfl, (by show "int" ≠ "?"; decide), true, (by show kitB "int" "int" = some true; decide), hk, q⟩
theorem isiT_own {A : AH} {Q : AQ} {E : AX} {K : PySem.W.Frag} {n : String} {fs : List (Str × D)} (q : Q (.bl true) A) : gaOr (gIsiTC K n C) (gIsiTO K n C) [.obj C fs, .tup [.ty n, .ref C]] A Q E := .inr ⟨_, rfl, ⟨fs, rfl⟩, q⟩
theorem gIsiC_obj {A : AH} {Q : AQ} {E : AX} {K : PySem.W.Frag} {fs : List (Str × D)} : gIsiC K C [.obj C fs, .ref C] A Q E = Q (.bl true) A := by
  rw [gIsiC_eq]
  apply propext
  constructor
  · rintro (⟨_, h⟩ | ⟨h, _⟩)
    · exact h
    · exact absurd rfl h
  · intro h; exact .inl ⟨⟨fs, rfl⟩, h⟩
theorem gIsiC_int {A : AH} {Q : AQ} {E : AX} {K : PySem.W.Frag} {i : Int} : gIsiC K C [.int i, .ref C] A Q E = (PySem.W.kitOne K (.type "int") (.ref C) = some false ∧ Q (.bl false) A) := by
  rw [gIsiC_eq]
  apply propext
  constructor
  · rintro (⟨⟨_, h⟩, _⟩ | ⟨_, h⟩)
    · cases h
    · exact h
  · intro h; exact .inr ⟨(by show "int" ≠ "?"; decide), h⟩
theorem gIsiT_obj {A : AH} {Q : AQ} {E : AX} {K : PySem.W.Frag} {n : String} {fs : List (Str × D)} : gaOr (gIsiTC K n C) (gIsiTO K n C) [.obj C fs, .tup [.ty n, .ref C]] A Q E = Q (.bl true) A := by
  apply propext
  constructor
  · rintro (⟨d, e, h, _⟩ | ⟨d, e, _, h⟩)
    · cases e; exact absurd rfl h
    · exact h
  · intro h; exact isiT_own h
theorem gIsiT_int {A : AH} {Q : AQ} {E : AX} {K : PySem.W.Frag} {i : Int} : gaOr (gIsiTC K "int" C) (gIsiTO K "int" C) [.int i, .tup [.ty "int", .ref C]] A Q E = (PySem.W.kitOne K (.type "int") (.ref C) = some false ∧ Q (.bl true) A) := by
  apply propext
  constructor
  · rintro (⟨d, e, _, b, hb, h1, h2⟩ | ⟨d, e, ⟨_, h⟩, _⟩)
    · cases e
      have : kitB "int" "int" = some b := hb
      rw [show kitB "int" "int" = some true by decide] at this
      cases this
      exact ⟨h1, h2⟩
    · cases e; cases h
  · rintro ⟨h1, h2⟩; exact isiT_int h1 h2
def gIsiO (K : PySem.W.Frag) (C : Addr) : GA := fun xs A Q _ => ∃ d n b, xs = [d, .ty n] ∧ isO C A d ∧ PySem.W.kitOne K (.ref C) (.type n) = some b ∧ Q (.bl b) A
theorem gIsiX_obj {A : AH} {Q : AQ} {E : AX} {K : PySem.W.Frag} {n : String} {fs : List (Str × D)} : gaOr gIsi (gIsiO K C) [.obj C fs, .ty n] A Q E = oK (PySem.W.kitOne K (.ref C) (.type n)) (fun b => Q (.bl b) A) ⟨⟩ := by
  apply propext
  constructor
  · rintro (⟨d, m, e, h, _⟩ | ⟨d, m, b, e, _, h1, h2⟩)
    · cases e; exact absurd rfl h
    · cases e; exact ⟨b, h1, h2⟩
  · rintro ⟨b, h1, h2⟩; exact .inr ⟨_, n, b, rfl, ⟨fs, rfl⟩, h1, h2⟩
theorem gIsiX_int {A : AH} {Q : AQ} {E : AX} {K : PySem.W.Frag} {i : Int} : gaOr gIsi (gIsiO K C) [.int i, .ty "int"] A Q E = Q (.bl true) A := by
  apply propext
  constructor
  · rintro (⟨d, m, e, _, b, hb, h⟩ | ⟨d, m, b, e, ⟨_, h⟩, _⟩)
    · cases e
      have : kitB "int" "int" = some b := hb
      rw [show kitB "int" "int" = some true by decide] at this
      cases this
      exact h
    · cases e; cases h
  · intro h; exact .inl ⟨_, _, rfl, (by show "int" ≠ "?"; decide), true, (by show kitB "int" "int" = some true; decide), h⟩
def gNegX (C : Addr) (asp : ASp) : G1 := fun x A Q E => (∃ i, x = .int i ∧ Q (.int (-i)) A) ∨ gNegO C asp x A Q E
theorem gNegX_int {A : AH} {Q : AQ} {E : AX} {asp : ASp} {i : Int} : gNegX C asp (.int i) A Q E = Q (.int (-i)) A := by
  apply propext
  constructor
  · rintro (⟨j, e, q⟩ | ⟨⟨_, h⟩, _⟩)
    · cases e; exact q
    · cases h
  · intro q; exact .inl ⟨i, rfl, q⟩
theorem gNegX_obj {A : AH} {Q : AQ} {E : AX} {asp : ASp} {fs : List (Str × D)} : gNegX C asp (.obj C fs) A Q E = Call asp [.obj C fs] A Q noX ⟨⟩ := by
  apply propext
  constructor
  · rintro (⟨j, e, q⟩ | ⟨_, q⟩)
    · cases e
    · exact q
  · intro q; exact .inr ⟨⟨fs, rfl⟩, q⟩
end
end Av

set_option Elab.async false
set_option linter.all false
set_option maxRecDepth 100000
set_option maxHeartbeats 4000000
namespace Av
open PySem PySem.Spec PyProof.Rows L2 My TL Builtin.Str
section
variable {X : Cx} {W : WX} {k : Nat} {f C : Addr} {asp : ASp} {a b c e o : Expr} {es : List Expr} {ta tb tc te to : AE} {pos apos : Pos} {K : PySem.W.Frag}
theorem aChain_eq {g g' : G2} {δ : ASt} {A : AH} {Q : AQ} {E : AX} : aChain g g' ta tb tc δ A Q E = ta δ A (fun x A1 => tb δ A1 (fun y A2 => g x y A2 (fun z A3 => blK z fun k => if k = true then tc δ A3 (fun w A4 => g' y w A4 Q E) E else Q (.bl false) A3) E) E) E := rfl
def fmtK (d : D) (k : Str → Prop) : Prop := (∃ y, d = .str y ∧ y.length ≤ sizeLine ∧ k y) ∨ ∃ i : Int, d = .int i ∧ i.natAbs.log2 < 1920 ∧ k (toString i)
theorem fmtK_str {y : Str} {k : Str → Prop} : fmtK (.str y) k = (y.length ≤ sizeLine ∧ k y) := by simp [fmtK]
theorem fmtK_int {i : Int} {k : Str → Prop} : fmtK (.int i) k = (i.natAbs.log2 < 1920 ∧ k (toString i)) := by simp [fmtK]
def aFmt (te : AE) : AE := fun δ A Q E => te δ A (fun x A1 => fmtK x fun y => Q (.str y) A1) E
def aJs : List AE → Str → AE
  | [], acc => fun _ A Q _ => Q (.str acc) A
  | t :: ts, acc => fun δ A Q E => t δ A (fun x A1 => ∃ y, x = .str y ∧ (acc ++ y).length ≤ sizeLine ∧ aJs ts (acc ++ y) δ A1 Q E) E
def aFs (ts : List AE) : AE := aJs ts Str.empty
theorem aFmt_eq {δ : ASt} {A : AH} {Q : AQ} {E : AX} : aFmt te δ A Q E = te δ A (fun x A1 => fmtK x fun y => Q (.str y) A1) E := rfl
theorem aFs_eq {ts : List AE} {δ : ASt} {A : AH} {Q : AQ} {E : AX} : aFs ts δ A Q E = aJs ts Str.empty δ A Q E := rfl
theorem aJs_nil {acc : Str} {δ : ASt} {A : AH} {Q : AQ} {E : AX} : aJs [] acc δ A Q E = Q (.str acc) A := rfl
theorem aJs_cons {t : AE} {ts : List AE} {acc : Str} {δ : ASt} {A : AH} {Q : AQ} {E : AX} : aJs (t :: ts) acc δ A Q E = t δ A (fun x A1 => strK x fun y => (acc ++ y).length ≤ sizeLine ∧ aJs ts (acc ++ y) δ A1 Q E) E := rfl
def aTm0 (g : Str → AK D) (to : AE) : AE := fun δ A Q E => to δ A (fun x A1 => strK x fun s => g s A1 Q E) E
def aTm1 (g : Str → D → AK D) (to te : AE) : AE := fun δ A Q E => to δ A (fun x A1 => strK x fun s => te δ A1 (fun y A2 => g s y A2 Q E) E) E
theorem aTm0_eq {g : Str → AK D} {δ : ASt} {A : AH} {Q : AQ} {E : AX} : aTm0 g to δ A Q E = to δ A (fun x A1 => strK x fun s => g s A1 Q E) E := rfl
theorem aTm1_eq {g : Str → D → AK D} {δ : ASt} {A : AH} {Q : AQ} {E : AX} : aTm1 g to te δ A Q E = to δ A (fun x A1 => strK x fun s => te δ A1 (fun y A2 => g s y A2 Q E) E) E := rfl
def gJoin : Str → D → AK D := fun s y A Q _ => ∃ ys, asQ A y = some (ys.map D.str) ∧ (ys.map (·.length)).sum + ys.length * s.length ≤ 16777216 ∧ Q (.str (Txt.join s ys)) A
def gWords (live : Bool) : Str → AK D := fun s A Q _ => s.length + 2 ≤ sizeLine ∧ aNew live (.lst ((Txt.words s).map D.str)) A Q
def gSplit (live : Bool) : Str → D → AK D := fun s y A Q _ => ∃ b, y = .str b ∧ (b.length == 0) = false ∧ s.length + 2 ≤ sizeLine ∧ aNew live (.lst ((Txt.split s b).map D.str)) A Q
def gStrO (C : Addr) (asp : ASp) : GA := fun xs A Q _ => ∃ d, xs = [d] ∧ isO C A d ∧ Call asp [d] A (fun r A' => ∃ y, r = .str y ∧ Q r A') noX ⟨⟩
theorem gStrO_eq {d : D} {A : AH} {Q : AQ} {E : AX} : gStrO C asp [d] A Q E = (isO C A d ∧ Call asp [d] A (fun r A' => strK r fun y => Q (.str y) A') noX ⟨⟩) := by
  apply propext
  constructor
  · rintro ⟨d', e, h1, h2⟩
    cases e
    refine ⟨h1, ?_⟩
    have : (fun (r : D) (A' : AH) => ∃ y, r = .str y ∧ Q r A') = fun r A' => strK r fun y => Q (.str y) A' := by
      funext r A'
      apply propext
      constructor
      · rintro ⟨y, rfl, q⟩; exact ⟨y, rfl, q⟩
      · rintro ⟨y, rfl, q⟩; exact ⟨y, rfl, q⟩
    rw [← this]
    exact h2
  · rintro ⟨h1, h2⟩
    refine ⟨d, rfl, h1, ?_⟩
    have : (fun (r : D) (A' : AH) => ∃ y, r = .str y ∧ Q r A') = fun r A' => strK r fun y => Q (.str y) A' := by
      funext r A'
      apply propext
      constructor
      · rintro ⟨y, rfl, q⟩; exact ⟨y, rfl, q⟩
      · rintro ⟨y, rfl, q⟩; exact ⟨y, rfl, q⟩
    rw [this]
    exact h2
end
section
variable {C : Addr} {asp : ASp} {A : AH} {Q : AQ} {E : AX}
def strsOf : List D → Option (List Str)
  | [] => some []
  | .str s :: ds => (strsOf ds).map (s :: ·)
  | _ => none
theorem strsOf_map : ∀ {ys : List Str}, strsOf (ys.map D.str) = some ys
  | [] => rfl
  | y :: ys => by rw [List.map_cons, strsOf, strsOf_map]; rfl
theorem strsOf_some : ∀ {ds : List D} {ys : List Str}, strsOf ds = some ys → ds = ys.map D.str
  | [], _, h => by cases h; rfl
  | d :: ds, ys, h => by
    cases d <;> simp only [strsOf] at h <;> first | (cases h; done) | skip
    rename_i s
    cases q : strsOf ds with
    | none => rw [q] at h; cases h
    | some zs => rw [q] at h; cases h; rw [strsOf_some q]; rfl
theorem strsOf_nil : strsOf [] = some [] := rfl
theorem strsOf_cons {s : Str} {ds : List D} : strsOf (.str s :: ds) = (strsOf ds).map (s :: ·) := rfl
theorem gJoin_eq {s : Str} {y : D} : gJoin s y A Q E = oK (asQ A y) (fun ds => oK (strsOf ds) (fun ys => (ys.map (·.length)).sum + ys.length * s.length ≤ 16777216 ∧ Q (.str (Txt.join s ys)) A) ⟨⟩) ⟨⟩ := by
  apply propext
  unfold gJoin oK
  constructor
  · rintro ⟨ys, e, h⟩; exact ⟨_, e, ys, strsOf_map, h⟩
  · rintro ⟨ds, e, ys, e2, h⟩; rw [strsOf_some e2] at e; exact ⟨ys, e, h⟩
theorem gWords_eq {live : Bool} {s : Str} : gWords live s A Q E = (s.length + 2 ≤ sizeLine ∧ aNew live (.lst ((Txt.words s).map D.str)) A Q) := rfl
theorem gSplit_eq {live : Bool} {s b : Str} : gSplit live s (.str b) A Q E = ((b.length == 0) = false ∧ s.length + 2 ≤ sizeLine ∧ aNew live (.lst ((Txt.split s b).map D.str)) A Q) := by
  apply propext
  unfold gSplit
  constructor
  · rintro ⟨b, e, h⟩; cases e; exact h
  · intro h; exact ⟨b, rfl, h⟩
end
section
variable {X : Cx} {W : WX} {a : Expr} {ta : AE}
def aTruD (ta : AE) : AT := fun δ A Q E => ta δ A (fun x A1 => oK (asD A1 x) (fun kvs => Q (!kvs.isEmpty) A1) ⟨⟩) E
theorem aTruD_eq {δ : ASt} {A : AH} {Q : Bool → AH → Prop} {E : AX} : aTruD ta δ A Q E = ta δ A (fun x A1 => oK (asD A1 x) (fun kvs => Q (!kvs.isEmpty) A1) ⟨⟩) E := rfl
end
end Av

set_option Elab.async false
set_option linter.all false
set_option maxRecDepth 100000
set_option maxHeartbeats 4000000
namespace Av
open PySem PySem.Spec PyProof.Rows L2 My
def RD := (And.intro (And.intro (And.intro (And.intro (And.intro (And.intro (And.intro @oK_some (And.intro @oK_none @bindK_nm)) (And.intro (And.intro @bindK_tp @bindKs_nil) (And.intro @bindKs_cons @truK_non))) (And.intro (And.intro (And.intro @truK_bl @truK_int) (And.intro @truK_str @truK_tup)) (And.intro (And.intro @truK_lst @truK_ref) (And.intro @aSeq_eq @aNext_eq)))) (And.intro (And.intro (And.intro (And.intro @aBrk_eq @aCont_eq) (And.intro @aDrop_eq @aRet_eq)) (And.intro (And.intro @aRetN_eq @aIfS_eq) (And.intro @aAsg_eq @aPar_eq))) (And.intro (And.intro (And.intro @aFor_eq @aVar_0) (And.intro @aVar_s @aC_eq)) (And.intro (And.intro @aOp_eq @aUn_eq) (And.intro @blK_bl @aB_eq))))) (And.intro (And.intro (And.intro (And.intro @aTru_eq (And.intro @aOrV_eq @aAndV_eq)) (And.intro (And.intro @aNotV_eq @aAnd_eq) (And.intro @aOr_eq @aNot_eq))) (And.intro (And.intro (And.intro @aYes_eq @aIf_eq) (And.intro @aNil_eq @aCons_eq)) (And.intro (And.intro @aTup_eq @aLst_eq) (And.intro @aNew_t @aNew_f)))) (And.intro (And.intro (And.intro (And.intro @frz_lst @frz_dct) (And.intro @frz_ins @aCB_eq)) (And.intro (And.intro @aCall_eq @aMeth_eq) (And.intro @aProp_eq @aFld_eq))) (And.intro (And.intro (And.intro @refK_ref @aSetFld_eq) (And.intro @aRaise_eq @aMake_t)) (And.intro (And.intro @aMake_f @aItL_eq) (And.intro @aItT_eq @intK_int)))))) (And.intro (And.intro (And.intro (And.intro (And.intro @aRng1_eq (And.intro @aRng2_eq @aEnum_eq)) (And.intro (And.intro @aZip_eq @aZipA_eq) (And.intro @zipK_l @zipK_t))) (And.intro (And.intro (And.intro @strK_str @aItS_eq) (And.intro @aLc_eq @aTry_eq)) (And.intro (And.intro @aFldX_eq @gI_eq) (And.intro @gI0_eq @gAdd_i)))) (And.intro (And.intro (And.intro (And.intro @gAdd_s @gAdd_t) (And.intro @gAdd_l @gAdd_rl)) (And.intro (And.intro @gAdd_lr @gAdd_rr) (And.intro @gMul_i @gMul_l))) (And.intro (And.intro (And.intro @gNeg_eq @gLt_i) (And.intro @gLt_s @gLe_i)) (And.intro (And.intro @gLe_s @gGt_i) (And.intro @gGt_s @gGe_i))))) (And.intro (And.intro (And.intro (And.intro @gGe_s (And.intro @gIs_f @gIs_t)) (And.intro (And.intro @gEq_fii @gEq_fss) (And.intro @gEq_fbb @gEq_fnn))) (And.intro (And.intro (And.intro @gEq_fns @gEq_fsn) (And.intro @gEq_fni @gEq_fin)) (And.intro (And.intro @gEq_fis @gEq_fsi) (And.intro @gEq_flstlst @gEq_flsttup)))) (And.intro (And.intro (And.intro (And.intro @gEq_flstref @gEq_ftuplst) (And.intro @gEq_ftuptup @gEq_ftupref)) (And.intro (And.intro @gEq_freflst @gEq_freftup) (And.intro @gEq_frefref @gIn_flst))) (And.intro (And.intro (And.intro @gIn_ftup @gIn_fref) (And.intro @gIn_fstr @aInT_f)) (And.intro (And.intro @gDIn_f @gInO_f) (And.intro @gEq_tii @gEq_tss))))))) (And.intro (And.intro (And.intro (And.intro (And.intro (And.intro @gEq_tbb (And.intro @gEq_tnn @gEq_tns)) (And.intro (And.intro @gEq_tsn @gEq_tni) (And.intro @gEq_tin @gEq_tis))) (And.intro (And.intro (And.intro @gEq_tsi @gEq_tlstlst) (And.intro @gEq_tlsttup @gEq_tlstref)) (And.intro (And.intro @gEq_ttuplst @gEq_ttuptup) (And.intro @gEq_ttupref @gEq_treflst)))) (And.intro (And.intro (And.intro (And.intro @gEq_treftup @gEq_trefref) (And.intro @gIn_tlst @gIn_ttup)) (And.intro (And.intro @gIn_tref @gIn_tstr) (And.intro @aInT_t @gDIn_t))) (And.intro (And.intro (And.intro @gInO_t @gDGet_eq) (And.intro @aDPut_eq @aDGet2_eq)) (And.intro (And.intro @aDGet1_eq @gSubs_lst) (And.intro @gSubs_tup @gSubs_rol))))) (And.intro (And.intro (And.intro (And.intro @gSubs_ref (And.intro @gSubs_str @gLen_lst)) (And.intro (And.intro @gLen_tup @gLen_rol) (And.intro @gLen_ref @gLen_str))) (And.intro (And.intro (And.intro @gList_eq @gTuple_eq) (And.intro @gInt_i @gInt_b)) (And.intro (And.intro @gAbs_eq @gMax_eq) (And.intro @gMin_eq @gStr_eq)))) (And.intro (And.intro (And.intro (And.intro @gBool_eq @gAll_eq) (And.intro @gAny_eq @gIsi_eq)) (And.intro (And.intro @gIsi2_eq @aBM_eq) (And.intro @gmAppend_eq @gmRev_eq))) (And.intro (And.intro (And.intro @gmPop_eq @gmPopAt_eq) (And.intro @gmExtT_eq @aNoPart_eq)) (And.intro (And.intro @aPart_eq @aSl_eq) (And.intro @gSl_lst @gSl_rol)))))) (And.intro (And.intro (And.intro (And.intro (And.intro @gSl_tup (And.intro @gSl_str @gSl_ref)) (And.intro (And.intro @aSetIx_eq @agNm_eq) (And.intro @agNil_eq @agCons_eq))) (And.intro (And.intro (And.intro @agTp_eq @agDk_eq) (And.intro @aAsgG_eq @aPairs_nil)) (And.intro (And.intro @aPairs_cons @aDisp_eq) (And.intro @aDNew_eq @gLenO_eq)))) (And.intro (And.intro (And.intro (And.intro @aFrz_eq @aFrzS_eq) (And.intro @endsOf_nx @endsOf_rt)) (And.intro (And.intro @endsOf_ex @oneK_eq) (And.intro @twoK_eq @ch1_str))) (And.intro (And.intro (And.intro @aItK_eq @aItI_eq) (And.intro @aDc_eq @gDictP_eq)) (And.intro (And.intro @gListD_eq @aStarD_eq) (And.intro @gOwnL_eq @gOwnR_eq))))) (And.intro (And.intro (And.intro (And.intro (And.intro @gNegO_eq @gIxO_eq) (And.intro @aAugO_eq @aCallO_eq)) (And.intro (And.intro @aCMeth_eq @aMakeSS_eq) (And.intro @aMakeKS_eq @gIsiC_obj))) (And.intro (And.intro (And.intro @gIsiC_int @gIsiT_obj) (And.intro @gIsiT_int @gIsiX_obj)) (And.intro (And.intro @gIsiX_int @gNegX_int) (And.intro @gNegX_obj @aChain_eq)))) (And.intro (And.intro (And.intro (And.intro @aFmt_eq @aFs_eq) (And.intro @aJs_nil @aJs_cons)) (And.intro (And.intro @fmtK_str @fmtK_int) (And.intro @aTm0_eq @aTm1_eq))) (And.intro (And.intro (And.intro @gJoin_eq @gWords_eq) (And.intro @gSplit_eq @gStrO_eq)) (And.intro (And.intro @aTruD_eq @zipK_xt) (And.intro @zipK_tx @zipK_xx))))))))
def RU := (And.intro (And.intro (And.intro (And.intro (And.intro (And.intro (And.intro @flatV_str (And.intro @flatV_int @flatV_non)) (And.intro (And.intro @kit_NoneType_bool @kit_NoneType_int) (And.intro @kit_NoneType_str @kit_NoneType_list))) (And.intro (And.intro (And.intro @kit_NoneType_tuple @kit_NoneType_dict) (And.intro @kit_bool_bool @kit_bool_int)) (And.intro (And.intro @kit_bool_str @kit_bool_list) (And.intro @kit_bool_tuple @kit_bool_dict)))) (And.intro (And.intro (And.intro (And.intro @kit_int_bool @kit_int_int) (And.intro @kit_int_str @kit_int_list)) (And.intro (And.intro @kit_int_tuple @kit_int_dict) (And.intro @kit_str_bool @kit_str_int))) (And.intro (And.intro (And.intro @kit_str_str @kit_str_list) (And.intro @kit_str_tuple @kit_str_dict)) (And.intro (And.intro @kit_list_bool @kit_list_int) (And.intro @kit_list_str @kit_list_list))))) (And.intro (And.intro (And.intro (And.intro (And.intro @kit_list_tuple @kit_list_dict) (And.intro @kit_tuple_bool @kit_tuple_int)) (And.intro (And.intro @kit_tuple_str @kit_tuple_list) (And.intro @kit_tuple_tuple @kit_tuple_dict))) (And.intro (And.intro (And.intro @kit_dict_bool @kit_dict_int) (And.intro @kit_dict_str @kit_dict_list)) (And.intro (And.intro @kit_dict_tuple @kit_dict_dict) (And.intro @leS0 @leS1)))) (And.intro (And.intro (And.intro (And.intro @leS2 @leS3) (And.intro @leS4 @leS5)) (And.intro (And.intro @leS6 @leS7) (And.intro @leS8 @leS9))) (And.intro (And.intro (And.intro @leS10 @leS11) (And.intro @leS12 @truO_lst)) (And.intro (And.intro @lstO_lst @truO_dct) (And.intro @lstO_dct @topO_dct)))))) (And.intro (And.intro (And.intro (And.intro (And.intro (And.intro @truO_ins @lstO_ins) (And.intro @topO_ins @dctO_dct)) (And.intro (And.intro @dctO_lst @dctO_ins) (And.intro @insO_ins @insO_lst))) (And.intro (And.intro (And.intro @insO_dct @kdOO_lst) (And.intro @kdOO_dct @topO_lst)) (And.intro (And.intro @truD_non @truD_bl) (And.intro @truD_int @truD_str)))) (And.intro (And.intro (And.intro (And.intro @truD_ty @truD_ref) (And.intro @truD_tup @truD_lst)) (And.intro (And.intro @truD_rol @truD_dct) (And.intro @truD_dtt @truD_obj))) (And.intro (And.intro (And.intro @truD_exc @lenOk_non) (And.intro @lenOk_bl @lenOk_int)) (And.intro (And.intro @lenOk_str @lenOk_ty) (And.intro @lenOk_ref @lenOk_tup))))) (And.intro (And.intro (And.intro (And.intro (And.intro @lenOk_lst @lenOk_rol) (And.intro @lenOk_dct @lenOk_dtt)) (And.intro (And.intro @lenOk_obj @lenOk_exc) (And.intro @asL_non @asL_bl))) (And.intro (And.intro (And.intro @asL_int @asL_str) (And.intro @asL_ty @asL_ref)) (And.intro (And.intro @asL_tup @asL_lst) (And.intro @asL_rol @asL_dct)))) (And.intro (And.intro (And.intro (And.intro @asL_dtt @asL_obj) (And.intro @asL_exc @asX_non)) (And.intro (And.intro @asX_bl @asX_int) (And.intro @asX_str @asX_ty))) (And.intro (And.intro (And.intro @asX_ref @asX_tup) (And.intro @asX_lst @asX_rol)) (And.intro (And.intro @asX_dct @asX_dtt) (And.intro @asX_obj @asX_exc))))))) (And.intro (And.intro (And.intro (And.intro (And.intro (And.intro (And.intro @asT_non @asT_bl) (And.intro @asT_int @asT_str)) (And.intro (And.intro @asT_ty @asT_ref) (And.intro @asT_tup @asT_lst))) (And.intro (And.intro (And.intro @asT_rol @asT_dct) (And.intro @asT_dtt @asT_obj)) (And.intro (And.intro @asT_exc @asD_non) (And.intro @asD_bl @asD_int)))) (And.intro (And.intro (And.intro (And.intro @asD_str @asD_ty) (And.intro @asD_ref @asD_tup)) (And.intro (And.intro @asD_lst @asD_rol) (And.intro @asD_dct @asD_dtt))) (And.intro (And.intro (And.intro @asD_obj @asD_exc) (And.intro @asO_non @asO_bl)) (And.intro (And.intro @asO_int @asO_str) (And.intro @asO_ty @asO_ref))))) (And.intro (And.intro (And.intro (And.intro (And.intro @asO_tup @asO_lst) (And.intro @asO_rol @asO_dct)) (And.intro (And.intro @asO_dtt @asO_obj) (And.intro @asO_exc @asQ_non))) (And.intro (And.intro (And.intro @asQ_bl @asQ_int) (And.intro @asQ_str @asQ_ty)) (And.intro (And.intro @asQ_ref @asQ_tup) (And.intro @asQ_lst @asQ_rol)))) (And.intro (And.intro (And.intro (And.intro @asQ_dct @asQ_dtt) (And.intro @asQ_obj @asQ_exc)) (And.intro (And.intro @isNoD_non @isNoD_bl) (And.intro @isNoD_int @isNoD_str))) (And.intro (And.intro (And.intro @isNoD_ty @isNoD_ref) (And.intro @isNoD_tup @isNoD_lst)) (And.intro (And.intro @isNoD_rol @isNoD_dct) (And.intro @isNoD_dtt @isNoD_obj)))))) (And.intro (And.intro (And.intro (And.intro (And.intro (And.intro @isNoD_exc @scD_non) (And.intro @scD_bl @scD_int)) (And.intro (And.intro @scD_str @scD_ty) (And.intro @scD_ref @scD_tup))) (And.intro (And.intro (And.intro @scD_lst @scD_rol) (And.intro @scD_dct @scD_dtt)) (And.intro (And.intro @scD_obj @scD_exc) (And.intro @keyOf_non @keyOf_bl)))) (And.intro (And.intro (And.intro (And.intro @keyOf_int @keyOf_str) (And.intro @keyOf_ty @keyOf_ref)) (And.intro (And.intro @keyOf_tup @keyOf_lst) (And.intro @keyOf_rol @keyOf_dct))) (And.intro (And.intro (And.intro @keyOf_dtt @keyOf_obj) (And.intro @keyOf_exc @kdD_non)) (And.intro (And.intro @kdD_bl @kdD_int) (And.intro @kdD_str @kdD_ty))))) (And.intro (And.intro (And.intro (And.intro (And.intro @kdD_ref @kdD_tup) (And.intro @kdD_lst @kdD_rol)) (And.intro (And.intro @kdD_dct @kdD_dtt) (And.intro @kdD_obj @kdD_exc))) (And.intro (And.intro (And.intro @topP_non @topP_bl) (And.intro @topP_int @topP_str)) (And.intro (And.intro @topP_ty @topP_ref) (And.intro @topP_tup @topP_lst)))) (And.intro (And.intro (And.intro (And.intro @topP_rol @topP_dct) (And.intro @topP_dtt @topP_obj)) (And.intro (And.intro @topP_exc @keyEq_ii) (And.intro @keyEq_ss @keyEq_is))) (And.intro (And.intro (And.intro @keyEq_si @asQt_ref) (And.intro @asQt_tup @asQt_lst)) (And.intro (And.intro @asQt_rol @asT_tux) (And.intro @asQ_tux @kdD_tux))))))))
end Av

set_option Elab.async false
set_option linter.all false
set_option maxRecDepth 100000
set_option maxHeartbeats 4000000
namespace Av
open PySem PySem.Spec PyProof.Rows L2 My
section
variable {X : Cx} {K : PySem.W.Frag}
variable {C f : Addr} {asp : ASp} {k : Nat}
end
end Av

set_option Elab.async false
set_option linter.all false
set_option maxRecDepth 100000
set_option maxHeartbeats 4000000
namespace Av
open PySem PySem.Spec PyProof.Rows L2 My
theorem take_succ {α : Type} {l : List α} {i : Nat} {x : α} (h : l[i]? = some x) : l.take (i + 1) = l.take i ++ [x] := by simp [List.take_add_one, h]
end Av

set_option Elab.async false
set_option linter.all false
set_option maxRecDepth 100000
set_option maxHeartbeats 4000000
namespace Av
open PySem PySem.Spec PyProof.Rows L2 My
section
variable {A : AH} {Q : AQ} {E : AX}
end
end Av

set_option Elab.async false
set_option linter.all false
set_option maxRecDepth 100000
set_option maxHeartbeats 4000000
namespace Av
open PySem PySem.Spec PyProof.Rows L2 My
end Av

set_option Elab.async false
set_option linter.all false
set_option maxRecDepth 100000
set_option maxHeartbeats 4000000
set_option exponentiation.threshold 2000
namespace Av
open PySem PySem.Spec PyProof.Rows L2 My
end Av

set_option Elab.async false
set_option linter.all false
set_option maxRecDepth 100000
set_option maxHeartbeats 4000000
namespace Av
open PySem PySem.Spec PyProof.Rows L2 My
section
variable {A : AH} {Q : AQ} {E : AX} {K : PySem.W.Frag} {C : Addr}
end
end Av

set_option Elab.async false
set_option linter.all false
set_option maxRecDepth 100000
set_option maxHeartbeats 4000000
namespace Av
open PySem PySem.Spec PyProof.Rows L2 My
section
variable {A : AH} {Q : AQ} {E : AX}
end
end Av

set_option Elab.async false
set_option linter.all false
set_option maxRecDepth 100000
set_option maxHeartbeats 4000000
namespace Av
open PySem PySem.Spec PyProof.Rows L2 My
section
variable {X : Cx} {W : WX} {k : Nat} {f C : Addr} {asp : ASp} {x : Str} {e : Expr} {es : List Expr} {t : AA} {p pos : Pos} {K : PySem.W.Frag}
def aTryE (K : PySem.W.Frag) (tb : AS) (l : List ACl) (tu : AS) : AS := fun N δ A => tb { N with nx := tu N, ex := fun C fs δ A => aHandle K N l C fs δ A } δ A
theorem aTryE_eq {tb tu : AS} {l : List ACl} {N : AEnds} {δ : ASt} {A : AH} : aTryE K tb l tu N δ A = tb { nx := tu N, rt := N.rt, bk := N.bk, ct := N.ct, ex := fun C fs δ A => aHandle K N l C fs δ A } δ A := rfl
def gEqD0 (neg : Bool) : G2 := fun x y A Q _ => ∃ kx, asD A x = some kx ∧ asD A y = some [] ∧ Q (.bl (if neg then !kx.isEmpty else kx.isEmpty)) A
theorem gEqD0_eq {neg : Bool} {x y : D} {A : AH} {Q : AQ} {E : AX} : gEqD0 neg x y A Q E = oK (asD A x) (fun kx => asD A y = some [] ∧ Q (.bl (if neg then !kx.isEmpty else kx.isEmpty)) A) ⟨⟩ := rfl
end
end Av

set_option Elab.async false
set_option linter.all false
set_option maxRecDepth 100000
set_option maxHeartbeats 4000000
namespace Av
open PySem PySem.Spec PyProof.Rows L2 My
variable {α : Type}
end Av

set_option Elab.async false
set_option linter.all false
set_option maxRecDepth 100000
set_option maxHeartbeats 4000000
namespace Av
open PySem PySem.Spec PyProof.Rows L2 My
section
variable {X : Cx} {W : WX} {e : Expr} {te : AE} {t : AA} {K : PySem.W.Frag}
def aItQ (te : AE) : AI := fun δ A Q E => te δ A (fun d A1 => oK (asQ A1 d) (fun xs => Q (fun A => asQ A d = some xs, xs) A1) ⟨⟩) E
theorem aItQ_eq {δ : ASt} {A : AH} {Q : IA → AH → Prop} {E : AX} : aItQ te δ A Q E = te δ A (fun d A1 => oK (asQ A1 d) (fun xs => Q (fun A => asQ A d = some xs, xs) A1) ⟨⟩) E := rfl
def aRev (t : AA) : AI := fun δ A Q E => t δ A (fun ds A1 => oneK ds fun d => oK (asL A1 d) (fun xs => Q (fun A => asL A d = some xs, xs.reverse) A1) ⟨⟩) E
theorem aRev_eq {δ : ASt} {A : AH} {Q : IA → AH → Prop} {E : AX} : aRev t δ A Q E = t δ A (fun ds A1 => oneK ds fun d => oK (asL A1 d) (fun xs => Q (fun A => asL A d = some xs, xs.reverse) A1) ⟨⟩) E := rfl
end
end Av

set_option Elab.async false
set_option linter.all false
set_option maxRecDepth 100000
set_option maxHeartbeats 4000000
namespace Av
open PySem PySem.Spec PyProof.Rows L2 My
section
variable {A : AH} {Q : AQ} {E : AX} {α : Type}
end
end Av

set_option Elab.async false
set_option linter.all false
set_option maxRecDepth 100000
set_option maxHeartbeats 4000000
namespace Av
open PySem PySem.Spec PyProof.Rows L2 My
section
variable {X : Cx} {W : WX} {e : Expr} {te : AE} {pos : Pos}
def aAsg2 (te : AE) (p1 p2 : Pat) : AS := fun D δ A => te δ A (fun d A1 => ∃ δ1, bindP p1 d δ = some δ1 ∧ ∃ δ2, bindP p2 d δ1 = some δ2 ∧ D.nx δ2 A1) (fun C fs A1 => D.ex C fs δ A1)
theorem aAsg2_eq {p1 p2 : Pat} {N : AEnds} {δ : ASt} {A : AH} : aAsg2 te p1 p2 N δ A = te δ A (fun d A1 => bindK p1 d δ (fun δ1 => bindK p2 d δ1 (fun δ2 => N.nx δ2 A1))) (fun C fs A1 => N.ex C fs δ A1) := rfl
end
end Av

set_option Elab.async false
set_option linter.all false
set_option maxRecDepth 100000
set_option maxHeartbeats 4000000
namespace Av
open PySem PySem.Spec PyProof.Rows L2 My
end Av

set_option Elab.async false
set_option linter.all false
set_option maxRecDepth 100000
set_option maxHeartbeats 4000000
namespace Av
open PySem PySem.Spec PyProof.Rows L2 My
section
variable {X : Cx}
end
end Av

set_option Elab.async false
set_option linter.all false
set_option maxRecDepth 100000
set_option maxHeartbeats 4000000
namespace Av
open PySem PySem.Spec PyProof.Rows L2 My
section
variable {X : Cx} {K : PySem.W.Frag} {W : WX} {a b : Expr} {ta tb : AE} {pos : Pos}
def gRepS : G2 := fun x y A Q _ => ∃ (z : Str) (k : Int), x = .str z ∧ y = .int k ∧ 2 ≤ k ∧ k ≤ 1000 ∧ 1 ≤ z.length ∧ z.length ≤ 1000 ∧ Q (.str (repS z k.toNat)) A
theorem gRepS_eq {z : Str} {k : Int} {A : AH} {Q : AQ} {E : AX} : gRepS (.str z) (.int k) A Q E = (2 ≤ k ∧ k ≤ 1000 ∧ 1 ≤ z.length ∧ z.length ≤ 1000 ∧ Q (.str (repS z k.toNat)) A) := by
  apply propext
  exact ⟨fun ⟨_, _, e1, e2, h⟩ => by cases e1; cases e2; exact h, fun h => ⟨_, _, rfl, rfl, h⟩⟩
end
end Av

set_option Elab.async false
set_option linter.all false
set_option maxRecDepth 100000
set_option maxHeartbeats 4000000
namespace Av
open PySem PySem.Spec PyProof.Rows L2 My
section
variable {X : Cx} {W : WX} {k n : Nat} {f g C : Addr} {asp : ASp} {x m : Str} {a b e o : Expr} {es : List Expr} {ta tb te tf : AE} {t : AA} {p pos apos : Pos} {K : PySem.W.Frag} {bad ks : List Str} {kws : List Keyword}
def aCMethX (C : Addr) (asp : ASp) (ta : AE) (t : AA) : AE := fun δ A Q E => ta δ A (fun x A1 => x = .ref C ∧ t δ A1 (fun ds A2 => Call asp (.ref C :: ds) A2 Q E ⟨⟩) E) E
def aMakeKSX (C : Addr) (n : Nat) (ks : List Str) (asp : ASp) (t tk : AA) : AE := fun δ A Q E => t δ A (fun ds A1 => tk δ A1 (fun zs A2 => ds.length + 1 = n ∧ zs.length = ks.length ∧
  ∀ x, A2 x = none → Call asp (.ref x :: ds ++ [.dct ((ks.map D.str).zip zs)]) (put A2 x (.ins C [])) (fun d A3 => d = .non ∧ ∃ fs, A3 x = some (.ins C fs) ∧ Q (.obj C fs) (del A3 x)) E ⟨⟩) E) E
def aTryE2 (K : PySem.W.Frag) (tb : AS) (c1 c2 : Value) (ts : Addr → Addr → Addr → List (Str × D) → AS) (l : List ACl) (tu : AS) : AS := fun N δ A => tb { N with nx := tu N, ex := fun C fs δ A => ∃ b, PySem.W.exmAny K (.ref C) [c1, c2] = some b ∧ (b = true → ∀ a dd, ts a dd C fs (endsAA none N) δ A) ∧ (b = false → aHandle K N l C fs δ A) } δ A
theorem aTryE2_eq {tb tu : AS} {c1 c2 : Value} {ts : Addr → Addr → Addr → List (Str × D) → AS} {l : List ACl} {N : AEnds} {δ : ASt} {A : AH} : aTryE2 K tb c1 c2 ts l tu N δ A = tb { nx := tu N, rt := N.rt, bk := N.bk, ct := N.ct, ex := fun C fs δ A => ∃ b, PySem.W.exmAny K (.ref C) [c1, c2] = some b ∧ (b = true → ∀ a dd, ts a dd C fs (endsAA none N) δ A) ∧ (b = false → aHandle K N l C fs δ A) } δ A := rfl
end
section
variable {P : Program} {w : World} {K : PySem.W.Frag} {mg : Str → Option Value} {base : Heap} {k : Nat} {f : Addr} {asp : ASp} {x qual : Str} {n1 n2 n3 : Option Expr} {p1 p2 p3 : Pos} {kwd : List (Option Expr)} {df : List Expr} {body : List Stmt} {scope : Scope} {kws : List (Str × V)} {fd : FuncData} {N : List Str} {i : Int}
end
section
variable {C : Addr} {n : Nat} {ks : List Str} {asp : ASp} {ta : AE} {t tk : AA} {δ : ASt} {A : AH} {Q : AQ} {E : AX}
theorem aCMethX_eq : aCMethX C asp ta t δ A Q E = ta δ A (fun x A1 => x = .ref C ∧ t δ A1 (fun ds A2 => Call asp (.ref C :: ds) A2 Q E ⟨⟩) E) E := rfl
theorem aMakeKSX_eq : aMakeKSX C n ks asp t tk δ A Q E = t δ A (fun ds A1 => tk δ A1 (fun zs A2 => ds.length + 1 = n ∧ zs.length = ks.length ∧
  ∀ x, A2 x = none → Call asp (.ref x :: ds ++ [.dct ((ks.map D.str).zip zs)]) (put A2 x (.ins C [])) (fun d A3 => d = .non ∧ ∃ fs, A3 x = some (.ins C fs) ∧ Q (.obj C fs) (del A3 x)) E ⟨⟩) E) E := rfl
end
section
variable {X : Cx} {K : PySem.W.Frag}
def isBlD (b : Bool) : D → Bool
  | .bl c => decide (c = b)
  | _ => false
def gIsB (neg : Bool) : G2 := fun x y A Q _ => ∃ b, y = .bl b ∧ Q (.bl (if neg then !isBlD b x else isBlD b x)) A
theorem gIsB_eq {neg b : Bool} {x : D} {A : AH} {Q : AQ} {E : AX} : gIsB neg x (.bl b) A Q E = Q (.bl (if neg then !isBlD b x else isBlD b x)) A := by
  apply propext
  exact ⟨fun ⟨_, e, h⟩ => by cases e; exact h, fun h => ⟨_, rfl, h⟩⟩
theorem isBlD_bl {b c : Bool} : isBlD b (.bl c) = decide (c = b) := rfl
theorem isBlD_tup {b : Bool} {xs : List D} : isBlD b (.tup xs) = false := rfl
end
end Av

set_option Elab.async false
set_option linter.all false
set_option maxRecDepth 100000
set_option maxHeartbeats 4000000
namespace Av
open PySem PySem.Spec PyProof.Rows L2 My
section
variable {X : Cx} {W : WX} {K : PySem.W.Frag}
end
section
variable {X : Cx} {W : WX} {k : Nat} {f C : Addr} {asp : ASp} {x : Str} {p pos : Pos} {bad : List Str}
end
end Av

set_option Elab.async false
set_option linter.all false
set_option maxRecDepth 100000
set_option maxHeartbeats 4000000
namespace Av
open PySem PySem.Spec PyProof.Rows L2 My
section
variable {X : Cx} {W : WX} {pos : Pos}
def aCompS (gd : AH → Prop) (p : Pat) (tt : AT) (te : AE) (δ : ASt) : List D → List Str → AH → (List Str → AH → Prop) → Prop
  | [], L, A, Q => gd A ∧ Q L A
  | d :: ds, L, A, Q => gd A ∧ ∃ δ2, bindP p d δ = some δ2 ∧ tt δ2 A (fun b A1 => if b = true then te δ2 A1 (fun y A2 => ∃ k, y = .str k ∧ L.length + 1 < scanBound ∧ aCompS gd p tt te δ ds (addT L k) A2 Q) noX else aCompS gd p tt te δ ds L A1 Q) noX
def aSc (ti : AI) (p : Pat) (tt : AT) (te : AE) (vs : List Nat) (k : List Str → AH → AQ → Prop) : AE := fun δ A Q E => ti δ A (fun i A1 => aCompS i.1 p tt te (wipeA δ vs) i.2 [] A1 (fun L A2 => k L A2 Q)) E
def kSrt (live : Bool) : List Str → AH → AQ → Prop := fun L A Q => L.length < 64 ∧ aNew live (.lst ((srt L).map D.str)) A Q
end
section
variable {X : Cx} {W : WX} {pos p : Pos} {e o : Expr} {es : List Expr} {te to : AE} {t : AA} {K : PySem.W.Frag} {δ : ASt} {A : AH} {Q : AQ} {E : AX}
def LoopS (gd : AH → Prop) (p : Pat) (tt : AT) (te : AE) (δ : ASt) (ds : List D) (L : List Str) (A : AH) (Q : List Str → AH → Prop) (_ : Tag (gd, tt, te, Q)) : Prop := aCompS gd p tt te δ ds L A Q
theorem aSc_eq {ti : AI} {p : Pat} {tt : AT} {te : AE} {vs : List Nat} {k : List Str → AH → AQ → Prop} : aSc ti p tt te vs k δ A Q E = ti δ A (fun i A1 => LoopS i.1 p tt te (wipeA δ vs) i.2 [] A1 (fun L A2 => k L A2 Q) ⟨⟩) E := rfl
theorem kSrt_eq {live : Bool} {L : List Str} : kSrt live L A Q = (L.length < 64 ∧ aNew live (.lst ((srt L).map D.str)) A Q) := rfl
def setT (l : List Str) : List Str := l.foldl addT []
def seqOf (A : AH) (d : D) : Option (List D) := match asT d with
  | some xs => some xs
  | none => asL A d
theorem seqOf_tup {xs : List D} : seqOf A (.tup xs) = some xs := rfl
theorem seqOf_lst {xs : List D} : seqOf A (.lst xs) = some xs := rfl
theorem seqOf_ref {a : Addr} : seqOf A (.ref a) = asL A (.ref a) := rfl
def aStarL (te : AE) (t : AA) : AA := fun δ A Q E => te δ A (fun d A1 => oK (seqOf A1 d) (fun xs => t δ A1 (fun ys A2 => Q (xs ++ ys) A2) E) ⟨⟩) E
theorem aStarL_eq {Q : List D → AH → Prop} : aStarL te t δ A Q E = te δ A (fun d A1 => oK (seqOf A1 d) (fun xs => t δ A1 (fun ys A2 => Q (xs ++ ys) A2) E) ⟨⟩) E := rfl
def gIntS : GA := fun xs A Q _ => ∃ a n, xs = [.str a] ∧ PySem.intText? a = some n ∧ a.length ≤ 640 ∧ Q (.int n) A
theorem gIntS_eq {s : Str} : gIntS [.str s] A Q E = oK (PySem.intText? s) (fun n => s.length ≤ 640 ∧ Q (.int n) A) ⟨⟩ := by
  apply propext
  unfold gIntS oK
  constructor
  · rintro ⟨a, n, h0, h1, h2, h3⟩; cases h0; exact ⟨n, h1, h2, h3⟩
  · rintro ⟨n, h1, h2, h3⟩; exact ⟨s, n, rfl, h1, h2, h3⟩
def aIdx (to te : AE) : AE := fun δ A Q E => to δ A (fun x A1 => (∃ ys, asL A1 x = some ys) ∧ te δ A1 (fun y A2 => ∃ (ks : List Str) (k : Str) (j : Nat), asL A2 x = some (ks.map D.str) ∧ y = .str k ∧ ks.findIdx? (fun z => decide (z = k)) = some j ∧ Q (D.int (j : Nat)) A2) E) E
theorem aIdx_eq : aIdx to te δ A Q E = to δ A (fun x A1 => (∃ ys, asL A1 x = some ys) ∧ te δ A1 (fun y A2 => ∃ (ks : List Str) (k : Str) (j : Nat), asL A2 x = some (ks.map D.str) ∧ y = .str k ∧ ks.findIdx? (fun z => decide (z = k)) = some j ∧ Q (D.int (j : Nat)) A2) E) E := rfl
theorem insO_some {o : Option AO} {z : Addr × List (Str × D)} (h : insO o = some z) : o = some (.ins z.1 z.2) := by
  unfold insO at h
  split at h
  · cases h; rfl
  · cases h
def aFrzF (i : Nat) (fl : Str) (t : AS) : AS := fun N δ A => ∃ p C fs q ob, δ[i]? = some (some (.ref p)) ∧ A p = some (.ins C fs) ∧ fs.lookup fl = some (.ref q) ∧ A q = some ob ∧ p ≠ q ∧ t N δ (put (del A q) p (.ins C (putFA fl (frz ob) fs)))
theorem aFrzF_eq {i : Nat} {fl : Str} {t : AS} {N : AEnds} : aFrzF i fl t N δ A = aVar i δ A (fun d A1 => refK d (fun p => oK (insO (A1 p)) (fun z => oK (z.2.lookup fl) (fun y => refK y (fun q => oK (A1 q) (fun ob => p ≠ q ∧ t N δ (put (del A1 q) p (.ins z.1 (putFA fl (frz ob) z.2)))) ⟨⟩)) ⟨⟩) ⟨⟩)) noX := by
  apply propext
  unfold aFrzF aVar refK oK
  constructor
  · rintro ⟨p, C, fs, q, ob, h0, h1, h2, h3, h4, h5⟩
    exact ⟨_, h0, p, rfl, (C, fs), by rw [h1]; rfl, .ref q, h2, q, rfl, ob, h3, h4, h5⟩
  · rintro ⟨d, h0, p, rfl, z, h1, y, h2, q, rfl, ob, h3, h4, h5⟩
    exact ⟨p, z.1, z.2, q, ob, h0, insO_some h1, h2, h3, h4, h5⟩
end
end Av

set_option Elab.async false
set_option linter.all false
set_option maxRecDepth 100000
set_option maxHeartbeats 4000000
namespace Av
open PySem PySem.Spec PyProof.Rows L2 My
section
variable {X : Cx} {W : WX} {pos p p2 q : Pos} {e : Expr} {te : AE} {δ : ASt} {A : AH} {Q : AQ} {E : AX}
def aSetK (te : AE) (k : List Str → AH → AQ → Prop) : AE := fun δ A Q E => te δ A (fun d A1 => ∃ ks, asX A1 d = some (ks.map D.str) ∧ ks.length < 64 ∧ k ks A1 Q) E
theorem aSetK_eq {k : List Str → AH → AQ → Prop} : aSetK te k δ A Q E = te δ A (fun d A1 => ∃ ks, asX A1 d = some (ks.map D.str) ∧ ks.length < 64 ∧ k ks A1 Q) E := rfl
def kSetSrt (live : Bool) : List Str → AH → AQ → Prop := fun ks A Q => aNew live (.lst ((srt (setT ks)).map D.str)) A Q
theorem kSetSrt_eq {live : Bool} {ks : List Str} : kSetSrt live ks A Q = aNew live (.lst ((srt (setT ks)).map D.str)) A Q := rfl
def kSetLen : List Str → AH → AQ → Prop := fun ks A Q => Q (.int ((setT ks).length : Nat)) A
theorem kSetLen_eq {ks : List Str} : kSetLen ks A Q = Q (.int ((setT ks).length : Nat)) A := rfl
end
end Av

set_option Elab.async false
set_option linter.all false
set_option maxRecDepth 100000
set_option maxHeartbeats 4000000
namespace Av
open PySem PySem.Spec PyProof.Rows L2 My
section
variable {X : Cx} {W : WX} {pos pos' p p2 q : Pos} {o e : Expr} {te to : AE} {N : AEnds} {δ : ASt} {A : AH} {E : AX}
def agIx (to ti : AE) : AG := fun d δ A Q E => to δ A (fun x A1 => ti δ A1 (fun y A2 => ∃ l i xs j, x = .ref l ∧ y = .int i ∧ A2 l = some (.lst xs) ∧ ixN xs.length i = some j ∧ Q δ (put A2 l (.lst (xs.set j d)))) E) E
theorem agIx_eq {to ti : AE} {d : D} {Q : ASt → AH → Prop} : agIx to ti d δ A Q E = to δ A (fun x A1 => ti δ A1 (fun y A2 => refK x (fun l => intK y (fun i => oK (lstO (A2 l)) (fun xs => oK (ixN xs.length i) (fun j => Q δ (put A2 l (.lst (xs.set j d)))) ⟨⟩) ⟨⟩))) E) E := by
  unfold agIx
  congr 1
  funext x A1
  congr 1
  funext y A2
  apply propext
  constructor
  · rintro ⟨l, i, xs, j, rfl, rfl, h1, h2, h3⟩; exact ⟨l, rfl, i, rfl, xs, by rw [h1]; rfl, j, h2, h3⟩
  · rintro ⟨l, rfl, i, rfl, xs, h1, j, h2, h3⟩; exact ⟨l, i, xs, j, rfl, rfl, lstO_some h1, h2, h3⟩
end
end Av

set_option Elab.async false
set_option linter.all false
set_option maxRecDepth 100000
set_option maxHeartbeats 4000000
namespace Av
open PySem PySem.Spec PyProof.Rows L2 My
section
variable {X : Cx} {W : WX} {pos p : Pos} {e : Expr} {t : AA} {δ : ASt} {A : AH} {E : AX} {K : PySem.W.Frag}
def aEnumQ (t : AA) : AI := fun δ A Q E => t δ A (fun ds A1 => oneK ds (fun d => oK (asQ A1 d) (fun xs => Q (fun A => asQ A d = some xs, enumL xs) A1) ⟨⟩)) E
theorem aEnumQ_eq {Q : IA → AH → Prop} : aEnumQ t δ A Q E = t δ A (fun ds A1 => oneK ds (fun d => oK (asQ A1 d) (fun xs => Q (fun A => asQ A d = some xs, enumL xs) A1) ⟨⟩)) E := rfl
end
end Av

set_option Elab.async false
set_option linter.all false
set_option maxRecDepth 100000
set_option maxHeartbeats 4000000
namespace Av
open PySem PySem.Spec PyProof.Rows L2 My
def srtI (l : List Int) : List Int := l.mergeSort fun a b => decide (a ≤ b)
section
variable {X : Cx} {A : AH} {Q : AQ} {E : AX}
def gSortI (live : Bool) : GA := fun xs A Q _ => ∃ d ns, xs = [d] ∧ asX A d = some (ns.map D.int) ∧ ns.length < 64 ∧ aNew live (.lst ((srtI ns).map D.int)) A Q
theorem gSortI_eq {live : Bool} {d : D} : gSortI live [d] A Q E = ∃ ns : List Int, asX A d = some (ns.map D.int) ∧ ns.length < 64 ∧ aNew live (.lst ((srtI ns).map D.int)) A Q := by
  apply propext
  constructor
  · rintro ⟨d', ns, e, h⟩
    cases e
    exact ⟨ns, h⟩
  · rintro ⟨ns, h⟩
    exact ⟨d, ns, rfl, h⟩
end
end Av

set_option Elab.async false
set_option linter.all false
set_option maxRecDepth 100000
set_option maxHeartbeats 4000000
namespace Av
open PySem PySem.Spec PyProof.Rows L2 My
section
variable {X : Cx} {W : WX} {k n : Nat} {g C : Addr} {asp : ASp} {m : Str} {a b o : Expr} {ta tb : AE} {pos apos : Pos} {K : PySem.W.Frag}
variable {to : AE}
end
end Av

set_option Elab.async false
set_option linter.all false
set_option maxRecDepth 100000
set_option maxHeartbeats 4000000
namespace Av
open PySem PySem.Spec PyProof.Rows L2 My
mutual
def keyN : D → Option NestedKey
  | .non => some .none
  | .int i => some (.num i)
  | .str x => some (.text x)
  | .tup xs => (keyNs xs).map .tup
  | _ => none
def keyNs : List D → Option (List NestedKey)
  | [] => some []
  | d :: ds => match keyN d, keyNs ds with
    | some k, some ks => some (k :: ks)
    | _, _ => none
end
def valND (kvs : List (NestedKey × D)) (k : NestedKey) : Option D := (kvs.find? fun x => decide (x.1 = k)).map (·.2)
def putND (kvs : List (NestedKey × D)) (k : NestedKey) (d : D) : List (NestedKey × D) := if (valND kvs k).isSome then kvs.map (fun x => if x.1 = k then (x.1, d) else x) else kvs ++ [(k, d)]
section
variable {K : PySem.W.Frag} {F : Addr → Prop} {H : Hp}
theorem RepN.length : ∀ {ds : List (NestedKey × D)} {es : List NE}, RepN K F H ds es → ds.length = es.length
  | _, _, .nil => rfl
  | _, _, .cons _ _ _ _ r => by rw [List.length_cons, List.length_cons, RepN.length r]
end
def nddO : Option AO → Option ((Program × World) × List (NestedKey × D))
  | some (.dtt z kvs) => some (z, kvs)
  | some (.lkd z kvs _ _ _) => some (z, kvs)
  | _ => none
def nddP : Option AO → Option ((Program × World) × List (NestedKey × D))
  | some (.dtt z kvs) => some (z, kvs)
  | _ => none
def asN (A : AH) : D → Option ((Program × World) × List (NestedKey × D))
  | .dtt z kvs => some (z, kvs)
  | .ref a => nddO (A a)
  | _ => none
section
variable {K : PySem.W.Frag} {F : Addr → Prop} {H : Hp} {A : AH}
end
section
variable {X : Cx} {W : WX} {a b o ee f : Expr} {ta tb td ty tx : AE} {pos apos cpos : Pos}
def gNGet (z : Program × World) : G2 := fun x y A Q _ => ∃ kvs ks v, asN A x = some (z, kvs) ∧ keyN y = some (.tup ks) ∧ (NestedKey.tup ks).depth ≤ 8 ∧ valND kvs (.tup ks) = some v ∧ Q v A
def gNIn (z : Program × World) (neg : Bool) : G2 := fun x y A Q _ => ∃ kvs ks, asN A y = some (z, kvs) ∧ keyN x = some (.tup ks) ∧ (NestedKey.tup ks).depth ≤ 8 ∧ Q (.bl (if neg then !(valND kvs (.tup ks)).isSome else (valND kvs (.tup ks)).isSome)) A
def aNNew (z : Program × World) (live : Bool) : AE := fun _ A Q _ => aNew live (.dtt z []) A Q
def agNk (z : Program × World) (to ti : AE) : AG := fun d δ A Q E => to δ A (fun x A1 => ti δ A1 (fun y A2 => ∃ a kvs ks, x = .ref a ∧ A2 a = some (.dtt z kvs) ∧ keyN y = some (.tup ks) ∧ (NestedKey.tup ks).depth ≤ 8 ∧ kvs.length < sizeLine ∧ Q δ (put A2 a (.dtt z (putND kvs (.tup ks) d)))) E) E
def aNGet2 (z0 : Program × World) (td ty tx : AE) : AE := fun δ A Q E => td δ A (fun x A1 => (∃ kvs, asN A1 x = some (z0, kvs)) ∧ ty δ A1 (fun y A2 => tx δ A2 (fun z A3 => ∃ kvs q, asN A3 x = some (z0, kvs) ∧ keyN y = some (.tup q) ∧ (NestedKey.tup q).depth ≤ 8 ∧ Q ((valND kvs (.tup q)).getD z) A3) E) E) E
def aNGet1 (z0 : Program × World) (td ty : AE) : AE := fun δ A Q E => td δ A (fun x A1 => (∃ kvs, asN A1 x = some (z0, kvs)) ∧ ty δ A1 (fun y A3 => ∃ kvs q, asN A3 x = some (z0, kvs) ∧ keyN y = some (.tup q) ∧ (NestedKey.tup q).depth ≤ 8 ∧ Q ((valND kvs (.tup q)).getD .non) A3) E) E
end
def keyT (d : D) : Option (List NestedKey) := match keyN d with
  | some (.tup ks) => some ks
  | _ => none
theorem keyT_eq {d : D} {ks : List NestedKey} : keyT d = some ks ↔ keyN d = some (.tup ks) := by
  unfold keyT
  cases h : keyN d with
  | none => simp
  | some k => cases k <;> simp
section
variable {z : Program × World} {x y : D} {A : AH} {Q : AQ} {E : AX} {δ : ASt} {live neg : Bool}
theorem gNGet_eq : gNGet z x y A Q E = oK (asN A x) (fun p => p.1 = z ∧ oK (keyT y) (fun ks => (NestedKey.tup ks).depth ≤ 8 ∧ oK (valND p.2 (.tup ks)) (fun v => Q v A) ⟨⟩) ⟨⟩) ⟨⟩ := by
  apply propext
  unfold gNGet oK
  constructor
  · rintro ⟨kvs, ks, v, h1, h2, h3, h4, h5⟩; exact ⟨_, h1, rfl, ks, keyT_eq.mpr h2, h3, v, h4, h5⟩
  · rintro ⟨⟨z', kvs⟩, h1, rfl, ks, h2, h3, v, h4, h5⟩; exact ⟨kvs, ks, v, h1, keyT_eq.mp h2, h3, h4, h5⟩
theorem gNIn_eq : gNIn z neg x y A Q E = oK (asN A y) (fun p => p.1 = z ∧ oK (keyT x) (fun ks => (NestedKey.tup ks).depth ≤ 8 ∧ Q (.bl (if neg then !(valND p.2 (.tup ks)).isSome else (valND p.2 (.tup ks)).isSome)) A) ⟨⟩) ⟨⟩ := by
  apply propext
  unfold gNIn oK
  constructor
  · rintro ⟨kvs, ks, h1, h2, h3, h5⟩; exact ⟨_, h1, rfl, ks, keyT_eq.mpr h2, h3, h5⟩
  · rintro ⟨⟨z', kvs⟩, h1, rfl, ks, h2, h3, h5⟩; exact ⟨kvs, ks, h1, keyT_eq.mp h2, h3, h5⟩
theorem aNNew_eq : aNNew z live δ A Q E = aNew live (.dtt z []) A Q := rfl
theorem agNk_eq {to ti : AE} {d : D} {Q : ASt → AH → Prop} : agNk z to ti d δ A Q E = to δ A (fun x A1 => ti δ A1 (fun y A2 => refK x (fun a => oK (nddP (A2 a)) (fun p => p.1 = z ∧ oK (keyT y) (fun ks => (NestedKey.tup ks).depth ≤ 8 ∧ p.2.length < sizeLine ∧ Q δ (put A2 a (.dtt z (putND p.2 (.tup ks) d)))) ⟨⟩) ⟨⟩)) E) E := by
  unfold agNk
  congr 1
  funext x A1
  congr 1
  funext y A2
  apply propext
  unfold refK oK
  constructor
  · rintro ⟨a, kvs, ks, rfl, h1, h2, h3, h4, h5⟩
    exact ⟨a, rfl, (z, kvs), by rw [h1]; rfl, rfl, ks, keyT_eq.mpr h2, h3, h4, h5⟩
  · rintro ⟨a, rfl, ⟨z', kvs⟩, h1, rfl, ks, h2, h3, h4, h5⟩
    refine ⟨a, kvs, ks, rfl, ?_, keyT_eq.mp h2, h3, h4, h5⟩
    cases q : A2 a with
    | none => rw [q] at h1; cases h1
    | some o => rw [q] at h1; cases o <;> simp [nddP] at h1; simp [h1]
end
end Av

set_option Elab.async false
set_option linter.all false
set_option maxRecDepth 100000
set_option maxHeartbeats 4000000
namespace Av
open PySem PySem.Spec PyProof.Rows L2 My
section
variable {X : Cx} {W : WX} {k m : Nat} {f C : Addr} {asp : ASp} {x : Str} {tk : AA} {p pos : Pos} {ks : List Str} {kws : List Keyword}
def aMakeK0 (live : Bool) (C : Addr) (m : Nat) (asp : ASp) (t : AA) : AE := fun δ A Q E => t δ A (fun ds A1 => ds.length = m ∧ ∀ x, A1 x = none → Call asp (.ref x :: ds) (put A1 x (.ins C [])) (fun d A2 => d = .non ∧ match live with
  | true => Q (.ref x) A2
  | false => ∃ fs, A2 x = some (.ins C fs) ∧ Q (.obj C fs) (del A2 x)) E ⟨⟩) E
theorem aMakeK0_eq {live : Bool} {t : AA} {δ : ASt} {A : AH} {Q : AQ} {E : AX} : aMakeK0 live C m asp t δ A Q E = t δ A (fun ds A1 => ds.length = m ∧ ∀ x, A1 x = none → Call asp (.ref x :: ds) (put A1 x (.ins C [])) (fun d A2 => d = .non ∧ match live with
  | true => Q (.ref x) A2
  | false => ∃ fs, A2 x = some (.ins C fs) ∧ Q (.obj C fs) (del A2 x)) E ⟨⟩) E := rfl
end
end Av

set_option Elab.async false
set_option linter.all false
set_option maxRecDepth 100000
set_option maxHeartbeats 4000000
namespace Av
open PySem PySem.Spec PyProof.Rows L2 My
section
variable {K : PySem.W.Frag} {F : Addr → Prop} {H : Hp} {A : AH}
end
section
variable {X : Cx} {W : WX} {e tg : Expr} {te : AE}
end
section
variable {X : Cx} {W : WX} {st : Stmt} {t : AS}
end
end Av

set_option Elab.async false
set_option linter.all false
set_option maxRecDepth 100000
set_option maxHeartbeats 4000000
namespace Av
open PySem PySem.Spec PyProof.Rows L2 My
section
variable {K : PySem.W.Frag} {F : Addr → Prop} {H : Hp} {A : AH}
end
def gInI (C : Addr) (neg : Bool) : G2 := fun x y A Q _ => ∃ (a : Addr) (bs : List Addr), x = .ref a ∧ isO C A (.ref a) ∧ asL A y = some (bs.map D.ref) ∧ (∀ b ∈ bs, isO C A (.ref b)) ∧ Q (.bl (if neg then !decide (a ∈ bs) else decide (a ∈ bs))) A
section
variable {X : Cx} {C f : Addr} {k : Nat} {asp : ASp} {W : WX} {a b o e : Expr} {ta tb to ti : AE} {pos : Pos}
theorem gInI_eq {neg : Bool} {x y : D} {A : AH} {Q : AQ} {E : AX} : gInI C neg x y A Q E = refK x (fun a => oK (asL A y) (fun xs => ∃ bs : List Addr, xs = bs.map D.ref ∧ isO C A (.ref a) ∧ (∀ b ∈ bs, isO C A (.ref b)) ∧ Q (.bl (if neg then !decide (a ∈ bs) else decide (a ∈ bs))) A) ⟨⟩) := by
  apply propext
  unfold gInI refK oK
  constructor
  · rintro ⟨a, bs, rfl, h1, h2, h3, h4⟩; exact ⟨a, rfl, _, h2, bs, rfl, h1, h3, h4⟩
  · rintro ⟨a, rfl, xs, h2, bs, rfl, h1, h3, h4⟩; exact ⟨a, bs, rfl, h1, h2, h3, h4⟩
def gRepT1 : G2 := fun x y A Q _ => ∃ xs k, x = .tup xs ∧ y = .int k ∧ xs ≠ [] ∧ 0 ≤ k ∧ k ≤ 1 ∧ Q (.tup (if k = 0 then [] else xs)) A
theorem gRepT1_eq {xs : List D} {k : Int} {A : AH} {Q : AQ} {E : AX} : gRepT1 (.tup xs) (.int k) A Q E = (xs ≠ [] ∧ 0 ≤ k ∧ k ≤ 1 ∧ Q (.tup (if k = 0 then [] else xs)) A) := by
  apply propext
  exact ⟨fun ⟨_, _, e1, e2, h⟩ => by cases e1; cases e2; exact h, fun h => ⟨_, _, rfl, rfl, h⟩⟩
def agOwn (C : Addr) (asp : ASp) (to ti : AE) : AG := fun d δ A Q E => to δ A (fun x A1 => ti δ A1 (fun y A2 => isO C A2 x ∧ Call asp [x, y, d] A2 (fun _ A3 => Q δ A3) noX ⟨⟩) E) E
theorem agOwn_eq {d : D} {δ : ASt} {A : AH} {Q : ASt → AH → Prop} {E : AX} : agOwn C asp to ti d δ A Q E = to δ A (fun x A1 => ti δ A1 (fun y A2 => isO C A2 x ∧ Call asp [x, y, d] A2 (fun _ A3 => Q δ A3) noX ⟨⟩) E) E := rfl
end
section
variable {P : Program} {w : World} {K : PySem.W.Frag} {mg : Str → Option Value} {base : Heap} {f : Addr} {k : Nat} {asp asp0 : ASp}
end
section
variable {z : Program × World} {kvs : List (NestedKey × D)} {o : Obj} {a : Addr} {es : List NE} {A : AH}
theorem asN_ref {b : Addr} : asN A (.ref b) = nddO (A b) := rfl
theorem asN_dtt : asN A (.dtt z kvs) = some (z, kvs) := rfl
theorem nddO_dtt : nddO (some (.dtt z kvs)) = some (z, kvs) := rfl
theorem nddP_dtt : nddP (some (.dtt z kvs)) = some (z, kvs) := rfl
theorem nddO_lkd : nddO (some (.lkd z kvs o a es)) = some (z, kvs) := rfl
variable {td ty tx : AE} {δ : ASt} {Q : AQ} {E : AX}
theorem aNGet2_eq : aNGet2 z td ty tx δ A Q E = td δ A (fun x A1 => oK (asN A1 x) (fun p => p.1 = z ∧ ty δ A1 (fun y A2 => tx δ A2 (fun u A3 => oK (asN A3 x) (fun p => p.1 = z ∧ oK (keyT y) (fun ks => (NestedKey.tup ks).depth ≤ 8 ∧ Q ((valND p.2 (.tup ks)).getD u) A3) ⟨⟩) ⟨⟩) E) E) ⟨⟩) E := by
  unfold aNGet2
  congr 1
  funext x A1
  apply propext
  unfold oK
  have step : ∀ (y u : D) (A3 : AH), (∃ kvs q, asN A3 x = some (z, kvs) ∧ keyN y = some (.tup q) ∧ (NestedKey.tup q).depth ≤ 8 ∧ Q ((valND kvs (.tup q)).getD u) A3) = (∃ p, asN A3 x = some p ∧ p.1 = z ∧ ∃ ks, keyT y = some ks ∧ (NestedKey.tup ks).depth ≤ 8 ∧ Q ((valND p.2 (.tup ks)).getD u) A3) := fun y u A3 => by
    apply propext
    constructor
    · rintro ⟨kvs, q, h1, h2, h3, h4⟩; exact ⟨_, h1, rfl, q, keyT_eq.mpr h2, h3, h4⟩
    · rintro ⟨⟨z', kvs⟩, h1, rfl, q, h2, h3, h4⟩; exact ⟨kvs, q, h1, keyT_eq.mp h2, h3, h4⟩
  simp only [step]
  constructor
  · rintro ⟨⟨kvs, h1⟩, h2⟩; exact ⟨_, h1, rfl, h2⟩
  · rintro ⟨⟨z', kvs⟩, h1, rfl, h2⟩; exact ⟨⟨kvs, h1⟩, h2⟩
theorem aNGet1_eq : aNGet1 z td ty δ A Q E = td δ A (fun x A1 => oK (asN A1 x) (fun p => p.1 = z ∧ ty δ A1 (fun y A3 => oK (asN A3 x) (fun p => p.1 = z ∧ oK (keyT y) (fun ks => (NestedKey.tup ks).depth ≤ 8 ∧ Q ((valND p.2 (.tup ks)).getD .non) A3) ⟨⟩) ⟨⟩) E) ⟨⟩) E := by
  unfold aNGet1
  congr 1
  funext x A1
  apply propext
  unfold oK
  have step : ∀ (y : D) (A3 : AH), (∃ kvs q, asN A3 x = some (z, kvs) ∧ keyN y = some (.tup q) ∧ (NestedKey.tup q).depth ≤ 8 ∧ Q ((valND kvs (.tup q)).getD .non) A3) = (∃ p, asN A3 x = some p ∧ p.1 = z ∧ ∃ ks, keyT y = some ks ∧ (NestedKey.tup ks).depth ≤ 8 ∧ Q ((valND p.2 (.tup ks)).getD .non) A3) := fun y A3 => by
    apply propext
    constructor
    · rintro ⟨kvs, q, h1, h2, h3, h4⟩; exact ⟨_, h1, rfl, q, keyT_eq.mpr h2, h3, h4⟩
    · rintro ⟨⟨z', kvs⟩, h1, rfl, q, h2, h3, h4⟩; exact ⟨kvs, q, h1, keyT_eq.mp h2, h3, h4⟩
  simp only [step]
  constructor
  · rintro ⟨⟨kvs, h1⟩, h2⟩; exact ⟨_, h1, rfl, h2⟩
  · rintro ⟨⟨z', kvs⟩, h1, rfl, h2⟩; exact ⟨⟨kvs, h1⟩, h2⟩
end
end Av

set_option Elab.async false
set_option linter.all false
set_option maxRecDepth 100000
set_option maxHeartbeats 4000000
namespace Av
open PySem PySem.Spec PyProof.Rows L2 My
section
variable {P : Program} {w : World} {K : PySem.W.Frag} {mg : Str → Option Value} {base : Heap} {x qual : Str} {params : Arguments} {body : List Stmt} {scope : Scope} {kws : List (Str × V)} {f : Addr} {fd : FuncData} {N ps : List Str} {k : Nat} {asp : ASp}
theorem FnKw.nil {CX : CXT} {sp : Sp} {C : Addr} (F : FnKw P w K mg base CX k f 1 [] sp) : FnR P w K mg base CX k f (fun vs H Q E => vs.length = 1 ∧ sp vs H Q E) := fun A outer s H us vs Q E hr e0 r ⟨hl, h⟩ => F A outer s H us [] vs [] Q E hr e0 r .nil hl rfl (by rw [List.append_nil]; exact h)
end
section
variable {X : Cx} {W : WX} {k m : Nat} {f C : Addr} {asp : ASp} {x : Str} {tk : AA} {p pos : Pos} {ks : List Str} {kws : List Keyword}
end
end Av

set_option Elab.async false
set_option linter.all false
set_option maxRecDepth 100000
set_option maxHeartbeats 4000000
namespace Av
open PySem PySem.Spec PyProof.Rows L2 My
theorem lookup_none_of {α : Type} : ∀ {l : List (Nat × α)} {k : Nat}, k ∉ l.map (·.1) → l.lookup k = none
  | [], _, _ => rfl
  | (a, b) :: l, k, h => by
    rw [List.map_cons, List.mem_cons, not_or] at h
    rw [List.lookup_cons, show (k == a) = false by rw [beq_eq_false_iff_ne]; exact h.1]
    exact lookup_none_of h.2
theorem lookup_mem {α : Type} : ∀ {l : List (Nat × α)} {k : Nat} {v : α}, l.lookup k = some v → (k, v) ∈ l
  | [], _, _, h => by cases h
  | (a, b) :: l, k, v, h => by
    rw [List.lookup_cons] at h
    by_cases e : k = a
    · subst e
      rw [show (k == k) = true by simp] at h
      cases h
      exact .head _
    · rw [show (k == a) = false by rw [beq_eq_false_iff_ne]; exact e] at h
      exact .tail _ (lookup_mem h)
theorem lookup_app {α : Type} : ∀ (l : List (Nat × α)) (k j : Nat) (v : α), (l ++ [(j, v)]).lookup k = match l.lookup k with
    | some x => some x
    | none => if k = j then some v else none
  | [], k, j, v => by
    by_cases e : k = j
    · subst e; simp
    · rw [List.nil_append, List.lookup_cons, show (k == j) = false by rw [beq_eq_false_iff_ne]; exact e]
      simp [e]
  | (a, b) :: l, k, j, v => by
    rw [List.cons_append, List.lookup_cons, List.lookup_cons]
    by_cases e : (k == a) = true
    · rw [e]
    · rw [Bool.not_eq_true] at e
      rw [e]
      exact lookup_app l k j v
def OPENW : List Str := ["each", "maybe", "try", "shield", "retry"]
def MIDW : List Str := ["else", "finally", "rescue"]
def PLAINW : List Str := ["ask", "begin", "finish", "read", "head", "body", "pause", "check", "drain", "close", "return"]
abbrev Vw := List (Str × Str)
def loopPl (v : Vw) : Option Nat := v.findIdx? fun (e : Str × Str) => decide (e.1 = ("each" : Str))
def secd (e : Str × Str) : Bool := decide (e.1 = "try") && !decide (e.2 = "")
def resc (e : Str × Str) : Bool := secd e && decide (e.2 = "rescue")
def goR (w : Str) : Vw → Bool
  | [] => false
  | e :: r => if w = "close" ∧ e.1 = "retry" then false else if resc e = true then true else goR w r
def resetOk (v : Vw) (w : Str) : Bool := match loopPl v with
  | none => true
  | some i => goR w (v.drop (i + 1))
def midOk (v : Vw) (w : Str) : Bool := match v.getLast? with
  | none => false
  | some e => decide (e.1 = if w = "else" then "maybe" else "try") && decide (e.2 = "")
def opnOk (v : Vw) (w : Str) : Bool := if 5 ≤ v.length ∨ (w = "each" ∧ loopPl v ≠ none) then false else !decide (w = "retry") || decide ((v.filter fun (e : Str × Str) => decide (e.1 = ("retry" : Str))).length < 2)
def endOk (v : Vw) : Bool := match v.getLast? with
  | none => false
  | some e => !decide (e.1 = "try") || !decide (e.2 = "")
def fits (v : Vw) (w : Str) : Bool :=
  if w ∈ MIDW then midOk v w else if w ∈ OPENW then opnOk v w else if w = "end" then endOk v else if w = "return" then !v.any secd else !decide (w = "drain" ∨ w = "close") || resetOk v w
def stepV (v : Vw) (w : Str) : Vw := if w ∈ OPENW then v ++ [((w, "") : Str × Str)] else if w ∈ MIDW then v.dropLast ++ [((v.getLastD (("", "") : Str × Str)).1, w)] else if w = "end" then v.dropLast else v
structure Rd where
  words : List Str
  stack : List Nat
  openers : List (Option Nat)
  middles : List (Nat × Nat)
  ends : List (Nat × Nat)
namespace Rd
def nil : Rd := ⟨[], [], [], [], []⟩
def wd (r : Rd) (o : Nat) : Str := r.words.getD o ""
def part (r : Rd) (o : Nat) : Str := match r.middles.lookup o with
  | some m => r.wd m
  | none => ""
def view (r : Rd) : Vw := r.stack.map fun o => (r.wd o, r.part o)
def take (r : Rd) (w : Str) : Rd where
  words := r.words ++ [w]
  openers := r.openers ++ [r.stack.getLast?]
  stack := if w ∈ OPENW then r.stack ++ [r.words.length] else if w ∈ MIDW then r.stack else if w = "end" then r.stack.dropLast else r.stack
  middles := if w ∈ OPENW then r.middles else if w ∈ MIDW then r.middles ++ [(r.stack.getLastD 0, r.words.length)] else r.middles
  ends := if w ∈ OPENW then r.ends else if w ∈ MIDW then r.ends else if w = "end" then r.ends ++ [(r.stack.getLastD 0, r.words.length)] else r.ends
structure Ok (r : Rd) : Prop where
  s5 : r.stack.length ≤ 5
  mz : r.middles.length ≤ r.words.length
  ez : r.ends.length ≤ r.words.length
  sl : ∀ o ∈ r.stack, o < r.words.length
  sn : r.stack.Nodup
  so : ∀ o ∈ r.stack, r.wd o ∈ OPENW
  ml : ∀ p ∈ r.middles, p.1 < r.words.length ∧ p.2 < r.words.length ∧ r.wd p.2 ∈ MIDW
  mn : (r.middles.map (·.1)).Nodup
  el : ∀ p ∈ r.ends, p.1 < r.words.length ∧ p.2 < r.words.length ∧ p.1 ∉ r.stack
  en : (r.ends.map (·.1)).Nodup
  ol : r.openers.length = r.words.length
  ou : ∀ (i o : Nat), r.openers[i]? = some (some o) → o < i
  pt : ∀ e ∈ r.view, e.2 = "" ∨ (e.1 = "maybe" ∧ e.2 = "else") ∨ (e.1 = "try" ∧ (e.2 = "finally" ∨ e.2 = "rescue"))
theorem ok_nil : Ok nil := ⟨Nat.zero_le _, Nat.le_refl _, Nat.le_refl _, (fun o h => by cases h), List.nodup_nil, (fun o h => by cases h), (fun o h => by cases h), List.nodup_nil, (fun o h => by cases h), List.nodup_nil, rfl, (fun i o h => by simp [nil] at h), (fun e h => by cases h)⟩
theorem view_len (r : Rd) : r.view.length = r.stack.length := by unfold view; rw [List.length_map]
theorem part_mid {r : Rd} (R : Ok r) {o m : Nat} (h : r.middles.lookup o = some m) : r.part o = r.wd m ∧ r.part o ≠ "" := by
  have e : r.part o = r.wd m := by unfold part; rw [h]
  refine ⟨e, fun z => ?_⟩
  rw [e] at z
  have := (R.ml _ (lookup_mem h)).2.2
  rw [z] at this
  exact absurd this (by decide)
theorem part_none {r : Rd} {o : Nat} (h : r.middles.lookup o = none) : r.part o = "" := by unfold part; rw [h]
theorem last_mem {r : Rd} {o : Nat} (h : r.stack.getLast? = some o) : o ∈ r.stack := List.mem_of_getLast? h
theorem view_last (r : Rd) : r.view.getLast? = r.stack.getLast?.map fun o => (r.wd o, r.part o) := by unfold view; rw [List.getLast?_map]
theorem wd_app {r r2 : Rd} {w : Str} (e : r2.words = r.words ++ [w]) {o : Nat} (h : o < r.words.length) : r2.wd o = r.wd o := by
  unfold wd
  rw [e, List.getD_eq_getElem?_getD, List.getD_eq_getElem?_getD, List.getElem?_append_left h]
theorem wd_new {r r2 : Rd} {w : Str} (e : r2.words = r.words ++ [w]) : r2.wd r.words.length = w := by
  unfold wd
  rw [e, List.getD_eq_getElem?_getD, List.getElem?_concat_length]; rfl
theorem part_same {r r2 : Rd} (R : Ok r) {w : Str} (e : r2.words = r.words ++ [w]) (m : r2.middles = r.middles) (o : Nat) : r2.part o = r.part o := by
  unfold part
  rw [m]
  cases h : r.middles.lookup o with
  | none => rfl
  | some k => exact wd_app e (R.ml _ (lookup_mem h)).2.1
theorem dropLast_mem {α : Type} {l : List α} {x : α} (h : x ∈ l.dropLast) : x ∈ l := (List.dropLast_sublist l).subset h
theorem snoc_of {α : Type} {l : List α} {x : α} (h : l.getLast? = some x) : l = l.dropLast ++ [x] := by
  have hn : l ≠ [] := fun z => by subst z; cases h
  have e := List.dropLast_concat_getLast hn
  rw [List.getLast?_eq_some_getLast hn] at h
  cases h
  exact e.symm
theorem last_notin {α : Type} {l : List α} {x : α} (n : l.Nodup) (h : l.getLast? = some x) : x ∉ l.dropLast := fun z => by
  rw [snoc_of h, List.nodup_append] at n
  exact n.2.2 x z x (List.mem_singleton.mpr rfl) rfl
theorem open_mid {w : Str} (h : w ∈ OPENW) : w ∉ MIDW := by
  unfold OPENW at h
  simp only [List.mem_cons, List.not_mem_nil, or_false] at h
  rcases h with rfl | rfl | rfl | rfl | rfl <;> decide
theorem key_none {α : Type} {l : List (Nat × α)} {k : Nat} (h : l.lookup k = none) : k ∉ l.map (·.1) := fun z => by
  obtain ⟨p, hp, e⟩ := List.mem_map.mp z
  have : ∀ {l : List (Nat × α)}, p ∈ l → l.lookup k ≠ none := fun {l} => by
    induction l with
    | nil => intro h; cases h
    | cons q l ih =>
      intro h n
      obtain ⟨a, b⟩ := q
      rw [List.lookup_cons] at n
      by_cases e2 : (k == a) = true
      · rw [e2] at n; cases n
      · rw [Bool.not_eq_true] at e2
        rw [e2] at n
        rcases List.mem_cons.mp h with z | z
        · subst z
          rw [beq_eq_false_iff_ne] at e2
          exact e2 e.symm
        · exact ih z n
  exact this hp h
theorem mid_last {r : Rd} (R : Ok r) {w : Str} (f : midOk r.view w = true) : ∃ o, r.stack.getLast? = some o ∧ r.wd o = (if w = "else" then "maybe" else "try") ∧ r.middles.lookup o = none := by
  unfold midOk at f
  rw [view_last] at f
  cases h : r.stack.getLast? with
  | none => rw [h] at f; cases f
  | some o =>
    rw [h] at f
    rw [Option.map_some] at f
    dsimp only at f
    rw [Bool.and_eq_true] at f
    refine ⟨o, rfl, of_decide_eq_true f.1, ?_⟩
    cases hm : r.middles.lookup o with
    | none => rfl
    | some m => exact absurd (of_decide_eq_true f.2) (part_mid R hm).2
theorem end_last {r : Rd} {w : Str} (f : endOk r.view = true) : ∃ o, r.stack.getLast? = some o := by
  unfold endOk at f
  rw [view_last] at f
  cases h : r.stack.getLast? with
  | none => rw [h] at f; cases f
  | some o => exact ⟨o, rfl⟩
theorem fits_mid {v : Vw} {w : Str} (h : w ∈ MIDW) : fits v w = midOk v w := by unfold fits; rw [if_pos h]
theorem fits_open {v : Vw} {w : Str} (h : w ∈ OPENW) : fits v w = opnOk v w := by unfold fits; rw [if_neg (open_mid h), if_pos h]
theorem fits_end {v : Vw} : fits v "end" = endOk v := by unfold fits; rw [if_neg (by decide), if_neg (by decide), if_pos rfl]
theorem view_take {r : Rd} (R : Ok r) {w : Str} (f : fits r.view w = true) : (r.take w).view = stepV r.view w := by
  have ew : (r.take w).words = r.words ++ [w] := rfl
  have old : ∀ o ∈ r.stack, (r.take w).wd o = r.wd o := fun o ho => wd_app ew (R.sl o ho)
  unfold stepV
  by_cases h1 : w ∈ OPENW
  · rw [if_pos h1]
    have es : (r.take w).stack = r.stack ++ [r.words.length] := by show (if w ∈ OPENW then _ else _) = _; rw [if_pos h1]
    have em : (r.take w).middles = r.middles := by show (if w ∈ OPENW then _ else _) = _; rw [if_pos h1]
    unfold view
    rw [es, List.map_append, List.map_cons, List.map_nil, wd_new ew, part_same R ew em, part_none (lookup_none_of fun z => by
      obtain ⟨p, hp, e⟩ := List.mem_map.mp z
      have := (R.ml p hp).1
      omega)]
    congr 1
    exact List.map_congr_left fun o ho => by rw [old o ho, part_same R ew em]
  · rw [if_neg h1]
    by_cases h2 : w ∈ MIDW
    · rw [if_pos h2]
      rw [fits_mid h2] at f
      obtain ⟨o, ho, hw, hm⟩ := mid_last R f
      have es : (r.take w).stack = r.stack := by show (if w ∈ OPENW then _ else _) = _; rw [if_neg h1, if_pos h2]
      have em : (r.take w).middles = r.middles ++ [(o, r.words.length)] := by
        show (if w ∈ OPENW then _ else _) = _
        rw [if_neg h1, if_pos h2, List.getLastD_eq_getLast?, ho]; rfl
      have pn : (r.take w).part o = w := by
        unfold part
        rw [em, lookup_app, hm]
        simp only [if_true]
        exact wd_new ew
      have po : ∀ x, x ≠ o → (r.take w).part x = r.part x := fun x hx => by
        unfold part
        rw [em, lookup_app]
        cases hl : r.middles.lookup x with
        | none => simp only [if_neg hx]
        | some k => exact wd_app ew (R.ml _ (lookup_mem hl)).2.1
      unfold view
      rw [es, List.getLastD_eq_getLast?, List.getLast?_map, ho]
      conv => lhs; rw [snoc_of ho]
      rw [List.map_append, List.map_cons, List.map_nil, pn, old o (last_mem ho), ← List.map_dropLast]
      congr 1
      exact List.map_congr_left fun x hx => by rw [old x (dropLast_mem hx), po x fun z => last_notin R.sn ho (z ▸ hx)]
    · rw [if_neg h2]
      have em : (r.take w).middles = r.middles := by show (if w ∈ OPENW then _ else _) = _; rw [if_neg h1, if_neg h2]
      have all : ∀ l : List Nat, (∀ o ∈ l, o ∈ r.stack) → (l.map fun o => ((r.take w).wd o, (r.take w).part o)) = l.map fun o => (r.wd o, r.part o) := fun l hl => List.map_congr_left fun o ho => by rw [old o (hl o ho), part_same R ew em]
      by_cases h3 : w = "end"
      · have es : (r.take w).stack = r.stack.dropLast := by show (if w ∈ OPENW then _ else _) = _; rw [if_neg h1, if_neg h2, if_pos h3]
        rw [if_pos h3]
        unfold view
        rw [es, all _ fun o ho => dropLast_mem ho, List.map_dropLast]
      · have es : (r.take w).stack = r.stack := by show (if w ∈ OPENW then _ else _) = _; rw [if_neg h1, if_neg h2, if_neg h3]
        rw [if_neg h3]
        unfold view
        rw [es, all _ fun o ho => ho]
theorem last_lt {r : Rd} (R : Ok r) {o : Nat} (h : r.stack.getLast? = some o) : o < r.words.length := R.sl o (last_mem h)
theorem nodup_snoc {α : Type} {l : List α} {x : α} (n : l.Nodup) (h : x ∉ l) : (l ++ [x]).Nodup := by
  rw [List.nodup_append]
  exact ⟨n, by simp, fun y hy z hz e => h (by rw [← List.mem_singleton.mp hz, ← e]; exact hy)⟩
theorem ok_take {r : Rd} (R : Ok r) {w : Str} (f : fits r.view w = true) : Ok (r.take w) := by
  have ew : (r.take w).words = r.words ++ [w] := rfl
  have el : (r.take w).words.length = r.words.length + 1 := by rw [ew, List.length_append]; rfl
  have old : ∀ o, o < r.words.length → (r.take w).wd o = r.wd o := fun o ho => wd_app ew ho
  have new := wd_new ew
  have es : (r.take w).stack = if w ∈ OPENW then r.stack ++ [r.words.length] else if w ∈ MIDW then r.stack else if w = "end" then r.stack.dropLast else r.stack := rfl
  have em : (r.take w).middles = if w ∈ OPENW then r.middles else if w ∈ MIDW then r.middles ++ [(r.stack.getLastD 0, r.words.length)] else r.middles := rfl
  have ee : (r.take w).ends = if w ∈ OPENW then r.ends else if w ∈ MIDW then r.ends else if w = "end" then r.ends ++ [(r.stack.getLastD 0, r.words.length)] else r.ends := rfl
  have sub : ∀ o ∈ (r.take w).stack, o ∈ r.stack ∨ (w ∈ OPENW ∧ o = r.words.length) := fun o ho => by
    rw [es] at ho
    split at ho
    · rename_i h
      rcases List.mem_append.mp ho with z | z
      · exact .inl z
      · exact .inr ⟨h, List.mem_singleton.mp z⟩
    · split at ho
      · exact .inl ho
      · split at ho
        · exact .inl (dropLast_mem ho)
        · exact .inl ho
  have midq : ∀ p ∈ (r.take w).middles, p ∈ r.middles ∨ (w ∈ MIDW ∧ ∃ o, r.stack.getLast? = some o ∧ p = (o, r.words.length)) := fun p hp => by
    rw [em] at hp
    split at hp
    · exact .inl hp
    · split at hp
      · rename_i h
        rcases List.mem_append.mp hp with z | z
        · exact .inl z
        · rw [fits_mid h] at f
          obtain ⟨o, ho, _⟩ := mid_last R f
          rw [List.getLastD_eq_getLast?, ho] at z
          exact .inr ⟨h, o, ho, List.mem_singleton.mp z⟩
      · exact .inl hp
  have endq : ∀ p ∈ (r.take w).ends, p ∈ r.ends ∨ (w = "end" ∧ ∃ o, r.stack.getLast? = some o ∧ p = (o, r.words.length)) := fun p hp => by
    rw [ee] at hp
    split at hp
    · exact .inl hp
    · split at hp
      · exact .inl hp
      · split at hp
        · rename_i h
          rcases List.mem_append.mp hp with z | z
          · exact .inl z
          · rw [h, fits_end] at f
            obtain ⟨o, ho⟩ := end_last (w := w) f
            rw [List.getLastD_eq_getLast?, ho] at z
            exact .inr ⟨h, o, ho, List.mem_singleton.mp z⟩
        · exact .inl hp
  refine ⟨?_, ?_, ?_, fun o ho => ?_, ?_, fun o ho => ?_, fun p hp => ?_, ?_, fun p hp => ?_, ?_, ?_, fun i o ho => ?_, fun e he => ?_⟩
  · rw [es]
    split
    · rename_i h
      rw [fits_open h] at f
      unfold opnOk at f
      by_cases h5 : 5 ≤ r.view.length ∨ (w = "each" ∧ loopPl r.view ≠ none)
      · rw [if_pos h5] at f; cases f
      · have : ¬ 5 ≤ r.view.length := fun z => h5 (.inl z)
        rw [view_len] at this
        rw [List.length_append]
        simp
        omega
    · split
      · exact R.s5
      · split
        · have := R.s5
          rw [List.length_dropLast]; omega
        · exact R.s5
  · rw [em, el]
    have := R.mz
    split
    · omega
    · split
      · rw [List.length_append]; simp; omega
      · omega
  · rw [ee, el]
    have := R.ez
    split
    · omega
    · split
      · omega
      · split
        · rw [List.length_append]; simp; omega
        · omega
  · rw [el]
    rcases sub o ho with z | ⟨_, z⟩
    · have := R.sl o z; omega
    · omega
  · rw [es]
    split
    · exact nodup_snoc R.sn fun z => absurd (R.sl _ z) (Nat.lt_irrefl _)
    · split
      · exact R.sn
      · split
        · exact R.sn.sublist (List.dropLast_sublist _)
        · exact R.sn
  · rcases sub o ho with z | ⟨h, z⟩
    · rw [old o (R.sl o z)]; exact R.so o z
    · rw [z, new]; exact h
  · rw [el]
    rcases midq p hp with z | ⟨h, o, ho, z⟩
    · obtain ⟨a, b, c⟩ := R.ml p z
      exact ⟨by omega, by omega, by rw [old _ b]; exact c⟩
    · subst z
      have := last_lt R ho
      exact ⟨by show o < _; omega, by show r.words.length < _; omega, by show (r.take w).wd r.words.length ∈ _; rw [new]; exact h⟩
  · rw [em]
    split
    · exact R.mn
    · split
      · rename_i h
        rw [fits_mid h] at f
        obtain ⟨o, ho, _, hn⟩ := mid_last R f
        rw [List.getLastD_eq_getLast?, ho, List.map_append]
        exact nodup_snoc R.mn (key_none hn)
      · exact R.mn
  · rw [el]
    rcases endq p hp with z | ⟨h, o, ho, z⟩
    · obtain ⟨a, b, c⟩ := R.el p z
      refine ⟨by omega, by omega, fun q => ?_⟩
      rcases sub _ q with y | ⟨_, y⟩
      · exact c y
      · omega
    · subst z
      have := last_lt R ho
      refine ⟨by show o < _; omega, by show r.words.length < _; omega, ?_⟩
      rw [es, if_neg (by rw [h]; decide), if_neg (by rw [h]; decide), if_pos h]
      exact last_notin R.sn ho
  · rw [ee]
    split
    · exact R.en
    · split
      · exact R.en
      · split
        · rename_i h
          rw [h, fits_end] at f
          obtain ⟨o, ho⟩ := end_last (w := w) f
          rw [List.getLastD_eq_getLast?, ho, List.map_append]
          refine nodup_snoc R.en fun z => ?_
          obtain ⟨p, hp, e⟩ := List.mem_map.mp z
          have q := (R.el p hp).2.2
          rw [e] at q
          exact q (last_mem ho)
        · exact R.en
  · show (r.openers ++ [r.stack.getLast?]).length = _
    rw [el, List.length_append, R.ol]; rfl
  · have ho : (r.openers ++ [r.stack.getLast?])[i]? = some (some o) := ho
    by_cases h : i < r.openers.length
    · rw [List.getElem?_append_left h] at ho
      exact R.ou i o ho
    · obtain ⟨hi, _⟩ := List.getElem?_eq_some_iff.mp ho
      rw [List.length_append] at hi
      have e : i = r.openers.length := by simp at hi; omega
      rw [e, List.getElem?_concat_length] at ho
      have := last_lt R (Option.some.inj ho)
      rw [e, R.ol]
      exact this
  · rw [view_take R f] at he
    unfold stepV at he
    split at he
    · rcases List.mem_append.mp he with z | z
      · exact R.pt e z
      · rw [List.mem_singleton.mp z]; exact .inl rfl
    · split at he
      · rename_i h
        rcases List.mem_append.mp he with z | z
        · exact R.pt e (dropLast_mem z)
        · rw [List.mem_singleton.mp z]
          rw [fits_mid h] at f
          unfold midOk at f
          cases hv : r.view.getLast? with
          | none => rw [hv] at f; cases f
          | some x =>
            rw [hv] at f
            dsimp only at f
            rw [Bool.and_eq_true] at f
            rw [List.getLastD_eq_getLast?, hv]
            have f1 : x.1 = _ := of_decide_eq_true f.1
            unfold MIDW at h
            simp only [List.mem_cons, List.not_mem_nil, or_false] at h
            rcases h with rfl | rfl | rfl
            · exact .inr (.inl ⟨f1, rfl⟩)
            · exact .inr (.inr ⟨f1, .inl rfl⟩)
            · exact .inr (.inr ⟨f1, .inr rfl⟩)
      · split at he
        · exact R.pt e (dropLast_mem he)
        · exact R.pt e he
end Rd
end Av

set_option Elab.async false
set_option linter.all false
set_option maxRecDepth 100000
set_option maxHeartbeats 4000000
namespace Av
open PySem PySem.Spec PyProof.Rows L2 My
end Av

set_option Elab.async false
set_option linter.all false
set_option maxRecDepth 100000
set_option maxHeartbeats 4000000
namespace Av
open PySem PySem.Spec PyProof.Rows L2 My
def RS := (And.intro (And.intro (And.intro (And.intro (And.intro (And.intro @valD_nil @valD_cons) (And.intro @putM_eq (And.intro @mergeD_eq @put_same))) (And.intro (And.intro @put_put @inV_nil) (And.intro @inV_str (And.intro @atI_0 @atI_1)))) (And.intro (And.intro (And.intro @atI_2 @atI_3) (And.intro @ixN_30 (And.intro @ixN_31 @ixN_32))) (And.intro (And.intro @List.length_cons.{0} (And.intro @List.length_nil.{0} @List.nil_append.{0})) (And.intro @List.cons_append.{0} (And.intro @List.append_nil.{0} @List.getElem?_cons_zero.{0}))))) (And.intro (And.intro (And.intro (And.intro @List.getElem?_cons_succ.{0} @List.set_cons_zero.{0}) (And.intro @List.set_cons_succ.{0} (And.intro @List.cons.injEq.{0} @Option.some.injEq.{0}))) (And.intro (And.intro @V.int.injEq @V.str.injEq) (And.intro @V.bl.injEq (And.intro @D.int.injEq @D.str.injEq)))) (And.intro (And.intro (And.intro @D.bl.injEq @D.ref.injEq) (And.intro @D.tup.injEq (And.intro @D.lst.injEq @D.ty.injEq))) (And.intro (And.intro @AO.lst.injEq (And.intro @AO.dct.injEq @AO.ins.injEq)) (And.intro @Prod.mk.injEq.{0, 0} (And.intro @true_and @and_true)))))) (And.intro (And.intro (And.intro (And.intro (And.intro @and_self @Bool.false_eq_true) (And.intro @Bool.true_eq_false (And.intro @false_and @and_false))) (And.intro (And.intro @and_assoc @not_false_eq_true) (And.intro @not_true_eq_false (And.intro @decide_false @decide_true)))) (And.intro (And.intro (And.intro @Bool.not_false @Bool.not_true) (And.intro @Bool.or_false (And.intro @Bool.false_or @Bool.or_true))) (And.intro (And.intro @Bool.true_or (And.intro @Bool.and_true @Bool.true_and)) (And.intro @Bool.and_self (And.intro @Bool.and_false @Bool.false_and))))) (And.intro (And.intro (And.intro (And.intro @false_or @or_false) (And.intro @or_self (And.intro @List.all_cons.{0} @List.all_nil.{0}))) (And.intro (And.intro @List.any_cons.{0} (And.intro @List.any_nil.{0} @List.map_nil.{0, 0})) (And.intro @List.map_cons.{0, 0} (And.intro @Option.map_some.{0, 0} @Option.isSome_some.{0})))) (And.intro (And.intro (And.intro @Option.isSome_none.{0} @Option.getD_some.{0}) (And.intro @Option.getD_none.{0} (And.intro @List.foldl_cons.{0, 0} @List.foldl_nil.{0, 0}))) (And.intro (And.intro @ofS_eq (And.intro @isO_obj @isO_int)) (And.intro @dctD_dct (And.intro @strsOf_nil @strsOf_cons)))))))
def RT := (And.intro (And.intro (And.intro (And.intro @aItQ_eq (And.intro @aRev_eq @aSc_eq)) (And.intro (And.intro @kSrt_eq @aStarL_eq) (And.intro @seqOf_tup @seqOf_lst))) (And.intro (And.intro @seqOf_ref (And.intro @gIntS_eq @aIdx_eq)) (And.intro (And.intro @aFrzF_eq @aSetK_eq) (And.intro @kSetSrt_eq @kSetLen_eq)))) (And.intro (And.intro (And.intro @agIx_eq (And.intro @aTryE_eq @aTryE2_eq)) (And.intro (And.intro @gIsB_eq @isBlD_bl) (And.intro @isBlD_tup @aCMethX_eq))) (And.intro (And.intro @aMakeKSX_eq (And.intro @gRepS_eq @aAsg2_eq)) (And.intro (And.intro @gEqD0_eq @aEnumQ_eq) (And.intro @gSortI_eq @Option.map_none.{0, 0})))))
end Av

set_option Elab.async false
set_option linter.all false
set_option maxRecDepth 100000
set_option maxHeartbeats 4000000
namespace Av
open PySem PySem.Spec PyProof.Rows L2 My
end Av

set_option Elab.async false
set_option linter.all false
set_option maxRecDepth 100000
set_option maxHeartbeats 4000000
namespace Av
open PySem PySem.Spec PyProof.Rows L2 My
section
variable {CX : CXT} {P : Program} {w : World} {K : PySem.W.Frag} {mg : Str → Option Value} {base : Heap} {N : List Str} {qual : Str} {scope : Scope} {f : Addr} {cdv : Value} {A : Around} {outer : List Env} {s : Shared} {H : Hp} {E : XK} {X : Cx}
theorem cx_prog : (cxOf CX P w K mg base N qual scope f cdv A outer s H E).prog = P := rfl
theorem cx_w : (cxOf CX P w K mg base N qual scope f cdv A outer s H E).w = w := rfl
theorem cx_noxp : X.nox.prog = X.prog := rfl
theorem cx_noxw : X.nox.w = X.w := rfl
end
theorem aAugFld_eq {K : PySem.W.Frag} {f : Str} {g : Int → Int → Int} {ta tv : AE} {N : AEnds} {δ : ASt} {A : AH} : aAugFld K f g ta tv N δ A = ta δ A (fun x A1 => refK x (fun a => oK (insO (A1 a)) (fun z => Cls K z.1 ∧ NoAttr K z.1 f ∧ oK (z.2.lookup f) (fun v => intK v (fun i => tv δ A1 (fun y A2 => intK y (fun j => oK (insO (A2 a)) (fun z2 => z2.1 = z.1 ∧ z2.2.length < 1000 ∧ N.nx δ (put A2 a (.ins z.1 (putFA f (.int (g i j)) z2.2)))) ⟨⟩)) (fun C fs A1 => N.ex C fs δ A1))) ⟨⟩) ⟨⟩)) (fun C fs A1 => N.ex C fs δ A1) := by
  unfold aAugFld
  congr 1
  funext x A1
  apply propext
  have step : ∀ (a C : Addr) (i : Int) (y : D) (A2 : AH), (∃ j fs', y = .int j ∧ A2 a = some (.ins C fs') ∧ fs'.length < 1000 ∧ N.nx δ (put A2 a (.ins C (putFA f (.int (g i j)) fs')))) = intK y (fun j => oK (insO (A2 a)) (fun z2 => z2.1 = C ∧ z2.2.length < 1000 ∧ N.nx δ (put A2 a (.ins C (putFA f (.int (g i j)) z2.2)))) ⟨⟩) := fun a C i y A2 => by
    apply propext
    unfold intK oK
    constructor
    · rintro ⟨j, fs', rfl, h1, h2, h3⟩; exact ⟨j, rfl, (C, fs'), by rw [h1]; rfl, rfl, h2, h3⟩
    · rintro ⟨j, rfl, z2, h1, h4, h2, h3⟩
      obtain ⟨C', fs'⟩ := z2
      cases h4
      exact ⟨j, fs', rfl, insO_some h1, h2, h3⟩
  simp only [step]
  unfold refK oK
  constructor
  · rintro ⟨a, C, fs, i, rfl, h1, h2, h3, h4, h5⟩; exact ⟨a, rfl, (C, fs), by rw [h1]; rfl, h2, h3, _, h4, i, rfl, h5⟩
  · rintro ⟨a, rfl, z, h1, h2, h3, v, h4, i, rfl, h5⟩; exact ⟨a, z.1, z.2, i, rfl, insO_some h1, h2, h3, h4, h5⟩
def RPn := And.intro @aAugFld_eq <| And.intro (And.intro (And.intro @cx_prog @cx_w) (And.intro @cx_noxp @cx_noxw)) <|  (And.intro (And.intro (And.intro @gNGet_eq (And.intro @gNIn_eq @aNNew_eq)) (And.intro (And.intro @agNk_eq @aNGet1_eq) (And.intro @aNGet2_eq @aMakeK0_eq))) (And.intro (And.intro (And.intro @gInI_eq @gRepT1_eq) (And.intro @agOwn_eq @asN_ref)) (And.intro (And.intro @asN_dtt @nddO_dtt) (And.intro @nddO_lkd @nddP_dtt))))
end Av

set_option Elab.async false
set_option linter.all false
set_option maxRecDepth 100000
set_option maxHeartbeats 4000000
namespace Av
open PySem PySem.Spec PyProof.Rows L2 My
section
variable {K : PySem.W.Frag} {F : Addr → Prop} {H : Hp}
end
end Av

set_option Elab.async false
set_option linter.all false
set_option maxRecDepth 100000
set_option maxHeartbeats 4000000
namespace Av
open PySem PySem.Spec PyProof.Rows L2 My
section
variable {X : Cx}
end
section
variable {X : Cx} {W : WX} {es : List Expr} {pos : Pos}
end
end Av

set_option Elab.async false
set_option linter.all false
set_option maxRecDepth 100000
set_option maxHeartbeats 4000000
namespace Av
open PySem PySem.Spec PyProof.Rows L2 My
section
variable {X : Cx} {W : WX} {pos : Pos}
end
section
variable {X : Cx} {W : WX} {pos p : Pos} {δ : ASt} {A : AH} {Q : AQ} {E : AX}
end
section
variable {X : Cx} {W : WX} {pos p p2 q : Pos} {e : Expr} {te : AE} {δ : ASt} {A : AH} {Q : AQ} {E : AX}
end
end Av

set_option Elab.async false
set_option linter.all false
set_option maxRecDepth 100000
set_option maxHeartbeats 4000000
namespace Av
open PySem PySem.Spec PyProof.Rows L2 My
section
variable {K : PySem.W.Frag} {F : Addr → Prop} {H : Hp} {A : AH} {Q' : AQ} {Q : VK}
end
section
variable {X : Cx} {W : WX} {pos : Pos} {es : List Expr} {t : AA} {A : AH} {Q : AQ} {E : AX}
end
section
variable {X : Cx} {W : WX} {e e2 : Expr} {p pos tpos : Pos} {elts : List Expr} {kk : Nat} {t : AA} {Q : IA → AH → Prop} {E : AX} {A : AH}
end
end Av

set_option Elab.async false
set_option linter.all false
set_option maxRecDepth 100000
set_option maxHeartbeats 4000000
namespace Av
open PySem PySem.Spec PyProof.Rows L2 My
section
variable {X : Cx}
end
end Av

set_option Elab.async false
set_option linter.all false
set_option maxRecDepth 100000
set_option maxHeartbeats 4000000
namespace Av
open PySem PySem.Spec PyProof.Rows L2 My
section
variable {X : Cx} {W : WX} {a b : Expr} {ta tb : AE} {pos : Pos}
end
end Av

set_option Elab.async false
set_option linter.all false
set_option maxRecDepth 100000
set_option maxHeartbeats 4000000
namespace Av
open PySem PySem.Spec PyProof.Rows L2 My
section
variable {X : Cx} {K : PySem.W.Frag}
end
section
variable {xs : List Str} {x : D} {A : AH} {Q : AQ} {E : AX}
end
end Av

set_option Elab.async false
set_option linter.all false
set_option maxRecDepth 100000
set_option maxHeartbeats 4000000
namespace Av
open PySem PySem.Spec PyProof.Rows L2 My
section
variable {X : Cx} {W : WX} {k : Nat} {C g : Addr} {asp : ASp} {fe : Expr} {ks : List Str} {kws : List Keyword} {tf : AE} {t : AA} {pos : Pos}
end
section
variable {P : Program} {w : World} {K : PySem.W.Frag} {mg : Str → Option Value} {base : Heap} {x qual : Str} {params : Arguments} {body : List Stmt} {scope : Scope} {f : Addr} {fd : FuncData} {N ps ks : List Str} {k : Nat} {asp : ASp}
theorem FnK.imp {CX : CXT} {n : Nat} {sp sp' : SpK} (F : FnK P w K mg base CX k f n ks sp) (h : ∀ vs zs H Q E, vs.length = n → zs.length = ks.length → sp' vs zs H Q E → sp vs zs H Q E) : FnK P w K mg base CX k f n ks sp' :=
  fun A outer s H us ws vs zs Q E hr e0 r rz l1 l2 hs => F A outer s H us ws vs zs Q E hr e0 r rz l1 l2 (h vs zs H Q E l1 l2 hs)
end
end Av

set_option Elab.async false
set_option linter.all false
set_option maxRecDepth 100000
set_option maxHeartbeats 4000000
namespace Av
open PySem PySem.Spec PyProof.Rows L2 My
section
variable {K : PySem.W.Frag} {F : Addr → Prop} {A : AH} {H : Hp}
theorem Rel.newG (R : Rel K F A H) {p : Addr} {ho : HO} (hp : H p = none) : Rel K (fun a => F a ∨ a = p) A (upd H p ho) ∧ Ext F A H (fun a => F a ∨ a = p) A (upd H p ho) := by
  have x0 := ext_new R hp (ho := ho)
  have R1 := R.lay hp (ho := ho)
  have x1 : Ext F A H (fun a => F a ∨ a = p) A (upd H p ho) := ⟨fun _ h => .inl h, x0.k, fun a o h e f => by
    rcases f with f | f
    · exact f
    · rw [f, hp] at e; cases e⟩
  have k1 : Kept F (fun a => F a ∨ a = p) (upd H p ho) (upd H p ho) := kept_frz
  refine ⟨⟨fun a o' e => ?_, fun a f => ?_⟩, x1⟩
  · obtain ⟨n, h2, e2, r2⟩ := R1.live a o' e
    refine ⟨fun z => ?_, h2, e2, r2.kept k1⟩
    rcases z with z | z
    · exact n z
    · rw [z, (R.fresh hp).1] at e; cases e
  · rcases f with f | f
    · exact R1.there a f
    · exact ⟨ho, by rw [f]; exact upd_same⟩
theorem repF_zip {fls : List Str} : ∀ {ds : List D} {vs : List V}, Reps K F H ds vs → RepF K F H (fls.zip ds) (fls.zip vs) := by
  induction fls with
  | nil => intro ds vs _; exact .nil
  | cons f l ih =>
    intro ds vs r
    cases r with
    | nil => exact .nil
    | cons a r => exact .cons a (ih r)
theorem repF_get {f : Str} {d : D} : ∀ {ds : List (Str × D)} {vs : List (Str × V)}, RepF K F H ds vs → ds.lookup f = some d → ∃ v, vs.lookup f = some v ∧ Rep K F H d v
  | _, _, .nil, e => by cases e
  | _, _, .cons (n := n) a r, e => by
    rw [List.lookup_cons] at e
    cases q : (f == n) with
    | true =>
      rw [q] at e
      cases e
      exact ⟨_, by rw [List.lookup_cons, q], a⟩
    | false =>
      rw [q] at e
      obtain ⟨v, h1, h2⟩ := repF_get r e
      exact ⟨v, by rw [List.lookup_cons, q]; exact h1, h2⟩
end
section
variable {X : Cx} {W : WX} {C fI cc cda : Addr} {cn : Str} {fls : List Str} {k : Nat} {p pos : Pos} {t : AA} {te : AE}
def aErr (C : Addr) (fls : List Str) (t : AA) : AE := fun δ A Q E => t δ A (fun ds A1 => ds.length = fls.length ∧ Q (.err C (fls.zip ds)) A1) E
theorem err_end {σ : L2.St} {H : Hp} {Q : VK} (h : liftE X.K W (aErr C fls t) σ H Q) : tMkN C fls (liftA X.K W t) σ H Q := by
  obtain ⟨δ, h⟩ := h
  refine (Lf.core (R1 := Reps X.K) (k := fun ds A1 Q E => ds.length = fls.length ∧ Q (D.err C (fls.zip ds)) A1) h).mono fun vs H1 ⟨ds, F, A, Q', E', a, r, ⟨hl, q⟩, po⟩ => ⟨by rw [← r.length]; exact hl, fun x dx hx hdx hne => ?_⟩
  obtain ⟨R1, x1⟩ := a.rel.newG hdx (ho := exd dx (fls.zip vs))
  have hx1 : upd H1 dx (exd dx (fls.zip vs)) x = none := by rw [upd_ne (Ne.symm hne)]; exact hx
  obtain ⟨R2, x2⟩ := R1.newG hx1 (ho := exo x C (some dx))
  have x3 := x1.trans x2
  refine po _ _ _ _ _ q x3 R2 (.err (.inr rfl) (.inl upd_same) (.inl (.inr rfl)) (.inl ?_) (repF_zip (r.kept (x3.kept a.rel))))
  rw [upd_ne hne, upd_same]
theorem ae_errN {e : Expr} {es : List Expr} (T : PySem.OwX.OwTN X.prog X.K X.mg C fI cc cda cn fls) (hr : Room k X.A) (ha : PA X (e :: es) (liftA X.K W t)) (hg : Gl X cn) (hdb : (cn == ("__debug__" : Str)) = false := by decide)
    (he : starEach (e :: es) X.env = (false, eval e X.env) :: starEach es X.env := by rfl) (hpl : (backTo pos (starEach es X.env)).any (·.1) = false := by rfl) : PE X (.Call (.Name cn p) (e :: es) [] pos) (liftE X.K W (aErr C fls t)) :=
  PE.imp (pe_errN T hr ha hg hdb he hpl) fun _ _ _ h => err_end h
theorem ae_errK {kws : List Keyword} (T : PySem.OwX.OwTN X.prog X.K X.mg C fI cc cda cn fls) (hr : Room k X.A) (hkw : PK X kws (liftA X.K W t)) (hg : Gl X cn)
    (hall : (backToKw pos (keywordEach kws X.env)).all (·.1.isSome) = true := by rfl) (hks : (backToKw pos (keywordEach kws X.env)).filterMap (·.1) = fls := by rfl) (hdb : (cn == ("__debug__" : Str)) = false := by decide)
    (hpl : ((backTo pos (starEach [] X.env)).any (·.1) || (backToKw pos (keywordEach kws X.env)).any (·.1.isNone)) = false := by rfl) : PE X (.Call (.Name cn p) [] kws pos) (liftE X.K W (aErr C fls t)) :=
  PE.imp (pe_errK T hr hkw hg hall hks hdb hpl) fun _ _ _ h => err_end h
def aErr0 (C : Addr) (te : AE) : AE := fun δ A Q E => te δ A (fun _ A1 => Q (.err C []) A1) E
theorem ae_err0 {bmB : List Value} {B newId initId : String} {e : Expr} (Fx : ExcBaseFacts B newId initId bmB) (q : PySem.W.excIn X.K C bmB newId = true) (gC : X.mg cn = some (.ref C)) (kC : PySem.W.keepIn X.K (.ref C) = true) (hg : Gl X cn)
    (he : PE X e (liftE X.K W te)) (hs : starEach [e] X.env = (false, eval e X.env) :: starEach [] X.env := by rfl) (hdb : (cn == ("__debug__" : Str)) = false := by decide) :
    PE X (.Call (.Name cn p) [e] [] pos) (liftE X.K W (aErr0 C te)) := PE.imp (pe_exc1 Fx q gC kC hg he hs hdb) fun σ H Q ⟨δ, h⟩ => by
  refine (Lf.core (R1 := Rep X.K) (k := fun _ A1 Q E => Q (D.err C []) A1) h).mono fun v H1 ⟨d, F, A, Q', E', a, r, q, po⟩ x hx => ?_
  obtain ⟨R1, x1⟩ := a.rel.newG hx (ho := ExO (.ref C) x)
  exact po _ _ _ _ _ q x1 R1 (.err0 (.inr rfl) (.inl upd_same))
def aFldE (K : PySem.W.Frag) (f : Str) (te : AE) : AE := fun δ A Q E => te δ A (fun x A1 => ∃ C fs v, x = .err C fs ∧ XfC K C ∧ PySem.W.findIn K (.ref C) f = some none ∧ fs.lookup f = some v ∧ Q v A1) E
theorem ae_fldE {e : Expr} {f : Str} (he : PE X e (liftE X.K W te)) (hb : attributeBase e f X.env (eval e X.env) = eval e X.env) : PE X (.Attribute e f pos) (liftE X.K W (aFldE X.K f te)) := PE.imp (pe_fldN he hb) fun σ H Q ⟨δ, h⟩ => by
  refine (Lf.core (R1 := Rep X.K) (k := fun x A1 Q E => ∃ C fs v, x = D.err C fs ∧ XfC X.K C ∧ PySem.W.findIn X.K (.ref C) f = some none ∧ fs.lookup f = some v ∧ Q v A1) h).mono fun u H1 ⟨d, F, A, Q', E', a, r, ⟨C, fs, v, ed, T, hno, hl, q⟩, po⟩ => ?_
  subst ed
  cases r with
  | err h1 h2 h3 h4 rf =>
    obtain ⟨v', e1, r1⟩ := repF_get rf hl
    exact ⟨_, C, _, _, v', rfl, T, hno, h2, h4, e1, po _ _ _ _ _ q Ext.refl a.rel r1⟩
  | err0 h1 h2 => cases hl
def clsV : D → Option Value
  | .ref a => some (.ref a)
  | .ty n => some (.type n)
  | _ => none
theorem clsV_ref {a : Addr} : clsV (.ref a) = some (.ref a) := rfl
theorem clsV_ty {n : String} : clsV (.ty n) = some (.type n) := rfl
def gIsN (K : PySem.W.Frag) : GA := fun xs A Q _ => ∃ C fs c cv b, xs = [.err C fs, c] ∧ clsV c = some cv ∧ XfC K C ∧ ErrC K C ∧ PySem.W.kitOne K (.ref C) cv = some b ∧ Q (.bl b) A
theorem ca_isN : CallA X (.builtin "isinstance") (gIsN X.K) := ⟨_, fun W δ σ H xs vs Q ⟨F, A, Q', E', a, ⟨C, fs, c, cv, b, e1, ec, T, Z, hk, q⟩, po⟩ => by
  subst e1
  obtain ⟨v, u, rfl, r1, r2⟩ := a.held.two
  have hu : ∀ w, RelV u w → w = cv := by
    cases r2 with
    | ref b => cases ec; exact fun w h => h
    | ty n => cases ec; exact fun w h => h
    | _ => cases ec
  have fin := po _ _ _ _ _ q Ext.refl a.rel (.bl b)
  cases r1 with
  | err h1 h2 h3 h4 rf => exact ⟨_, C, u, cv, b, rfl, T, Z, .inl ⟨_, _, h2, h4⟩, hu, hk, fin⟩
  | err0 h1 h2 => exact ⟨_, C, u, cv, b, rfl, T, Z, .inr h2, hu, hk, fin⟩, call_isN⟩
end
section
variable {K : PySem.W.Frag} {C : Addr} {fls : List Str} {f : Str} {t : AA} {te : AE} {δ : ASt} {A : AH} {Q : AQ} {E : AX}
theorem aErr_eq : aErr C fls t δ A Q E = t δ A (fun ds A1 => ds.length = fls.length ∧ Q (.err C (fls.zip ds)) A1) E := rfl
theorem aErr0_eq : aErr0 C te δ A Q E = te δ A (fun _ A1 => Q (.err C []) A1) E := rfl
theorem aFldE_eq : aFldE K f te δ A Q E = te δ A (fun x A1 => ∃ C fs v, x = .err C fs ∧ XfC K C ∧ PySem.W.findIn K (.ref C) f = some none ∧ fs.lookup f = some v ∧ Q v A1) E := rfl
theorem gIsN_eq {fs : List (Str × D)} {c : D} : gIsN K [.err C fs, c] A Q E = ∃ cv b, clsV c = some cv ∧ XfC K C ∧ ErrC K C ∧ PySem.W.kitOne K (.ref C) cv = some b ∧ Q (.bl b) A := by
  apply propext
  constructor
  · rintro ⟨C', fs', c', cv, b, e, h⟩
    cases e
    exact ⟨cv, b, h⟩
  · rintro ⟨cv, b, h⟩
    exact ⟨_, _, _, cv, b, rfl, h⟩
end
end Av

set_option Elab.async false
set_option linter.all false
set_option maxRecDepth 100000
set_option maxHeartbeats 4000000
namespace Av
open PySem PySem.Spec PyProof.Rows L2 My
def hdW (ws : List Str) : Str := ws.headD ""
def rdA (ps : List (List Str)) : Rd := ps.foldl (fun r ws => r.take (hdW ws)) Rd.nil
theorem rdA_take {ps : List (List Str)} {i : Nat} {ws : List Str} (h : ps[i]? = some ws) : rdA (ps.take (i + 1)) = (rdA (ps.take i)).take (hdW ws) := by
  unfold rdA
  rw [List.take_succ, h, Option.toList_some, List.foldl_append]; rfl
structure Fit (ps : List (List Str)) : Prop where
  f : ∀ i ws, ps[i]? = some ws → fits (rdA (ps.take i)).view (hdW ws) = true
  e : (rdA ps).stack = []
def stk (ps : List (List Str)) (i : Nat) : List Nat := (rdA (ps.take i)).stack
def wdA (ps : List (List Str)) (i : Nat) : Str := hdW (ps.getD i [])
def midA (ps : List (List Str)) (b : Nat) : Option Nat := (rdA ps).middles.lookup b
def finA (ps : List (List Str)) (b : Nat) : Option Nat := (rdA ps).ends.lookup b
theorem rdA_words (l : List (List Str)) : (rdA l).words = l.map hdW := by
  have : ∀ (l : List (List Str)) (r : Rd), (l.foldl (fun r ws => r.take (hdW ws)) r).words = r.words ++ l.map hdW := by
    intro l
    induction l with
    | nil => intro r; simp
    | cons x l ih =>
      intro r
      rw [List.foldl_cons, ih]
      show (r.words ++ [hdW x]) ++ _ = _
      rw [List.append_assoc]; rfl
  exact this l Rd.nil
theorem snoc_split {α : Type} {l pre post : List α} {x o : α} (h : l ++ [x] = pre ++ o :: post) : (pre = l ∧ o = x ∧ post = []) ∨ ∃ p2, l = pre ++ o :: p2 := by
  rcases List.eq_nil_or_concat post with rfl | ⟨p2, y, rfl⟩
  · left
    have := List.append_inj' h rfl
    refine ⟨this.1.symm, ?_, rfl⟩
    injection this.2 with h1 _
    exact h1.symm
  · right
    rw [List.concat_eq_append, ← List.cons_append, ← List.append_assoc] at h
    exact ⟨p2, (List.append_inj' h rfl).1⟩
theorem mem_lookup {α : Type} : ∀ {l : List (Nat × α)} {k : Nat} {v : α}, (l.map (·.1)).Nodup → (k, v) ∈ l → l.lookup k = some v
  | (a, b) :: l, k, v, n, h => by
    rw [List.lookup_cons]
    rw [List.map_cons, List.nodup_cons] at n
    rcases List.mem_cons.mp h with z | z
    · cases z; simp
    · have : k ≠ a := fun e => n.1 (List.mem_map.mpr ⟨(k, v), z, e⟩)
      rw [show (k == a) = false by rw [beq_eq_false_iff_ne]; exact this]
      exact mem_lookup n.2 z
section
variable {ps : List (List Str)} {i j b m e : Nat} {ws : List Str}
theorem wdA_get (h : ps[i]? = some ws) : wdA ps i = hdW ws := by
  unfold wdA
  rw [List.getD_eq_getElem?_getD, h]; rfl
theorem wdA_out (h : ps.length ≤ i) : wdA ps i = "" := by
  unfold wdA
  rw [List.getD_eq_getElem?_getD, List.getElem?_eq_none h]; rfl
theorem getA (h : i < ps.length) : ps[i]? = some (ps.getD i []) := by
  rw [List.getD_eq_getElem?_getD, List.getElem?_eq_getElem h]; rfl
theorem wlen (h : i ≤ ps.length) : (rdA (ps.take i)).words.length = i := by
  rw [rdA_words, List.length_map, List.length_take]; omega
theorem wd_rdA (h : j < i) (hi : i ≤ ps.length) : (rdA (ps.take i)).wd j = wdA ps j := by
  unfold Rd.wd
  rw [rdA_words, List.getD_eq_getElem?_getD, List.getElem?_map, List.getElem?_take_of_lt h, getA (by omega)]; rfl
theorem stk_zero : stk ps 0 = [] := rfl
theorem stk_succ (h : i < ps.length) : stk ps (i + 1) = if wdA ps i ∈ OPENW then stk ps i ++ [i] else if wdA ps i ∈ MIDW then stk ps i else if wdA ps i = "end" then (stk ps i).dropLast else stk ps i := by
  unfold stk
  rw [rdA_take (getA h)]
  show (if hdW _ ∈ OPENW then (rdA (ps.take i)).stack ++ [(rdA (ps.take i)).words.length] else _) = _
  rw [wlen (Nat.le_of_lt h)]; rfl
theorem stk_end (F : Fit ps) (h : ps.length ≤ i) : stk ps i = [] := by
  unfold stk
  rw [List.take_of_length_le h]; exact F.e
theorem Fit.ok (F : Fit ps) : ∀ i, (rdA (ps.take i)).Ok
  | 0 => Rd.ok_nil
  | i + 1 => by
    cases h : ps[i]? with
    | none =>
      rw [List.take_succ, h, Option.toList_none, List.append_nil]
      exact F.ok i
    | some ws =>
      rw [rdA_take h]
      exact Rd.ok_take (F.ok i) (F.f i ws h)
theorem Fit.all (F : Fit ps) : (rdA ps).Ok := by
  have := F.ok ps.length
  rwa [List.take_of_length_le (Nat.le_refl _)] at this
theorem stk_pre (hi : i ≤ ps.length) : ∀ {pre post : List Nat} {o : Nat}, stk ps i = pre ++ o :: post → stk ps o = pre ∧ o < i ∧ wdA ps o ∈ OPENW := by
  induction i with
  | zero =>
    intro pre post o e
    have := congrArg List.length (show ([] : List Nat) = pre ++ o :: post from e)
    simp at this
  | succ i ih =>
    intro pre post o e
    have ih := @ih (by omega)
    rw [stk_succ (by omega)] at e
    have old : ∀ {pre post : List Nat} {o : Nat}, stk ps i = pre ++ o :: post → stk ps o = pre ∧ o < i + 1 ∧ wdA ps o ∈ OPENW := fun e => by
      obtain ⟨h1, h2, h3⟩ := ih e
      exact ⟨h1, by omega, h3⟩
    split at e
    · rename_i hw
      rcases snoc_split e with ⟨rfl, rfl, rfl⟩ | ⟨p2, e2⟩
      · exact ⟨rfl, by omega, hw⟩
      · exact old e2
    · split at e
      · exact old e
      · split at e
        · rcases List.eq_nil_or_concat (stk ps i) with z | ⟨l, y, z⟩
          · rw [z] at e
            have := congrArg List.length e
            simp at this
          · rw [z, List.concat_eq_append, List.dropLast_concat] at e
            refine old (post := post ++ [y]) ?_
            rw [z, List.concat_eq_append, e, List.append_assoc]; rfl
        · exact old e
theorem stk_last (hi : i ≤ ps.length) (h : (stk ps i).getLast? = some b) : stk ps i = stk ps b ++ [b] ∧ b < i ∧ wdA ps b ∈ OPENW := by
  have e := Rd.snoc_of h
  obtain ⟨h1, h2, h3⟩ := stk_pre hi (post := []) e
  exact ⟨by rw [h1]; exact e, h2, h3⟩
theorem stk_mem (hi : i ≤ ps.length) (h : b ∈ stk ps i) : (∃ post, stk ps i = stk ps b ++ b :: post) ∧ b < i ∧ wdA ps b ∈ OPENW := by
  obtain ⟨pre, post, e⟩ := List.append_of_mem h
  obtain ⟨h1, h2, h3⟩ := stk_pre hi e
  exact ⟨⟨post, by rw [h1]; exact e⟩, h2, h3⟩
theorem mid_mem (F : Fit ps) (hi : i ≤ ps.length) : (b, m) ∈ (rdA (ps.take i)).middles ↔ m < i ∧ wdA ps m ∈ MIDW ∧ (stk ps m).getLast? = some b := by
  induction i with
  | zero => exact ⟨fun h => (by cases h), fun h => absurd h.1 (by omega)⟩
  | succ i ih =>
    have ih := ih (by omega)
    have hg := getA (show i < ps.length by omega)
    have hw : wdA ps i = hdW (ps.getD i []) := rfl
    rw [rdA_take hg]
    show (b, m) ∈ (if hdW (ps.getD i []) ∈ OPENW then (rdA (ps.take i)).middles else if hdW (ps.getD i []) ∈ MIDW then (rdA (ps.take i)).middles ++ [((rdA (ps.take i)).stack.getLastD 0, (rdA (ps.take i)).words.length)] else (rdA (ps.take i)).middles) ↔ _
    rw [← hw, wlen (by omega)]
    have up : wdA ps i ∉ MIDW → (m < i ∧ wdA ps m ∈ MIDW ∧ (stk ps m).getLast? = some b ↔ m < i + 1 ∧ wdA ps m ∈ MIDW ∧ (stk ps m).getLast? = some b) := fun n => ⟨fun h => ⟨by omega, h.2⟩, fun h => ⟨by
      have : m ≠ i := fun z => n (z ▸ h.2.1)
      omega, h.2⟩⟩
    by_cases h1 : wdA ps i ∈ OPENW
    · rw [if_pos h1, ih]; exact up (Rd.open_mid h1)
    · rw [if_neg h1]
      by_cases h2 : wdA ps i ∈ MIDW
      · rw [if_pos h2, List.mem_append, ih, List.mem_singleton]
        have f := F.f i _ hg
        rw [← hw, Rd.fits_mid h2] at f
        obtain ⟨o, ho, _, _⟩ := Rd.mid_last (F.ok i) f
        rw [List.getLastD_eq_getLast?, ho]
        constructor
        · rintro (h | h)
          · exact ⟨by omega, h.2⟩
          · cases h
            exact ⟨by omega, h2, ho⟩
        · intro ⟨h3, h4, h5⟩
          by_cases z : m = i
          · subst z
            right
            rw [show stk ps m = (rdA (ps.take m)).stack from rfl, ho] at h5
            cases h5; rfl
          · exact .inl ⟨by omega, h4, h5⟩
      · rw [if_neg h2, ih]; exact up h2
theorem fin_mem (F : Fit ps) (hi : i ≤ ps.length) : (b, e) ∈ (rdA (ps.take i)).ends ↔ e < i ∧ wdA ps e = "end" ∧ (stk ps e).getLast? = some b := by
  induction i with
  | zero => exact ⟨fun h => (by cases h), fun h => absurd h.1 (by omega)⟩
  | succ i ih =>
    have ih := ih (by omega)
    have hg := getA (show i < ps.length by omega)
    have hw : wdA ps i = hdW (ps.getD i []) := rfl
    rw [rdA_take hg]
    show (b, e) ∈ (if hdW (ps.getD i []) ∈ OPENW then (rdA (ps.take i)).ends else if hdW (ps.getD i []) ∈ MIDW then (rdA (ps.take i)).ends else if hdW (ps.getD i []) = "end" then (rdA (ps.take i)).ends ++ [((rdA (ps.take i)).stack.getLastD 0, (rdA (ps.take i)).words.length)] else (rdA (ps.take i)).ends) ↔ _
    rw [← hw, wlen (by omega)]
    have up : wdA ps i ≠ "end" → (e < i ∧ wdA ps e = "end" ∧ (stk ps e).getLast? = some b ↔ e < i + 1 ∧ wdA ps e = "end" ∧ (stk ps e).getLast? = some b) := fun n => ⟨fun h => ⟨by omega, h.2⟩, fun h => ⟨by
      have : e ≠ i := fun z => n (z ▸ h.2.1)
      omega, h.2⟩⟩
    by_cases h1 : wdA ps i ∈ OPENW
    · rw [if_pos h1, ih]; exact up fun z => by rw [z] at h1; exact absurd h1 (by decide)
    · rw [if_neg h1]
      by_cases h2 : wdA ps i ∈ MIDW
      · rw [if_pos h2, ih]; exact up fun z => by rw [z] at h2; exact absurd h2 (by decide)
      · rw [if_neg h2]
        by_cases h3 : wdA ps i = "end"
        · rw [if_pos h3, List.mem_append, ih, List.mem_singleton]
          have f := F.f i _ hg
          rw [← hw, h3, Rd.fits_end] at f
          obtain ⟨o, ho⟩ := Rd.end_last (w := "") f
          rw [List.getLastD_eq_getLast?, ho]
          constructor
          · rintro (h | h)
            · exact ⟨by omega, h.2⟩
            · cases h
              exact ⟨by omega, h3, ho⟩
          · intro ⟨h4, h5, h6⟩
            by_cases z : e = i
            · subst z
              right
              rw [show stk ps e = (rdA (ps.take e)).stack from rfl, ho] at h6
              cases h6; rfl
            · exact .inl ⟨by omega, h5, h6⟩
        · rw [if_neg h3, ih]; exact up h3
theorem midA_iff (F : Fit ps) : midA ps b = some m ↔ m < ps.length ∧ wdA ps m ∈ MIDW ∧ (stk ps m).getLast? = some b := by
  have q := mid_mem (b := b) (m := m) F (Nat.le_refl _)
  rw [List.take_of_length_le (Nat.le_refl _)] at q
  rw [← q]
  exact ⟨fun h => lookup_mem h, fun h => mem_lookup F.all.mn h⟩
theorem finA_iff (F : Fit ps) : finA ps b = some e ↔ e < ps.length ∧ wdA ps e = "end" ∧ (stk ps e).getLast? = some b := by
  have q := fin_mem (b := b) (e := e) F (Nat.le_refl _)
  rw [List.take_of_length_le (Nat.le_refl _)] at q
  rw [← q]
  exact ⟨fun h => lookup_mem h, fun h => mem_lookup F.all.en h⟩
theorem fin_of (F : Fit ps) : ∀ k i, i + k = ps.length → b ∈ stk ps i → ∃ e, finA ps b = some e ∧ i ≤ e
  | 0, i, hk, h => by
    rw [stk_end F (by omega)] at h
    cases h
  | k + 1, i, hk, h => by
    by_cases hb : b ∈ stk ps (i + 1)
    · obtain ⟨e, h1, h2⟩ := fin_of F k (i + 1) (by omega) hb
      exact ⟨e, h1, by omega⟩
    · rw [stk_succ (by omega)] at hb
      split at hb
      · exact absurd (List.mem_append_left _ h) hb
      · split at hb
        · exact absurd h hb
        · split at hb
          · rename_i hw
            refine ⟨i, (finA_iff F).mpr ⟨by omega, hw, ?_⟩, Nat.le_refl _⟩
            rcases List.eq_nil_or_concat (stk ps i) with z | ⟨l, y, z⟩
            · rw [z] at h; cases h
            · rw [z, List.concat_eq_append] at h hb ⊢
              rw [List.dropLast_concat] at hb
              rcases List.mem_append.mp h with q | q
              · exact absurd q hb
              · rw [List.mem_singleton.mp q, List.getLast?_concat]
          · exact absurd h hb
theorem in_between (F : Fit ps) (h : finA ps b = some e) : ∀ k j, j + k = e → b < j → b ∈ stk ps j
  | 0, j, hk, hj => by
    obtain ⟨_, _, h3⟩ := (finA_iff F).mp h
    rw [show j = e by omega]
    exact List.mem_of_getLast? h3
  | k + 1, j, hk, hj => by
    have q := in_between F h k (j + 1) (by omega) (by omega)
    have he := ((finA_iff F).mp h).1
    rw [stk_succ (by omega)] at q
    split at q
    · rcases List.mem_append.mp q with z | z
      · exact z
      · have := List.mem_singleton.mp z; omega
    · split at q
      · exact q
      · split at q
        · exact Rd.dropLast_mem q
        · exact q
theorem mid_word (F : Fit ps) (h : midA ps b = some m) : b < m ∧ wdA ps b = (if wdA ps m = "else" then "maybe" else "try") := by
  obtain ⟨h1, h2, h3⟩ := (midA_iff F).mp h
  obtain ⟨_, hb, _⟩ := stk_last (Nat.le_of_lt h1) h3
  have f := F.f m _ (getA h1)
  rw [show hdW (ps.getD m []) = wdA ps m from rfl, Rd.fits_mid h2] at f
  obtain ⟨o, ho, hw, _⟩ := Rd.mid_last (F.ok m) f
  rw [show (rdA (ps.take m)).stack = stk ps m from rfl, h3] at ho
  cases ho
  exact ⟨hb, by rw [← hw, wd_rdA hb (Nat.le_of_lt h1)]⟩
theorem mid_opener (F : Fit ps) (h : i < ps.length) (hw : wdA ps i ∈ MIDW) : ∃ o, (stk ps i).getLast? = some o ∧ midA ps o = some i := by
  have f := F.f i _ (getA h)
  rw [show hdW (ps.getD i []) = wdA ps i from rfl, Rd.fits_mid hw] at f
  obtain ⟨o, ho, _, _⟩ := Rd.mid_last (F.ok i) f
  exact ⟨o, ho, (midA_iff F).mpr ⟨h, hw, ho⟩⟩
theorem mid_lt_fin (F : Fit ps) (h : midA ps b = some m) (he : finA ps b = some e) : m < e := by
  obtain ⟨h1, h2, h3⟩ := (midA_iff F).mp h
  obtain ⟨k1, k2, k3⟩ := (finA_iff F).mp he
  obtain ⟨e2, q1, q2⟩ := fin_of F (ps.length - m) m (by omega) (List.mem_of_getLast? h3)
  rw [he] at q1; cases q1
  have : m ≠ e := fun z => by rw [z, k2] at h2; exact absurd h2 (by decide)
  omega
theorem one_each (F : Fit ps) : ∀ i, i ≤ ps.length → ((stk ps i).filter fun b => decide (wdA ps b = "each")).length ≤ 1
  | 0, _ => Nat.zero_le _
  | i + 1, h => by
    have ih := one_each F i (by omega)
    rw [stk_succ (by omega)]
    split
    · rename_i hw
      rw [List.filter_append, List.length_append, List.filter_cons, List.filter_nil]
      by_cases he : wdA ps i = "each"
      · have f := F.f i _ (getA (by omega))
        rw [show hdW (ps.getD i []) = wdA ps i from rfl, Rd.fits_open hw, he] at f
        unfold opnOk at f
        have hn : loopPl (rdA (ps.take i)).view = none := by
          cases q : loopPl (rdA (ps.take i)).view with
          | none => rfl
          | some k => rw [q, if_pos (.inr ⟨rfl, by simp⟩)] at f; cases f
        have z : ((stk ps i).filter fun b => decide (wdA ps b = "each")) = [] := by
          rw [List.filter_eq_nil_iff]
          intro b hb q
          have q := of_decide_eq_true q
          unfold loopPl at hn
          rw [List.findIdx?_eq_none_iff] at hn
          have hv : ((wdA ps b : Str), (rdA (ps.take i)).part b) ∈ (rdA (ps.take i)).view := by
            unfold Rd.view
            refine List.mem_map.mpr ⟨b, hb, ?_⟩
            rw [wd_rdA (stk_mem (by omega) hb).2.1 (by omega)]
          have := hn _ hv
          exact absurd q (of_decide_eq_false this)
        rw [z]
        split <;> simp
      · rw [decide_eq_false he]
        simpa using ih
    · split
      · exact ih
      · split
        · exact Nat.le_trans (List.Sublist.length_le ((List.dropLast_sublist _).filter _)) ih
        · exact ih
end
end Av

set_option Elab.async false
set_option linter.all false
set_option maxRecDepth 100000
set_option maxHeartbeats 4000000
namespace Av
open PySem PySem.Spec PyProof.Rows L2 My
abbrev Ev := Str × Nat
structure Place where
  row : Nat
  again : Nat
  evs : List Ev
abbrev NumA := Nat → Option Nat
def grd (ps : List (List Str)) (i b : Nat) : Bool := match midA ps b with
  | some m => decide (b < i ∧ i < m)
  | none => false
def insA (ps : List (List Str)) (i b : Nat) : Bool := match finA ps b with
  | some e => decide (b < i ∧ i < e) || (decide (i = e) && decide (wdA ps b = "each"))
  | none => false
def hit (ps : List (List Str)) (tr : Nat → Nat) (num : NumA) (evs : List Ev) (kind : Str) (i b : Nat) : Option (Option Place) :=
  if wdA ps b = "try" then some (match midA ps b with
    | some m => if grd ps i b = true ∧ (kind ≠ "return" ∨ wdA ps m = "finally") then some ⟨m + 1, 0, evs⟩ else none
    | none => none)
  else if wdA ps b = "retry" ∧ kind = "fail" then (num b).map fun k => if k < tr b then some ⟨b, k + 1, evs.filter fun e => !insA ps e.2 b⟩ else none
  else some none
def leaveC (ps : List (List Str)) (tr : Nat → Nat) (num : NumA) (evs : List Ev) (kind : Str) : Nat → List Nat → Option Place
  | _, [] => some ⟨ps.length, 0, evs⟩
  | i, b :: C => match hit ps tr num evs kind i b with
    | none => none
    | some (some p) => some p
    | some none => leaveC ps tr num evs kind b C
def stepA (ps : List (List Str)) (i : Nat) : Bool := if wdA ps i = "end" then (match (stk ps i).getLast? with
    | some o => decide (wdA ps o = "each")
    | none => false) else !decide (wdA ps i ∈ (["try", "shield", "else", "finally", "rescue"] : List Str))
def lastIn (ps : List (List Str)) (i : Nat) (evs : List Ev) : Option (Nat × Str) :=
  if wdA ps i = "end" then (match (stk ps i).getLast?, evs.getLast? with
    | some b, some e => if wdA ps b = "try" ∧ grd ps e.2 b = true then some (b, e.1) else none
    | _, _ => none) else none
def retrA (ps : List (List Str)) (i : Nat) : List Nat := ((stk ps i).filter fun b => decide (wdA ps b = "retry")) ++ if wdA ps i = "retry" then [i] else []
def eachA (ps : List (List Str)) (i : Nat) : Option Nat := (stk ps i).find? fun b => decide (wdA ps b = "each")
def shA (ps : List (List Str)) (i : Nat) : Bool := (stk ps i).any fun b => decide (wdA ps b = "shield")
inductive Settles (ps : List (List Str)) (tr : Nat → Nat) (num : NumA) : Place → Place → Prop
  | stop {p : Place} : (p.row < ps.length → stepA ps p.row = true) → (∀ b ∈ retrA ps p.row, b ≠ p.row → (num b).isSome = true) → Settles ps tr num p p
  | next {p q : Place} : p.row < ps.length → stepA ps p.row = false → wdA ps p.row ≠ "else" → wdA ps p.row ≠ "rescue" → lastIn ps p.row p.evs = none → Settles ps tr num ⟨p.row + 1, 0, p.evs⟩ q → Settles ps tr num p q
  | jump {p q : Place} {b e : Nat} : p.row < ps.length → (wdA ps p.row = "else" ∨ wdA ps p.row = "rescue") → (stk ps p.row).getLast? = some b → finA ps b = some e → Settles ps tr num ⟨e + 1, 0, p.evs⟩ q → Settles ps tr num p q
  | leave {p p' q : Place} {b : Nat} {k : Str} : p.row < ps.length → lastIn ps p.row p.evs = some (b, k) → leaveC ps tr num p.evs k b (stk ps b).reverse = some p' → Settles ps tr num p' q → Settles ps tr num p q
section
variable {ps : List (List Str)} {tr : Nat → Nat} {num num' : NumA} {i j b m e : Nat} {evs : List Ev} {kind : Str} {C : List Nat} {p q r : Place}
theorem leaveC_cons : leaveC ps tr num evs kind i (b :: C) = match hit ps tr num evs kind i b with
    | none => none
    | some (some p) => some p
    | some none => leaveC ps tr num evs kind b C := rfl
theorem grd_iff : grd ps i b = true ↔ ∃ m, midA ps b = some m ∧ b < i ∧ i < m := by
  unfold grd
  cases h : midA ps b with
  | none => simp
  | some m => simp
theorem stepA_retry (h : wdA ps i = "retry") : stepA ps i = true := by
  unfold stepA
  rw [h, if_neg (by decide)]
  decide
theorem lastIn_some {x : Nat × Str} (h : lastIn ps i evs = some x) : wdA ps i = "end" ∧ (stk ps i).getLast? = some x.1 ∧ wdA ps x.1 = "try" ∧ ∃ r, evs.getLast? = some (x.2, r) ∧ grd ps r x.1 = true := by
  unfold lastIn at h
  by_cases hw : wdA ps i = "end"
  · rw [if_pos hw] at h
    cases h1 : (stk ps i).getLast? with
    | none => rw [h1] at h; cases h
    | some b =>
      cases h2 : evs.getLast? with
      | none => rw [h1, h2] at h; cases h
      | some e =>
        rw [h1, h2] at h
        dsimp only at h
        split at h
        · rename_i c
          cases h
          exact ⟨hw, rfl, c.1, e.2, rfl, c.2⟩
        · cases h
  · rw [if_neg hw] at h; cases h
theorem stepA_try_end (hw : wdA ps i = "end") (hl : (stk ps i).getLast? = some b) (hb : wdA ps b = "try") : stepA ps i = false := by
  unfold stepA
  rw [if_pos hw, hl]
  dsimp only
  rw [hb]
  decide
theorem stepA_mid (h : wdA ps i = "else" ∨ wdA ps i = "rescue") : stepA ps i = false := by
  unfold stepA
  rcases h with h | h <;> rw [h, if_neg (by decide)] <;> decide
theorem Settles.det (h1 : Settles ps tr num p q) : ∀ {r}, Settles ps tr num p r → q = r := by
  induction h1 with
  | stop a1 a2 =>
    intro r h2
    cases h2 with
    | stop _ _ => rfl
    | next b1 b2 => rw [a1 b1] at b2; cases b2
    | jump b1 b2 => have := a1 b1; rw [stepA_mid b2] at this; cases this
    | leave b1 b2 =>
      obtain ⟨c1, c2, c3, _⟩ := lastIn_some b2
      have := a1 b1; rw [stepA_try_end c1 c2 c3] at this; cases this
  | next a1 a2 a3 a4 a5 _ ih =>
    intro r h2
    cases h2 with
    | stop b1 _ => rw [b1 a1] at a2; cases a2
    | next _ _ _ _ _ b6 => exact ih b6
    | jump _ b2 => exact (b2.elim a3 a4).elim
    | leave _ b2 => rw [a5] at b2; cases b2
  | jump a1 a2 a3 a4 _ ih =>
    intro r h2
    cases h2 with
    | stop b1 _ => have := b1 a1; rw [stepA_mid a2] at this; cases this
    | next _ _ b3 b4 _ _ => exact (a2.elim b3 b4).elim
    | jump _ _ b3 b4 b5 =>
      rw [a3] at b3; cases b3
      rw [a4] at b4; cases b4
      exact ih b5
    | leave _ b2 =>
      obtain ⟨c1, _⟩ := lastIn_some b2
      rw [c1] at a2
      exact absurd a2 (by decide)
  | leave a1 a2 a3 _ ih =>
    intro r h2
    cases h2 with
    | stop b1 _ =>
      obtain ⟨c1, c2, c3, _⟩ := lastIn_some a2
      have := b1 a1; rw [stepA_try_end c1 c2 c3] at this; cases this
    | next _ _ _ _ b5 _ => rw [a2] at b5; cases b5
    | jump _ b2 =>
      obtain ⟨c1, _⟩ := lastIn_some a2
      rw [c1] at b2
      exact absurd b2 (by decide)
    | leave _ b2 b3 b4 =>
      rw [a2] at b2; cases b2
      rw [a3] at b3; cases b3
      exact ih b4
def LeN (num num' : NumA) : Prop := ∀ b k, num b = some k → num' b = some k
theorem hit_mono (l : LeN num num') {x : Option Place} (h : hit ps tr num evs kind i b = some x) : hit ps tr num' evs kind i b = some x := by
  unfold hit at h ⊢
  split at h
  · rename_i c
    rw [if_pos c]; exact h
  · rename_i c
    rw [if_neg c]
    split at h
    · rename_i c2
      rw [if_pos c2]
      cases hn : num b with
      | none => rw [hn] at h; cases h
      | some k => rw [hn] at h; rw [l _ _ hn]; exact h
    · rename_i c2
      rw [if_neg c2]; exact h
theorem leaveC_mono (l : LeN num num') : ∀ {C : List Nat} {i : Nat}, leaveC ps tr num evs kind i C = some p → leaveC ps tr num' evs kind i C = some p
  | [], i, h => h
  | b :: C, i, h => by
    rw [leaveC_cons] at h ⊢
    cases c : hit ps tr num evs kind i b with
    | none => rw [c] at h; cases h
    | some x =>
      rw [c] at h
      rw [hit_mono l c]
      cases x with
      | some y => exact h
      | none => exact leaveC_mono l h
theorem Settles.mono (l : LeN num num') (h : Settles ps tr num p q) : Settles ps tr num' p q := by
  induction h with
  | stop a1 a2 =>
    refine .stop a1 fun b hb hn => ?_
    obtain ⟨k, hk⟩ := Option.isSome_iff_exists.mp (a2 b hb hn)
    rw [l _ _ hk]; rfl
  | next a1 a2 a3 a4 a5 _ ih => exact .next a1 a2 a3 a4 a5 ih
  | jump a1 a2 a3 a4 _ ih => exact .jump a1 a2 a3 a4 ih
  | leave a1 a2 a3 _ ih => exact .leave a1 a2 (leaveC_mono l a3) ih
def DefN (ps : List (List Str)) (num : NumA) (s : List Nat) : Prop := ∀ b ∈ s, wdA ps b = "retry" → (num b).isSome = true
def Lead (ps : List (List Str)) (i : Nat) (C : List Nat) (p : Place) : Prop := p.row = ps.length ∨ (∃ b ∈ C, wdA ps b = "retry" ∧ p.row = b) ∨
  ∃ b ∈ C, ∃ m x, midA ps b = some m ∧ p.row = m + 1 ∧ b < x ∧ x < m ∧ (x = i ∨ x ∈ C)
theorem leaveC_lead : ∀ {C : List Nat} {i : Nat}, leaveC ps tr num evs kind i C = some p → Lead ps i C p
  | [], i, h => by
    cases h
    exact .inl rfl
  | b :: C, i, h => by
    rw [leaveC_cons] at h
    cases c : hit ps tr num evs kind i b with
    | none => rw [c] at h; cases h
    | some x =>
      rw [c] at h
      cases x with
      | none =>
        rcases leaveC_lead h with z | ⟨b2, h1, h2, h3⟩ | ⟨b2, h1, m, x, h2, h3, h4, h5, h6⟩
        · exact .inl z
        · exact .inr (.inl ⟨b2, .tail _ h1, h2, h3⟩)
        · refine .inr (.inr ⟨b2, .tail _ h1, m, x, h2, h3, h4, h5, ?_⟩)
          rcases h6 with rfl | h6
          · exact .inr (.head _)
          · exact .inr (.tail _ h6)
      | some y =>
        cases h
        unfold hit at c
        split at c
        · have c := Option.some.inj c
          cases hm : midA ps b with
          | none => rw [hm] at c; cases c
          | some m =>
            rw [hm] at c
            dsimp only at c
            split at c
            · rename_i g
              obtain ⟨m2, g1, g2, g3⟩ := grd_iff.mp g.1
              rw [hm] at g1; cases g1
              cases c
              exact .inr (.inr ⟨b, .head _, m, i, hm, rfl, g2, g3, .inl rfl⟩)
            · cases c
        · split at c
          · rename_i hw
            cases hn : num b with
            | none => rw [hn] at c; cases c
            | some k =>
              rw [hn] at c
              have c := Option.some.inj c
              dsimp only at c
              split at c
              · cases c
                exact .inr (.inl ⟨b, .head _, hw.1, rfl⟩)
              · cases c
          · cases c
theorem leaveC_some : ∀ {C : List Nat} {i : Nat}, DefN ps num C → ∃ p, leaveC ps tr num evs kind i C = some p
  | [], i, h => ⟨_, rfl⟩
  | b :: C, i, h => by
    rw [leaveC_cons]
    have hx : ∃ x, hit ps tr num evs kind i b = some x := by
      unfold hit
      split
      · exact ⟨_, rfl⟩
      · split
        · rename_i hw
          obtain ⟨k, hk⟩ := Option.isSome_iff_exists.mp (h b (.head _) hw.1)
          rw [hk]; exact ⟨_, rfl⟩
        · exact ⟨_, rfl⟩
    obtain ⟨x, hx⟩ := hx
    rw [hx]
    cases x with
    | some y => exact ⟨_, rfl⟩
    | none => exact leaveC_some fun b hb => h b (.tail _ hb)
theorem lead_pre (F : Fit ps) (hj : j ≤ ps.length) (h : Lead ps i (stk ps j).reverse p) : (∃ post, stk ps j = stk ps p.row ++ post) ∧ p.row ≤ ps.length := by
  rcases h with z | ⟨b, h1, h2, h3⟩ | ⟨b, h1, m, x, h2, h3, h4, h5, h6⟩
  · rw [z, stk_end F (Nat.le_refl _)]
    exact ⟨⟨_, rfl⟩, Nat.le_refl _⟩
  · obtain ⟨⟨post, e⟩, h4, _⟩ := stk_mem hj (List.mem_reverse.mp h1)
    rw [h3]
    exact ⟨⟨_, e⟩, by omega⟩
  · obtain ⟨⟨post, e⟩, _, _⟩ := stk_mem hj (List.mem_reverse.mp h1)
    obtain ⟨k1, k2, k3⟩ := (midA_iff F).mp h2
    rw [h3, stk_succ k1, if_neg (fun z => Rd.open_mid z k2), if_pos k2, (stk_last (Nat.le_of_lt k1) k3).1]
    exact ⟨⟨post, by rw [e, List.append_assoc]; rfl⟩, by omega⟩
theorem DefN.sub {s s' : List Nat} (h : DefN ps num s) (hs : ∀ b ∈ s', b ∈ s ∨ wdA ps b ≠ "retry") : DefN ps num s' := fun b hb hw => by
  rcases hs b hb with z | z
  · exact h b z hw
  · exact absurd hw z
theorem retr_def (h : DefN ps num (stk ps i)) : ∀ b ∈ retrA ps i, b ≠ i → (num b).isSome = true := fun b hb hn => by
  unfold retrA at hb
  rcases List.mem_append.mp hb with z | z
  · have := List.mem_filter.mp z
    exact h b this.1 (of_decide_eq_true this.2)
  · split at z
    · exact absurd (List.mem_singleton.mp z) hn
    · cases z
theorem stepA_false (h : stepA ps i = false) : wdA ps i = "end" ∨ wdA ps i ∈ (["try", "shield", "else", "finally", "rescue"] : List Str) := by
  unfold stepA at h
  by_cases c : wdA ps i = "end"
  · exact .inl c
  · rw [if_neg c, Bool.not_eq_false'] at h
    exact .inr (of_decide_eq_true h)
theorem next_stk (hi : i < ps.length) (h : stepA ps i = false) : ∀ b ∈ stk ps (i + 1), b ∈ stk ps i ∨ wdA ps b ≠ "retry" := fun b hb => by
  rw [stk_succ hi] at hb
  split at hb
  · rcases List.mem_append.mp hb with z | z
    · exact .inl z
    · right
      rw [List.mem_singleton.mp z]
      rcases stepA_false h with c | c
      · rw [c]; decide
      · intro z
        rw [z] at c
        exact absurd c (by decide)
  · split at hb
    · exact .inl hb
    · split at hb
      · exact .inl (Rd.dropLast_mem hb)
      · exact .inl hb
theorem settles_all (F : Fit ps) : ∀ k i, i + k = ps.length → ∀ (num : NumA) (a : Nat) (evs : List Ev), DefN ps num (stk ps i) → ∃ q, Settles ps tr num ⟨i, a, evs⟩ q := by
  intro k
  induction k using Nat.strongRecOn with
  | ind k ih =>
  intro i hk num a evs hd
  have later : ∀ j, i < j → j ≤ ps.length → ∀ (evs : List Ev), DefN ps num (stk ps j) → ∃ q, Settles ps tr num ⟨j, 0, evs⟩ q := fun j h1 h2 evs hd => ih (ps.length - j) (by omega) j (by omega) num 0 evs hd
  by_cases hi : i < ps.length
  · by_cases hs : stepA ps i = true
    · exact ⟨_, .stop (fun _ => hs) (retr_def hd)⟩
    · have hs : stepA ps i = false := by simpa using hs
      by_cases hw : wdA ps i = "else" ∨ wdA ps i = "rescue"
      · obtain ⟨b, hb, _⟩ := mid_opener F hi (by rcases hw with z | z <;> rw [z] <;> decide)
        have hm := List.mem_of_getLast? hb
        obtain ⟨e, he, h2⟩ := fin_of F k i hk hm
        obtain ⟨k1, k2, k3⟩ := (finA_iff F).mp he
        have e1 : stk ps (e + 1) = stk ps b := by
          rw [stk_succ k1, if_neg (by rw [k2]; decide), if_neg (by rw [k2]; decide), if_pos k2, (stk_last (Nat.le_of_lt k1) k3).1, List.dropLast_concat]
        obtain ⟨q, hq⟩ := later (e + 1) (by omega) (by omega) evs (by
          rw [e1]
          refine hd.sub fun x hx => .inl ?_
          rw [(stk_last (Nat.le_of_lt hi) hb).1]
          exact List.mem_append_left _ hx)
        exact ⟨q, .jump hi hw hb he hq⟩
      · have n1 : wdA ps i ≠ "else" := fun z => hw (.inl z)
        have n2 : wdA ps i ≠ "rescue" := fun z => hw (.inr z)
        cases hl : lastIn ps i evs with
        | none =>
          obtain ⟨q, hq⟩ := later (i + 1) (by omega) (by omega) evs (hd.sub (next_stk hi hs))
          exact ⟨q, .next hi hs n1 n2 hl hq⟩
        | some x =>
          obtain ⟨b, kd⟩ := x
          obtain ⟨c1, c2, c3, _⟩ := lastIn_some hl
          dsimp only at c2 c3
          obtain ⟨es, hb, _⟩ := stk_last (Nat.le_of_lt hi) c2
          have hf : finA ps b = some i := (finA_iff F).mpr ⟨hi, c1, c2⟩
          have hd2 : DefN ps num (stk ps b) := hd.sub fun x hx => .inl (by rw [es]; exact List.mem_append_left _ hx)
          obtain ⟨p, hp⟩ := leaveC_some (tr := tr) (evs := evs) (kind := kd) (i := b) (C := (stk ps b).reverse) (hd2.sub fun x hx => .inl (List.mem_reverse.mp hx))
          have ld := leaveC_lead hp
          obtain ⟨⟨post, e1⟩, hle⟩ := lead_pre F (by omega) ld
          have hdp : DefN ps num (stk ps p.row) := hd2.sub fun x hx => .inl (by rw [e1]; exact List.mem_append_left _ hx)
          have hq : ∃ q, Settles ps tr num p q := by
            rcases ld with z | ⟨b2, h1, h2, h3⟩ | ⟨b2, h1, m, x, h2, h3, h4, h5, h6⟩
            · exact ⟨p, .stop (fun q => absurd q (by omega)) (retr_def hdp)⟩
            · exact ⟨p, .stop (fun _ => by rw [h3]; exact stepA_retry h2) (retr_def hdp)⟩
            · have hm : i ≤ m := by
                refine Nat.le_of_not_lt fun hlt => ?_
                obtain ⟨k1, k2, k3⟩ := (midA_iff F).mp h2
                obtain ⟨es2, hb2, _⟩ := stk_last (Nat.le_of_lt k1) k3
                have hx : x ∈ stk ps m := by
                  rcases h6 with rfl | h6
                  · exact in_between F hf (i - m) m (by omega) h5
                  · have hx2 : x ∈ stk ps i := by rw [es]; exact List.mem_append_left _ (List.mem_reverse.mp h6)
                    obtain ⟨ex, g1, g2⟩ := fin_of F k i hk hx2
                    exact in_between F g1 (ex - m) m (by omega) h5
                rw [es2] at hx
                rcases List.mem_append.mp hx with z | z
                · have := (stk_mem (by omega) z).2.1
                  omega
                · have := List.mem_singleton.mp z
                  omega
              have e3 : p = ⟨p.row, p.again, p.evs⟩ := rfl
              have := ih (ps.length - p.row) (by omega) p.row (by omega) num p.again p.evs hdp
              rwa [← e3] at this
          obtain ⟨q, hq⟩ := hq
          exact ⟨q, .leave hi hl hp hq⟩
  · exact ⟨_, .stop (fun z => absurd z (by exact hi)) (retr_def hd)⟩
theorem settles_at (F : Fit ps) {num : NumA} {p : Place} (hi : p.row ≤ ps.length) (hd : DefN ps num (stk ps p.row)) : ∃ q, Settles ps tr num p q := settles_all F (ps.length - p.row) p.row (by omega) num p.again p.evs hd
theorem each_pre {s post : List Nat} {l : Nat} (h : s.find? (fun b => decide (wdA ps b = "each")) = some l) : (s ++ post).find? (fun b => decide (wdA ps b = "each")) = some l := by
  rw [List.find?_append, h]; rfl
theorem settles_each (F : Fit ps) (h : Settles ps tr num p q) (hp : p.row ≤ ps.length) : q.row ≤ ps.length ∧ ∀ l, eachA ps q.row = some l → eachA ps p.row = some l := by
  induction h with
  | stop _ _ => exact ⟨hp, fun l h => h⟩
  | next a1 a2 _ _ _ _ ih =>
    obtain ⟨h1, h2⟩ := ih a1
    refine ⟨h1, fun l hl => ?_⟩
    have := h2 l hl
    unfold eachA at this ⊢
    dsimp only at this
    rw [stk_succ a1] at this
    split at this
    · rw [List.find?_append] at this
      cases c : (stk ps _).find? fun b => decide (wdA ps b = "each") with
      | some y => rw [c] at this; exact this
      | none =>
        rw [c] at this
        exfalso
        rw [Option.none_or, List.find?_cons] at this
        rw [decide_eq_false (fun z => by
          rcases stepA_false a2 with w | w
          · rw [z] at w; exact absurd w (by decide)
          · rw [z] at w; exact absurd w (by decide))] at this
        cases this
    · split at this
      · exact this
      · split at this
        · rcases List.eq_nil_or_concat (stk ps _) with z | ⟨s, y, z⟩
          · rw [z] at this; cases this
          · rw [z, List.concat_eq_append] at this ⊢
            rw [List.dropLast_concat] at this
            exact each_pre this
        · exact this
  | jump a1 a2 a3 a4 _ ih =>
    obtain ⟨k1, k2, k3⟩ := (finA_iff F).mp a4
    obtain ⟨h1, h2⟩ := ih k1
    refine ⟨h1, fun l hl => ?_⟩
    have := h2 l hl
    unfold eachA at this ⊢
    dsimp only at this
    rw [stk_succ k1, if_neg (by rw [k2]; decide), if_neg (by rw [k2]; decide), if_pos k2, (stk_last (Nat.le_of_lt k1) k3).1, List.dropLast_concat] at this
    rw [(stk_last hp a3).1]
    exact each_pre this
  | leave a1 a2 a3 _ ih =>
    obtain ⟨c1, c2, c3, _⟩ := lastIn_some a2
    dsimp only at c2 c3
    obtain ⟨es, hb, _⟩ := stk_last hp c2
    obtain ⟨⟨post, e1⟩, hle⟩ := lead_pre F (by omega) (leaveC_lead a3)
    obtain ⟨h1, h2⟩ := ih hle
    refine ⟨h1, fun l hl => ?_⟩
    have := h2 l hl
    unfold eachA at this ⊢
    rw [es, e1, List.append_assoc]
    exact each_pre this
end
end Av

set_option Elab.async false
set_option linter.all false
set_option maxRecDepth 100000
set_option maxHeartbeats 4000000
namespace Av
open PySem PySem.Spec PyProof.Rows L2 My
def outA (m : Str) : Bool := decide (m = "out") || decide (m = "both")
def inA (m : Str) : Bool := decide (m = "in") || decide (m = "both")
def mkA (a b : Bool) : Str := if a then (if b then "both" else "out") else (if b then "in" else "whole")
def amidA (w m : Str) : Bool := if w = "ask" ∨ w = "begin" then outA m else if w = "finish" then !outA m else if w = "read" ∨ w = "head" then inA m else if w = "body" then !inA m else false
def LINEW : List Str := ["ask", "begin", "finish", "read", "head", "body"]
def WAITA : List Str := ["read", "head", "body", "finish", "pause"]
def rowFA (w m : Str) (n : Int) : Option Str := if w ∈ LINEW then (if m = "closed" then some ("closed" : Str) else if amidA w m then some ("amid" : Str) else if (w = "read" ∨ w = "head") ∧ n < 1 then some ("starved" : Str) else none) else none
def markA (w m : Str) : Str := if m = "closed" ∨ w = "close" then "closed" else if w = "begin" then mkA true (inA m) else if w = "finish" then mkA false (inA m) else if w = "head" then mkA (outA m) true else if w = "body" ∨ w = "drain" then mkA (outA m) false else m
def chgA (w : Str) : Int := if w = "ask" ∨ w = "finish" then 1 else if w = "read" ∨ w = "body" then -1 else 0
def rstA (w : Str) : Bool := decide (w = "drain") || decide (w = "close")
def staleA (m : Str) (n : Int) : Bool := !(decide (m = "closed") || (decide (m = "whole") && decide (n = 0)))
structure WS where
  row : Nat
  tries : List Nat
  evs : List Ev
  rounds : List (Nat × Nat)
  mark : Str
  owed : Int
  asked : Int
  taken : Int
structure Ob where
  row : Nat
  tries : List Nat
  evs : List Ev
  moves : List Str
  move : Str
  mark : Str
  owed : Int
  asked : Int
  taken : Int
  done : List (Nat × Nat)
section
variable (ps : List (List Str)) (tr : Nat → Nat) (len : Nat → Nat)
def numW (w : WS) : NumA := fun b => ((retrA ps w.row).zip w.tries).lookup b
def triesAt (num : NumA) (q : Place) : List Nat := (retrA ps q.row).map fun b => if b = q.row then max 1 q.again else (num b).getD 0
def lvA (row : Nat) (evs : List Ev) : List Nat := (List.range ps.length).filter fun l => decide (some l ∈ eachA ps row :: evs.map fun e => eachA ps e.2)
def tgtA (row : Nat) (m : Str) : Option Nat :=
  if m = "item" then (if wdA ps row = "end" then (stk ps row).getLast? else some row).map (· + 1)
  else if m = "over" then (if wdA ps row = "end" then some (row + 1) else (finA ps row).map (· + 1))
  else if m = "no" then (match midA ps row with
    | none => (finA ps row).map (· + 1)
    | some k => some (k + 1))
  else some (row + 1)
def startP (w : WS) (m : Str) : Option Place :=
  if m = "cut" ∨ m = "fail" then leaveC ps tr (numW ps w) (w.evs ++ [(m, w.row)]) m w.row (stk ps w.row).reverse
  else if wdA ps w.row = "return" then leaveC ps tr (numW ps w) (w.evs ++ [(("return" : Str), w.row)]) "return" w.row (stk ps w.row).reverse
  else (tgtA ps w.row m).map fun r => ⟨r, 0, w.evs⟩
def doneW (w : WS) (m : Str) (l : Nat) : Nat :=
  if m = "item" ∧ wdA ps w.row = "each" ∧ l = w.row then 0
  else if m = "item" ∧ wdA ps w.row = "end" ∧ (stk ps w.row).getLast? = some l then (w.rounds.lookup l).getD 0 + 1
  else (w.rounds.lookup l).getD 0
def afterW (w : WS) (m : Str) (q : Place) : WS where
  row := q.row
  tries := triesAt ps (numW ps w) q
  evs := q.evs
  rounds := (lvA ps q.row q.evs).map fun l => (l, doneW ps w m l)
  mark := if m = "go" then markA (wdA ps w.row) w.mark else w.mark
  owed := if m = "go" then (if rstA (wdA ps w.row) then 0 else w.owed + chgA (wdA ps w.row)) else w.owed
  asked := if m = "go" then w.asked + max 0 (chgA (wdA ps w.row)) else w.asked
  taken := if m = "go" then w.taken + max 0 (-chgA (wdA ps w.row)) else w.taken
def stepTo (w : WS) (m : Str) (w' : WS) : Prop := ∃ p q, startP ps tr w m = some p ∧ Settles ps tr (numW ps w) p q ∧ w' = afterW ps w m q
def movesR (row : Nat) : List Str := if wdA ps row = "maybe" then ["no", "yes"] else if wdA ps row = "check" then ["fail", "go"] else if wdA ps row ∈ WAITA ∧ shA ps row = false then ["cut", "go"] else ["go"]
def movesA (w : WS) : List Str :=
  if w.row = ps.length then []
  else if wdA ps w.row = "each" then [if 0 < len w.row then "item" else "over"]
  else if wdA ps w.row = "end" then (match (stk ps w.row).getLast? with
    | some l => [if (w.rounds.lookup l).getD 0 + 1 < len l then "item" else "over"]
    | none => [])
  else movesR ps w.row
def faultA (w : WS) (m : Str) : Option Str :=
  if m = "go" then (if wdA ps w.row = "retry" then (if staleA w.mark w.owed then some ("stale" : Str) else none) else rowFA (wdA ps w.row) w.mark w.owed) else none
structure Sees (w : WS) (o : Ob) : Prop where
  n : w.row < ps.length
  st : stepA ps w.row = true
  row : o.row = w.row
  tries : o.tries = w.tries
  evs : o.evs = w.evs
  moves : o.moves = movesA ps len w
  move : o.move ∈ o.moves
  mark : o.mark = w.mark
  owed : o.owed = w.owed
  asked : o.asked = w.asked
  taken : o.taken = w.taken
  done : o.done = w.rounds
inductive Path : WS → List Ob → WS → Prop
  | nil (w : WS) : Path w [] w
  | cons {w w1 w2 : WS} {o : Ob} {os : List Ob} : Sees ps len w o → faultA ps w o.move = none → stepTo ps tr w o.move w1 → Path w1 os w2 → Path w (o :: os) w2
def PathF (w : WS) (os : List Ob) (f : Str) : Prop := ∃ os1 w1 o, os = os1 ++ [o] ∧ Path ps tr len w os1 w1 ∧ Sees ps len w1 o ∧ faultA ps w1 o.move = some f
end
section
variable {ps : List (List Str)} {tr : Nat → Nat} {len : Nat → Nat} {w w1 w2 : WS} {os os1 os2 : List Ob} {f : Str}
theorem Path.trans (h : Path ps tr len w os1 w1) : ∀ {os2 w2}, Path ps tr len w1 os2 w2 → Path ps tr len w (os1 ++ os2) w2 := by
  induction h with
  | nil w => intro os2 w2 h; exact h
  | cons a b c _ ih => intro os2 w2 h; exact .cons a b c (ih h)
theorem Path.fault (h : Path ps tr len w os1 w1) (g : PathF ps tr len w1 os2 f) : PathF ps tr len w (os1 ++ os2) f := by
  obtain ⟨os3, w3, o, rfl, h1, h2, h3⟩ := g
  exact ⟨os1 ++ os3, w3, o, by rw [List.append_assoc], h.trans h1, h2, h3⟩
end
inductive Ns where
  | nil
  | row (w : Str) (r : Ns)
  | tr (x : Ns) (k : Str) (y : Ns) (r : Ns)
  | mb (x : Ns) (r : Ns)
  | me (x y : Ns) (r : Ns)
  | bl (w v : Str) (x : Ns) (r : Ns)
abbrev rTry : List Str := ["try"]
abbrev rMay : List Str := ["maybe"]
abbrev rEnd : List Str := ["end"]
abbrev rElse : List Str := ["else"]
abbrev rShi : List Str := ["shield"]
namespace Ns
def sz : Ns → Nat
  | nil => 0
  | row _ r => r.sz + 1
  | tr x _ y r => x.sz + y.sz + r.sz + 3
  | mb x r => x.sz + r.sz + 2
  | me x y r => x.sz + y.sz + r.sz + 3
  | bl _ _ x r => x.sz + r.sz + 2
def hdB (w v : Str) : List Str := if w = "shield" then [w] else [w, v]
def rows : Ns → List (List Str)
  | nil => []
  | row w r => [w] :: r.rows
  | tr x k y r => rTry :: (x.rows ++ [k] :: (y.rows ++ rEnd :: r.rows))
  | mb x r => rMay :: (x.rows ++ rEnd :: r.rows)
  | me x y r => rMay :: (x.rows ++ rElse :: (y.rows ++ rEnd :: r.rows))
  | bl w v x r => hdB w v :: (x.rows ++ rEnd :: r.rows)
theorem rows_len : ∀ n : Ns, n.rows.length = n.sz
  | nil => rfl
  | row w r => by simp only [rows, sz, List.length_cons, rows_len r]
  | tr x k y r => by simp only [rows, sz, List.length_cons, List.length_append, rows_len x, rows_len y, rows_len r]; omega
  | mb x r => by simp only [rows, sz, List.length_cons, List.length_append, rows_len x, rows_len r]; omega
  | me x y r => by simp only [rows, sz, List.length_cons, List.length_append, rows_len x, rows_len y, rows_len r]; omega
  | bl w v x r => by simp only [rows, sz, List.length_cons, List.length_append, rows_len x, rows_len r]; omega
def Wf : Ns → Prop
  | nil => True
  | row w r => w ∈ PLAINW ∧ r.Wf
  | tr x k y r => (k = "finally" ∨ k = "rescue") ∧ x.Wf ∧ y.Wf ∧ r.Wf
  | mb x r => x.Wf ∧ r.Wf
  | me x y r => x.Wf ∧ y.Wf ∧ r.Wf
  | bl w v x r => (w = "each" ∨ w = "retry" ∨ w = "shield") ∧ x.Wf ∧ r.Wf
def Lay (ps : List (List Str)) : Nat → Ns → Prop
  | _, nil => True
  | a, row w r => ps[a]? = some [w] ∧ Lay ps (a + 1) r
  | a, tr x k y r => ps[a]? = some rTry ∧ Lay ps (a + 1) x ∧ ps[a + 1 + x.sz]? = some [k] ∧ Lay ps (a + 1 + x.sz + 1) y ∧ ps[a + 1 + x.sz + 1 + y.sz]? = some rEnd ∧ Lay ps (a + 1 + x.sz + 1 + y.sz + 1) r
  | a, mb x r => ps[a]? = some rMay ∧ Lay ps (a + 1) x ∧ ps[a + 1 + x.sz]? = some rEnd ∧ Lay ps (a + 1 + x.sz + 1) r
  | a, me x y r => ps[a]? = some rMay ∧ Lay ps (a + 1) x ∧ ps[a + 1 + x.sz]? = some rElse ∧ Lay ps (a + 1 + x.sz + 1) y ∧ ps[a + 1 + x.sz + 1 + y.sz]? = some rEnd ∧ Lay ps (a + 1 + x.sz + 1 + y.sz + 1) r
  | a, bl w v x r => ps[a]? = some (hdB w v) ∧ Lay ps (a + 1) x ∧ ps[a + 1 + x.sz]? = some rEnd ∧ Lay ps (a + 1 + x.sz + 1) r
theorem lay_cons {α : Type} {ps pre post : List α} {r : α} {k : List α} (e : ps = pre ++ r :: k) : ps[pre.length]? = some r := by rw [e, List.getElem?_append_right (Nat.le_refl _), Nat.sub_self]; rfl
theorem lay_of : ∀ (n : Ns) {ps pre post : List (List Str)} {a : Nat}, ps = pre ++ (n.rows ++ post) → pre.length = a → Lay ps a n
  | nil, ps, pre, post, a, e, ha => trivial
  | row w r, ps, pre, post, a, e, ha => by
    subst ha
    have e : ps = pre ++ ([w] :: (r.rows ++ post)) := e
    exact ⟨lay_cons (post := post) e, lay_of r (pre := pre ++ [[w]]) (post := post) (by rw [e]; simp) (by simp)⟩
  | tr x k y r, ps, pre, post, a, e, ha => by
    subst ha
    have e : ps = pre ++ (rTry :: (x.rows ++ [k] :: (y.rows ++ rEnd :: (r.rows ++ post)))) := by rw [e]; simp [rows]
    refine ⟨lay_cons (post := post) e, lay_of x (pre := pre ++ [rTry]) (by rw [e]; simp; rfl) (by simp), ?_, ?_, ?_, ?_⟩
    · have := lay_cons (ps := ps) (post := post) (pre := pre ++ rTry :: x.rows) (r := [k]) (by rw [e, List.append_assoc]; rfl)
      rw [List.length_append, List.length_cons, rows_len] at this
      rw [← this]; congr 1; omega
    · exact lay_of y (pre := pre ++ rTry :: (x.rows ++ [[k]])) (post := rEnd :: (r.rows ++ post)) (by rw [e]; simp) (by simp [rows_len]; omega)
    · have := lay_cons (ps := ps) (post := post) (pre := pre ++ rTry :: (x.rows ++ [k] :: y.rows)) (r := rEnd) (by rw [e]; simp; rfl)
      rw [List.length_append, List.length_cons, List.length_append, List.length_cons, rows_len, rows_len] at this
      rw [← this]; congr 1; omega
    · exact lay_of r (pre := pre ++ rTry :: (x.rows ++ [k] :: (y.rows ++ [rEnd]))) (post := post) (by rw [e]; simp) (by simp [rows_len]; omega)
  | me x y r, ps, pre, post, a, e, ha => by
    subst ha
    have e : ps = pre ++ (rMay :: (x.rows ++ rElse :: (y.rows ++ rEnd :: (r.rows ++ post)))) := by rw [e]; simp [rows]
    refine ⟨lay_cons (post := post) e, lay_of x (pre := pre ++ [rMay]) (by rw [e]; simp; rfl) (by simp), ?_, ?_, ?_, ?_⟩
    · have := lay_cons (ps := ps) (post := post) (pre := pre ++ rMay :: x.rows) (r := rElse) (by rw [e, List.append_assoc]; rfl)
      rw [List.length_append, List.length_cons, rows_len] at this
      rw [← this]; congr 1; omega
    · exact lay_of y (pre := pre ++ rMay :: (x.rows ++ [rElse])) (post := rEnd :: (r.rows ++ post)) (by rw [e]; simp) (by simp [rows_len]; omega)
    · have := lay_cons (ps := ps) (post := post) (pre := pre ++ rMay :: (x.rows ++ rElse :: y.rows)) (r := rEnd) (by rw [e]; simp; rfl)
      rw [List.length_append, List.length_cons, List.length_append, List.length_cons, rows_len, rows_len] at this
      rw [← this]; congr 1; omega
    · exact lay_of r (pre := pre ++ rMay :: (x.rows ++ rElse :: (y.rows ++ [rEnd]))) (post := post) (by rw [e]; simp) (by simp [rows_len]; omega)
  | mb x r, ps, pre, post, a, e, ha => by
    subst ha
    have e : ps = pre ++ (rMay :: (x.rows ++ rEnd :: (r.rows ++ post))) := by rw [e]; simp [rows]
    refine ⟨lay_cons (post := post) e, lay_of x (pre := pre ++ [rMay]) (by rw [e]; simp; rfl) (by simp), ?_, ?_⟩
    · have := lay_cons (ps := ps) (post := post) (pre := pre ++ rMay :: x.rows) (r := rEnd) (by rw [e, List.append_assoc]; rfl)
      rw [List.length_append, List.length_cons, rows_len] at this
      rw [← this]; congr 1; omega
    · exact lay_of r (pre := pre ++ rMay :: (x.rows ++ [rEnd])) (post := post) (by rw [e]; simp) (by simp [rows_len]; omega)
  | bl w v x r, ps, pre, post, a, e, ha => by
    subst ha
    have e : ps = pre ++ (hdB w v :: (x.rows ++ rEnd :: (r.rows ++ post))) := by rw [e]; simp [rows]
    refine ⟨lay_cons (post := post) e, lay_of x (pre := pre ++ [hdB w v]) (by rw [e]; simp; rfl) (by simp), ?_, ?_⟩
    · have := lay_cons (ps := ps) (post := post) (pre := pre ++ hdB w v :: x.rows) (r := rEnd) (by rw [e, List.append_assoc]; rfl)
      rw [List.length_append, List.length_cons, rows_len] at this
      rw [← this]; congr 1; omega
    · exact lay_of r (pre := pre ++ hdB w v :: (x.rows ++ [rEnd])) (post := post) (by rw [e]; simp) (by simp [rows_len]; omega)
end Ns
structure IS where
  mark : Str
  owed : Int
  asked : Int
  taken : Int
  loop : Option Nat
  tries : List Nat
  evs : List Ev
  loops : List (Option Nat)
  rounds : List (Nat × Nat)
  fault : Option Str
def putR (l : List (Nat × Nat)) (k v : Nat) : List (Nat × Nat) := if l.any (fun p => p.1 == k) then l.map (fun p => if p.1 == k then (p.1, v) else p) else l ++ [(k, v)]
theorem putR_lookup : ∀ (l : List (Nat × Nat)) (k v j : Nat), (putR l k v).lookup j = if j = k then some v else l.lookup j := by
  intro l k v j
  unfold putR
  split
  · rename_i h
    induction l with
    | nil => cases h
    | cons p l ih =>
      obtain ⟨a, b⟩ := p
      rw [List.map_cons]
      by_cases e : a = k
      · subst e
        simp only [beq_self_eq_true, if_true, List.lookup_cons]
        by_cases ej : j = a
        · subst ej; simp
        · rw [show (j == a) = false by rw [beq_eq_false_iff_ne]; exact ej, if_neg ej]
          dsimp only
          by_cases h2 : l.any (fun p => p.1 == a)
          · have := ih h2
            rw [if_neg ej] at this
            exact this
          · have : l.map (fun p => if p.1 == a then (p.1, v) else p) = l := by
              rw [Bool.not_eq_true, List.any_eq_false] at h2
              conv => rhs; rw [← List.map_id l]
              exact List.map_congr_left fun p hp => by rw [if_neg (h2 p hp)]; rfl
            rw [this]
      · have e' : (a == k) = false := by rw [beq_eq_false_iff_ne]; exact e
        rw [List.any_cons] at h
        simp only [e', Bool.false_or] at h
        simp only [e', Bool.false_eq_true, if_false, List.lookup_cons]
        by_cases ej : j = a
        · subst ej
          simp [e]
        · rw [show (j == a) = false by rw [beq_eq_false_iff_ne]; exact ej]
          dsimp only
          exact ih h
  · rename_i h
    rw [lookup_app]
    cases c : l.lookup j with
    | none => simp
    | some x =>
      have : j ≠ k := fun z => by
        subst z
        refine h (List.any_eq_true.mpr ⟨(j, x), lookup_mem c, by simp⟩)
      simp [this]
namespace IS
def rd (S : IS) (l : Nat) : Nat := (S.rounds.lookup l).getD 0
def done (N : Nat) (S : IS) : List (Nat × Nat) := ((List.range N).filter fun l => decide (some l ∈ S.loop :: S.loops)).map fun l => (l, S.rd l)
def ob (N : Nat) (S : IS) (i : Nat) (moves : List Str) (m : Str) : Ob := ⟨i, S.tries, S.evs, moves, m, S.mark, S.owed, S.asked, S.taken, S.done N⟩
def ev (S : IS) (k : Str) (i : Nat) : IS := { S with evs := S.evs ++ [(k, i)], loops := S.loops ++ [S.loop] }
def go (S : IS) (w : Str) : IS := { S with mark := markA w S.mark, owed := if rstA w then 0 else S.owed + chgA w, asked := S.asked + max 0 (chgA w), taken := S.taken + max 0 (-chgA w) }
end IS
abbrev Rln := IS → List Ob → IS → Option Str → Prop
def seqR (A B : Rln) : Rln := fun S o S' l => (∃ k, l = some k ∧ A S o S' (some k)) ∨ ∃ o1 S1 o2, A S o1 S1 none ∧ B S1 o2 S' l ∧ o = o1 ++ o2
def movesP (w : Str) (sh : Bool) : List Str := if w = "check" then ["fail", "go"] else if w ∈ WAITA ∧ sh = false then ["cut", "go"] else ["go"]
def plainR (N : Nat) (w : Str) (sh : Bool) (i : Nat) : Rln := fun S o S' l => ∃ m, m ∈ movesP w sh ∧ o = [S.ob N i (movesP w sh) m] ∧
  ((m ≠ "go" ∧ S' = S.ev m i ∧ l = some m) ∨ (m = "go" ∧ ((∃ f, rowFA w S.mark S.owed = some f ∧ S' = { S with fault := some f } ∧ l = some ("fault" : Str)) ∨
    (rowFA w S.mark S.owed = none ∧ ((w = "return" ∧ S' = (S.go w).ev "return" i ∧ l = some ("return" : Str)) ∨ (w ≠ "return" ∧ S' = S.go w ∧ l = none))))))
def iot (c : Bool) : Str := if c then "item" else "over"
def loopK (N : Nat) (body : Rln) (a e cnt : Nat) : Nat → Rln
  | 0 => fun S o S' l => o = [] ∧ S' = { S with loop := none } ∧ l = none
  | k + 1 => fun S o S' l => (∃ w S2, l = some w ∧ body { S with loop := some a, rounds := putR S.rounds a (cnt - (k + 1)) } o S2 (some w) ∧ S' = { S2 with loop := none }) ∨
    ∃ o1 S2 o2, body { S with loop := some a, rounds := putR S.rounds a (cnt - (k + 1)) } o1 S2 none ∧ loopK N body a e cnt k S2 o2 S' l ∧ o = o1 ++ S2.ob N e [iot (decide (0 < k))] (iot (decide (0 < k))) :: o2
def loopR (N : Nat) (body : Rln) (a e cnt : Nat) : Rln := fun S o S' l => ∃ o2, loopK N body a e cnt cnt S o2 S' l ∧ o = S.ob N a [iot (decide (0 < cnt))] (iot (decide (0 < cnt))) :: o2
def IS.drop (S : IS) (a e : Nat) : IS := { S with
  evs := ((S.evs.zip S.loops).filter fun p => !decide (a < p.1.2 ∧ p.1.2 < e)).map (·.1)
  loops := ((S.evs.zip S.loops).filter fun p => !decide (a < p.1.2 ∧ p.1.2 < e)).map (·.2) }
def retryK (N : Nat) (body : Rln) (a e tot : Nat) : Nat → Rln
  | 0 => fun _ _ _ _ => False
  | k + 1 => fun S o S' l => ∃ o1, o = IS.ob N { S with tries := S.tries ++ [tot - k] } a ["go"] "go" :: o1 ∧
    ((staleA S.mark S.owed = true ∧ o1 = [] ∧ S' = { S with tries := S.tries ++ [tot - k], fault := some ("stale" : Str) } ∧ l = some ("fault" : Str)) ∨
     (staleA S.mark S.owed = false ∧ ∃ o2 S2 l2, body { S with tries := S.tries ++ [tot - k] } o2 S2 l2 ∧
      (((l2 ≠ some ("fail" : Str) ∨ k = 0) ∧ o1 = o2 ∧ S' = { S2 with tries := S2.tries.dropLast } ∧ l = l2) ∨
       (l2 = some ("fail" : Str) ∧ k ≠ 0 ∧ ∃ o3, retryK N body a e tot k (IS.drop { S2 with tries := S2.tries.dropLast } a e) o3 S' l ∧ o1 = o2 ++ o3))))
def tryR (k : Str) (X Y : Rln) : Rln := fun S o S' l => ∃ o1 S1 l1, X S o1 S1 l1 ∧
  ((¬ (l1 ≠ some ("fault" : Str) ∧ (k = "finally" ∨ l1 = some ("fail" : Str) ∨ l1 = some ("cut" : Str))) ∧ o = o1 ∧ S' = S1 ∧ l = l1) ∨
   ((l1 ≠ some ("fault" : Str) ∧ (k = "finally" ∨ l1 = some ("fail" : Str) ∨ l1 = some ("cut" : Str))) ∧ ∃ o2 S2 l2, Y S1 o2 S2 l2 ∧ o = o1 ++ o2 ∧ S' = S2 ∧ l = match l2 with
    | none => l1
    | some x => some x))
def maybeR (N : Nat) (a : Nat) (X Y : Rln) : Rln := fun S o S' l => ∃ o1, (o = S.ob N a ["no", "yes"] "yes" :: o1 ∧ X S o1 S' l) ∨ (o = S.ob N a ["no", "yes"] "no" :: o1 ∧ Y S o1 S' l)
def doneR : Rln := fun S o S' l => o = [] ∧ S' = S ∧ l = none
def runN (N : Nat) (ln : Str → Nat) (ct : Str → Nat) : Ns → Bool → Nat → Rln
  | .nil, _, _ => doneR
  | .row w r, sh, a => seqR (plainR N w sh a) (runN N ln ct r sh (a + 1))
  | .tr x k y r, sh, a => seqR (tryR k (runN N ln ct x sh (a + 1)) (runN N ln ct y sh (a + 1 + x.sz + 1))) (runN N ln ct r sh (a + 1 + x.sz + 1 + y.sz + 1))
  | .mb x r, sh, a => seqR (maybeR N a (runN N ln ct x sh (a + 1)) doneR) (runN N ln ct r sh (a + 1 + x.sz + 1))
  | .me x y r, sh, a => seqR (maybeR N a (runN N ln ct x sh (a + 1)) (runN N ln ct y sh (a + 1 + x.sz + 1))) (runN N ln ct r sh (a + 1 + x.sz + 1 + y.sz + 1))
  | .bl w v x r, sh, a => seqR (if w = "each" then loopR N (runN N ln ct x sh (a + 1)) a (a + 1 + x.sz) (ln v) else if w = "retry" then retryK N (runN N ln ct x sh (a + 1)) a (a + 1 + x.sz) (ct v) (ct v) else runN N ln ct x true (a + 1)) (runN N ln ct r sh (a + 1 + x.sz + 1))
end Av

set_option Elab.async false
set_option linter.all false
set_option maxRecDepth 100000
set_option maxHeartbeats 4000000
namespace Av
open PySem PySem.Spec PyProof.Rows L2 My
def numS (ps : List (List Str)) (a : Nat) (tries : List Nat) : NumA := fun b => (((stk ps a).filter fun b => decide (wdA ps b = "retry")).zip tries).lookup b
structure WAt (ps : List (List Str)) (tr : Nat → Nat) (num : NumA) (p : Place) (S : IS) (w : WS) : Prop where
  q : ∃ q, Settles ps tr num p q ∧ w.row = q.row ∧ w.evs = q.evs ∧ w.tries = triesAt ps num q
  mark : w.mark = S.mark
  owed : w.owed = S.owed
  asked : w.asked = S.asked
  taken : w.taken = S.taken
  rounds : w.rounds = (lvA ps w.row w.evs).map fun l => (l, S.rd l)
structure Ctx (ps : List (List Str)) (a : Nat) (S : IS) : Prop where
  tl : S.tries.length = ((stk ps a).filter fun b => decide (wdA ps b = "retry")).length
  lp : S.loop = eachA ps a
  ls : S.loops = S.evs.map fun e => eachA ps e.2
  er : ∀ e ∈ S.evs, e.2 < ps.length
section
variable {ps : List (List Str)} {tr len : Nat → Nat} {num num' : NumA} {p p' q : Place} {S S' : IS} {w w' : WS} {i a b c e m : Nat} {evs : List Ev} {kind : Str}
theorem zip_some : ∀ {ks vs : List Nat} {b : Nat}, vs.length = ks.length → b ∈ ks → ∃ k, (ks.zip vs).lookup b = some k
  | k :: ks, v :: vs, b, h, hb => by
    rw [List.zip_cons_cons, List.lookup_cons]
    by_cases e : b = k
    · rw [e]; simp
    · rw [show (b == k) = false by rw [beq_eq_false_iff_ne]; exact e]
      rcases List.mem_cons.mp hb with z | z
      · exact absurd z e
      · exact zip_some (by simpa using h) z
  | k :: ks, [], b, h, hb => by simp at h
theorem zip_map : ∀ {ks vs : List Nat}, ks.Nodup → vs.length = ks.length → (ks.map fun b => ((ks.zip vs).lookup b).getD 0) = vs
  | [], [], _, _ => rfl
  | [], v :: vs, _, h => by simp at h
  | k :: ks, [], _, h => by simp at h
  | k :: ks, v :: vs, n, h => by
    rw [List.nodup_cons] at n
    rw [List.map_cons, List.zip_cons_cons]
    congr 1
    · rw [List.lookup_cons]; simp
    · conv => rhs; rw [← zip_map (ks := ks) (vs := vs) n.2 (by simpa using h)]
      refine List.map_congr_left fun b hb => ?_
      have : b ≠ k := fun z => n.1 (z ▸ hb)
      rw [List.lookup_cons, show (b == k) = false by rw [beq_eq_false_iff_ne]; exact this]
theorem lookup_app2 : ∀ {l r : List (Nat × Nat)} {b k : Nat}, l.lookup b = some k → (l ++ r).lookup b = some k
  | (x, y) :: l, r, b, k, h => by
    rw [List.cons_append, List.lookup_cons] at *
    split at h
    · exact h
    · exact lookup_app2 h
theorem zip_app {k1 k2 v1 v2 : List Nat} {b k : Nat} (h : v1.length = k1.length) (hl : (k1.zip v1).lookup b = some k) : ((k1 ++ k2).zip (v1 ++ v2)).lookup b = some k := by
  rw [List.zip_append h.symm]
  exact lookup_app2 hl
theorem stk_nodup (F : Fit ps) (i : Nat) : (stk ps i).Nodup := (F.ok i).sn
theorem numS_def (h : S.tries.length = ((stk ps a).filter fun b => decide (wdA ps b = "retry")).length) : DefN ps (numS ps a S.tries) (stk ps a) := fun b hb hw => by
  obtain ⟨k, hk⟩ := zip_some h (List.mem_filter.mpr ⟨hb, decide_eq_true hw⟩)
  unfold numS
  rw [hk]; rfl
theorem settles_def (h : Settles ps tr num p q) : ∀ b ∈ retrA ps q.row, b ≠ q.row → (num b).isSome = true := by
  induction h with
  | stop _ h => exact h
  | next _ _ _ _ _ _ ih => exact ih
  | jump _ _ _ _ _ ih => exact ih
  | leave _ _ _ _ ih => exact ih
theorem leaveC_evs : ∀ {C : List Nat} {i : Nat}, leaveC ps tr num evs kind i C = some p → ∀ e ∈ p.evs, e ∈ evs
  | [], i, h => by cases h; exact fun e h => h
  | b :: C, i, h => by
    rw [leaveC_cons] at h
    cases c : hit ps tr num evs kind i b with
    | none => rw [c] at h; cases h
    | some x =>
      rw [c] at h
      cases x with
      | none => exact leaveC_evs h
      | some y =>
        cases h
        unfold hit at c
        split at c
        · have c := Option.some.inj c
          split at c
          · split at c
            · cases c; exact fun e h => h
            · cases c
          · cases c
        · split at c
          · cases hn : num b with
            | none => rw [hn] at c; cases c
            | some k =>
              rw [hn] at c
              have c := Option.some.inj c
              dsimp only at c
              split at c
              · cases c; exact fun e h => (List.mem_filter.mp h).1
              · cases c
          · cases c
theorem settles_evs (h : Settles ps tr num p q) : ∀ e ∈ q.evs, e ∈ p.evs := by
  induction h with
  | stop _ _ => exact fun e h => h
  | next _ _ _ _ _ _ ih => exact ih
  | jump _ _ _ _ _ ih => exact ih
  | leave _ _ a3 _ ih => exact fun e h => leaveC_evs a3 e (ih e h)
theorem tries_eq (l : LeN num num') (h : ∀ b ∈ retrA ps q.row, b ≠ q.row → (num b).isSome = true) : triesAt ps num' q = triesAt ps num q := by
  unfold triesAt
  refine List.map_congr_left fun b hb => ?_
  by_cases e : b = q.row
  · rw [if_pos e, if_pos e]
  · rw [if_neg e, if_neg e]
    obtain ⟨k, hk⟩ := Option.isSome_iff_exists.mp (h b hb e)
    rw [hk, l _ _ hk]
theorem WAt.mono (l : LeN num num') (h : WAt ps tr num p S w) : WAt ps tr num' p S w := by
  obtain ⟨⟨q, h1, h2, h3, h4⟩, b1, b2, b3, b4, b5⟩ := h
  exact ⟨⟨q, h1.mono l, h2, h3, by rw [h4, tries_eq l (settles_def h1)]⟩, b1, b2, b3, b4, b5⟩
theorem WAt.weak (F : Fit ps) (l : LeN num num') (hn : p.row ≤ ps.length) (hd : DefN ps num (stk ps p.row)) (h : WAt ps tr num' p S w) : WAt ps tr num p S w := by
  obtain ⟨⟨q, h1, h2, h3, h4⟩, b1, b2, b3, b4, b5⟩ := h
  obtain ⟨q2, k⟩ := settles_at (tr := tr) F hn hd
  have e := h1.det (k.mono l)
  subst e
  exact ⟨⟨q, k, h2, h3, by rw [h4, tries_eq l (settles_def k)]⟩, b1, b2, b3, b4, b5⟩
theorem WAt.state (h : WAt ps tr num p S w) (e1 : S'.mark = S.mark) (e2 : S'.owed = S.owed) (e3 : S'.asked = S.asked) (e4 : S'.taken = S.taken) (e5 : ∀ l, S'.rd l = S.rd l) : WAt ps tr num p S' w :=
  ⟨h.q, by rw [e1]; exact h.mark, by rw [e2]; exact h.owed, by rw [e3]; exact h.asked, by rw [e4]; exact h.taken, by rw [h.rounds]; exact List.map_congr_left fun l _ => by rw [e5]⟩
theorem WAt.next {ag : Nat} (h : WAt ps tr num ⟨i, ag, evs⟩ S w) (h1 : i < ps.length) (h2 : stepA ps i = false) (h3 : wdA ps i ≠ "else") (h4 : wdA ps i ≠ "rescue") (h5 : lastIn ps i evs = none) : WAt ps tr num ⟨i + 1, 0, evs⟩ S w := by
  obtain ⟨⟨q, k1, k2, k3, k4⟩, b1, b2, b3, b4, b5⟩ := h
  refine ⟨⟨q, ?_, k2, k3, k4⟩, b1, b2, b3, b4, b5⟩
  cases k1 with
  | stop z _ => rw [z h1] at h2; cases h2
  | next _ _ _ _ _ z => exact z
  | jump _ z => exact (z.elim h3 h4).elim
  | leave _ z => rw [h5] at z; cases z
theorem WAt.jump {ag : Nat} (h : WAt ps tr num ⟨i, ag, evs⟩ S w) (h1 : i < ps.length) (h2 : wdA ps i = "else" ∨ wdA ps i = "rescue") (h3 : (stk ps i).getLast? = some b) (h4 : finA ps b = some e) : WAt ps tr num ⟨e + 1, 0, evs⟩ S w := by
  obtain ⟨⟨q, k1, k2, k3, k4⟩, b1, b2, b3, b4, b5⟩ := h
  refine ⟨⟨q, ?_, k2, k3, k4⟩, b1, b2, b3, b4, b5⟩
  cases k1 with
  | stop z _ => have := z h1; rw [stepA_mid h2] at this; cases this
  | next _ _ z1 z2 _ z => exact (h2.elim z1 z2).elim
  | jump _ _ z1 z2 z =>
    rw [h3] at z1; cases z1
    rw [h4] at z2; cases z2
    exact z
  | leave _ z =>
    obtain ⟨c1, _⟩ := lastIn_some z
    rw [c1] at h2
    exact absurd h2 (by decide)
theorem WAt.leave {ag : Nat} {k : Str} (h : WAt ps tr num ⟨i, ag, evs⟩ S w) (h1 : i < ps.length) (h2 : lastIn ps i evs = some (b, k)) : ∃ p, leaveC ps tr num evs k b (stk ps b).reverse = some p ∧ WAt ps tr num p S w := by
  obtain ⟨⟨q, k1, k2, k3, k4⟩, b1, b2, b3, b4, b5⟩ := h
  obtain ⟨c1, c2, c3, _⟩ := lastIn_some h2
  cases k1 with
  | stop z _ => have := z h1; rw [stepA_try_end c1 c2 c3] at this; cases this
  | next _ _ _ _ z _ => rw [h2] at z; cases z
  | jump _ z =>
    rw [c1] at z
    exact absurd z (by decide)
  | leave _ z1 z2 z3 =>
    rw [h2] at z1; cases z1
    exact ⟨_, z2, ⟨_, z3, k2, k3, k4⟩, b1, b2, b3, b4, b5⟩
theorem WAt.here {ag : Nat} (h : WAt ps tr num ⟨i, ag, evs⟩ S w) (h1 : i < ps.length) (h2 : stepA ps i = true) : w.row = i ∧ w.evs = evs ∧ w.tries = triesAt ps num ⟨i, ag, evs⟩ := by
  obtain ⟨⟨q, k1, k2, k3, k4⟩, b1, b2, b3, b4, b5⟩ := h
  have e : Settles ps tr num ⟨i, ag, evs⟩ ⟨i, ag, evs⟩ := by
    cases k1 with
    | stop z1 z2 => exact .stop z1 z2
    | next _ z => rw [h2] at z; cases z
    | jump _ z => rw [stepA_mid z] at h2; cases h2
    | leave _ z =>
      obtain ⟨c1, c2, c3, _⟩ := lastIn_some z
      rw [stepA_try_end c1 c2 c3] at h2; cases h2
  have e := e.det k1
  subst e
  exact ⟨k2, k3, k4⟩
theorem each_mem (h : eachA ps i = some b) : b ∈ stk ps i ∧ wdA ps b = "each" := by
  unfold eachA at h
  exact ⟨List.mem_of_find?_eq_some h, of_decide_eq_true (List.find?_some (p := fun b => decide (wdA ps b = "each")) h)⟩
theorem each_lt (F : Fit ps) (h : eachA ps i = some b) : b < ps.length := by
  by_cases hi : i ≤ ps.length
  · have := (stk_mem hi (each_mem h).1).2.1; omega
  · have := (each_mem h).1
    rw [stk_end F (by omega)] at this; cases this
theorem mem_lvA (F : Fit ps) {row l : Nat} (h : eachA ps row = some l ∨ ∃ e ∈ evs, eachA ps e.2 = some l) : l ∈ lvA ps row evs := by
  unfold lvA
  rw [List.mem_filter, List.mem_range]
  refine ⟨?_, decide_eq_true ?_⟩
  · rcases h with h | ⟨e, _, h⟩ <;> exact each_lt F h
  · rcases h with h | ⟨e, he, h⟩
    · rw [h]; exact .head _
    · exact .tail _ (List.mem_map.mpr ⟨e, he, h⟩)
theorem lvA_mem {row l : Nat} (h : l ∈ lvA ps row evs) : eachA ps row = some l ∨ ∃ e ∈ evs, eachA ps e.2 = some l := by
  unfold lvA at h
  have := of_decide_eq_true (List.mem_filter.mp h).2
  rcases List.mem_cons.mp this with z | z
  · exact .inl z.symm
  · obtain ⟨e, he, q⟩ := List.mem_map.mp z
    exact .inr ⟨e, he, q⟩
theorem lookup_mapF {f : Nat → Nat} : ∀ {ls : List Nat} {l : Nat}, l ∈ ls → (ls.map fun l => (l, f l)).lookup l = some (f l)
  | x :: ls, l, h => by
    rw [List.map_cons, List.lookup_cons]
    by_cases e : l = x
    · rw [e]; simp
    · rw [show (l == x) = false by rw [beq_eq_false_iff_ne]; exact e]
      exact lookup_mapF ((List.mem_cons.mp h).resolve_left e)
theorem WAt.look (F : Fit ps) (h : WAt ps tr num p S w) {l : Nat} (hl : eachA ps w.row = some l ∨ ∃ e ∈ w.evs, eachA ps e.2 = some l) : (w.rounds.lookup l).getD 0 = S.rd l := by
  rw [h.rounds, lookup_mapF (mem_lvA F hl)]; rfl
theorem step_to (F : Fit ps) {mv : Str} (hp : startP ps tr w mv = some p) (hn : p.row ≤ ps.length) (hd : DefN ps num (stk ps p.row)) (hl : LeN num (numW ps w))
    (hr : ∀ l, (eachA ps p.row = some l ∨ ∃ e ∈ p.evs, eachA ps e.2 = some l) → doneW ps w mv l = S'.rd l)
    (h1 : (if mv = "go" then markA (wdA ps w.row) w.mark else w.mark) = S'.mark) (h2 : (if mv = "go" then (if rstA (wdA ps w.row) then 0 else w.owed + chgA (wdA ps w.row)) else w.owed) = S'.owed)
    (h3 : (if mv = "go" then w.asked + max 0 (chgA (wdA ps w.row)) else w.asked) = S'.asked) (h4 : (if mv = "go" then w.taken + max 0 (-chgA (wdA ps w.row)) else w.taken) = S'.taken) :
    ∃ w', stepTo ps tr w mv w' ∧ WAt ps tr num p S' w' := by
  obtain ⟨q, hq⟩ := settles_at (tr := tr) F hn hd
  refine ⟨afterW ps w mv q, ⟨p, q, hp, hq.mono hl, rfl⟩, ⟨q, hq, rfl, rfl, tries_eq hl (settles_def hq)⟩, h1, h2, h3, h4, ?_⟩
  show (lvA ps q.row q.evs).map _ = (lvA ps q.row q.evs).map _
  refine List.map_congr_left fun l hm => ?_
  rw [hr l]
  rcases lvA_mem hm with z | ⟨e, he, z⟩
  · exact .inl ((settles_each F hq hn).2 l z)
  · exact .inr ⟨e, settles_evs hq e he, z⟩
theorem plain_not {w : Str} (h : w ∈ PLAINW) : w ∉ OPENW ∧ w ∉ MIDW ∧ w ≠ "end" ∧ w ≠ "retry" ∧ w ≠ "maybe" ∧ w ≠ "each" ∧ w ∉ (["try", "shield", "else", "finally", "rescue"] : List Str) := by
  unfold PLAINW at h
  simp only [List.mem_cons, List.not_mem_nil, or_false] at h
  rcases h with rfl | rfl | rfl | rfl | rfl | rfl | rfl | rfl | rfl | rfl | rfl <;> decide
theorem lt_of_get {ws : List Str} (h : ps[i]? = some ws) : i < ps.length := (List.getElem?_eq_some_iff.mp h).1
theorem stk_open {ws : List Str} (h : ps[i]? = some ws) (hw : hdW ws ∈ OPENW) : stk ps (i + 1) = stk ps i ++ [i] := by
  rw [stk_succ (lt_of_get h), wdA_get h, if_pos hw]
theorem stk_midd {ws : List Str} (h : ps[i]? = some ws) (hw : hdW ws ∈ MIDW) : stk ps (i + 1) = stk ps i := by
  rw [stk_succ (lt_of_get h), wdA_get h, if_neg (fun z => Rd.open_mid z hw), if_pos hw]
theorem stk_close {s : List Nat} (h : ps[i]? = some rEnd) (hs : stk ps i = s ++ [b]) : stk ps (i + 1) = s := by
  rw [stk_succ (lt_of_get h), wdA_get h, show hdW rEnd = "end" from rfl, if_neg (by decide), if_neg (by decide), if_pos rfl, hs, List.dropLast_concat]
theorem stk_plain {ws : List Str} (h : ps[i]? = some ws) (hw : hdW ws ∈ PLAINW) : stk ps (i + 1) = stk ps i := by
  obtain ⟨h1, h2, h3, _⟩ := plain_not hw
  rw [stk_succ (lt_of_get h), wdA_get h, if_neg h1, if_neg h2, if_neg h3]
theorem hdB_hd {w v : Str} : hdW (Ns.hdB w v) = w := by unfold Ns.hdB; split <;> rfl
theorem bl_open {w : Str} (h : w = "each" ∨ w = "retry" ∨ w = "shield") : w ∈ OPENW := by rcases h with rfl | rfl | rfl <;> decide
theorem kind_mid {k : Str} (h : k = "finally" ∨ k = "rescue") : k ∈ MIDW := by rcases h with rfl | rfl <;> decide
theorem stk_lay (F : Fit ps) : ∀ (n : Ns) {a : Nat}, n.Wf → Ns.Lay ps a n → a ≤ ps.length → stk ps (a + n.sz) = stk ps a ∧ a + n.sz ≤ ps.length
  | .nil, a, _, _, h => ⟨rfl, h⟩
  | .row w r, a, wf, l, h => by
    obtain ⟨h1, h2⟩ := stk_lay F r wf.2 l.2 (lt_of_get l.1)
    rw [show a + (Ns.row w r).sz = a + 1 + r.sz by simp only [Ns.sz]; omega, h1, stk_plain l.1 wf.1]
    exact ⟨rfl, h2⟩
  | .tr x k y r, a, wf, l, h => by
    obtain ⟨l1, l2, l3, l4, l5, l6⟩ := l
    obtain ⟨x1, x2⟩ := stk_lay F x wf.2.1 l2 (lt_of_get l1)
    obtain ⟨y1, y2⟩ := stk_lay F y wf.2.2.1 l4 (lt_of_get l3)
    obtain ⟨r1, r2⟩ := stk_lay F r wf.2.2.2 l6 (lt_of_get l5)
    have e1 := stk_open l1 (by decide)
    rw [stk_midd l3 (kind_mid wf.1), x1, e1] at y1
    rw [stk_close l5 y1] at r1
    rw [show a + (Ns.tr x k y r).sz = a + 1 + x.sz + 1 + y.sz + 1 + r.sz by simp only [Ns.sz]; omega]
    exact ⟨r1, r2⟩
  | .me x y r, a, wf, l, h => by
    obtain ⟨l1, l2, l3, l4, l5, l6⟩ := l
    obtain ⟨x1, x2⟩ := stk_lay F x wf.1 l2 (lt_of_get l1)
    obtain ⟨y1, y2⟩ := stk_lay F y wf.2.1 l4 (lt_of_get l3)
    obtain ⟨r1, r2⟩ := stk_lay F r wf.2.2 l6 (lt_of_get l5)
    have e1 := stk_open l1 (by decide)
    rw [stk_midd l3 (by decide), x1, e1] at y1
    rw [stk_close l5 y1] at r1
    rw [show a + (Ns.me x y r).sz = a + 1 + x.sz + 1 + y.sz + 1 + r.sz by simp only [Ns.sz]; omega]
    exact ⟨r1, r2⟩
  | .mb x r, a, wf, l, h => by
    obtain ⟨l1, l2, l3, l4⟩ := l
    obtain ⟨x1, x2⟩ := stk_lay F x wf.1 l2 (lt_of_get l1)
    obtain ⟨r1, r2⟩ := stk_lay F r wf.2 l4 (lt_of_get l3)
    rw [stk_open l1 (by decide)] at x1
    rw [stk_close l3 x1] at r1
    rw [show a + (Ns.mb x r).sz = a + 1 + x.sz + 1 + r.sz by simp only [Ns.sz]; omega]
    exact ⟨r1, r2⟩
  | .bl w v x r, a, wf, l, h => by
    obtain ⟨l1, l2, l3, l4⟩ := l
    obtain ⟨x1, x2⟩ := stk_lay F x wf.2.1 l2 (lt_of_get l1)
    obtain ⟨r1, r2⟩ := stk_lay F r wf.2.2 l4 (lt_of_get l3)
    rw [stk_open l1 (by rw [hdB_hd]; exact bl_open wf.1)] at x1
    rw [stk_close l3 x1] at r1
    rw [show a + (Ns.bl w v x r).sz = a + 1 + x.sz + 1 + r.sz by simp only [Ns.sz]; omega]
    exact ⟨r1, r2⟩
end
end Av

set_option Elab.async false
set_option linter.all false
set_option maxRecDepth 100000
set_option maxHeartbeats 4000000
namespace Av
open PySem PySem.Spec PyProof.Rows L2 My
def EvK (k : Str) : Prop := k = "cut" ∨ k = "fail" ∨ k = "return"
theorem EvK.no {k : Str} (h : EvK k) : k ≠ "fault" := by rcases h with rfl | rfl | rfl <;> decide
def Out (ps : List (List Str)) (tr len : Nat → Nat) (num : NumA) (a c : Nat) (S : IS) (w : WS) (o : List Ob) (S' : IS) : Option Str → Prop
  | none => S'.evs = S.evs ∧ S'.tries = S.tries ∧ S'.loop = S.loop ∧ S'.loops = S.loops ∧ (∀ l, ¬ (a ≤ l ∧ l < c) → S'.rd l = S.rd l) ∧ ∃ w', Path ps tr len w o w' ∧ WAt ps tr num ⟨c, 0, S.evs⟩ S' w'
  | some k => (k = "fault" ∧ ∃ f, S'.fault = some f ∧ PathF ps tr len w o f) ∨
    (EvK k ∧ S'.tries = S.tries ∧ S'.loop = S.loop ∧ (∀ l, ¬ (a ≤ l ∧ l < c) → S'.rd l = S.rd l) ∧ ∃ ad r i, S'.evs = S.evs ++ ad ∧ S'.loops = S.loops ++ ad.map (fun e => eachA ps e.2) ∧ ad.getLast? = some (k, r) ∧
      (∀ e ∈ ad, a ≤ e.2 ∧ e.2 < c) ∧ a ≤ i ∧ i < c ∧ ∃ w' p, Path ps tr len w o w' ∧ leaveC ps tr num S'.evs k i (stk ps a).reverse = some p ∧ WAt ps tr num p S' w')
def Fresh (S : IS) (a c : Nat) : Prop := ∀ e ∈ S.evs, ¬ (a ≤ e.2 ∧ e.2 < c)
def Sim (ps : List (List Str)) (tr len : Nat → Nat) (R : Rln) (a c : Nat) : Prop := ∀ S o S' l w, Ctx ps a S → Fresh S a c → WAt ps tr (numS ps a S.tries) ⟨a, 0, S.evs⟩ S w → R S o S' l → Out ps tr len (numS ps a S.tries) a c S w o S' l
section
variable {ps : List (List Str)} {tr len : Nat → Nat} {num num1 : NumA} {p p' q : Place} {S S1 S2 S' S0 : IS} {w w1 w' : WS} {i a a1 b c c1 e m : Nat} {evs : List Ev} {kind kd : Str} {o o1 o2 : List Ob} {l : Option Str}
theorem LeN.refl : LeN num num := fun _ _ h => h
theorem Out.pre (h : Out ps tr len num b c S1 w1 o2 S' l) (hb : a ≤ b) (hs : stk ps b = stk ps a) (hp : Path ps tr len w o1 w1) (e1 : S1.evs = S.evs) (e2 : S1.tries = S.tries) (e3 : S1.loop = S.loop) (e4 : S1.loops = S.loops)
    (e5 : ∀ l, ¬ (a ≤ l ∧ l < c) → S1.rd l = S.rd l) : Out ps tr len num a c S w (o1 ++ o2) S' l := by
  cases l with
  | none =>
    obtain ⟨h1, h2, h3, h4, h5, w', h6, h7⟩ := h
    refine ⟨by rw [h1, e1], by rw [h2, e2], by rw [h3, e3], by rw [h4, e4], fun l hl => ?_, w', hp.trans h6, by rw [← e1]; exact h7⟩
    rw [h5 l (fun z => hl ⟨by omega, z.2⟩), e5 l hl]
  | some k =>
    rcases h with ⟨hk, f, h1, h2⟩ | ⟨hk, h1, h2, h3, ad, r, i, h4, h5, h6, h7, h8, h9, w', p, h10, h11, h12⟩
    · exact .inl ⟨hk, f, h1, hp.fault h2⟩
    · refine .inr ⟨hk, by rw [h1, e2], by rw [h2, e3], fun l hl => ?_, ad, r, i, by rw [h4, e1], by rw [h5, e4], h6, fun e he => ⟨by have := h7 e he; omega, (h7 e he).2⟩, by omega, h9, w', p, hp.trans h10, by rw [← hs]; exact h11, h12⟩
      rw [h3 l (fun z => hl ⟨by omega, z.2⟩), e5 l hl]
theorem Out.wide {k : Str} (h : Out ps tr len num a c S w o S' (some k)) (hc : c ≤ c1) : Out ps tr len num a c1 S w o S' (some k) := by
  rcases h with ⟨hk, f, h1, h2⟩ | ⟨hk, h1, h2, h3, ad, r, i, h4, h5, h6, h7, h8, h9, w', p, h10, h11, h12⟩
  · exact .inl ⟨hk, f, h1, h2⟩
  · exact .inr ⟨hk, h1, h2, fun l hl => h3 l fun z => hl ⟨z.1, by omega⟩, ad, r, i, h4, h5, h6, fun e he => ⟨(h7 e he).1, by have := h7 e he; omega⟩, h8, by omega, w', p, h10, h11, h12⟩
theorem lead_at (F : Fit ps) (hi : a ≤ ps.length) (h : leaveC ps tr num evs kind i (stk ps a).reverse = some p) : (∃ post, stk ps a = stk ps p.row ++ post) ∧ p.row ≤ ps.length := lead_pre F hi (leaveC_lead h)
theorem leave_weak (l : LeN num num1) (hd : DefN ps num (stk ps a)) (h : leaveC ps tr num1 evs kind i (stk ps a).reverse = some p) : leaveC ps tr num evs kind i (stk ps a).reverse = some p := by
  obtain ⟨p2, h2⟩ := leaveC_some (tr := tr) (evs := evs) (kind := kind) (i := i) (hd.sub (s' := (stk ps a).reverse) fun x hx => .inl (List.mem_reverse.mp hx))
  have := leaveC_mono l h2
  rw [h] at this
  cases this
  exact h2
theorem DefN.pre (hd : DefN ps num (stk ps a)) (h : ∃ post, stk ps a = stk ps b ++ post) : DefN ps num (stk ps b) := by
  obtain ⟨post, e⟩ := h
  exact hd.sub fun x hx => .inl (by rw [e]; exact List.mem_append_left _ hx)
theorem Out.exit (F : Fit ps) (hO : Out ps tr len num1 a1 c1 S1 w o S2 (some kd)) (hs : stk ps a1 = stk ps a ++ [a]) (hH : ∀ i evs, a1 ≤ i → i < c1 → EvK kd → hit ps tr num1 evs kd i a = some none) (l : LeN num num1) (hd : DefN ps num (stk ps a))
    (ha : a ≤ a1) (hc : c1 ≤ c) (an : a ≤ ps.length) (e1 : S1.evs = S.evs) (e2 : S1.loops = S.loops) (e3 : ∀ l, ¬ (a ≤ l ∧ l < c) → S1.rd l = S.rd l)
    (f1 : S'.evs = S2.evs) (f2 : S'.loops = S2.loops) (f3 : ∀ l, S'.rd l = S2.rd l) (f4 : S'.mark = S2.mark) (f5 : S'.owed = S2.owed) (f6 : S'.asked = S2.asked) (f7 : S'.taken = S2.taken) (f8 : S'.fault = S2.fault)
    (f9 : S2.tries = S1.tries → S2.loop = S1.loop → S'.tries = S.tries ∧ S'.loop = S.loop) : Out ps tr len num a c S w o S' (some kd) := by
  rcases hO with ⟨hk, f, h1, h2⟩ | ⟨hk, h1, h2, h3, ad, r, i, h4, h5, h6, h7, h8, h9, w', p, h10, h11, h12⟩
  · exact .inl ⟨hk, f, by rw [f8, h1], h2⟩
  · obtain ⟨g1, g2⟩ := f9 h1 h2
    rw [hs, List.reverse_append] at h11
    have h11 : leaveC ps tr num1 S2.evs kd i (a :: (stk ps a).reverse) = some p := h11
    rw [leaveC_cons, hH i _ h8 h9 hk] at h11
    have h13 := leave_weak l hd h11
    obtain ⟨q1, q2⟩ := lead_at F an h13
    refine .inr ⟨hk, g1, g2, fun x hx => ?_, ad, r, a, by rw [f1, h4, e1], by rw [f2, h5, e2], h6, fun e he => ⟨by have := h7 e he; omega, by have := h7 e he; omega⟩, Nat.le_refl _, by omega, w', p, h10, by rw [f1]; exact h13, (h12.weak F l q2 (hd.pre q1)).state f4 f5 f6 f7 f3⟩
    rw [f3, h3 x (fun z => hx ⟨by omega, by omega⟩), e3 x hx]
theorem numS_eq {T T' : List Nat} (h1 : stk ps a = stk ps b) (h2 : T = T') : numS ps a T = numS ps b T' := by unfold numS; rw [h1, h2]
theorem numS_in {T : List Nat} (h1 : stk ps b = stk ps a ++ [a]) (h2 : wdA ps a ≠ "retry") : numS ps b T = numS ps a T := by
  unfold numS
  rw [h1, List.filter_append, List.filter_cons, decide_eq_false h2, List.filter_nil]
  simp
theorem filt_in (h1 : stk ps b = stk ps a ++ [a]) (h2 : wdA ps a ≠ "retry") : ((stk ps b).filter fun b => decide (wdA ps b = "retry")) = (stk ps a).filter fun b => decide (wdA ps b = "retry") := by
  rw [h1, List.filter_append, List.filter_cons, decide_eq_false h2, List.filter_nil]
  simp
theorem each_in (h1 : stk ps b = stk ps a ++ [a]) (h2 : wdA ps a ≠ "each") : eachA ps b = eachA ps a := by
  unfold eachA
  rw [h1, List.find?_append, List.find?_cons, decide_eq_false h2]
  simp
theorem each_eq (h : stk ps b = stk ps a) : eachA ps b = eachA ps a := by unfold eachA; rw [h]
theorem Ctx.same (C : Ctx ps a S) (h : stk ps b = stk ps a) (e1 : S1.evs = S.evs) (e2 : S1.tries = S.tries) (e3 : S1.loop = S.loop) (e4 : S1.loops = S.loops) : Ctx ps b S1 :=
  ⟨by rw [e2, h]; exact C.tl, by rw [e3, each_eq h]; exact C.lp, by rw [e4, e1]; exact C.ls, by rw [e1]; exact C.er⟩
theorem Ctx.inn (C : Ctx ps a S) (h : stk ps b = stk ps a ++ [a]) (h1 : wdA ps a ≠ "retry") (h2 : wdA ps a ≠ "each") : Ctx ps b S :=
  ⟨by rw [filt_in h h1]; exact C.tl, by rw [each_in h h2]; exact C.lp, C.ls, C.er⟩
theorem Fresh.sub (h : Fresh S a c) (h1 : a ≤ a1) (h2 : c1 ≤ c) (e : S1.evs = S.evs) : Fresh S1 a1 c1 := fun x hx z => h x (by rw [← e]; exact hx) ⟨by omega, by omega⟩
theorem sim_seq {A B : Rln} (sA : Sim ps tr len A a b) (sB : Sim ps tr len B b c) (hs : stk ps b = stk ps a) (h1 : a ≤ b) (h2 : b ≤ c) : Sim ps tr len (seqR A B) a c := by
  rintro S o S' l w C Fr W (⟨k, rfl, hA⟩ | ⟨o1, S1, o2, hA, hB, rfl⟩)
  · exact (sA S o S' _ w C (Fr.sub (Nat.le_refl _) h2 rfl) W hA).wide h2
  · obtain ⟨e1, e2, e3, e4, e5, w1, P1, W1⟩ := sA S o1 S1 none w C (Fr.sub (Nat.le_refl _) h2 rfl) W hA
    have en : numS ps b S1.tries = numS ps a S.tries := numS_eq hs e2
    have := sB S1 o2 S' l w1 (C.same hs e1 e2 e3 e4) (Fr.sub h1 (Nat.le_refl _) e1) (by rw [en, e1]; exact W1) hB
    rw [en] at this
    exact this.pre h1 hs P1 e1 e2 e3 e4 fun x hx => e5 x fun z => hx ⟨z.1, by omega⟩
theorem sim_done (hs : a = c) : Sim ps tr len doneR a c := by
  rintro S o S' l w C Fr W ⟨rfl, rfl, rfl⟩
  subst hs
  exact ⟨rfl, rfl, rfl, rfl, fun _ _ => rfl, w, .nil w, W⟩
theorem not_self (F : Fit ps) (ha : a ≤ ps.length) {b : Nat} (h : b ∈ stk ps a) : b ≠ a := by
  have := (stk_mem ha h).2.1; omega
theorem tries_here (F : Fit ps) (ha : a ≤ ps.length) {T : List Nat} {ag : Nat} (tl : T.length = ((stk ps a).filter fun b => decide (wdA ps b = "retry")).length) (hw : wdA ps a ≠ "retry") : triesAt ps (numS ps a T) ⟨a, ag, evs⟩ = T := by
  unfold triesAt retrA
  rw [if_neg hw, List.append_nil]
  conv => rhs; rw [← zip_map (ks := (stk ps a).filter fun b => decide (wdA ps b = "retry")) (vs := T) ((stk_nodup F a).filter _) tl]
  refine List.map_congr_left fun b hb => ?_
  rw [if_neg (not_self F ha (List.mem_filter.mp hb).1)]; rfl
theorem tries_retry (F : Fit ps) (ha : a ≤ ps.length) {T : List Nat} {ag : Nat} (tl : T.length = ((stk ps a).filter fun b => decide (wdA ps b = "retry")).length) (hw : wdA ps a = "retry") : triesAt ps (numS ps a T) ⟨a, ag, evs⟩ = T ++ [max 1 ag] := by
  unfold triesAt retrA
  rw [if_pos hw, List.map_append, List.map_cons, List.map_nil, if_pos rfl]
  congr 1
  conv => rhs; rw [← zip_map (ks := (stk ps a).filter fun b => decide (wdA ps b = "retry")) (vs := T) ((stk_nodup F a).filter _) tl]
  refine List.map_congr_left fun b hb => ?_
  rw [if_neg (not_self F ha (List.mem_filter.mp hb).1)]; rfl
theorem sees_of (F : Fit ps) {ag : Nat} {T : List Nat} {moves : List Str} {mv : Str} (W : WAt ps tr num ⟨a, ag, S.evs⟩ S w) (h1 : a < ps.length) (h2 : stepA ps a = true) (lp : S.loop = eachA ps a) (ls : S.loops = S.evs.map fun e => eachA ps e.2)
    (hT : triesAt ps num ⟨a, ag, S.evs⟩ = T) (hm : movesA ps len w = moves) (hv : mv ∈ moves) : Sees ps len w (IS.ob ps.length { S with tries := T } a moves mv) := by
  obtain ⟨r1, r2, r3⟩ := W.here h1 h2
  refine ⟨by rw [r1]; exact h1, by rw [r1]; exact h2, r1.symm, (r3.trans hT).symm, r2.symm, hm.symm, hv, W.mark.symm, W.owed.symm, W.asked.symm, W.taken.symm, ?_⟩
  rw [W.rounds, r1, r2]
  show ((List.range ps.length).filter fun l => decide (some l ∈ S.loop :: S.loops)).map _ = _
  rw [lp, ls]; rfl
theorem numW_here (hw : wdA ps a ≠ "retry") {T : List Nat} (h1 : w.row = a) (h2 : w.tries = T) : numW ps w = numS ps a T := by
  unfold numW numS retrA
  rw [h1, h2, if_neg hw, List.append_nil]
theorem ev_of_moves {wd mv : Str} {sh : Bool} (h : mv ∈ movesP wd sh) (hm : mv ≠ "go") : mv = "cut" ∨ mv = "fail" := by
  unfold movesP at h
  split at h
  · simp only [List.mem_cons, List.not_mem_nil, or_false] at h
    rcases h with h | h
    · exact .inr h
    · exact absurd h hm
  · split at h
    · simp only [List.mem_cons, List.not_mem_nil, or_false] at h
      rcases h with h | h
      · exact .inl h
      · exact absurd h hm
    · simp only [List.mem_cons, List.not_mem_nil, or_false] at h
      exact absurd h hm
theorem sim_plain (F : Fit ps) {wd : Str} (hg : ps[a]? = some [wd]) (hw : wd ∈ PLAINW) {sh : Bool} (hsh : shA ps a = sh) : Sim ps tr len (plainR ps.length wd sh a) a (a + 1) := by
  rintro S o S' l w C Fr W ⟨mv, hm, rfl, h⟩
  obtain ⟨n1, n2, n3, n4, n5, n6, n7⟩ := plain_not hw
  have ha : a < ps.length := lt_of_get hg
  have ew : wdA ps a = wd := wdA_get hg
  have st : stepA ps a = true := by
    unfold stepA
    rw [ew, if_neg n3, decide_eq_false n7]; rfl
  have tl := tries_here (evs := S.evs) (ag := 0) F (Nat.le_of_lt ha) C.tl (by rw [ew]; exact n4)
  obtain ⟨r1, r2, r3⟩ := W.here ha st
  have en : numW ps w = numS ps a S.tries := numW_here (by rw [ew]; exact n4) r1 (r3.trans tl)
  have hmv : movesA ps len w = movesP wd sh := by
    unfold movesA movesR movesP
    rw [r1, if_neg (by omega), ew, if_neg n6, if_neg n3, if_neg n5, hsh]
  have see := sees_of (len := len) F W ha st C.lp C.ls tl hmv hm
  have hd : DefN ps (numS ps a S.tries) (stk ps a) := numS_def C.tl
  have es : stk ps (a + 1) = stk ps a := stk_plain hg hw
  have lk : ∀ l, (eachA ps a = some l ∨ ∃ e ∈ S.evs, eachA ps e.2 = some l) → (w.rounds.lookup l).getD 0 = S.rd l := fun l hl => W.look F (by rw [r1, r2]; exact hl)
  have dn : ∀ (m : Str) (l : Nat), m ≠ "item" → doneW ps w m l = (w.rounds.lookup l).getD 0 := fun m l hm => by
    unfold doneW
    rw [if_neg (fun z => hm z.1), if_neg (fun z => hm z.1)]
  have lve : ∀ (k : Str) (p : Place), leaveC ps tr (numS ps a S.tries) (S.evs ++ [(k, a)]) k a (stk ps a).reverse = some p → ∀ l, (eachA ps p.row = some l ∨ ∃ e ∈ p.evs, eachA ps e.2 = some l) → (eachA ps a = some l ∨ ∃ e ∈ S.evs, eachA ps e.2 = some l) := fun k p hp l hl => by
    rcases hl with z | ⟨e, he, z⟩
    · obtain ⟨⟨post, e1⟩, _⟩ := lead_at F (Nat.le_of_lt ha) hp
      left
      unfold eachA at z ⊢
      rw [e1]
      exact each_pre z
    · rcases List.mem_append.mp (leaveC_evs hp e he) with y | y
      · exact .inr ⟨e, y, z⟩
      · rw [List.mem_singleton.mp y] at z
        exact .inl z
  have evt : ∀ (k mv : Str) (S1 : IS), startP ps tr w mv = leaveC ps tr (numS ps a S.tries) (S.evs ++ [(k, a)]) k a (stk ps a).reverse → mv ∈ movesP wd sh → faultA ps w mv = none → mv ≠ "item" → EvK k → (∀ l, S1.rd l = S.rd l) →
      (if mv = "go" then markA (wdA ps w.row) w.mark else w.mark) = S1.mark → (if mv = "go" then (if rstA (wdA ps w.row) then 0 else w.owed + chgA (wdA ps w.row)) else w.owed) = S1.owed →
      (if mv = "go" then w.asked + max 0 (chgA (wdA ps w.row)) else w.asked) = S1.asked → (if mv = "go" then w.taken + max 0 (-chgA (wdA ps w.row)) else w.taken) = S1.taken → S1.evs = S.evs → S1.tries = S.tries → S1.loop = S.loop → S1.loops = S.loops →
      Out ps tr len (numS ps a S.tries) a (a + 1) S w [S.ob ps.length a (movesP wd sh) mv] (S1.ev k a) (some k) := by
    intro k mv S1 hst hmm hf hi hk hrd q1 q2 q3 q4 g1 g2 g3 g4
    obtain ⟨p, hp⟩ := leaveC_some (tr := tr) (evs := S.evs ++ [(k, a)]) (kind := k) (i := a) (hd.sub (s' := (stk ps a).reverse) fun x hx => .inl (List.mem_reverse.mp hx))
    obtain ⟨c1, c2⟩ := lead_at F (Nat.le_of_lt ha) hp
    obtain ⟨w', hs', W'⟩ := step_to (S' := S1.ev k a) F (hst.trans hp) c2 (hd.pre c1) (by rw [en]; exact LeN.refl) (fun l hl => by
      rw [dn mv l hi, lk l (lve k p hp l hl)]
      exact (hrd l).symm) q1 q2 q3 q4
    refine .inr ⟨hk, g2, g3, fun l _ => hrd l, [(k, a)], a, a, by show S1.evs ++ _ = _; rw [g1], by show S1.loops ++ [S1.loop] = _; rw [g4, g3, C.lp]; rfl, rfl, fun e he => by rw [List.mem_singleton.mp he]; exact ⟨Nat.le_refl _, Nat.lt_succ_self _⟩, Nat.le_refl _, Nat.lt_succ_self _, w', p, .cons (sees_of (len := len) F W ha st C.lp C.ls tl hmv hmm) hf hs' (.nil _), ?_, W'⟩
    show leaveC ps tr _ (S1.evs ++ [(k, a)]) k a _ = _
    rw [g1]; exact hp
  have nr : wdA ps w.row ≠ "retry" := by rw [r1, ew]; exact n4
  rcases h with ⟨hgo, rfl, rfl⟩ | ⟨rfl, h⟩
  · have hcf := ev_of_moves hm hgo
    refine evt mv mv S ?_ hm ?_ ?_ ?_ (fun _ => rfl) (by rw [if_neg hgo]; exact W.mark) (by rw [if_neg hgo]; exact W.owed) (by rw [if_neg hgo]; exact W.asked) (by rw [if_neg hgo]; exact W.taken) rfl rfl rfl rfl
    · unfold startP
      rw [if_pos hcf, en, r1, r2]
    · unfold faultA
      rw [if_neg hgo]
    · rcases hcf with z | z <;> rw [z] <;> decide
    · exact hcf.elim .inl (fun z => .inr (.inl z))
  · have ef : faultA ps w "go" = rowFA wd S.mark S.owed := by
      unfold faultA
      rw [if_pos rfl, if_neg nr, r1, ew, W.mark, W.owed]
    have q1 : (if ("go" : Str) = "go" then markA (wdA ps w.row) w.mark else w.mark) = (S.go wd).mark := by rw [if_pos rfl, r1, ew, W.mark]; rfl
    have q2 : (if ("go" : Str) = "go" then (if rstA (wdA ps w.row) then 0 else w.owed + chgA (wdA ps w.row)) else w.owed) = (S.go wd).owed := by rw [if_pos rfl, r1, ew, W.owed]; rfl
    have q3 : (if ("go" : Str) = "go" then w.asked + max 0 (chgA (wdA ps w.row)) else w.asked) = (S.go wd).asked := by rw [if_pos rfl, r1, ew, W.asked]; rfl
    have q4 : (if ("go" : Str) = "go" then w.taken + max 0 (-chgA (wdA ps w.row)) else w.taken) = (S.go wd).taken := by rw [if_pos rfl, r1, ew, W.taken]; rfl
    rcases h with ⟨f, hf, rfl, rfl⟩ | ⟨hf, ⟨rfl, rfl, rfl⟩ | ⟨hr, rfl, rfl⟩⟩
    · exact .inl ⟨rfl, f, rfl, [], w, _, rfl, .nil _, see, by show faultA ps w "go" = _; rw [ef, hf]⟩
    · refine evt "return" "go" (S.go "return") ?_ hm (by rw [ef, hf]) (by decide) (.inr (.inr rfl)) (fun _ => rfl) q1 q2 q3 q4 rfl rfl rfl rfl
      unfold startP
      rw [if_neg (by decide), r1, ew, if_pos rfl, en, r2]
    · obtain ⟨w', hs', W'⟩ := step_to (p := ⟨a + 1, 0, S.evs⟩) (num := numS ps a S.tries) (S' := S.go wd) (mv := "go") F (by
        unfold startP tgtA
        rw [if_neg (by decide), r1, ew, if_neg hr, if_neg (by decide), if_neg (by decide), if_neg (by decide), r2]; rfl) ha (by show DefN ps _ (stk ps (a + 1)); rw [es]; exact hd) (by rw [en]; exact LeN.refl) (fun l hl => by
        rw [dn "go" l (by decide), lk l]
        · rfl
        · dsimp only at hl
          rwa [each_eq es] at hl) q1 q2 q3 q4
      exact ⟨rfl, rfl, rfl, rfl, fun _ _ => rfl, w', .cons see (by show faultA ps w "go" = _; rw [ef, hf]) hs' (.nil _), W'⟩
end
end Av

set_option Elab.async false
set_option linter.all false
set_option maxRecDepth 100000
set_option maxHeartbeats 4000000
namespace Av
open PySem PySem.Spec PyProof.Rows L2 My
section
variable {ps : List (List Str)} {tr len : Nat → Nat} {num num1 : NumA} {p p' q : Place} {S S1 S2 S' S0 : IS} {w w1 w' : WS} {i a a1 b c c1 e m : Nat} {evs : List Ev} {kind kd : Str} {o o1 o2 : List Ob} {l : Option Str}
theorem lastIn_not (h : wdA ps i ≠ "end") : lastIn ps i evs = none := by unfold lastIn; rw [if_neg h]
theorem lastIn_other (hl : (stk ps i).getLast? = some b) (hb : wdA ps b ≠ "try") : lastIn ps i evs = none := by
  unfold lastIn
  split
  · rw [hl]
    cases evs.getLast? with
    | none => rfl
    | some e => exact if_neg fun z => hb z.1
  · rfl
theorem lastIn_fresh (hl : (stk ps i).getLast? = some b) (h : ∀ e ∈ evs, grd ps e.2 b = false) : lastIn ps i evs = none := by
  unfold lastIn
  split
  · rw [hl]
    cases c : evs.getLast? with
    | none => rfl
    | some e =>
      refine if_neg fun z => ?_
      rw [h e (List.mem_of_getLast? c)] at z
      cases z.2
  · rfl
theorem lastIn_yes {k : Str} {r : Nat} (hw : wdA ps i = "end") (hl : (stk ps i).getLast? = some b) (hb : wdA ps b = "try") (he : evs.getLast? = some (k, r)) (hg : grd ps r b = true) : lastIn ps i evs = some (b, k) := by
  unfold lastIn
  rw [if_pos hw, hl, he]
  exact if_pos ⟨hb, hg⟩
structure Opn (ps : List (List Str)) (a e : Nat) : Prop where
  lt : a < e
  se : stk ps e = stk ps a ++ [a]
  we : ps[e]? = some rEnd
  fin : finA ps a = some e
  s1 : stk ps (e + 1) = stk ps a
theorem opn_of (F : Fit ps) (he : ps[e]? = some rEnd) (hs : stk ps e = stk ps a ++ [a]) : Opn ps a e := by
  have hl := lt_of_get he
  have hm : (stk ps e).getLast? = some a := by rw [hs, List.getLast?_concat]
  exact ⟨(stk_last (Nat.le_of_lt hl) hm).2.1, hs, he, (finA_iff F).mpr ⟨hl, wdA_get he, hm⟩, stk_close he hs⟩
theorem Opn.wd (O : Opn ps a e) : wdA ps e = "end" := wdA_get O.we
theorem Opn.last (O : Opn ps a e) : (stk ps e).getLast? = some a := by rw [O.se, List.getLast?_concat]
theorem Opn.step (O : Opn ps a e) (h : wdA ps a ≠ "each") : stepA ps e = false := by
  unfold stepA
  rw [if_pos O.wd, O.last]
  exact decide_eq_false h
theorem Opn.le (O : Opn ps a e) : e < ps.length := lt_of_get O.we
theorem WAt.close (O : Opn ps a e) (h : WAt ps tr num ⟨e, 0, evs⟩ S w) (h1 : wdA ps a ≠ "each") (h2 : lastIn ps e evs = none) : WAt ps tr num ⟨e + 1, 0, evs⟩ S w :=
  h.next O.le (O.step h1) (by rw [O.wd]; decide) (by rw [O.wd]; decide) h2
theorem step_no {w : Str} (h : wdA ps a = w) (hw : w = "try" ∨ w = "shield" ∨ w = "finally") : stepA ps a = false := by
  unfold stepA
  rcases hw with rfl | rfl | rfl <;> rw [h, if_neg (by decide)] <;> decide
theorem sim_shield (F : Fit ps) {R : Rln} (hg : ps[a]? = some rShi) (O : Opn ps a e) (sR : Sim ps tr len R (a + 1) e) : Sim ps tr len R a (e + 1) := by
  intro S o S' l w C Fr W h
  have ew : wdA ps a = "shield" := wdA_get hg
  have s1 : stk ps (a + 1) = stk ps a ++ [a] := stk_open hg (by decide)
  have hd : DefN ps (numS ps a S.tries) (stk ps a) := numS_def C.tl
  have en : numS ps (a + 1) S.tries = numS ps a S.tries := numS_in s1 (by rw [ew]; decide)
  have W1 := W.next (lt_of_get hg) (step_no ew (.inr (.inl rfl))) (by rw [ew]; decide) (by rw [ew]; decide) (lastIn_not (by rw [ew]; decide))
  have := sR S o S' l w (C.inn s1 (by rw [ew]; decide) (by rw [ew]; decide)) (Fr.sub (Nat.le_succ _) (Nat.le_succ _) rfl) (by rw [en]; exact W1) h
  rw [en] at this
  cases l with
  | some k =>
    refine this.exit F s1 (fun i evs _ _ _ => ?_) LeN.refl hd (Nat.le_succ _) (Nat.le_succ _) (Nat.le_of_lt (lt_of_get hg)) rfl rfl (fun _ _ => rfl) rfl rfl (fun _ => rfl) rfl rfl rfl rfl rfl (fun x y => ⟨x, y⟩)
    unfold hit
    rw [ew, if_neg (by decide), if_neg (fun z => absurd z.1 (by decide))]
  | none =>
    obtain ⟨e1, e2, e3, e4, e5, w1, P1, W1⟩ := this
    exact ⟨e1, e2, e3, e4, fun l hl => e5 l fun z => hl ⟨by omega, by omega⟩, w1, P1, W1.close O (by rw [ew]; decide) (lastIn_other O.last (by rw [ew]; decide))⟩
theorem each_none (F : Fit ps) {ws : List Str} (hg : ps[a]? = some ws) (hw : hdW ws = "each") : eachA ps a = none ∧ eachA ps (a + 1) = some a := by
  have s1 : stk ps (a + 1) = stk ps a ++ [a] := stk_open hg (by rw [hw]; decide)
  have ew : wdA ps a = "each" := by rw [wdA_get hg, hw]
  have h := one_each F (a + 1) (lt_of_get hg)
  rw [s1, List.filter_append, List.length_append, List.filter_cons, decide_eq_true ew, if_pos rfl, List.filter_nil] at h
  have z : ((stk ps a).filter fun b => decide (wdA ps b = "each")) = [] := List.length_eq_zero_iff.mp (by simp at h; simpa using h)
  have n : eachA ps a = none := by
    unfold eachA
    rw [List.find?_eq_none]
    rw [List.filter_eq_nil_iff] at z
    exact z
  refine ⟨n, ?_⟩
  unfold eachA at n ⊢
  rw [s1, List.find?_append, n, List.find?_cons, decide_eq_true ew]; rfl
theorem rd_put {l : Nat} {S : IS} {v : Nat} {lp : Option Nat} : IS.rd { S with loop := lp, rounds := putR S.rounds a v } l = if l = a then v else S.rd l := by
  show ((putR S.rounds a v).lookup l).getD 0 = _
  rw [putR_lookup]
  split <;> rfl
theorem iot_mem {c : Bool} : iot c ∈ [iot c] := List.mem_singleton.mpr rfl
theorem sim_loop (F : Fit ps) {ws : List Str} {cnt : Nat} {body : Rln} (hg : ps[a]? = some ws) (hw : hdW ws = "each") (hc : len a = cnt) (O : Opn ps a e) (sB : Sim ps tr len body (a + 1) e) : Sim ps tr len (loopR ps.length body a e cnt) a (e + 1) := by
  have ha := lt_of_get hg
  have ew : wdA ps a = "each" := by rw [wdA_get hg, hw]
  have s1 : stk ps (a + 1) = stk ps a ++ [a] := stk_open hg (by rw [hw]; decide)
  obtain ⟨ea, ea1⟩ := each_none F hg hw
  have ee : eachA ps e = some a := by rw [each_eq (O.se.trans s1.symm)]; exact ea1
  have nr : wdA ps a ≠ "retry" := by rw [ew]; decide
  have sta : stepA ps a = true := by unfold stepA; rw [ew, if_neg (by decide)]; decide
  have ste : stepA ps e = true := by
    unfold stepA
    rw [if_pos O.wd, O.last]
    exact decide_eq_true ew
  have lt := O.lt
  have le := O.le
  have hkE : wdA ps e ≠ "each" := by rw [O.wd]; decide
  have hH : ∀ (num : NumA) (evs : List Ev) (kd : Str) (i : Nat), hit ps tr num evs kd i a = some none := fun num evs kd i => by
    unfold hit
    rw [ew, if_neg (by decide), if_neg (fun z => absurd z.1 (by decide))]
  -- the rounds
  have key : ∀ k, k ≤ cnt → ∀ S o S' l w, S.tries.length = ((stk ps a).filter fun b => decide (wdA ps b = "retry")).length → (S.loops = S.evs.map fun e => eachA ps e.2) → (∀ e ∈ S.evs, e.2 < ps.length) → Fresh S a (e + 1) →
      (k = 0 → WAt ps tr (numS ps a S.tries) ⟨e + 1, 0, S.evs⟩ { S with loop := none } w) → (0 < k → WAt ps tr (numS ps a S.tries) ⟨a + 1, 0, S.evs⟩ { S with loop := some a, rounds := putR S.rounds a (cnt - k) } w) →
      loopK ps.length body a e cnt k S o S' l → Out ps tr len (numS ps a S.tries) a (e + 1) { S with loop := none } w o S' l := by
    intro k
    induction k with
    | zero =>
      rintro - S o S' l w tl ls er Fr W0 - ⟨rfl, rfl, rfl⟩
      exact ⟨rfl, rfl, rfl, rfl, fun _ _ => rfl, w, .nil w, W0 rfl⟩
    | succ k ih =>
      intro hk S o S' l w tl ls er Fr _ W1 h
      have W1 := W1 (by omega)
      have C1 : Ctx ps (a + 1) { S with loop := some a, rounds := putR S.rounds a (cnt - (k + 1)) } := ⟨by rw [filt_in s1 nr]; exact tl, ea1.symm, ls, er⟩
      have en : numS ps (a + 1) S.tries = numS ps a S.tries := numS_in s1 nr
      have hd : DefN ps (numS ps a S.tries) (stk ps a) := numS_def tl
      have use : ∀ o S2 l2, body { S with loop := some a, rounds := putR S.rounds a (cnt - (k + 1)) } o S2 l2 → Out ps tr len (numS ps a S.tries) (a + 1) e { S with loop := some a, rounds := putR S.rounds a (cnt - (k + 1)) } w o S2 l2 := fun o S2 l2 hb => by
        have := sB _ o S2 l2 w C1 (Fr.sub (Nat.le_succ _) (Nat.le_succ _) rfl) (by rw [show IS.tries { S with loop := some a, rounds := putR S.rounds a (cnt - (k + 1)) } = S.tries from rfl, en]; exact W1) hb
        rwa [show IS.tries { S with loop := some a, rounds := putR S.rounds a (cnt - (k + 1)) } = S.tries from rfl, en] at this
      rcases h with ⟨kd, S2, rfl, hb, rfl⟩ | ⟨o1, S2, o2, hb, hr, rfl⟩
      · refine (use o S2 _ hb).exit (S := { S with loop := none }) F s1 (fun i evs _ _ _ => hH _ _ _ _) LeN.refl hd (Nat.le_succ _) (Nat.le_succ _) (Nat.le_of_lt ha) rfl rfl (fun x hx => ?_) rfl rfl (fun _ => rfl) rfl rfl rfl rfl rfl (fun x y => ⟨x, rfl⟩)
        rw [rd_put, if_neg (fun z => hx (by rw [z]; omega))]; rfl
      · obtain ⟨e1, e2, e3, e4, e5, w1, P1, W2⟩ := use o1 S2 none hb
        have e1 : S2.evs = S.evs := e1
        have e2 : S2.tries = S.tries := e2
        have e3 : S2.loop = some a := e3
        have e4 : S2.loops = S.loops := e4
        have W2 : WAt ps tr (numS ps a S.tries) ⟨e, 0, S.evs⟩ S2 w1 := W2
        have ra : S2.rd a = cnt - (k + 1) := by
          rw [e5 a (by omega), rd_put, if_pos rfl]
        obtain ⟨r1, r2, r3⟩ := W2.here le ste
        have tle : S.tries.length = ((stk ps e).filter fun b => decide (wdA ps b = "retry")).length := by rw [filt_in O.se nr]; exact tl
        have ene : numS ps e S.tries = numS ps a S.tries := numS_in O.se nr
        have te : triesAt ps (numS ps a S.tries) ⟨e, 0, S.evs⟩ = S.tries := by
          rw [← ene]
          exact tries_here F (Nat.le_of_lt le) tle (by rw [O.wd]; decide)
        have enw : numW ps w1 = numS ps a S.tries := by rw [← ene]; exact numW_here (by rw [O.wd]; decide) r1 (r3.trans te)
        have hmv : movesA ps len w1 = [iot (decide (0 < k))] := by
          unfold movesA
          rw [r1, if_neg (by omega), if_neg hkE, if_pos O.wd, O.last]
          dsimp only
          rw [W2.look F (by rw [r1]; exact .inl ee), ra, hc]
          unfold iot
          by_cases z : 0 < k
          · rw [if_pos (by omega), decide_eq_true z, if_pos rfl]
          · rw [if_neg (by omega), decide_eq_false z, if_neg Bool.false_ne_true]
        have see := sees_of (len := len) (S := S2) (T := S.tries) (mv := iot (decide (0 < k))) F (by rw [e1]; exact W2) le ste (by rw [e3, ee]) (by rw [e4, e1]; exact ls) (by rw [e1]; exact te) hmv iot_mem
        have eS2 : ({ S2 with tries := S.tries } : IS) = S2 := by rw [← e2]
        rw [eS2] at see
        have lk : ∀ l, (eachA ps e = some l ∨ ∃ x ∈ S.evs, eachA ps x.2 = some l) → (w1.rounds.lookup l).getD 0 = S2.rd l := fun l hl => W2.look F (by rw [r1, r2]; exact hl)
        have fl : ∀ mv : Str, mv ≠ "go" → faultA ps w1 mv = none := fun mv h => by unfold faultA; rw [if_neg h]
        have fin : ∀ (w2 : WS), stepTo ps tr w1 (iot (decide (0 < k))) w2 → (k = 0 → WAt ps tr (numS ps a S.tries) ⟨e + 1, 0, S.evs⟩ { S2 with loop := none } w2) →
            (0 < k → WAt ps tr (numS ps a S.tries) ⟨a + 1, 0, S.evs⟩ { S2 with loop := some a, rounds := putR S2.rounds a (cnt - k) } w2) →
            Out ps tr len (numS ps a S.tries) a (e + 1) { S with loop := none } w (o1 ++ S2.ob ps.length e [iot (decide (0 < k))] (iot (decide (0 < k))) :: o2) S' l := fun w2 hs2 g0 g1 => by
          have := ih (by omega) S2 o2 S' l w2 (by rw [e2]; exact tl) (by rw [e4, e1]; exact ls) (by rw [e1]; exact er) (fun x hx => Fr x (by rw [← e1]; exact hx)) (by rw [← e1, ← e2] at g0; exact g0) (by rw [← e1, ← e2] at g1; exact g1) hr
          have en2 : numS ps a S2.tries = numS ps a S.tries := by rw [e2]
          rw [en2] at this
          have pth : Path ps tr len w (o1 ++ [S2.ob ps.length e [iot (decide (0 < k))] (iot (decide (0 < k)))]) w2 := P1.trans (.cons see (by
            refine fl _ ?_
            show iot (decide (0 < k)) ≠ "go"
            unfold iot
            split <;> decide) hs2 (.nil _))
          have := this.pre (S := { S with loop := none }) (Nat.le_refl _) rfl pth e1 e2 rfl e4 (fun x hx => by
            show S2.rd x = S.rd x
            rw [e5 x (by omega), rd_put, if_neg (by omega)])
          rw [List.append_assoc] at this
          exact this
        by_cases z : 0 < k
        · have ei : iot (decide (0 < k)) = "item" := by unfold iot; rw [decide_eq_true z, if_pos rfl]
          rw [ei] at fin ⊢
          obtain ⟨w2, hs2, W3⟩ := step_to (p := ⟨a + 1, 0, S.evs⟩) (num := numS ps a S.tries) (S' := { S2 with loop := some a, rounds := putR S2.rounds a (cnt - k) }) (mv := "item") F (by
            unfold startP tgtA
            rw [if_neg (by decide), r1, if_neg (by rw [O.wd]; decide), if_pos rfl, if_pos O.wd, O.last, r2]; rfl) (by show a + 1 ≤ _; omega) (by
            show DefN ps _ (stk ps (a + 1))
            rw [s1]
            exact hd.sub fun x hx => by
              rcases List.mem_append.mp hx with q | q
              · exact .inl q
              · exact .inr (by rw [List.mem_singleton.mp q]; exact nr)) (by rw [enw]; exact LeN.refl) (fun x hx => by
            rw [rd_put]
            unfold doneW
            rw [if_neg (fun q => by rw [r1] at q; exact hkE q.2.1)]
            by_cases q : x = a
            · subst q
              rw [if_pos ⟨rfl, by rw [r1]; exact O.wd, by rw [r1]; exact O.last⟩, if_pos rfl, lk x (.inl ee), ra]
              omega
            · rw [if_neg (fun y => by
                rw [r1, O.last] at y
                exact q (Option.some.inj y.2.2).symm), if_neg q, lk x]
              rcases hx with y | y
              · dsimp only at y
                rw [ea1] at y
                exact absurd (Option.some.inj y).symm q
              · exact .inr y) (by rw [if_neg (by decide)]; exact W2.mark) (by rw [if_neg (by decide)]; exact W2.owed) (by rw [if_neg (by decide)]; exact W2.asked) (by rw [if_neg (by decide)]; exact W2.taken)
          exact fin w2 hs2 (fun y => absurd y (by omega)) (fun _ => W3)
        · have ei : iot (decide (0 < k)) = "over" := by unfold iot; rw [decide_eq_false z, if_neg Bool.false_ne_true]
          rw [ei] at fin ⊢
          obtain ⟨w2, hs2, W3⟩ := step_to (p := ⟨e + 1, 0, S.evs⟩) (num := numS ps a S.tries) (S' := { S2 with loop := none }) (mv := "over") F (by
            unfold startP tgtA
            rw [if_neg (by decide), r1, if_neg (by rw [O.wd]; decide), if_neg (by decide), if_pos rfl, if_pos O.wd, r2]; rfl) le (by
            show DefN ps _ (stk ps (e + 1))
            rw [O.s1]; exact hd) (by rw [enw]; exact LeN.refl) (fun x hx => by
            unfold doneW
            rw [if_neg (fun q => absurd q.1 (by decide)), if_neg (fun q => absurd q.1 (by decide)), lk x]
            · rfl
            · rcases hx with y | y
              · dsimp only at y
                rw [each_eq O.s1, ea] at y
                cases y
              · exact .inr y) (by rw [if_neg (by decide)]; exact W2.mark) (by rw [if_neg (by decide)]; exact W2.owed) (by rw [if_neg (by decide)]; exact W2.asked) (by rw [if_neg (by decide)]; exact W2.taken)
          exact fin w2 hs2 (fun _ => W3) (fun y => absurd y z)
  rintro S o S' l w C Fr W ⟨o2, h, rfl⟩
  have hd : DefN ps (numS ps a S.tries) (stk ps a) := numS_def C.tl
  obtain ⟨r1, r2, r3⟩ := W.here ha sta
  have ta := tries_here (evs := S.evs) (ag := 0) F (Nat.le_of_lt ha) C.tl nr
  have enw : numW ps w = numS ps a S.tries := numW_here nr r1 (r3.trans ta)
  have hmv : movesA ps len w = [iot (decide (0 < cnt))] := by
    unfold movesA
    rw [r1, if_neg (by omega), if_pos ew, hc]
    unfold iot
    by_cases z : 0 < cnt
    · rw [if_pos z, decide_eq_true z, if_pos rfl]
    · rw [if_neg z, decide_eq_false z, if_neg Bool.false_ne_true]
  have see := sees_of (len := len) (mv := iot (decide (0 < cnt))) F W ha sta C.lp C.ls ta hmv iot_mem
  have lk : ∀ l, (eachA ps a = some l ∨ ∃ x ∈ S.evs, eachA ps x.2 = some l) → (w.rounds.lookup l).getD 0 = S.rd l := fun l hl => W.look F (by rw [r1, r2]; exact hl)
  have S0e : ({ S with loop := none } : IS) = S := by rw [← ea, ← C.lp]
  have fin : ∀ (w2 : WS), stepTo ps tr w (iot (decide (0 < cnt))) w2 → (cnt = 0 → WAt ps tr (numS ps a S.tries) ⟨e + 1, 0, S.evs⟩ { S with loop := none } w2) →
      (0 < cnt → WAt ps tr (numS ps a S.tries) ⟨a + 1, 0, S.evs⟩ { S with loop := some a, rounds := putR S.rounds a (cnt - cnt) } w2) → Out ps tr len (numS ps a S.tries) a (e + 1) S w (S.ob ps.length a [iot (decide (0 < cnt))] (iot (decide (0 < cnt))) :: o2) S' l := fun w2 hs2 g0 g1 => by
    have := key cnt (Nat.le_refl _) S o2 S' l w2 C.tl C.ls C.er Fr g0 g1 h
    rw [S0e] at this
    refine this.pre (o1 := [_]) (Nat.le_refl _) rfl (.cons see ?_ hs2 (.nil _)) rfl rfl rfl rfl (fun _ _ => rfl)
    show faultA ps w (iot (decide (0 < cnt))) = none
    unfold faultA iot
    rw [if_neg]
    split <;> decide
  by_cases z : 0 < cnt
  · have ei : iot (decide (0 < cnt)) = "item" := by unfold iot; rw [decide_eq_true z, if_pos rfl]
    rw [ei] at fin ⊢
    obtain ⟨w2, hs2, W3⟩ := step_to (p := ⟨a + 1, 0, S.evs⟩) (num := numS ps a S.tries) (S' := { S with loop := some a, rounds := putR S.rounds a (cnt - cnt) }) (mv := "item") F (by
      unfold startP tgtA
      rw [if_neg (by decide), r1, if_neg (by rw [ew]; decide), if_pos rfl, if_neg (by rw [ew]; decide), r2]; rfl) (by show a + 1 ≤ _; omega) (by
      show DefN ps _ (stk ps (a + 1))
      rw [s1]
      exact hd.sub fun x hx => by
        rcases List.mem_append.mp hx with q | q
        · exact .inl q
        · exact .inr (by rw [List.mem_singleton.mp q]; exact nr)) (by rw [enw]; exact LeN.refl) (fun x hx => by
      rw [rd_put]
      unfold doneW
      by_cases q : x = a
      · rw [if_pos ⟨rfl, by rw [r1]; exact ew, by rw [r1]; exact q⟩, if_pos q]
        omega
      · rw [if_neg (fun y => q (by rw [← r1]; exact y.2.2)), if_neg (fun y => by
          rw [r1, ew] at y
          exact absurd y.2.1 (by decide)), if_neg q, lk x]
        rcases hx with y | y
        · dsimp only at y
          rw [ea1] at y
          exact absurd (Option.some.inj y).symm q
        · exact .inr y) (by rw [if_neg (by decide)]; exact W.mark) (by rw [if_neg (by decide)]; exact W.owed) (by rw [if_neg (by decide)]; exact W.asked) (by rw [if_neg (by decide)]; exact W.taken)
    exact fin w2 hs2 (fun y => absurd y (by omega)) (fun _ => W3)
  · have ei : iot (decide (0 < cnt)) = "over" := by unfold iot; rw [decide_eq_false z, if_neg Bool.false_ne_true]
    rw [ei] at fin ⊢
    obtain ⟨w2, hs2, W3⟩ := step_to (p := ⟨e + 1, 0, S.evs⟩) (num := numS ps a S.tries) (S' := { S with loop := none }) (mv := "over") F (by
      unfold startP tgtA
      rw [if_neg (by decide), r1, if_neg (by rw [ew]; decide), if_neg (by decide), if_pos rfl, if_neg (by rw [ew]; decide), O.fin, r2]; rfl) le (by
      show DefN ps _ (stk ps (e + 1))
      rw [O.s1]; exact hd) (by rw [enw]; exact LeN.refl) (fun x hx => by
      unfold doneW
      rw [if_neg (fun q => absurd q.1 (by decide)), if_neg (fun q => absurd q.1 (by decide)), lk x]
      · rfl
      · rcases hx with y | y
        · dsimp only at y
          rw [each_eq O.s1] at y
          exact .inl y
        · exact .inr y) (by rw [if_neg (by decide)]; exact W.mark) (by rw [if_neg (by decide)]; exact W.owed) (by rw [if_neg (by decide)]; exact W.asked) (by rw [if_neg (by decide)]; exact W.taken)
    exact fin w2 hs2 (fun _ => W3) (fun y => absurd y z)
end
end Av

set_option Elab.async false
set_option linter.all false
set_option maxRecDepth 100000
set_option maxHeartbeats 4000000
namespace Av
open PySem PySem.Spec PyProof.Rows L2 My
section
variable {ps : List (List Str)} {tr len : Nat → Nat} {num num1 : NumA} {p p' q : Place} {S S1 S2 S' S0 : IS} {w w1 w' : WS} {i a a1 b c c1 e m : Nat} {evs : List Ev} {kind kd : Str} {o o1 o2 : List Ob} {l : Option Str}
theorem zip_self {α β : Type} (f : α → β) : ∀ l : List α, l.zip (l.map f) = l.map fun x => (x, f x)
  | [] => rfl
  | x :: l => by rw [List.map_cons, List.zip_cons_cons, zip_self f l]; rfl
theorem drop_evs {ad : List Ev} (h1 : S2.evs = S.evs ++ ad) (h2 : S2.loops = S.loops ++ ad.map fun e => eachA ps e.2) (h3 : S.loops = S.evs.map fun e => eachA ps e.2) (h4 : ∀ x ∈ S.evs, ¬ (a < x.2 ∧ x.2 < e)) (h5 : ∀ x ∈ ad, a < x.2 ∧ x.2 < e) :
    (S2.drop a e).evs = S.evs ∧ (S2.drop a e).loops = S.loops := by
  have hl : S2.loops = S2.evs.map fun e => eachA ps e.2 := by rw [h1, h2, h3, List.map_append]
  have hf : (S2.evs.filter fun x => !decide (a < x.2 ∧ x.2 < e)) = S.evs := by
    rw [h1, List.filter_append]
    have z1 : (S.evs.filter fun x => !decide (a < x.2 ∧ x.2 < e)) = S.evs := List.filter_eq_self.mpr fun x hx => by rw [decide_eq_false (h4 x hx)]; rfl
    have z2 : (ad.filter fun x => !decide (a < x.2 ∧ x.2 < e)) = [] := List.filter_eq_nil_iff.mpr fun x hx => by rw [decide_eq_true (h5 x hx)]; exact Bool.false_ne_true
    rw [z1, z2, List.append_nil]
  have e0 : ((S2.evs.zip S2.loops).filter fun p => !decide (a < p.1.2 ∧ p.1.2 < e)) = (S2.evs.filter fun x => !decide (a < x.2 ∧ x.2 < e)).map fun x => (x, eachA ps x.2) := by
    rw [hl, zip_self, List.filter_map]; rfl
  constructor
  · show ((S2.evs.zip S2.loops).filter _).map _ = _
    rw [e0, hf, List.map_map]
    conv => rhs; rw [← List.map_id S.evs]
    rfl
  · show ((S2.evs.zip S2.loops).filter _).map _ = _
    rw [e0, hf, List.map_map, h3]; rfl
theorem insA_filter {ad : List Ev} (hf : finA ps a = some e) (hw : wdA ps a = "retry") (h4 : ∀ x ∈ evs, ¬ (a < x.2 ∧ x.2 < e)) (h5 : ∀ x ∈ ad, a < x.2 ∧ x.2 < e) : ((evs ++ ad).filter fun x => !insA ps x.2 a) = evs := by
  have ins : ∀ i, insA ps i a = decide (a < i ∧ i < e) := fun i => by
    unfold insA
    rw [hf, hw]
    dsimp only
    rw [show decide (("retry" : Str) = "each") = false by decide, Bool.and_false, Bool.or_false]
  rw [List.filter_append]
  have z1 : (evs.filter fun x => !insA ps x.2 a) = evs := List.filter_eq_self.mpr fun x hx => by rw [ins, decide_eq_false (h4 x hx)]; rfl
  have z2 : (ad.filter fun x => !insA ps x.2 a) = [] := List.filter_eq_nil_iff.mpr fun x hx => by rw [ins, decide_eq_true (h5 x hx)]; exact Bool.false_ne_true
  rw [z1, z2, List.append_nil]
theorem markA_retry {x : Str} : markA "retry" x = x := by
  unfold markA
  by_cases h : x = "closed"
  · subst h; rfl
  · rw [if_neg (fun z => z.elim h (by decide)), if_neg (by decide), if_neg (by decide), if_neg (by decide), if_neg (by decide)]
theorem sim_retry (F : Fit ps) {ws : List Str} {tot : Nat} {body : Rln} (hg : ps[a]? = some ws) (hw : hdW ws = "retry") (ht : tr a = tot) (O : Opn ps a e) (sB : Sim ps tr len body (a + 1) e) : Sim ps tr len (retryK ps.length body a e tot tot) a (e + 1) := by
  have ha := lt_of_get hg
  have ew : wdA ps a = "retry" := by rw [wdA_get hg, hw]
  have s1 : stk ps (a + 1) = stk ps a ++ [a] := stk_open hg (by rw [hw]; decide)
  have sta : stepA ps a = true := stepA_retry ew
  have lt := O.lt
  have le := O.le
  have ne : wdA ps a ≠ "each" := by rw [ew]; decide
  have key : ∀ k, k ≤ tot → ∀ S o S' l w ag, Ctx ps a S → Fresh S a (e + 1) → WAt ps tr (numS ps a S.tries) ⟨a, ag, S.evs⟩ S w → (0 < k → max 1 ag = tot - (k - 1)) → retryK ps.length body a e tot k S o S' l → Out ps tr len (numS ps a S.tries) a (e + 1) S w o S' l := by
    intro k
    induction k with
    | zero => intro _ S o S' l w ag _ _ _ _ h; exact h.elim
    | succ k ih =>
      rintro hk S o S' l w ag C Fr W hag ⟨o1, rfl, h⟩
      have hag : max 1 ag = tot - k := hag (by omega)
      obtain ⟨r1, r2, r3⟩ := W.here ha sta
      have ta : triesAt ps (numS ps a S.tries) ⟨a, ag, S.evs⟩ = S.tries ++ [tot - k] := by rw [tries_retry F (Nat.le_of_lt ha) C.tl ew, hag]
      have hmv : movesA ps len w = ([("go" : Str)] : List Str) := by
        unfold movesA movesR
        rw [r1, if_neg (by omega), ew, if_neg (by decide), if_neg (by decide), if_neg (by decide), if_neg (by decide), if_neg (fun z => absurd z.1 (by decide))]
      have see := sees_of (len := len) (mv := "go") F W ha sta C.lp C.ls ta hmv (List.mem_singleton.mpr rfl)
      have hf : faultA ps w "go" = if staleA S.mark S.owed then some ("stale" : Str) else none := by
        unfold faultA
        rw [if_pos rfl, r1, if_pos ew, W.mark, W.owed]
      rcases h with ⟨hs, rfl, rfl, rfl⟩ | ⟨hs, o2, S2, l2, hb, h⟩
      · exact .inl ⟨rfl, "stale", rfl, [], w, _, rfl, .nil _, see, by show faultA ps w "go" = _; rw [hf, if_pos hs]⟩
      have hd : DefN ps (numS ps a S.tries) (stk ps a) := numS_def C.tl
      have fil : ((stk ps (a + 1)).filter fun b => decide (wdA ps b = "retry")) = ((stk ps a).filter fun b => decide (wdA ps b = "retry")) ++ [a] := by
        rw [s1, List.filter_append, List.filter_cons, decide_eq_true ew, if_pos rfl, List.filter_nil]
      have tl1 : (S.tries ++ [tot - k]).length = ((stk ps (a + 1)).filter fun b => decide (wdA ps b = "retry")).length := by
        rw [fil, List.length_append, List.length_append, C.tl]; rfl
      have C1 : Ctx ps (a + 1) { S with tries := S.tries ++ [tot - k] } := ⟨tl1, by rw [each_in s1 ne]; exact C.lp, C.ls, C.er⟩
      have enw : numW ps w = numS ps (a + 1) (S.tries ++ [tot - k]) := by
        unfold numW numS retrA
        rw [r1, r3, ta, if_pos ew, fil]
      have l1 : LeN (numS ps a S.tries) (numS ps (a + 1) (S.tries ++ [tot - k])) := fun b x hx => by
        unfold numS at hx ⊢
        rw [fil]
        exact zip_app C.tl hx
      have hn1 : numS ps (a + 1) (S.tries ++ [tot - k]) a = some (tot - k) := by
        have := tries_retry (evs := S.evs) (ag := 0) F (Nat.le_of_lt ha) C.tl ew
        unfold numS
        rw [fil, List.zip_append C.tl.symm, List.lookup_append]
        have : (((stk ps a).filter fun b => decide (wdA ps b = "retry")).zip S.tries).lookup a = none := by
          cases c : (((stk ps a).filter fun b => decide (wdA ps b = "retry")).zip S.tries).lookup a with
          | none => rfl
          | some y =>
            have := (List.of_mem_zip (lookup_mem c)).1
            exact absurd rfl (not_self F (Nat.le_of_lt ha) (List.mem_filter.mp this).1)
        rw [this]
        simp
      obtain ⟨w1, hs1, W1⟩ := step_to (p := ⟨a + 1, 0, S.evs⟩) (num := numS ps (a + 1) (S.tries ++ [tot - k])) (S' := { S with tries := S.tries ++ [tot - k] }) (mv := "go") F (by
        unfold startP tgtA
        rw [if_neg (by decide), r1, if_neg (by rw [ew]; decide), if_neg (by decide), if_neg (by decide), if_neg (by decide), r2]; rfl) ha (numS_def (S := { S with tries := S.tries ++ [tot - k] }) tl1) (by rw [enw]; exact LeN.refl) (fun x hx => by
        unfold doneW
        rw [if_neg (fun q => absurd q.1 (by decide)), if_neg (fun q => absurd q.1 (by decide)), W.look F]
        · rfl
        · rw [r1, r2]
          dsimp only at hx
          rwa [each_in s1 ne] at hx) (by rw [if_pos rfl, r1, ew, markA_retry]; exact W.mark) (by rw [if_pos rfl, r1, ew, show rstA "retry" = false by decide, if_neg Bool.false_ne_true, show chgA "retry" = 0 by decide, Int.add_zero]; exact W.owed)
        (by rw [if_pos rfl, r1, ew, show chgA "retry" = 0 by decide]; show w.asked + 0 = _; rw [Int.add_zero]; exact W.asked) (by rw [if_pos rfl, r1, ew, show chgA "retry" = 0 by decide]; show w.taken + 0 = _; rw [Int.add_zero]; exact W.taken)
      have pth : Path ps tr len w [IS.ob ps.length { S with tries := S.tries ++ [tot - k] } a ["go"] "go"] w1 := .cons see (by show faultA ps w "go" = _; rw [hf, hs, if_neg Bool.false_ne_true]) hs1 (.nil _)
      have OB := sB { S with tries := S.tries ++ [tot - k] } o2 S2 l2 w1 C1 (Fr.sub (Nat.le_succ _) (Nat.le_succ _) rfl) W1 hb
      have OB : Out ps tr len (numS ps (a + 1) (S.tries ++ [tot - k])) (a + 1) e { S with tries := S.tries ++ [tot - k] } w1 o2 S2 l2 := OB
      rcases h with ⟨hl, rfl, rfl, rfl⟩ | ⟨rfl, hk0, o3, hr, rfl⟩
      · cases l with
        | none =>
          obtain ⟨e1, e2, e3, e4, e5, w2, P2, W2⟩ := OB
          have W3 := W2.close O ne (lastIn_other O.last (by rw [ew]; decide))
          have W4 : WAt ps tr (numS ps a S.tries) ⟨e + 1, 0, S.evs⟩ S2 w2 := WAt.weak F l1 le (by show DefN ps _ (stk ps (e + 1)); rw [O.s1]; exact hd) W3
          exact ⟨e1, by show S2.tries.dropLast = _; rw [e2]; exact List.dropLast_concat, e3, e4, fun x hx => e5 x (fun z => hx ⟨by omega, by omega⟩), w2, pth.trans P2, W4.state rfl rfl rfl rfl (fun _ => rfl)⟩
        | some kd =>
          have := OB.exit (S := S) (S' := { S2 with tries := S2.tries.dropLast }) (num := numS ps a S.tries) (c := e + 1) F s1 (fun i evs _ _ hk2 => by
            unfold hit
            rw [ew, if_neg (by decide)]
            by_cases z : kd = "fail"
            · rw [if_pos ⟨rfl, z⟩, hn1]
              rcases hl with hl | hl
              · rw [z] at hl; exact absurd rfl hl
              · rw [Option.map_some, if_neg (by omega)]
            · rw [if_neg (fun y => z y.2)]) l1 hd (Nat.le_succ _) (Nat.le_succ _) (Nat.le_of_lt ha) rfl rfl (fun _ _ => rfl) rfl rfl (fun _ => rfl) rfl rfl rfl rfl rfl (fun x y => ⟨by show S2.tries.dropLast = _; rw [x]; exact List.dropLast_concat, y⟩)
          exact this.pre (o1 := [_]) (Nat.le_refl _) rfl pth rfl rfl rfl rfl (fun _ _ => rfl)
      · rcases OB with ⟨z, _⟩ | ⟨hk2, h1, h2, h3, ad, r, i, h4, h5, h6, h7, h8, h9, w2, p, h10, h11, h12⟩
        · exact absurd z (by decide)
        have h4 : S2.evs = S.evs ++ ad := h4
        have h5 : S2.loops = S.loops ++ ad.map fun e => eachA ps e.2 := h5
        have f4 : ∀ x ∈ S.evs, ¬ (a < x.2 ∧ x.2 < e) := fun x hx z => Fr x hx ⟨by omega, by omega⟩
        have f5 : ∀ x ∈ ad, a < x.2 ∧ x.2 < e := fun x hx => by have := h7 x hx; omega
        rw [s1, List.reverse_append] at h11
        have h11 : leaveC ps tr _ S2.evs "fail" i (a :: (stk ps a).reverse) = some p := h11
        have hh : hit ps tr (numS ps (a + 1) (S.tries ++ [tot - k])) S2.evs "fail" i a = some (some ⟨a, tot - k + 1, S.evs⟩) := by
          unfold hit
          rw [ew, if_neg (by decide), if_pos ⟨rfl, rfl⟩, hn1, Option.map_some, if_pos (by omega), h4, insA_filter O.fin ew f4 f5]
        rw [leaveC_cons, hh] at h11
        cases h11
        obtain ⟨d1, d2⟩ := drop_evs (S2 := { S2 with tries := S2.tries.dropLast }) (S := S) (a := a) (e := e) h4 h5 C.ls f4 f5
        have d3 : (IS.drop { S2 with tries := S2.tries.dropLast } a e).tries = S.tries := by
          show S2.tries.dropLast = _
          rw [h1]; exact List.dropLast_concat
        have d4 : (IS.drop { S2 with tries := S2.tries.dropLast } a e).loop = S.loop := h2
        have W3 : WAt ps tr (numS ps a S.tries) ⟨a, tot - k + 1, S.evs⟩ S2 w2 := WAt.weak F l1 (Nat.le_of_lt ha) hd h12
        have := ih (by omega) (IS.drop { S2 with tries := S2.tries.dropLast } a e) o3 S' l w2 (tot - k + 1) (C.same rfl d1 d3 d4 d2) (Fr.sub (Nat.le_refl _) (Nat.le_refl _) d1) (by
          rw [d3, d1]
          exact W3.state rfl rfl rfl rfl (fun _ => rfl)) (fun z => by omega) hr
        rw [d3] at this
        have := this.pre (S := S) (Nat.le_refl _) rfl (pth.trans h10) d1 d3 d4 d2 (fun x hx => by
          show S2.rd x = _
          exact h3 x (fun z => hx ⟨by omega, by omega⟩))
        exact this
  intro S o S' l w C Fr W h
  exact key tot (Nat.le_refl _) S o S' l w 0 C Fr W (fun z => by omega) h
theorem Out.more {k : Str} {ad : List Ev} (h : Out ps tr len num a c S1 w1 o2 S' (some k)) (hp : Path ps tr len w o1 w1) (e1 : S1.evs = S.evs ++ ad) (e2 : S1.tries = S.tries) (e3 : S1.loop = S.loop) (e4 : S1.loops = S.loops ++ ad.map fun e => eachA ps e.2)
    (e5 : ∀ l, ¬ (a ≤ l ∧ l < c) → S1.rd l = S.rd l) (e6 : ∀ e ∈ ad, a ≤ e.2 ∧ e.2 < c) : Out ps tr len num a c S w (o1 ++ o2) S' (some k) := by
  rcases h with ⟨hk, f, h1, h2⟩ | ⟨hk, h1, h2, h3, ad2, r, i, h4, h5, h6, h7, h8, h9, w', p, h10, h11, h12⟩
  · exact .inl ⟨hk, f, h1, hp.fault h2⟩
  · refine .inr ⟨hk, by rw [h1, e2], by rw [h2, e3], fun l hl => by rw [h3 l hl, e5 l hl], ad ++ ad2, r, i, by rw [h4, e1, List.append_assoc], by rw [h5, e4, List.map_append, List.append_assoc], ?_, fun e he => ?_, h8, h9, w', p, hp.trans h10, h11, h12⟩
    · rw [List.getLast?_append, h6]; rfl
    · rcases List.mem_append.mp he with z | z
      · exact e6 e z
      · exact h7 e z
theorem sim_try (F : Fit ps) {k : Str} {X Y : Rln} (hg : ps[a]? = some rTry) (hgm : ps[m]? = some [k]) (hk : k = "finally" ∨ k = "rescue") (hsm : stk ps m = stk ps a ++ [a]) (O : Opn ps a e) (hm : m < e) (sX : Sim ps tr len X (a + 1) m) (sY : Sim ps tr len Y (m + 1) e) : Sim ps tr len (tryR k X Y) a (e + 1) := by
  rintro S o S' l w C Fr W ⟨o1, S1, l1, hX, h⟩
  have ha := lt_of_get hg
  have ew : wdA ps a = "try" := wdA_get hg
  have em : wdA ps m = k := wdA_get hgm
  have s1 : stk ps (a + 1) = stk ps a ++ [a] := stk_open hg (by decide)
  have nr : wdA ps a ≠ "retry" := by rw [ew]; decide
  have ne : wdA ps a ≠ "each" := by rw [ew]; decide
  have le := O.le
  have hlm : (stk ps m).getLast? = some a := by rw [hsm, List.getLast?_concat]
  have am : a < m := (stk_last (Nat.le_of_lt (lt_of_get hgm)) hlm).2.1
  have hmid : midA ps a = some m := (midA_iff F).mpr ⟨lt_of_get hgm, by rw [em]; exact kind_mid hk, hlm⟩
  have sm1 : stk ps (m + 1) = stk ps a ++ [a] := by rw [stk_midd hgm (kind_mid hk), hsm]
  have hd : DefN ps (numS ps a S.tries) (stk ps a) := numS_def C.tl
  have en1 : numS ps (a + 1) S.tries = numS ps a S.tries := numS_in s1 nr
  have enm : ∀ T, numS ps (m + 1) T = numS ps a T := fun T => numS_in sm1 nr
  have grd1 : ∀ i, a + 1 ≤ i → i < m → grd ps i a = true := fun i h1 h2 => grd_iff.mpr ⟨m, hmid, by omega, h2⟩
  have grd2 : ∀ i, (i ≤ a ∨ m ≤ i) → grd ps i a = false := fun i h => by
    cases c : grd ps i a with
    | false => rfl
    | true =>
      obtain ⟨m2, q1, q2, q3⟩ := grd_iff.mp c
      rw [hmid] at q1; cases q1
      omega
  have W1 := W.next ha (step_no ew (.inl rfl)) (by rw [ew]; decide) (by rw [ew]; decide) (lastIn_not (by rw [ew]; decide))
  have OX := sX S o1 S1 l1 w (C.inn s1 nr ne) (Fr.sub (Nat.le_succ _) (by omega) rfl) (by rw [en1]; exact W1) hX
  rw [en1] at OX
  have hitY : ∀ (i : Nat) (evs : List Ev) (kd : Str), m + 1 ≤ i → hit ps tr (numS ps a S.tries) evs kd i a = some none := fun i evs kd hi => by
    unfold hit
    rw [if_pos ew, hmid]
    dsimp only
    rw [if_neg (fun z => by rw [grd2 i (.inr (by omega))] at z; cases z.1)]
  rcases h with ⟨hn, rfl, rfl, rfl⟩ | ⟨hy, o2, S2, l2, hY, rfl, rfl, rfl⟩
  · cases l with
    | none =>
      have hk2 : k = "rescue" := hk.resolve_left fun z => hn ⟨by simp, .inl z⟩
      obtain ⟨e1, e2, e3, e4, e5, w1, P1, W2⟩ := OX
      exact ⟨e1, e2, e3, e4, fun x hx => e5 x (fun z => hx ⟨by omega, by omega⟩), w1, P1, W2.jump (lt_of_get hgm) (.inr (em.trans hk2)) hlm O.fin⟩
    | some kd =>
      refine OX.exit F s1 (fun i evs h1 h2 hkd => ?_) LeN.refl hd (Nat.le_succ _) (by omega) (Nat.le_of_lt ha) rfl rfl (fun _ _ => rfl) rfl rfl (fun _ => rfl) rfl rfl rfl rfl rfl (fun x y => ⟨x, y⟩)
      have hr : kd = "return" := by
        rcases hkd with z | z | z
        · exact absurd ⟨by rw [z]; decide, .inr (.inr (by rw [z]))⟩ hn
        · exact absurd ⟨by rw [z]; decide, .inr (.inl (by rw [z]))⟩ hn
        · exact z
      unfold hit
      rw [if_pos ew, hmid]
      dsimp only
      rw [if_neg]
      rintro ⟨_, z | z⟩
      · exact z hr
      · rw [em] at z
        exact hn ⟨by rw [hr]; decide, .inl z⟩
  · have runY : ∀ w1, S1.tries = S.tries → Ctx ps (m + 1) S1 → Fresh S1 (m + 1) e → WAt ps tr (numS ps a S.tries) ⟨m + 1, 0, S1.evs⟩ S1 w1 → Out ps tr len (numS ps a S.tries) (m + 1) e S1 w1 o2 S' l2 := fun w1 et C1 F1 Wm => by
      have := sY S1 o2 S' l2 w1 C1 F1 (by rw [enm, et]; exact Wm) hY
      rwa [enm, et] at this
    cases l1 with
    | none =>
      have hk2 : k = "finally" := by
        rcases hy.2 with z | z | z
        · exact z
        · cases z
        · cases z
      obtain ⟨e1, e2, e3, e4, e5, w1, P1, W2⟩ := OX
      have W3 := W2.next (lt_of_get hgm) (step_no em (.inr (.inr hk2))) (by rw [em, hk2]; decide) (by rw [em, hk2]; decide) (lastIn_not (by rw [em, hk2]; decide))
      have C1 : Ctx ps (m + 1) S1 := (C.same rfl e1 e2 e3 e4).inn sm1 nr ne
      have OY := runY w1 e2 C1 (Fr.sub (by omega) (by omega) e1) (by rw [e1]; exact W3)
      have e5' : ∀ x, ¬ (a ≤ x ∧ x < e + 1) → S1.rd x = S.rd x := fun x hx => e5 x fun z => hx ⟨by omega, by omega⟩
      cases l2 with
      | none =>
        obtain ⟨g1, g2, g3, g4, g5, w2, P2, W4⟩ := OY
        refine ⟨g1.trans e1, g2.trans e2, g3.trans e3, g4.trans e4, fun x hx => (g5 x (fun z => hx ⟨by omega, by omega⟩)).trans (e5' x hx), w2, P1.trans P2, ?_⟩
        rw [e1] at W4
        exact W4.close O ne (lastIn_fresh O.last fun x hx => grd2 _ (by have := Fr x hx; omega))
      | some kd =>
        have := OY.exit (S := S1) F sm1 (fun i evs h1 h2 _ => hitY i evs kd h1) LeN.refl hd (by omega) (Nat.le_succ _) (Nat.le_of_lt ha) rfl rfl (fun _ _ => rfl) rfl rfl (fun _ => rfl) rfl rfl rfl rfl rfl (fun x y => ⟨x, y⟩)
        exact this.pre (Nat.le_refl _) rfl P1 e1 e2 e3 e4 e5'
    | some kd =>
      rcases OX with ⟨z, _⟩ | ⟨hkd, h1, h2, h3, ad, r, i, h4, h5, h6, h7, h8, h9, w1, p, P1, h11, W2⟩
      · exact absurd (congrArg some z) hy.1
      rw [s1, List.reverse_append] at h11
      have h11 : leaveC ps tr (numS ps a S.tries) S1.evs kd i (a :: (stk ps a).reverse) = some p := h11
      have hh : hit ps tr (numS ps a S.tries) S1.evs kd i a = some (some ⟨m + 1, 0, S1.evs⟩) := by
        unfold hit
        rw [if_pos ew, hmid]
        dsimp only
        rw [if_pos]
        refine ⟨grd1 i h8 h9, ?_⟩
        rcases hy.2 with z | z | z
        · exact .inr (em.trans z)
        · exact .inl (by cases z; decide)
        · exact .inl (by cases z; decide)
      rw [leaveC_cons, hh] at h11
      cases h11
      have C1 : Ctx ps (m + 1) S1 := ⟨by rw [filt_in sm1 nr, h1]; exact C.tl, by rw [each_in sm1 ne, h2]; exact C.lp, by rw [h4, h5, C.ls, List.map_append], fun x hx => by
        rw [h4] at hx
        rcases List.mem_append.mp hx with z | z
        · exact C.er x z
        · have := h7 x z; omega⟩
      have F1 : Fresh S1 (m + 1) e := fun x hx z => by
        rw [h4] at hx
        rcases List.mem_append.mp hx with y | y
        · exact Fr x y ⟨by omega, by omega⟩
        · have := h7 x y; omega
      have OY := runY w1 h1 C1 F1 W2
      have e5' : ∀ x, ¬ (a ≤ x ∧ x < e + 1) → S1.rd x = S.rd x := fun x hx => h3 x fun z => hx ⟨by omega, by omega⟩
      cases l2 with
      | none =>
        obtain ⟨g1, g2, g3, g4, g5, w2, P2, W4⟩ := OY
        have hl : S1.evs.getLast? = some (kd, r) := by rw [h4, List.getLast?_append, h6]; rfl
        have hr := h7 (kd, r) (List.mem_of_getLast? h6)
        obtain ⟨p2, q1, W5⟩ := W4.leave le (lastIn_yes O.wd O.last ew hl (grd1 r hr.1 hr.2))
        exact .inr ⟨hkd, g2.trans h1, g3.trans h2, fun x hx => (g5 x (fun z => hx ⟨by omega, by omega⟩)).trans (e5' x hx), ad, r, a, g1.trans h4, g4.trans h5, h6, fun x hx => by have := h7 x hx; omega, Nat.le_refl _, by omega, w2, p2, P1.trans P2, by rw [g1]; exact q1, W5⟩
      | some kd2 =>
        have := OY.exit (S := S1) F sm1 (fun i evs h1 h2 _ => hitY i evs kd2 h1) LeN.refl hd (by omega) (Nat.le_succ _) (Nat.le_of_lt ha) rfl rfl (fun _ _ => rfl) rfl rfl (fun _ => rfl) rfl rfl rfl rfl rfl (fun x y => ⟨x, y⟩)
        exact this.more P1 h4 h1 h2 h5 e5' (fun x hx => by have := h7 x hx; omega)
theorem maybe_step (F : Fit ps) {mv : Str} {t : Nat} (hg : ps[a]? = some rMay) (C : Ctx ps a S) (W : WAt ps tr (numS ps a S.tries) ⟨a, 0, S.evs⟩ S w) (hmv : mv ∈ (["no", "yes"] : List Str)) (ht : tgtA ps a mv = some t) (htn : t ≤ ps.length) (hdt : DefN ps (numS ps a S.tries) (stk ps t)) (het : eachA ps t = eachA ps a) :
    ∃ w1, Path ps tr len w [S.ob ps.length a ["no", "yes"] mv] w1 ∧ WAt ps tr (numS ps a S.tries) ⟨t, 0, S.evs⟩ S w1 := by
  have ha := lt_of_get hg
  have ew : wdA ps a = "maybe" := wdA_get hg
  have nr : wdA ps a ≠ "retry" := by rw [ew]; decide
  have sta : stepA ps a = true := by unfold stepA; rw [ew, if_neg (by decide)]; decide
  obtain ⟨r1, r2, r3⟩ := W.here ha sta
  have ta := tries_here (evs := S.evs) (ag := 0) F (Nat.le_of_lt ha) C.tl nr
  have enw : numW ps w = numS ps a S.tries := numW_here nr r1 (r3.trans ta)
  have hm : movesA ps len w = ([("no" : Str), "yes"] : List Str) := by
    unfold movesA movesR
    rw [r1, if_neg (by omega), ew, if_neg (by decide), if_neg (by decide), if_pos rfl]
  have see := sees_of (len := len) F W ha sta C.lp C.ls ta hm hmv
  have ng : mv ≠ "go" ∧ mv ≠ "item" ∧ ¬ (mv = "cut" ∨ mv = "fail") := by
    simp only [List.mem_cons, List.not_mem_nil, or_false] at hmv
    rcases hmv with rfl | rfl <;> decide
  obtain ⟨w1, hs1, W1⟩ := step_to (p := ⟨t, 0, S.evs⟩) (num := numS ps a S.tries) (S' := S) (mv := mv) F (by
    unfold startP
    rw [if_neg ng.2.2, r1, if_neg (by rw [ew]; decide), ht, r2]; rfl) htn hdt (by rw [enw]; exact LeN.refl) (fun x hx => by
    unfold doneW
    rw [if_neg (fun q => ng.2.1 q.1), if_neg (fun q => ng.2.1 q.1), W.look F]
    rw [r1, r2]
    dsimp only at hx
    rwa [het] at hx) (by rw [if_neg ng.1]; exact W.mark) (by rw [if_neg ng.1]; exact W.owed) (by rw [if_neg ng.1]; exact W.asked) (by rw [if_neg ng.1]; exact W.taken)
  exact ⟨w1, .cons see (by show faultA ps w mv = none; unfold faultA; rw [if_neg ng.1]) hs1 (.nil _), W1⟩
theorem hit_maybe (ew : wdA ps a = "maybe") : hit ps tr num evs kd i a = some none := by
  unfold hit
  rw [ew, if_neg (by decide), if_neg (fun z => absurd z.1 (by decide))]
theorem tgt_yes : tgtA ps a "yes" = some (a + 1) := by
  unfold tgtA
  rw [if_neg (by decide), if_neg (by decide), if_neg (by decide)]
theorem tgt_no : tgtA ps a "no" = match midA ps a with
    | none => (finA ps a).map (· + 1)
    | some k => some (k + 1) := by
  unfold tgtA
  rw [if_neg (by decide), if_neg (by decide), if_pos rfl]
  all_goals rfl
theorem part_run (F : Fit ps) {R : Rln} {t t2 : Nat} (ew : wdA ps a = "maybe") (hat : a ≤ t) (ht2 : t2 ≤ e) (han : a ≤ ps.length) (hs : stk ps t = stk ps a ++ [a]) (sR : Sim ps tr len R t t2) (C : Ctx ps a S) (Fr : Fresh S a (e + 1)) (W : WAt ps tr (numS ps a S.tries) ⟨t, 0, S.evs⟩ S w1) (hR : R S o S' l)
    (hE : ∀ w2, WAt ps tr (numS ps a S.tries) ⟨t2, 0, S.evs⟩ S' w2 → WAt ps tr (numS ps a S.tries) ⟨e + 1, 0, S.evs⟩ S' w2) : Out ps tr len (numS ps a S.tries) a (e + 1) S w1 o S' l := by
  have nr : wdA ps a ≠ "retry" := by rw [ew]; decide
  have ne : wdA ps a ≠ "each" := by rw [ew]; decide
  have en : numS ps t S.tries = numS ps a S.tries := numS_in hs nr
  have OR := sR S o S' l w1 (C.inn hs nr ne) (Fr.sub hat (by omega) rfl) (by rw [en]; exact W) hR
  rw [en] at OR
  cases l with
  | none =>
    obtain ⟨e1, e2, e3, e4, e5, w2, P2, W2⟩ := OR
    exact ⟨e1, e2, e3, e4, fun x hx => e5 x (fun z => hx ⟨by omega, by omega⟩), w2, P2, hE w2 W2⟩
  | some kd => exact OR.exit F hs (fun i evs _ _ _ => hit_maybe ew) LeN.refl (numS_def C.tl) hat (by omega) han rfl rfl (fun _ _ => rfl) rfl rfl (fun _ => rfl) rfl rfl rfl rfl rfl (fun x y => ⟨x, y⟩)
theorem def_in (hs : stk ps b = stk ps a ++ [a]) (nr : wdA ps a ≠ "retry") (hd : DefN ps num (stk ps a)) : DefN ps num (stk ps b) := by
  rw [hs]
  exact hd.sub fun x hx => by
    rcases List.mem_append.mp hx with q | q
    · exact .inl q
    · exact .inr (by rw [List.mem_singleton.mp q]; exact nr)
theorem sim_me (F : Fit ps) {X Y : Rln} (hg : ps[a]? = some rMay) (hgm : ps[m]? = some rElse) (hsm : stk ps m = stk ps a ++ [a]) (O : Opn ps a e) (hm : m < e) (sX : Sim ps tr len X (a + 1) m) (sY : Sim ps tr len Y (m + 1) e) : Sim ps tr len (maybeR ps.length a X Y) a (e + 1) := by
  have ha := lt_of_get hg
  have ew : wdA ps a = "maybe" := wdA_get hg
  have em : wdA ps m = "else" := wdA_get hgm
  have nr : wdA ps a ≠ "retry" := by rw [ew]; decide
  have ne : wdA ps a ≠ "each" := by rw [ew]; decide
  have s1 : stk ps (a + 1) = stk ps a ++ [a] := stk_open hg (by decide)
  have hlm : (stk ps m).getLast? = some a := by rw [hsm, List.getLast?_concat]
  have am : a < m := (stk_last (Nat.le_of_lt (lt_of_get hgm)) hlm).2.1
  have hmid : midA ps a = some m := (midA_iff F).mpr ⟨lt_of_get hgm, by rw [em]; decide, hlm⟩
  have sm1 : stk ps (m + 1) = stk ps a ++ [a] := by rw [stk_midd hgm (by decide), hsm]
  have le := O.le
  rintro S o S' l w C Fr W ⟨o1, ⟨rfl, h⟩ | ⟨rfl, h⟩⟩
  · obtain ⟨w1, P1, W1⟩ := maybe_step (len := len) F hg C W (mv := "yes") (by simp) tgt_yes (by omega) (def_in s1 nr (numS_def C.tl)) (each_in s1 ne)
    have := part_run (e := e) F ew (Nat.le_succ _) (by omega) (Nat.le_of_lt ha) s1 sX C Fr W1 h fun w2 W2 => W2.jump (lt_of_get hgm) (.inl em) hlm O.fin
    exact this.pre (o1 := [_]) (Nat.le_refl _) rfl P1 rfl rfl rfl rfl fun _ _ => rfl
  · obtain ⟨w1, P1, W1⟩ := maybe_step (len := len) F hg C W (mv := "no") (by simp) (by rw [tgt_no, hmid]) (by omega) (def_in sm1 nr (numS_def C.tl)) (each_in sm1 ne)
    have := part_run (e := e) F ew (by omega) (by omega) (Nat.le_of_lt ha) sm1 sY C Fr W1 h fun w2 W2 => W2.close O ne (lastIn_other O.last (by rw [ew]; decide))
    exact this.pre (o1 := [_]) (Nat.le_refl _) rfl P1 rfl rfl rfl rfl fun _ _ => rfl
theorem sim_mb (F : Fit ps) {X : Rln} (hg : ps[a]? = some rMay) (hmid : midA ps a = none) (O : Opn ps a e) (sX : Sim ps tr len X (a + 1) e) : Sim ps tr len (maybeR ps.length a X doneR) a (e + 1) := by
  have ha := lt_of_get hg
  have ew : wdA ps a = "maybe" := wdA_get hg
  have nr : wdA ps a ≠ "retry" := by rw [ew]; decide
  have ne : wdA ps a ≠ "each" := by rw [ew]; decide
  have s1 : stk ps (a + 1) = stk ps a ++ [a] := stk_open hg (by decide)
  have le := O.le
  have lt := O.lt
  rintro S o S' l w C Fr W ⟨o1, ⟨rfl, h⟩ | ⟨rfl, h⟩⟩
  · obtain ⟨w1, P1, W1⟩ := maybe_step (len := len) F hg C W (mv := "yes") (by simp) tgt_yes (by omega) (def_in s1 nr (numS_def C.tl)) (each_in s1 ne)
    have := part_run (e := e) F ew (Nat.le_succ _) (Nat.le_refl _) (Nat.le_of_lt ha) s1 sX C Fr W1 h fun w2 W2 => W2.close O ne (lastIn_other O.last (by rw [ew]; decide))
    exact this.pre (o1 := [_]) (Nat.le_refl _) rfl P1 rfl rfl rfl rfl fun _ _ => rfl
  · obtain ⟨w1, P1, W1⟩ := maybe_step (len := len) F hg C W (mv := "no") (by simp) (by rw [tgt_no, hmid, O.fin]; rfl) le (by rw [O.s1]; exact numS_def C.tl) (each_eq O.s1)
    obtain ⟨rfl, rfl, rfl⟩ := h
    exact ⟨rfl, rfl, rfl, rfl, fun _ _ => rfl, w1, P1, W1⟩
theorem mid_inner (F : Fit ps) : ∀ (n : Ns) {a : Nat}, n.Wf → Ns.Lay ps a n → a ≤ ps.length → ∀ i, a ≤ i → i < a + n.sz → wdA ps i ∈ MIDW → ∃ b, a ≤ b ∧ (stk ps i).getLast? = some b
  | .nil, a, _, _, _, i, h1, h2, _ => by simp only [Ns.sz] at h2; omega
  | .row w r, a, wf, l, h, i, h1, h2, hw => by
    by_cases z : i = a
    · subst z
      rw [wdA_get l.1] at hw
      exact absurd hw (plain_not wf.1).2.1
    · obtain ⟨b, q1, q2⟩ := mid_inner F r wf.2 l.2 (lt_of_get l.1) i (by omega) (by simp only [Ns.sz] at h2; omega) hw
      exact ⟨b, by omega, q2⟩
  | .tr x k y r, a, wf, l, h, i, h1, h2, hw => by
    obtain ⟨l1, l2, l3, l4, l5, l6⟩ := l
    simp only [Ns.sz] at h2
    by_cases z : i = a
    · subst z
      rw [wdA_get l1] at hw
      exact absurd hw (by decide)
    by_cases z1 : i < a + 1 + x.sz
    · obtain ⟨b, q1, q2⟩ := mid_inner F x wf.2.1 l2 (lt_of_get l1) i (by omega) z1 hw
      exact ⟨b, by omega, q2⟩
    by_cases z2 : i = a + 1 + x.sz
    · refine ⟨a, Nat.le_refl _, ?_⟩
      rw [z2, (stk_lay F x wf.2.1 l2 (lt_of_get l1)).1, stk_open l1 (by decide), List.getLast?_concat]
    by_cases z3 : i < a + 1 + x.sz + 1 + y.sz
    · obtain ⟨b, q1, q2⟩ := mid_inner F y wf.2.2.1 l4 (lt_of_get l3) i (by omega) z3 hw
      exact ⟨b, by omega, q2⟩
    by_cases z4 : i = a + 1 + x.sz + 1 + y.sz
    · rw [z4, wdA_get l5] at hw
      exact absurd hw (by decide)
    · obtain ⟨b, q1, q2⟩ := mid_inner F r wf.2.2.2 l6 (lt_of_get l5) i (by omega) (by omega) hw
      exact ⟨b, by omega, q2⟩
  | .me x y r, a, wf, l, h, i, h1, h2, hw => by
    obtain ⟨l1, l2, l3, l4, l5, l6⟩ := l
    simp only [Ns.sz] at h2
    by_cases z : i = a
    · subst z
      rw [wdA_get l1] at hw
      exact absurd hw (by decide)
    by_cases z1 : i < a + 1 + x.sz
    · obtain ⟨b, q1, q2⟩ := mid_inner F x wf.1 l2 (lt_of_get l1) i (by omega) z1 hw
      exact ⟨b, by omega, q2⟩
    by_cases z2 : i = a + 1 + x.sz
    · refine ⟨a, Nat.le_refl _, ?_⟩
      rw [z2, (stk_lay F x wf.1 l2 (lt_of_get l1)).1, stk_open l1 (by decide), List.getLast?_concat]
    by_cases z3 : i < a + 1 + x.sz + 1 + y.sz
    · obtain ⟨b, q1, q2⟩ := mid_inner F y wf.2.1 l4 (lt_of_get l3) i (by omega) z3 hw
      exact ⟨b, by omega, q2⟩
    by_cases z4 : i = a + 1 + x.sz + 1 + y.sz
    · rw [z4, wdA_get l5] at hw
      exact absurd hw (by decide)
    · obtain ⟨b, q1, q2⟩ := mid_inner F r wf.2.2 l6 (lt_of_get l5) i (by omega) (by omega) hw
      exact ⟨b, by omega, q2⟩
  | .mb x r, a, wf, l, h, i, h1, h2, hw => by
    obtain ⟨l1, l2, l3, l4⟩ := l
    simp only [Ns.sz] at h2
    by_cases z : i = a
    · subst z
      rw [wdA_get l1] at hw
      exact absurd hw (by decide)
    by_cases z1 : i < a + 1 + x.sz
    · obtain ⟨b, q1, q2⟩ := mid_inner F x wf.1 l2 (lt_of_get l1) i (by omega) z1 hw
      exact ⟨b, by omega, q2⟩
    by_cases z2 : i = a + 1 + x.sz
    · rw [z2, wdA_get l3] at hw
      exact absurd hw (by decide)
    · obtain ⟨b, q1, q2⟩ := mid_inner F r wf.2 l4 (lt_of_get l3) i (by omega) (by omega) hw
      exact ⟨b, by omega, q2⟩
  | .bl w v x r, a, wf, l, h, i, h1, h2, hw => by
    obtain ⟨l1, l2, l3, l4⟩ := l
    simp only [Ns.sz] at h2
    by_cases z : i = a
    · subst z
      rw [wdA_get l1, hdB_hd] at hw
      exact absurd hw (Rd.open_mid (bl_open wf.1))
    by_cases z1 : i < a + 1 + x.sz
    · obtain ⟨b, q1, q2⟩ := mid_inner F x wf.2.1 l2 (lt_of_get l1) i (by omega) z1 hw
      exact ⟨b, by omega, q2⟩
    by_cases z2 : i = a + 1 + x.sz
    · rw [z2, wdA_get l3] at hw
      exact absurd hw (by decide)
    · obtain ⟨b, q1, q2⟩ := mid_inner F r wf.2.2 l4 (lt_of_get l3) i (by omega) (by omega) hw
      exact ⟨b, by omega, q2⟩
theorem shA_in (h : stk ps b = stk ps a ++ [a]) : shA ps b = (shA ps a || decide (wdA ps a = "shield")) := by
  unfold shA
  rw [h, List.any_append, List.any_cons, List.any_nil, Bool.or_false]
theorem shA_eq (h : stk ps b = stk ps a) : shA ps b = shA ps a := by unfold shA; rw [h]
theorem sim (F : Fit ps) {ln ct : Str → Nat} (hl : ∀ a ws, ps[a]? = some ws → len a = ln (ws.getD 1 "")) (ht : ∀ a ws, ps[a]? = some ws → hdW ws = "retry" → tr a = ct (ws.getD 1 "")) :
    ∀ (n : Ns) (a : Nat) (sh : Bool), n.Wf → Ns.Lay ps a n → a ≤ ps.length → shA ps a = sh → Sim ps tr len (runN ps.length ln ct n sh a) a (a + n.sz)
  | .nil, a, sh, _, _, _, _ => sim_done rfl
  | .row w r, a, sh, wf, l, h, hs => by
    have e1 := stk_plain l.1 wf.1
    rw [show a + (Ns.row w r).sz = a + 1 + r.sz by simp only [Ns.sz]; omega]
    exact sim_seq (sim_plain F l.1 wf.1 hs) (sim F hl ht r (a + 1) sh wf.2 l.2 (lt_of_get l.1) (by rw [shA_eq e1]; exact hs)) e1 (by omega) (by omega)
  | .tr x k y r, a, sh, wf, l, h, hs => by
    obtain ⟨l1, l2, l3, l4, l5, l6⟩ := l
    have s1 := stk_open l1 (by decide)
    have sm := (stk_lay F x wf.2.1 l2 (lt_of_get l1)).1.trans s1
    have sm1 := (stk_midd l3 (kind_mid wf.1)).trans sm
    have O := opn_of F l5 ((stk_lay F y wf.2.2.1 l4 (lt_of_get l3)).1.trans sm1)
    have hsh : decide (wdA ps a = "shield") = false := by rw [wdA_get l1]; decide
    rw [show a + (Ns.tr x k y r).sz = a + 1 + x.sz + 1 + y.sz + 1 + r.sz by simp only [Ns.sz]; omega]
    exact sim_seq (sim_try F l1 l3 wf.1 sm O (by omega) (sim F hl ht x _ sh wf.2.1 l2 (lt_of_get l1) (by rw [shA_in s1, hsh, Bool.or_false]; exact hs)) (sim F hl ht y _ sh wf.2.2.1 l4 (lt_of_get l3) (by rw [shA_in sm1, hsh, Bool.or_false]; exact hs)))
      (sim F hl ht r _ sh wf.2.2.2 l6 (lt_of_get l5) (by rw [shA_eq O.s1]; exact hs)) O.s1 (by omega) (by omega)
  | .me x y r, a, sh, wf, l, h, hs => by
    obtain ⟨l1, l2, l3, l4, l5, l6⟩ := l
    have s1 := stk_open l1 (by decide)
    have sm := (stk_lay F x wf.1 l2 (lt_of_get l1)).1.trans s1
    have sm1 := (stk_midd l3 (by decide)).trans sm
    have O := opn_of F l5 ((stk_lay F y wf.2.1 l4 (lt_of_get l3)).1.trans sm1)
    have hsh : decide (wdA ps a = "shield") = false := by rw [wdA_get l1]; decide
    rw [show a + (Ns.me x y r).sz = a + 1 + x.sz + 1 + y.sz + 1 + r.sz by simp only [Ns.sz]; omega]
    exact sim_seq (sim_me F l1 l3 sm O (by omega) (sim F hl ht x _ sh wf.1 l2 (lt_of_get l1) (by rw [shA_in s1, hsh, Bool.or_false]; exact hs)) (sim F hl ht y _ sh wf.2.1 l4 (lt_of_get l3) (by rw [shA_in sm1, hsh, Bool.or_false]; exact hs)))
      (sim F hl ht r _ sh wf.2.2 l6 (lt_of_get l5) (by rw [shA_eq O.s1]; exact hs)) O.s1 (by omega) (by omega)
  | .mb x r, a, sh, wf, l, h, hs => by
    obtain ⟨l1, l2, l3, l4⟩ := l
    have s1 := stk_open l1 (by decide)
    have O := opn_of F l3 ((stk_lay F x wf.1 l2 (lt_of_get l1)).1.trans s1)
    have hsh : decide (wdA ps a = "shield") = false := by rw [wdA_get l1]; decide
    have hm : midA ps a = none := by
      cases c : midA ps a with
      | none => rfl
      | some m =>
        obtain ⟨q1, q2, q3⟩ := (midA_iff F).mp c
        have q4 := mid_lt_fin F c O.fin
        have q5 := (mid_word F c).1
        obtain ⟨b, q6, q7⟩ := mid_inner F x wf.1 l2 (lt_of_get l1) m (by omega) (by omega) q2
        rw [q3] at q7; cases q7
        omega
    rw [show a + (Ns.mb x r).sz = a + 1 + x.sz + 1 + r.sz by simp only [Ns.sz]; omega]
    exact sim_seq (sim_mb F l1 hm O (sim F hl ht x _ sh wf.1 l2 (lt_of_get l1) (by rw [shA_in s1, hsh, Bool.or_false]; exact hs))) (sim F hl ht r _ sh wf.2 l4 (lt_of_get l3) (by rw [shA_eq O.s1]; exact hs)) O.s1 (by omega) (by omega)
  | .bl w v x r, a, sh, wf, l, h, hs => by
    obtain ⟨l1, l2, l3, l4⟩ := l
    have s1 := stk_open l1 (by rw [hdB_hd]; exact bl_open wf.1)
    have O := opn_of F l3 ((stk_lay F x wf.2.1 l2 (lt_of_get l1)).1.trans s1)
    have ew : wdA ps a = w := by rw [wdA_get l1, hdB_hd]
    rw [show a + (Ns.bl w v x r).sz = a + 1 + x.sz + 1 + r.sz by simp only [Ns.sz]; omega]
    refine sim_seq ?_ (sim F hl ht r _ sh wf.2.2 l4 (lt_of_get l3) (by rw [shA_eq O.s1]; exact hs)) O.s1 (by omega) (by omega)
    rcases wf.1 with rfl | rfl | rfl
    · rw [if_pos rfl]
      exact sim_loop F l1 hdB_hd (by rw [hl a _ l1]; rfl) O (sim F hl ht x _ sh wf.2.1 l2 (lt_of_get l1) (by rw [shA_in s1, ew, show decide (("each" : Str) = "shield") = false by decide, Bool.or_false]; exact hs))
    · rw [if_neg (by decide), if_pos rfl]
      exact sim_retry F l1 hdB_hd (by rw [ht a _ l1 hdB_hd]; rfl) O (sim F hl ht x _ sh wf.2.1 l2 (lt_of_get l1) (by rw [shA_in s1, ew, show decide (("retry" : Str) = "shield") = false by decide, Bool.or_false]; exact hs))
    · rw [if_neg (by decide), if_neg (by decide)]
      exact sim_shield F l1 O (sim F hl ht x _ true wf.2.1 l2 (lt_of_get l1) (by rw [shA_in s1, ew, show decide (("shield" : Str) = "shield") = true by decide, Bool.or_true]))
end
end Av

set_option Elab.async false
set_option linter.all false
set_option maxRecDepth 100000
set_option maxHeartbeats 4000000
namespace Av
open PySem PySem.Spec PyProof.Rows L2 My
namespace Ns
end Ns

section
variable {N lo hi mo se lo1 hi1 mo1 se1 lo2 hi2 mo2 se2 a e : Nat} {S S1 S2 S' : IS} {o o1 o2 : List Ob} {l l1 l2 : Option Str} {R A B : Rln}
end
end Av

set_option Elab.async false
set_option linter.all false
set_option maxRecDepth 100000
set_option maxHeartbeats 4000000
namespace Av
open PySem PySem.Spec PyProof.Rows L2 My
structure Ends (ps : List (List Str)) (S : IS) (w : WS) : Prop where
  row : w.row = ps.length
  tries : w.tries = []
  evs : w.evs = S.evs
  mark : w.mark = S.mark
  owed : w.owed = S.owed
  asked : w.asked = S.asked
  taken : w.taken = S.taken
  done : w.rounds = S.done ps.length
def Rest (ps : List (List Str)) (tr len : Nat → Nat) (os : List Ob) (w : WS) (S : IS) : Prop := (∃ f, S.fault = some f ∧ PathF ps tr len w os f) ∨ (S.fault = none ∧ ∃ w', Path ps tr len w os w' ∧ Ends ps S w')
section
variable {ps : List (List Str)} {tr len : Nat → Nat} {num : NumA} {p q : Place} {w w' : WS} {S S' : IS} {o : Ob} {os : List Ob} {m : Str} {l : Option Str}
theorem stk_len (F : Fit ps) : stk ps ps.length = [] := stk_end F (Nat.le_refl _)
theorem each_len (F : Fit ps) : eachA ps ps.length = none := by unfold eachA; rw [stk_len F]; rfl
theorem each_zero : eachA ps 0 = none := by unfold eachA; rw [stk_zero]; rfl
theorem lv_nil {i : Nat} (h : eachA ps i = none) : lvA ps i [] = [] := by
  unfold lvA
  refine List.filter_eq_nil_iff.mpr fun l _ c => ?_
  have c := of_decide_eq_true c
  rw [h] at c
  simp at c
theorem settles_end (h : Settles ps tr num p q) (hp : p.row = ps.length) : q = p := by
  cases h with
  | stop _ _ => rfl
  | next h => omega
  | jump h => omega
  | leave h => omega
structure IsNew (S : IS) : Prop where
  loop : S.loop = none
  tries : S.tries = []
  evs : S.evs = []
  loops : S.loops = []
theorem whole (F : Fit ps) {ln ct : Str → Nat} (hl : ∀ a ws, ps[a]? = some ws → len a = ln (ws.getD 1 "")) (ht : ∀ a ws, ps[a]? = some ws → hdW ws = "retry" → tr a = ct (ws.getD 1 "")) {x : Ns} (wf : x.Wf) (hps : ps = x.rows)
    (hS : IsNew S) (hf : S.fault = none) (hn : ∀ b, num b = none) (hq : Settles ps tr num ⟨0, 0, []⟩ q) (e1 : w.row = q.row) (e2 : w.evs = q.evs) (e3 : w.tries = triesAt ps num q) (e4 : w.rounds = [])
    (e5 : w.mark = S.mark) (e6 : w.owed = S.owed) (e7 : w.asked = S.asked) (e8 : w.taken = S.taken) (ft : l ≠ some ("fault" : Str) → S'.fault = S.fault)
    (h : runN ps.length ln ct x false 0 S os S' l) : Rest ps tr len os w S' := by
  have hsz : x.sz = ps.length := by rw [hps, Ns.rows_len]
  have lay : Ns.Lay ps 0 x := Ns.lay_of x (pre := []) (post := []) (by rw [hps, List.append_nil]; rfl) rfl
  have sm := sim (tr := tr) (len := len) F hl ht x 0 false wf lay (Nat.zero_le _) (by unfold shA; rw [stk_zero]; rfl)
  rw [Nat.zero_add, hsz] at sm
  have en : numS ps 0 S.tries = num := by
    funext b
    unfold numS
    rw [hS.tries, hn b, stk_zero]; rfl
  have qe := settles_evs hq
  have qn : q.evs = [] := by
    cases e : q.evs with
    | nil => rfl
    | cons y r => exact absurd (qe y (by rw [e]; exact .head _)) (by simp)
  have hr : eachA ps q.row = none := by
    cases e : eachA ps q.row with
    | none => rfl
    | some z =>
      have := (settles_each F hq (Nat.zero_le _)).2 z e
      have this : eachA ps 0 = some z := this
      rw [each_zero] at this
      cases this
  have W : WAt ps tr (numS ps 0 S.tries) ⟨0, 0, S.evs⟩ S w := by
    rw [en, hS.evs]
    refine ⟨⟨q, hq, e1, e2, e3⟩, e5, e6, e7, e8, ?_⟩
    rw [e4, e1, e2, qn, lv_nil hr]; rfl
  have C : Ctx ps 0 S := ⟨by rw [hS.tries, stk_zero]; rfl, by rw [hS.loop, each_zero], by rw [hS.loops, hS.evs]; rfl, fun e he => by rw [hS.evs] at he; cases he⟩
  have O := sm S os S' l w C (fun e he => by rw [hS.evs] at he; cases he) W h
  have rn : retrA ps ps.length = [] := by
    unfold retrA
    rw [stk_len F, wdA_out (Nat.le_refl _)]; rfl
  have fin : ∀ {w' : WS} {p : Place} {num : NumA}, p.row = ps.length → p.evs = S'.evs → WAt ps tr num p S' w' → S'.loop = none → S'.loops = S'.evs.map (fun e => eachA ps e.2) → Ends ps S' w' := by
    rintro w' p num hp1 hp2 ⟨⟨q', k1, k2, k3, k4⟩, b1, b2, b3, b4, b5⟩ h1 h2
    cases settles_end k1 hp1
    refine ⟨k2.trans hp1, by rw [k4]; unfold triesAt; rw [hp1, rn]; rfl, k3.trans hp2, b1, b2, b3, b4, ?_⟩
    rw [b5, k2, hp1, k3, hp2]
    unfold IS.done lvA
    rw [h1, h2, each_len F]
  cases l with
  | none =>
    obtain ⟨h1, h2, h3, h4, h5, w', h6, h7⟩ := O
    refine .inr ⟨by rw [ft (fun z => by cases z), hf], w', h6, fin rfl h1.symm h7 (h3.trans hS.loop) ?_⟩
    rw [h4, hS.loops, h1, hS.evs]; rfl
  | some k =>
    rcases O with ⟨hk, f, h1, h2⟩ | ⟨hk, h1, h2, h3, ad, r, i, h4, h5, h6, h7, h8, h9, w', p, h10, h11, h12⟩
    · exact .inl ⟨f, h1, h2⟩
    · rw [stk_zero] at h11
      cases h11
      refine .inr ⟨by rw [ft (fun z => hk.no (Option.some.inj z)), hf], w', h10, fin rfl rfl h12 (h2.trans hS.loop) ?_⟩
      rw [h5, hS.loops, h4, hS.evs]; rfl
theorem Rest.cons (h : Rest ps tr len (o :: os) w S) : Sees ps len w o ∧ ((∃ f, faultA ps w o.move = some f ∧ os = [] ∧ S.fault = some f) ∨ (faultA ps w o.move = none ∧ ∃ w1, stepTo ps tr w o.move w1 ∧ Rest ps tr len os w1 S)) := by
  rcases h with ⟨f, hf, os1, w1, o1, e, hp, hs, hfa⟩ | ⟨hf, w', hp, hE⟩
  · cases hp with
    | nil =>
      rw [List.nil_append] at e
      cases e
      exact ⟨hs, .inl ⟨f, hfa, rfl, hf⟩⟩
    | cons a b c d =>
      rw [List.cons_append] at e
      cases e
      exact ⟨a, .inr ⟨b, _, c, .inl ⟨f, hf, _, _, o1, rfl, d, hs, hfa⟩⟩⟩
  · cases hp with
    | cons a b c d => exact ⟨a, .inr ⟨b, _, c, .inr ⟨hf, w', d, hE⟩⟩⟩
theorem Rest.nil (h : Rest ps tr len [] w S) : S.fault = none ∧ Ends ps S w := by
  rcases h with ⟨f, hf, os1, w1, o1, e, _⟩ | ⟨hf, w', hp, hE⟩
  · cases os1 <;> cases e
  · cases hp
    exact ⟨hf, hE⟩
theorem Rest.more (h : Rest ps tr len os w S) : decide (w.row < ps.length) = decide (0 < os.length) := by
  cases os with
  | nil =>
    have := h.nil.2.row
    rw [decide_eq_false (by omega), decide_eq_false (by simp)]
  | cons o os =>
    have := h.cons.1.n
    rw [decide_eq_true this, decide_eq_true (by simp)]
theorem Rest.evs {b : Nat} (h : Rest ps tr len os w S) (h1 : ∀ x ∈ os, x.evs.length ≤ b) (h2 : S.evs.length ≤ b) : w.evs.length ≤ b := by
  cases os with
  | nil => rw [h.nil.2.evs]; exact h2
  | cons o os => rw [← h.cons.1.evs]; exact h1 o (.head _)
end
end Av

set_option Elab.async false
set_option linter.all false
set_option maxRecDepth 100000
set_option maxHeartbeats 4000000
namespace Av
open PySem PySem.Spec PyProof.Rows L2 My
section
variable {ps : List (List Str)} {tr len : Nat → Nat} {num : NumA} {p q : Place} {w : WS} {m : Str} {evs : List Ev} {kd : Str} {b e : Nat}
end
end Av

set_option Elab.async false
set_option linter.all false
set_option maxRecDepth 100000
set_option maxHeartbeats 4000000
namespace Av
open PySem PySem.Spec PyProof.Rows L2 My
section
variable {ps : List (List Str)} {tr len : Nat → Nat} {w w' : WS} {m : Str} {o : Ob} {os : List Ob} {S : IS} {f : Str}
end
end Av

set_option Elab.async false
set_option linter.all false
set_option maxRecDepth 100000
set_option maxHeartbeats 4000000
namespace Av
open PySem PySem.Spec PyProof.Rows L2 My
section
variable {ps : List (List Str)} {tr len : Nat → Nat} {num : NumA} {evs : List Ev} {kd : Str} {p q : Place} {w w' : WS} {m : Str} {o : Ob} {os : List Ob} {S : IS}
end
end Av

set_option Elab.async false
set_option linter.all false
set_option maxRecDepth 100000
set_option maxHeartbeats 4000000
namespace Av
open PySem PySem.Spec PyProof.Rows L2 My
section
variable {N a e cnt tot : Nat} {R A B X Y body : Rln} {S S' : IS} {o o1 o2 : List Ob} {b : Ob} {k w : Str} {sh : Bool}
end
section
variable {ps : List (List Str)} {tr len : Nat → Nat} {w w' : WS} {os : List Ob} {S : IS}
end
end Av

set_option Elab.async false
set_option linter.all false
set_option maxRecDepth 100000
set_option maxHeartbeats 4000000
namespace Av
open PySem PySem.Spec PyProof.Rows L2 My
abbrev Stp := Nat × Str × Str
section
variable {N a e cnt tot : Nat} {R A B body : Rln} {s1 s2 st : List Stp} {w : Str} {sh : Bool}
end
end Av

set_option Elab.async false
set_option linter.all false
set_option maxRecDepth 100000
set_option maxHeartbeats 4000000
set_option exponentiation.threshold 2000
namespace V17
open PySem PySem.Spec PyProof.Rows L2 My Av
structure Tx (K : PySem.W.Frag) (mg : Str → Option Value) : Prop where
  ex : ∃ h : Heap, K.In h ∧ h.Ns mainGlobals mg
  c : My.SaysX fl fa fn fx K
section
variable {K : PySem.W.Frag} {mg : Str → Option Value}
theorem Tx.g__law_bag (T : Tx K mg) : mg "_law_bag" = some (.ref (He.ga K "_law_bag")) := by obtain ⟨h, X, G⟩ := T.ex; exact He.glo_ok X G (T.c.fact 0)
theorem Tx.k__law_bag (T : Tx K mg) : PySem.W.keepIn K (.ref (He.ga K "_law_bag")) = true := He.keep_ok (T.c.fact 1)
theorem Tx.g__law_take (T : Tx K mg) : mg "_law_take" = some (.ref (He.ga K "_law_take")) := by obtain ⟨h, X, G⟩ := T.ex; exact He.glo_ok X G (T.c.fact 2)
theorem Tx.k__law_take (T : Tx K mg) : PySem.W.keepIn K (.ref (He.ga K "_law_take")) = true := He.keep_ok (T.c.fact 3)
theorem Tx.g__law_of (T : Tx K mg) : mg "_law_of" = some (.ref (He.ga K "_law_of")) := by obtain ⟨h, X, G⟩ := T.ex; exact He.glo_ok X G (T.c.fact 4)
theorem Tx.k__law_of (T : Tx K mg) : PySem.W.keepIn K (.ref (He.ga K "_law_of")) = true := He.keep_ok (T.c.fact 5)
theorem Tx.g__law_number (T : Tx K mg) : mg "_law_number" = some (.ref (He.ga K "_law_number")) := by obtain ⟨h, X, G⟩ := T.ex; exact He.glo_ok X G (T.c.fact 6)
theorem Tx.k__law_number (T : Tx K mg) : PySem.W.keepIn K (.ref (He.ga K "_law_number")) = true := He.keep_ok (T.c.fact 7)
theorem Tx.g__law_fields (T : Tx K mg) : mg "_law_fields" = some (.ref (He.ga K "_law_fields")) := by obtain ⟨h, X, G⟩ := T.ex; exact He.glo_ok X G (T.c.fact 8)
theorem Tx.k__law_fields (T : Tx K mg) : PySem.W.keepIn K (.ref (He.ga K "_law_fields")) = true := He.keep_ok (T.c.fact 9)
theorem Tx.g__law_made (T : Tx K mg) : mg "_law_made" = some (.ref (He.ga K "_law_made")) := by obtain ⟨h, X, G⟩ := T.ex; exact He.glo_ok X G (T.c.fact 10)
theorem Tx.k__law_made (T : Tx K mg) : PySem.W.keepIn K (.ref (He.ga K "_law_made")) = true := He.keep_ok (T.c.fact 11)
theorem Tx.g__law_classes (T : Tx K mg) : mg "_law_classes" = some (.ref (He.ga K "_law_classes")) := by obtain ⟨h, X, G⟩ := T.ex; exact He.glo_ok X G (T.c.fact 12)
theorem Tx.k__law_classes (T : Tx K mg) : PySem.W.keepIn K (.ref (He.ga K "_law_classes")) = true := He.keep_ok (T.c.fact 13)
theorem Tx.g_law (T : Tx K mg) : mg "law" = some (.ref (He.ga K "law")) := by obtain ⟨h, X, G⟩ := T.ex; exact He.glo_ok X G (T.c.fact 14)
theorem Tx.n_len (T : Tx K mg) : mg "len" = none := by obtain ⟨h, X, G⟩ := T.ex; exact He.free_ok X G (T.c.fact 16)
theorem Tx.n_abs (T : Tx K mg) : mg "abs" = none := by obtain ⟨h, X, G⟩ := T.ex; exact He.free_ok X G (T.c.fact 17)
theorem Tx.n_int (T : Tx K mg) : mg "int" = none := by obtain ⟨h, X, G⟩ := T.ex; exact He.free_ok X G (T.c.fact 18)
theorem Tx.n_isinstance (T : Tx K mg) : mg "isinstance" = none := by obtain ⟨h, X, G⟩ := T.ex; exact He.free_ok X G (T.c.fact 19)
theorem Tx.n_range (T : Tx K mg) : mg "range" = none := by obtain ⟨h, X, G⟩ := T.ex; exact He.free_ok X G (T.c.fact 20)
theorem Tx.n_max (T : Tx K mg) : mg "max" = none := by obtain ⟨h, X, G⟩ := T.ex; exact He.free_ok X G (T.c.fact 21)
theorem Tx.n_min (T : Tx K mg) : mg "min" = none := by obtain ⟨h, X, G⟩ := T.ex; exact He.free_ok X G (T.c.fact 22)
theorem Tx.n_ValueError (T : Tx K mg) : mg "ValueError" = none := by obtain ⟨h, X, G⟩ := T.ex; exact He.free_ok X G (T.c.fact 23)
theorem Tx.g_OwedError (T : Tx K mg) : mg "OwedError" = some (.ref (He.ga K "OwedError")) := by obtain ⟨h, X, G⟩ := T.ex; exact He.glo_ok X G (T.c.fact 24)
theorem Tx.er_BadSymbol (T : Tx K mg) : My.ErrC K (He.ga K "BadSymbol") := My.errB_ok (T.c.fact 25)
theorem Tx.er_BadDomain (T : Tx K mg) : My.ErrC K (He.ga K "BadDomain") := My.errB_ok (T.c.fact 26)
theorem Tx.er_BadFunction (T : Tx K mg) : My.ErrC K (He.ga K "BadFunction") := My.errB_ok (T.c.fact 27)
theorem Tx.er_TooMany (T : Tx K mg) : My.ErrC K (He.ga K "TooMany") := My.errB_ok (T.c.fact 28)
theorem Tx.er_NotCut (T : Tx K mg) : My.ErrC K (He.ga K "NotCut") := My.errB_ok (T.c.fact 29)
theorem Tx.er_Amid (T : Tx K mg) : My.ErrC K (He.ga K "Amid") := My.errB_ok (T.c.fact 30)
theorem Tx.er_Closed (T : Tx K mg) : My.ErrC K (He.ga K "Closed") := My.errB_ok (T.c.fact 31)
theorem Tx.er_Starved (T : Tx K mg) : My.ErrC K (He.ga K "Starved") := My.errB_ok (T.c.fact 32)
theorem Tx.er_Failed (T : Tx K mg) : My.ErrC K (He.ga K "Failed") := My.errB_ok (T.c.fact 33)
theorem Tx.er_Cut (T : Tx K mg) : My.ErrC K (He.ga K "Cut") := My.errB_ok (T.c.fact 34)
theorem Tx.er_BadDoor (T : Tx K mg) : My.ErrC K (He.ga K "BadDoor") := My.errB_ok (T.c.fact 35)
theorem Tx.er_BadName (T : Tx K mg) : My.ErrC K (He.ga K "BadName") := My.errB_ok (T.c.fact 36)
theorem Tx.er_NotLent (T : Tx K mg) : My.ErrC K (He.ga K "NotLent") := My.errB_ok (T.c.fact 37)
theorem Tx.er_BadMove (T : Tx K mg) : My.ErrC K (He.ga K "BadMove") := My.errB_ok (T.c.fact 38)
theorem Tx.er_Faulty (T : Tx K mg) : My.ErrC K (He.ga K "Faulty") := My.errB_ok (T.c.fact 39)
theorem Tx.er_OwedError (T : Tx K mg) : My.ErrC K (He.ga K "OwedError") := My.errB_ok (T.c.fact 40)
theorem Tx.nf_Faulty_lengths (T : Tx K mg) : PySem.W.findIn K (.ref (He.ga K "Faulty")) "lengths" = some none := He.eqO_ok (T.c.fact 41)
theorem Tx.nf_Faulty_moves (T : Tx K mg) : PySem.W.findIn K (.ref (He.ga K "Faulty")) "moves" = some none := He.eqO_ok (T.c.fact 42)
theorem Tx.kit (T : Tx K mg) : ∀ a ∈ [("BadSymbol" : Str), ("BadDomain" : Str), ("BadFunction" : Str), ("TooMany" : Str), ("NotCut" : Str), ("Amid" : Str), ("Closed" : Str), ("Starved" : Str), ("Failed" : Str), ("Cut" : Str), ("BadDoor" : Str), ("BadName" : Str), ("NotLent" : Str), ("BadMove" : Str), ("Faulty" : Str), ("OwedError" : Str)], ∀ b ∈ [("BadSymbol" : Str), ("BadDomain" : Str), ("BadFunction" : Str), ("TooMany" : Str), ("NotCut" : Str), ("Amid" : Str), ("Closed" : Str), ("Starved" : Str), ("Failed" : Str), ("Cut" : Str), ("BadDoor" : Str), ("BadName" : Str), ("NotLent" : Str), ("BadMove" : Str), ("Faulty" : Str)], PySem.W.kitOne K (.ref (He.ga K a)) (.ref (He.ga K b)) = some (a == b) := fun a ha b hb => of_decide_eq_true (List.all_eq_true.mp (List.all_eq_true.mp (T.c.fact 43) a ha) b hb)
theorem Tx.kito (T : Tx K mg) : ∀ a ∈ [("BadSymbol" : Str), ("BadDomain" : Str), ("BadFunction" : Str), ("TooMany" : Str), ("NotCut" : Str), ("Amid" : Str), ("Closed" : Str), ("Starved" : Str), ("Failed" : Str), ("Cut" : Str), ("BadDoor" : Str), ("BadName" : Str), ("NotLent" : Str), ("BadMove" : Str), ("Faulty" : Str)], PySem.W.kitOne K (.ref (He.ga K a)) (.ref (He.ga K "OwedError")) = some true := fun a ha => of_decide_eq_true (List.all_eq_true.mp (T.c.fact 44) a ha)
theorem Tx.kitv (T : Tx K mg) : ∀ a ∈ [("BadSymbol" : Str), ("BadDomain" : Str), ("BadFunction" : Str), ("TooMany" : Str), ("NotCut" : Str), ("Amid" : Str), ("Closed" : Str), ("Starved" : Str), ("Failed" : Str), ("Cut" : Str), ("BadDoor" : Str), ("BadName" : Str), ("NotLent" : Str), ("BadMove" : Str), ("Faulty" : Str), ("OwedError" : Str)], PySem.W.kitOne K (.ref (He.ga K a)) (.type "ValueError") = some true := fun a ha => of_decide_eq_true (List.all_eq_true.mp (T.c.fact 45) a ha)
theorem Tx.xi_OwedError (T : Tx K mg) : PySem.W.excIn K (He.ga K "OwedError") [.type "ValueError", .type "Exception", .type "BaseException", .type "object"] "ValueError.__new__" = true := T.c.fact 46
theorem Tx.xf_OwedError (T : Tx K mg) : L2.XfC K (He.ga K "OwedError") := L2.xfB_ok (T.c.fact 47)
theorem Tx.k_OwedError (T : Tx K mg) : PySem.W.keepIn K (.ref (He.ga K "OwedError")) = true := He.keep_ok (T.c.fact 48)
theorem Tx.d_l_bag (T : Tx K mg) : ∃ fd, L2.FunD K D_l_bag.name D_l_bag.qual D_l_bag.params D_l_bag.body D_l_bag.scope (D_l_bag.dvs K) (D_l_bag.kws K) (He.ga K "_law_bag") fd := T.c.def_ 0 (d := D_l_bag)
theorem Tx.d_l_take (T : Tx K mg) : ∃ fd, L2.FunD K D_l_take.name D_l_take.qual D_l_take.params D_l_take.body D_l_take.scope (D_l_take.dvs K) (D_l_take.kws K) (He.ga K "_law_take") fd := T.c.def_ 1 (d := D_l_take)
theorem Tx.d_l_of (T : Tx K mg) : ∃ fd, L2.FunD K D_l_of.name D_l_of.qual D_l_of.params D_l_of.body D_l_of.scope (D_l_of.dvs K) (D_l_of.kws K) (He.ga K "_law_of") fd := T.c.def_ 2 (d := D_l_of)
theorem Tx.d_l_number (T : Tx K mg) : ∃ fd, L2.FunD K D_l_number.name D_l_number.qual D_l_number.params D_l_number.body D_l_number.scope (D_l_number.dvs K) (D_l_number.kws K) (He.ga K "_law_number") fd := T.c.def_ 3 (d := D_l_number)
theorem Tx.d_l_fields (T : Tx K mg) : ∃ fd, L2.FunD K D_l_fields.name D_l_fields.qual D_l_fields.params D_l_fields.body D_l_fields.scope (D_l_fields.dvs K) (D_l_fields.kws K) (He.ga K "_law_fields") fd := T.c.def_ 4 (d := D_l_fields)
theorem Tx.d_l_made (T : Tx K mg) : ∃ fd, L2.FunD K D_l_made.name D_l_made.qual D_l_made.params D_l_made.body D_l_made.scope (D_l_made.dvs K) (D_l_made.kws K) (He.ga K "_law_made") fd := T.c.def_ 5 (d := D_l_made)
theorem Tx.d_l_classes (T : Tx K mg) : ∃ fd, L2.FunD K D_l_classes.name D_l_classes.qual D_l_classes.params D_l_classes.body D_l_classes.scope (D_l_classes.dvs K) (D_l_classes.kws K) (He.ga K "_law_classes") fd := T.c.def_ 6 (d := D_l_classes)
theorem Tx.d_law (T : Tx K mg) : ∃ fd, L2.FunD K D_law.name D_law.qual D_law.params D_law.body D_law.scope (D_law.dvs K) (D_law.kws K) (He.ga K "law") fd := T.c.def_ 7 (d := D_law)
theorem Tx.on_BadSymbol (T : Tx K mg) : PySem.OwX.OwTN Pg K mg (He.ga K "BadSymbol") (My.exI "BadSymbol" K) (My.exC "BadSymbol" K) (My.exD "BadSymbol" K) "BadSymbol" ["symbol"] := by
  obtain ⟨h, X, G⟩ := T.ex
  exact T.c.owN X G 0 (d := X_BadSymbol) rfl ["symbol"] ⟨⟨_, rfl, rfl⟩, fun _ _ _ _ _ _ _ us h => match us, h with | [_], _ => ⟨rfl, rfl⟩, ⟨_, _, _, _, _, _, _, _, [(_, _, _, _)], rfl, rfl, ⟨_, fun _ => rfl⟩, fun _ => rfl, fun _ _ _ _ _ _ => rfl⟩, ⟨rfl, rfl, rfl, by decide +kernel, by decide +kernel, by decide +kernel, by decide +kernel, by decide +kernel⟩, by decide +kernel, by decide, by decide⟩ (fun fl h n => by
    rcases List.mem_cons.mp h with e | h
    · exact absurd e n
    cases h) (by decide +kernel) (by decide +kernel)
theorem Tx.g_BadSymbol (T : Tx K mg) : mg "BadSymbol" = some (.ref (He.ga K "BadSymbol")) := T.on_BadSymbol.gC
theorem Tx.on_BadDomain (T : Tx K mg) : PySem.OwX.OwTN Pg K mg (He.ga K "BadDomain") (My.exI "BadDomain" K) (My.exC "BadDomain" K) (My.exD "BadDomain" K) "BadDomain" ["symbol"] := by
  obtain ⟨h, X, G⟩ := T.ex
  exact T.c.owN X G 1 (d := X_BadDomain) rfl ["symbol"] ⟨⟨_, rfl, rfl⟩, fun _ _ _ _ _ _ _ us h => match us, h with | [_], _ => ⟨rfl, rfl⟩, ⟨_, _, _, _, _, _, _, _, [(_, _, _, _)], rfl, rfl, ⟨_, fun _ => rfl⟩, fun _ => rfl, fun _ _ _ _ _ _ => rfl⟩, ⟨rfl, rfl, rfl, by decide +kernel, by decide +kernel, by decide +kernel, by decide +kernel, by decide +kernel⟩, by decide +kernel, by decide, by decide⟩ (fun fl h n => by
    rcases List.mem_cons.mp h with e | h
    · exact absurd e n
    cases h) (by decide +kernel) (by decide +kernel)
theorem Tx.g_BadDomain (T : Tx K mg) : mg "BadDomain" = some (.ref (He.ga K "BadDomain")) := T.on_BadDomain.gC
theorem Tx.on_BadFunction (T : Tx K mg) : PySem.OwX.OwTN Pg K mg (He.ga K "BadFunction") (My.exI "BadFunction" K) (My.exC "BadFunction" K) (My.exD "BadFunction" K) "BadFunction" ["row"] := by
  obtain ⟨h, X, G⟩ := T.ex
  exact T.c.owN X G 2 (d := X_BadFunction) rfl ["row"] ⟨⟨_, rfl, rfl⟩, fun _ _ _ _ _ _ _ us h => match us, h with | [_], _ => ⟨rfl, rfl⟩, ⟨_, _, _, _, _, _, _, _, [(_, _, _, _)], rfl, rfl, ⟨_, fun _ => rfl⟩, fun _ => rfl, fun _ _ _ _ _ _ => rfl⟩, ⟨rfl, rfl, rfl, by decide +kernel, by decide +kernel, by decide +kernel, by decide +kernel, by decide +kernel⟩, by decide +kernel, by decide, by decide⟩ (fun fl h n => by
    rcases List.mem_cons.mp h with e | h
    · exact absurd e n
    cases h) (by decide +kernel) (by decide +kernel)
theorem Tx.g_BadFunction (T : Tx K mg) : mg "BadFunction" = some (.ref (He.ga K "BadFunction")) := T.on_BadFunction.gC
theorem Tx.on_TooMany (T : Tx K mg) : PySem.OwX.OwTN Pg K mg (He.ga K "TooMany") (My.exI "TooMany" K) (My.exC "TooMany" K) (My.exD "TooMany" K) "TooMany" ["what"] := by
  obtain ⟨h, X, G⟩ := T.ex
  exact T.c.owN X G 3 (d := X_TooMany) rfl ["what"] ⟨⟨_, rfl, rfl⟩, fun _ _ _ _ _ _ _ us h => match us, h with | [_], _ => ⟨rfl, rfl⟩, ⟨_, _, _, _, _, _, _, _, [(_, _, _, _)], rfl, rfl, ⟨_, fun _ => rfl⟩, fun _ => rfl, fun _ _ _ _ _ _ => rfl⟩, ⟨rfl, rfl, rfl, by decide +kernel, by decide +kernel, by decide +kernel, by decide +kernel, by decide +kernel⟩, by decide +kernel, by decide, by decide⟩ (fun fl h n => by
    rcases List.mem_cons.mp h with e | h
    · exact absurd e n
    cases h) (by decide +kernel) (by decide +kernel)
theorem Tx.g_TooMany (T : Tx K mg) : mg "TooMany" = some (.ref (He.ga K "TooMany")) := T.on_TooMany.gC
theorem Tx.on_NotCut (T : Tx K mg) : PySem.OwX.OwTN Pg K mg (He.ga K "NotCut") (My.exI "NotCut" K) (My.exC "NotCut" K) (My.exD "NotCut" K) "NotCut" ["row"] := by
  obtain ⟨h, X, G⟩ := T.ex
  exact T.c.owN X G 4 (d := X_NotCut) rfl ["row"] ⟨⟨_, rfl, rfl⟩, fun _ _ _ _ _ _ _ us h => match us, h with | [_], _ => ⟨rfl, rfl⟩, ⟨_, _, _, _, _, _, _, _, [(_, _, _, _)], rfl, rfl, ⟨_, fun _ => rfl⟩, fun _ => rfl, fun _ _ _ _ _ _ => rfl⟩, ⟨rfl, rfl, rfl, by decide +kernel, by decide +kernel, by decide +kernel, by decide +kernel, by decide +kernel⟩, by decide +kernel, by decide, by decide⟩ (fun fl h n => by
    rcases List.mem_cons.mp h with e | h
    · exact absurd e n
    cases h) (by decide +kernel) (by decide +kernel)
theorem Tx.g_NotCut (T : Tx K mg) : mg "NotCut" = some (.ref (He.ga K "NotCut")) := T.on_NotCut.gC
theorem Tx.on_Amid (T : Tx K mg) : PySem.OwX.OwTN Pg K mg (He.ga K "Amid") (My.exI "Amid" K) (My.exC "Amid" K) (My.exD "Amid" K) "Amid" ["half"] := by
  obtain ⟨h, X, G⟩ := T.ex
  exact T.c.owN X G 5 (d := X_Amid) rfl ["half"] ⟨⟨_, rfl, rfl⟩, fun _ _ _ _ _ _ _ us h => match us, h with | [_], _ => ⟨rfl, rfl⟩, ⟨_, _, _, _, _, _, _, _, [(_, _, _, _)], rfl, rfl, ⟨_, fun _ => rfl⟩, fun _ => rfl, fun _ _ _ _ _ _ => rfl⟩, ⟨rfl, rfl, rfl, by decide +kernel, by decide +kernel, by decide +kernel, by decide +kernel, by decide +kernel⟩, by decide +kernel, by decide, by decide⟩ (fun fl h n => by
    rcases List.mem_cons.mp h with e | h
    · exact absurd e n
    cases h) (by decide +kernel) (by decide +kernel)
theorem Tx.g_Amid (T : Tx K mg) : mg "Amid" = some (.ref (He.ga K "Amid")) := T.on_Amid.gC
theorem Tx.on_Closed (T : Tx K mg) : PySem.OwX.OwTN Pg K mg (He.ga K "Closed") (My.exI "Closed" K) (My.exC "Closed" K) (My.exD "Closed" K) "Closed" ["number"] := by
  obtain ⟨h, X, G⟩ := T.ex
  exact T.c.owN X G 6 (d := X_Closed) rfl ["number"] ⟨⟨_, rfl, rfl⟩, fun _ _ _ _ _ _ _ us h => match us, h with | [_], _ => ⟨rfl, rfl⟩, ⟨_, _, _, _, _, _, _, _, [(_, _, _, _)], rfl, rfl, ⟨_, fun _ => rfl⟩, fun _ => rfl, fun _ _ _ _ _ _ => rfl⟩, ⟨rfl, rfl, rfl, by decide +kernel, by decide +kernel, by decide +kernel, by decide +kernel, by decide +kernel⟩, by decide +kernel, by decide, by decide⟩ (fun fl h n => by
    rcases List.mem_cons.mp h with e | h
    · exact absurd e n
    cases h) (by decide +kernel) (by decide +kernel)
theorem Tx.g_Closed (T : Tx K mg) : mg "Closed" = some (.ref (He.ga K "Closed")) := T.on_Closed.gC
theorem Tx.on_Starved (T : Tx K mg) : PySem.OwX.OwTN Pg K mg (He.ga K "Starved") (My.exI "Starved" K) (My.exC "Starved" K) (My.exD "Starved" K) "Starved" ["number"] := by
  obtain ⟨h, X, G⟩ := T.ex
  exact T.c.owN X G 7 (d := X_Starved) rfl ["number"] ⟨⟨_, rfl, rfl⟩, fun _ _ _ _ _ _ _ us h => match us, h with | [_], _ => ⟨rfl, rfl⟩, ⟨_, _, _, _, _, _, _, _, [(_, _, _, _)], rfl, rfl, ⟨_, fun _ => rfl⟩, fun _ => rfl, fun _ _ _ _ _ _ => rfl⟩, ⟨rfl, rfl, rfl, by decide +kernel, by decide +kernel, by decide +kernel, by decide +kernel, by decide +kernel⟩, by decide +kernel, by decide, by decide⟩ (fun fl h n => by
    rcases List.mem_cons.mp h with e | h
    · exact absurd e n
    cases h) (by decide +kernel) (by decide +kernel)
theorem Tx.g_Starved (T : Tx K mg) : mg "Starved" = some (.ref (He.ga K "Starved")) := T.on_Starved.gC
theorem Tx.on_Failed (T : Tx K mg) : PySem.OwX.OwTN Pg K mg (He.ga K "Failed") (My.exI "Failed" K) (My.exC "Failed" K) (My.exD "Failed" K) "Failed" ["row"] := by
  obtain ⟨h, X, G⟩ := T.ex
  exact T.c.owN X G 8 (d := X_Failed) rfl ["row"] ⟨⟨_, rfl, rfl⟩, fun _ _ _ _ _ _ _ us h => match us, h with | [_], _ => ⟨rfl, rfl⟩, ⟨_, _, _, _, _, _, _, _, [(_, _, _, _)], rfl, rfl, ⟨_, fun _ => rfl⟩, fun _ => rfl, fun _ _ _ _ _ _ => rfl⟩, ⟨rfl, rfl, rfl, by decide +kernel, by decide +kernel, by decide +kernel, by decide +kernel, by decide +kernel⟩, by decide +kernel, by decide, by decide⟩ (fun fl h n => by
    rcases List.mem_cons.mp h with e | h
    · exact absurd e n
    cases h) (by decide +kernel) (by decide +kernel)
theorem Tx.g_Failed (T : Tx K mg) : mg "Failed" = some (.ref (He.ga K "Failed")) := T.on_Failed.gC
theorem Tx.on_Cut (T : Tx K mg) : PySem.OwX.OwTN Pg K mg (He.ga K "Cut") (My.exI "Cut" K) (My.exC "Cut" K) (My.exD "Cut" K) "Cut" ["row"] := by
  obtain ⟨h, X, G⟩ := T.ex
  exact T.c.owN X G 9 (d := X_Cut) rfl ["row"] ⟨⟨_, rfl, rfl⟩, fun _ _ _ _ _ _ _ us h => match us, h with | [_], _ => ⟨rfl, rfl⟩, ⟨_, _, _, _, _, _, _, _, [(_, _, _, _)], rfl, rfl, ⟨_, fun _ => rfl⟩, fun _ => rfl, fun _ _ _ _ _ _ => rfl⟩, ⟨rfl, rfl, rfl, by decide +kernel, by decide +kernel, by decide +kernel, by decide +kernel, by decide +kernel⟩, by decide +kernel, by decide, by decide⟩ (fun fl h n => by
    rcases List.mem_cons.mp h with e | h
    · exact absurd e n
    cases h) (by decide +kernel) (by decide +kernel)
theorem Tx.g_Cut (T : Tx K mg) : mg "Cut" = some (.ref (He.ga K "Cut")) := T.on_Cut.gC
theorem Tx.on_BadDoor (T : Tx K mg) : PySem.OwX.OwTN Pg K mg (He.ga K "BadDoor") (My.exI "BadDoor" K) (My.exC "BadDoor" K) (My.exD "BadDoor" K) "BadDoor" ["word"] := by
  obtain ⟨h, X, G⟩ := T.ex
  exact T.c.owN X G 10 (d := X_BadDoor) rfl ["word"] ⟨⟨_, rfl, rfl⟩, fun _ _ _ _ _ _ _ us h => match us, h with | [_], _ => ⟨rfl, rfl⟩, ⟨_, _, _, _, _, _, _, _, [(_, _, _, _)], rfl, rfl, ⟨_, fun _ => rfl⟩, fun _ => rfl, fun _ _ _ _ _ _ => rfl⟩, ⟨rfl, rfl, rfl, by decide +kernel, by decide +kernel, by decide +kernel, by decide +kernel, by decide +kernel⟩, by decide +kernel, by decide, by decide⟩ (fun fl h n => by
    rcases List.mem_cons.mp h with e | h
    · exact absurd e n
    cases h) (by decide +kernel) (by decide +kernel)
theorem Tx.g_BadDoor (T : Tx K mg) : mg "BadDoor" = some (.ref (He.ga K "BadDoor")) := T.on_BadDoor.gC
theorem Tx.on_BadName (T : Tx K mg) : PySem.OwX.OwTN Pg K mg (He.ga K "BadName") (My.exI "BadName" K) (My.exC "BadName" K) (My.exD "BadName" K) "BadName" ["name"] := by
  obtain ⟨h, X, G⟩ := T.ex
  exact T.c.owN X G 11 (d := X_BadName) rfl ["name"] ⟨⟨_, rfl, rfl⟩, fun _ _ _ _ _ _ _ us h => match us, h with | [_], _ => ⟨rfl, rfl⟩, ⟨_, _, _, _, _, _, _, _, [(_, _, _, _)], rfl, rfl, ⟨_, fun _ => rfl⟩, fun _ => rfl, fun _ _ _ _ _ _ => rfl⟩, ⟨rfl, rfl, rfl, by decide +kernel, by decide +kernel, by decide +kernel, by decide +kernel, by decide +kernel⟩, by decide +kernel, by decide, by decide⟩ (fun fl h n => by
    rcases List.mem_cons.mp h with e | h
    · exact absurd e n
    cases h) (by decide +kernel) (by decide +kernel)
theorem Tx.g_BadName (T : Tx K mg) : mg "BadName" = some (.ref (He.ga K "BadName")) := T.on_BadName.gC
theorem Tx.on_NotLent (T : Tx K mg) : PySem.OwX.OwTN Pg K mg (He.ga K "NotLent") (My.exI "NotLent" K) (My.exC "NotLent" K) (My.exD "NotLent" K) "NotLent" ["number"] := by
  obtain ⟨h, X, G⟩ := T.ex
  exact T.c.owN X G 12 (d := X_NotLent) rfl ["number"] ⟨⟨_, rfl, rfl⟩, fun _ _ _ _ _ _ _ us h => match us, h with | [_], _ => ⟨rfl, rfl⟩, ⟨_, _, _, _, _, _, _, _, [(_, _, _, _)], rfl, rfl, ⟨_, fun _ => rfl⟩, fun _ => rfl, fun _ _ _ _ _ _ => rfl⟩, ⟨rfl, rfl, rfl, by decide +kernel, by decide +kernel, by decide +kernel, by decide +kernel, by decide +kernel⟩, by decide +kernel, by decide, by decide⟩ (fun fl h n => by
    rcases List.mem_cons.mp h with e | h
    · exact absurd e n
    cases h) (by decide +kernel) (by decide +kernel)
theorem Tx.g_NotLent (T : Tx K mg) : mg "NotLent" = some (.ref (He.ga K "NotLent")) := T.on_NotLent.gC
theorem Tx.on_BadMove (T : Tx K mg) : PySem.OwX.OwTN Pg K mg (He.ga K "BadMove") (My.exI "BadMove" K) (My.exC "BadMove" K) (My.exD "BadMove" K) "BadMove" ["at"] := by
  obtain ⟨h, X, G⟩ := T.ex
  exact T.c.owN X G 13 (d := X_BadMove) rfl ["at"] ⟨⟨_, rfl, rfl⟩, fun _ _ _ _ _ _ _ us h => match us, h with | [_], _ => ⟨rfl, rfl⟩, ⟨_, _, _, _, _, _, _, _, [(_, _, _, _)], rfl, rfl, ⟨_, fun _ => rfl⟩, fun _ => rfl, fun _ _ _ _ _ _ => rfl⟩, ⟨rfl, rfl, rfl, by decide +kernel, by decide +kernel, by decide +kernel, by decide +kernel, by decide +kernel⟩, by decide +kernel, by decide, by decide⟩ (fun fl h n => by
    rcases List.mem_cons.mp h with e | h
    · exact absurd e n
    cases h) (by decide +kernel) (by decide +kernel)
theorem Tx.g_BadMove (T : Tx K mg) : mg "BadMove" = some (.ref (He.ga K "BadMove")) := T.on_BadMove.gC
theorem Tx.on_Faulty (T : Tx K mg) : PySem.OwX.OwTN Pg K mg (He.ga K "Faulty") (My.exI "Faulty" K) (My.exC "Faulty" K) (My.exD "Faulty" K) "Faulty" ["kind", "lengths", "moves"] := by
  obtain ⟨h, X, G⟩ := T.ex
  exact T.c.owN X G 14 (d := X_Faulty) rfl ["kind", "lengths", "moves"] ⟨⟨_, rfl, rfl⟩, fun _ _ _ _ _ _ _ us h => match us, h with | [_, _, _], _ => ⟨rfl, rfl⟩, ⟨_, _, _, _, _, _, _, _, [(_, _, _, _), (_, _, _, _), (_, _, _, _)], rfl, rfl, ⟨_, fun _ => rfl⟩, fun _ => rfl, fun _ _ _ _ _ _ => rfl⟩, ⟨rfl, rfl, rfl, by decide +kernel, by decide +kernel, by decide +kernel, by decide +kernel, by decide +kernel⟩, by decide +kernel, by decide, by decide⟩ (fun fl h n => by
    rcases List.mem_cons.mp h with e | h
    · exact absurd e n
    rcases List.mem_cons.mp h with e | h
    · rw [e]; exact T.nf_Faulty_lengths
    rcases List.mem_cons.mp h with e | h
    · rw [e]; exact T.nf_Faulty_moves
    cases h) (by decide +kernel) (by decide +kernel)
theorem Tx.g_Faulty (T : Tx K mg) : mg "Faulty" = some (.ref (He.ga K "Faulty")) := T.on_Faulty.gC
end

def BagF (l : List D) (n : Nat) : Prop := ∃ x0 x1 x2 : Int, l = [.int x0, .int x1, .int x2] ∧ 0 ≤ x0 ∧ 0 ≤ x1 ∧ x1 < 2 ^ 70 ∧ 0 ≤ x2 ∧ x2 ≤ n
theorem BagF.up {l : List D} {n m : Nat} (h : BagF l n) (hm : n ≤ m) : BagF l m := by
  obtain ⟨x0, x1, x2, e, a, b, c, d, f⟩ := h
  exact ⟨x0, x1, x2, e, a, b, c, d, by omega⟩
theorem cpow {i j : Int} (h0 : 0 ≤ j) (h1 : j ≤ 64) (h2 : i.natAbs < 2 ^ 4096) : CPowW i j := ⟨h0, h1, h2⟩
theorem log_lt {i : Int} {k : Nat} (hk : 0 < k) (h : i.natAbs < 2 ^ k) : i.natAbs.log2 < k := PySem.Flt.log2_lt_of hk h
theorem cdivW {i j : Int} (h0 : 0 < j) (h1 : j < 2 ^ 200) : CDivW i j := ⟨h0, Nat.lt_of_lt_of_le (log_lt (k := 200) (by decide) (by omega)) (by decide)⟩
theorem cmulW {i j : Int} (h1 : i.natAbs < 2 ^ 1000) (h2 : j.natAbs < 2 ^ 1000) : CMulW i j := by
  have a := log_lt (k := 1000) (by decide) h1
  have b := log_lt (k := 1000) (by decide) h2
  unfold CMulW; omega
theorem pow_big {i : Int} (h : i.natAbs < 2 ^ 200) : i.natAbs < 2 ^ 4096 := Nat.lt_of_lt_of_le h (Nat.pow_le_pow_right (by decide) (by decide))
theorem nat1000 {i : Int} (h : i.natAbs < 2 ^ 200) : i.natAbs < 2 ^ 1000 := Nat.lt_of_lt_of_le h (Nat.pow_le_pow_right (by decide) (by decide))
theorem atI_int {xs : List Int} {i : Nat} (h : i < xs.length) : ∃ z, atI (xs.map D.int) (i : Int) = some (.int z) := by
  refine ⟨xs[i], ?_⟩
  unfold atI ixN
  rw [if_pos (by omega), if_pos (by rw [List.length_map]; omega)]
  simp [h]
def sp_l_bag (_ : PySem.W.Frag) : ASp := fun ds A Q _ => ∃ (xs : List Int) (i : Nat), ds = [.rol (xs.map D.int), .int (i : Int)] ∧ i ≤ 63 ∧ xs.length ≤ 63 ∧ ∀ l p, BagF l 0 → A p = none → Q (.ref p) (put A p (.lst l))
theorem bag0 {c z : Int} {i : Nat} (hc : 0 ≤ c) (hi : i ≤ 63) : BagF [.int c, .int (z % 2305843009213693951 * 5 + 6151 * (i : Int) + 2969), .int 0] 0 := by
  have e1 : 0 ≤ z % 2305843009213693951 := Int.emod_nonneg _ (by decide)
  have e2 : z % 2305843009213693951 < 2305843009213693951 := Int.emod_lt_of_pos _ (by decide)
  exact ⟨c, _, 0, rfl, hc, by omega, by omega, by omega, by omega⟩
theorem R_l_bag {w : World} {K : PySem.W.Frag} {mg : Str → Option Value} {base : Heap} (T : Tx K mg) : FnR Pg w K mg base CX0 1 (He.ga K "_law_bag") (liftSp K (sp_l_bag K)) := by
  obtain ⟨fd, F⟩ := T.d_l_bag
  refine Av.FunD.AR F sc_l_bag (fun ds A Q E h => by obtain ⟨xs, i, rfl, hi, hx, k⟩ := h; rfl) (fun _ _ _ _ _ _ us hl => match us, hl with | [_, _], _ => rfl) (fun cdv A0 outer s H0 E0 ds A Q E hr h => ?_)
  obtain ⟨xs, i, rfl, hi, hx, k⟩ := h
  refine ⟨_, (ass_cons (as_set (i := 2) sc_l_bag.nd rfl (by first | exact Or.inl rfl | exact Or.inr rfl) (ae_if (at_cmpA cmp_lt (ae_var (pv 1)) (ae_callB ca_len (by rfl) T.n_len (by decide +kernel) (aa_cons (ae_var (pv 0)) aa_nil)) (nomark _)) (ae_subs (ae_var (pv 0)) (ae_var (pv 1)) (fun _ _ => rfl)) ae_int))
      (ass_cons (as_set (i := 3) sc_l_bag.nd rfl (by first | exact Or.inl rfl | exact Or.inr rfl) (ae_if (at_cmpA cmp_ge (ae_callB ca_abs (by rfl) T.n_abs (by decide +kernel) (aa_cons (ae_var (pv 2)) aa_nil)) (ae_pow ae_int ae_int) (nomark _)) (ae_callB ca_abs (by rfl) T.n_abs (by decide +kernel) (aa_cons (ae_var (pv 2)) aa_nil)) ae_int))
      (ass_one (as_ret (ae_lst true (aa_cons (ae_var (pv 3)) (aa_cons (ae_add false (ae_add false (ae_mul false (ae_mod (ae_callTy ca_int (by rfl) T.n_int (by decide +kernel) (aa_cons (ae_var (pv 2)) aa_nil)) ae_int) ae_int) (ae_mul false ae_int (ae_var (pv 1)))) ae_int) (aa_cons ae_int aa_nil)))))))), ?_⟩
  simp only [↓RD, RU, RS, RT, aStart, wipeA, putFA, toP, toPs, scDs, keysOk, aHandle, endsAA, putAA, starSp, cxK, List.map, List.replicate, Nat.reduceSub, Nat.reduceAdd, reduceCtorEq, Int.reduceToNat, Int.reducePow, Int.reduceMul, Int.reduceAdd, Int.reduceNeg, Int.reduceSub, String.reduceEq, String.reduceNe, Nat.reduceLeDiff, Int.reduceLT, Int.reduceLE, Nat.reduceLT, exists_eq_left, exists_eq_left', exists_eq_right, exists_eq_right', exists_and_left, exists_and_right, if_true, if_false, eq_self, ne_eq, exists_eq', exists_eq, exists_const, exists_false, implies_true, forall_const, Int.reduceEq, RPn, aErr_eq, aErr0_eq, aFldE_eq, gIsN_eq, D.err.injEq, clsV_ref, clsV_ty, List.length_map]
  have c1 : CPowW 10 18 := cpow (by decide) (by decide) (by decide)
  have c2 : CMulW 6151 (i : Int) := cmulW (by decide) (nat1000 (by omega))
  have c3 : ∀ z : Int, CMulW (z % 2305843009213693951) 5 := fun z => cmulW (nat1000 (by
    have e1 : 0 ≤ z % 2305843009213693951 := Int.emod_nonneg _ (by decide)
    have e2 : z % 2305843009213693951 < 2305843009213693951 := Int.emod_lt_of_pos _ (by decide)
    omega)) (by decide)
  refine ite_dec (fun g => ?_) (fun g => ?_)
  · obtain ⟨z, hz⟩ := atI_int (xs := xs) (i := i) (by omega)
    refine oK_mk hz ?_
    simp only [↓RD, RU, RS, RT, aStart, wipeA, putFA, toP, toPs, scDs, keysOk, aHandle, endsAA, putAA, starSp, cxK, List.map, List.replicate, Nat.reduceSub, Nat.reduceAdd, reduceCtorEq, Int.reduceToNat, Int.reducePow, Int.reduceMul, Int.reduceAdd, Int.reduceNeg, Int.reduceSub, String.reduceEq, String.reduceNe, Nat.reduceLeDiff, Int.reduceLT, Int.reduceLE, Nat.reduceLT, exists_eq_left, exists_eq_left', exists_eq_right, exists_eq_right', exists_and_left, exists_and_right, if_true, if_false, eq_self, ne_eq, exists_eq', exists_eq, exists_const, exists_false, implies_true, forall_const, Int.reduceEq, RPn, aErr_eq, aErr0_eq, aFldE_eq, gIsN_eq, D.err.injEq, clsV_ref, clsV_ty]
    refine ⟨c1, ite_dec (fun g2 => ?_) (fun g2 => ?_)⟩
    · exact ⟨c3 z, c2, fun p hp => fin_id (k _ p (bag0 (by split <;> omega) hi) hp)⟩
    · exact ⟨c3 z, c2, fun p hp => fin_id (k _ p (bag0 (by decide) hi) hp)⟩
  · exact ⟨c1, c3 0, c2, fun p hp => fin_id (k _ p (bag0 (z := 0) (by decide) hi) hp)⟩
def sp_l_take (_ : PySem.W.Frag) : ASp := fun ds A Q _ => ∃ (b : Addr) (m : Int) (n : Nat) (l : List D), ds = [.ref b, .int m] ∧ A b = some (.lst l) ∧ BagF l n ∧ 0 < m ∧ m < 2 ^ 200 ∧ n ≤ 1000000 ∧ ∀ (r : Int) (l' : List D), 0 ≤ r → r < m → BagF l' (n + 1) → Q (.int r) (put A b (.lst l'))
theorem R_l_take {w : World} {K : PySem.W.Frag} {mg : Str → Option Value} {base : Heap} (T : Tx K mg) : FnR Pg w K mg base CX0 1 (He.ga K "_law_take") (liftSp K (sp_l_take K)) := by
  obtain ⟨fd, F⟩ := T.d_l_take
  refine Av.FunD.AR F sc_l_take (fun ds A Q E h => by obtain ⟨b, m, n, l, rfl, hb, ⟨x0, x1, x2, rfl, h0, h1, h1', h2, h2'⟩, m0, m1, hn, k⟩ := h; rfl) (fun _ _ _ _ _ _ us hl => match us, hl with | [_, _], _ => rfl) (fun cdv A0 outer s H0 E0 ds A Q E hr h => ?_)
  obtain ⟨b, m, n, l, rfl, hb, ⟨x0, x1, x2, rfl, h0, h1, h1', h2, h2'⟩, m0, m1, hn, k⟩ := h
  refine ⟨_, (ass_cons (as_if (at_cmpA cmp_gt (ae_subs (ae_var (pv 0)) ae_int (fun _ _ => rfl)) ae_int (nomark _)) (ass_cons (as_set (i := 2) sc_l_take.nd rfl (by first | exact Or.inl rfl | exact Or.inr rfl) (ae_mod (ae_callTy ca_int (by rfl) T.n_int (by decide +kernel) (aa_cons (ae_subs (ae_var (pv 0)) ae_int (fun _ _ => rfl)) aa_nil)) (ae_var (pv 1))))
      (ass_cons (as_setix (ae_var (pv 0)) ae_int (ae_fdiv (ae_subs (ae_var (pv 0)) ae_int (fun _ _ => rfl)) (ae_var (pv 1))))
      (ass_one (as_ret (ae_var (pv 2)))))) ass_nil)
      (ass_cons (as_setix (ae_var (pv 0)) ae_int (ae_add false (ae_subs (ae_var (pv 0)) ae_int (fun _ _ => rfl)) ae_int))
      (ass_cons (as_set (i := 3) sc_l_take.nd rfl (by first | exact Or.inl rfl | exact Or.inr rfl) (ae_mod (ae_callTy ca_int (by rfl) T.n_int (by decide +kernel) (aa_cons (ae_pow (ae_add false (ae_subs (ae_var (pv 0)) ae_int (fun _ _ => rfl)) (ae_mul false ae_int (ae_subs (ae_var (pv 0)) ae_int (fun _ _ => rfl)))) ae_int) aa_nil)) ae_int))
      (ass_cons (as_set (i := 3) sc_l_take.nd rfl (by first | exact Or.inl rfl | exact Or.inr rfl) (ae_mod (ae_callTy ca_int (by rfl) T.n_int (by decide +kernel) (aa_cons (ae_pow (ae_add false (ae_var (pv 3)) (ae_mul false ae_int (ae_subs (ae_var (pv 0)) ae_int (fun _ _ => rfl)))) ae_int) aa_nil)) ae_int))
      (ass_one (as_ret (ae_mod (ae_callTy ca_int (by rfl) T.n_int (by decide +kernel) (aa_cons (ae_fdiv (ae_var (pv 3)) ae_int) aa_nil)) (ae_var (pv 1))))))))), ?_⟩
  simp only [↓RD, RU, RS, RT, aStart, wipeA, putFA, toP, toPs, scDs, keysOk, aHandle, endsAA, putAA, starSp, cxK, List.map, List.replicate, Nat.reduceSub, Nat.reduceAdd, reduceCtorEq, Int.reduceToNat, Int.reducePow, Int.reduceMul, Int.reduceAdd, Int.reduceNeg, Int.reduceSub, String.reduceEq, String.reduceNe, Nat.reduceLeDiff, Int.reduceLT, Int.reduceLE, Nat.reduceLT, exists_eq_left, exists_eq_left', exists_eq_right, exists_eq_right', exists_and_left, exists_and_right, if_true, if_false, eq_self, ne_eq, exists_eq', exists_eq, exists_const, exists_false, implies_true, forall_const, Int.reduceEq, RPn, aErr_eq, aErr0_eq, aFldE_eq, gIsN_eq, D.err.injEq, clsV_ref, clsV_ty, hb]
  refine ite_dec (fun g => ?_) (fun g => ?_)
  · refine ⟨m0, cdivW m0 m1, fin_id (k _ _ (Int.emod_nonneg _ (by omega)) (Int.emod_lt_of_pos _ m0) ⟨_, x1, x2, rfl, Int.ediv_nonneg h0 (by omega), h1, h1', h2, by omega⟩)⟩
  · have e1 : 0 ≤ (x1 + 15485863 * (x2 + 1)) ^ 3 % 2305843009213693921 := Int.emod_nonneg _ (by decide)
    have e2 : (x1 + 15485863 * (x2 + 1)) ^ 3 % 2305843009213693921 < 2305843009213693921 := Int.emod_lt_of_pos _ (by decide)
    generalize (x1 + 15485863 * (x2 + 1)) ^ 3 % 2305843009213693921 = y at e1 e2 ⊢
    have x2b : x2 + 1 ≤ 1000001 := by omega
    refine ⟨cmulW (by decide) (nat1000 (by omega)), cpow (by decide) (by decide) (pow_big (by omega)), cmulW (by decide) (nat1000 (by omega)), cpow (by decide) (by decide) (pow_big (by omega)), ⟨by decide, by decide⟩, m0, ?_⟩
    exact fin_id (k _ _ (Int.emod_nonneg _ (by omega)) (Int.emod_lt_of_pos _ m0) ⟨x0, x1, x2 + 1, rfl, h0, h1, h1', by omega, by omega⟩)

def Num (r : Int) : Prop := -(10 ^ 25) ≤ r ∧ r ≤ 10 ^ 25
theorem Num.lt {r : Int} (h : Num r) : r.natAbs < 2 ^ 90 := by
  obtain ⟨h1, h2⟩ := h
  omega
def sp_l_number (_ : PySem.W.Frag) : ASp := fun ds A Q _ => ∃ (b : Addr) (n : Nat) (l : List D), ds = [.ref b] ∧ A b = some (.lst l) ∧ BagF l n ∧ n ≤ 900000 ∧ ∀ (r : Int) (l' : List D), Num r → BagF l' (n + 2) → Q (.int r) (put A b (.lst l'))
theorem R_l_number {w : World} {K : PySem.W.Frag} {mg : Str → Option Value} {base : Heap} (T : Tx K mg) : FnR Pg w K mg base CX0 3 (He.ga K "_law_number") (liftSp K (sp_l_number K)) := by
  obtain ⟨fd, F⟩ := T.d_l_number
  refine Av.FunD.AR F sc_l_number (fun ds A Q E h => by obtain ⟨b, n, l, rfl, hb, hB, hn, k⟩ := h; rfl) (fun _ _ _ _ _ _ us hl => match us, hl with | [_], _ => rfl) (fun cdv A0 outer s H0 E0 ds A Q E hr h => ?_)
  obtain ⟨b, n, l, rfl, hb, hB, hn, k⟩ := h
  refine ⟨_, (ass_cons (as_if (at_cmpA cmp_gt (ae_callR (R_l_take T) (hr.mono (by decide)) rfl T.g__law_take T.k__law_take (aa_cons (ae_var (pv 0)) (aa_cons ae_int aa_nil))) ae_int (nomark _)) (ass_one (as_ret (ae_sub (ae_callR (R_l_take T) (hr.mono (by decide)) rfl T.g__law_take T.k__law_take (aa_cons (ae_var (pv 0)) (aa_cons ae_int aa_nil))) ae_int))) ass_nil)
      (ass_one (as_ret (ae_sub (ae_callR (R_l_take T) (hr.mono (by decide)) rfl T.g__law_take T.k__law_take (aa_cons (ae_var (pv 0)) (aa_cons (ae_add false (ae_mul false ae_int (ae_pow ae_int ae_int)) ae_int) aa_nil))) (ae_pow ae_int ae_int))))), ?_⟩
  simp only [↓RD, RU, RS, RT, aStart, wipeA, putFA, toP, toPs, scDs, keysOk, aHandle, endsAA, putAA, starSp, cxK, List.map, List.replicate, Nat.reduceSub, Nat.reduceAdd, reduceCtorEq, Int.reduceToNat, Int.reducePow, Int.reduceMul, Int.reduceAdd, Int.reduceNeg, Int.reduceSub, String.reduceEq, String.reduceNe, Nat.reduceLeDiff, Int.reduceLT, Int.reduceLE, Nat.reduceLT, exists_eq_left, exists_eq_left', exists_eq_right, exists_eq_right', exists_and_left, exists_and_right, if_true, if_false, eq_self, ne_eq, exists_eq', exists_eq, exists_const, exists_false, implies_true, forall_const, Int.reduceEq, RPn, aErr_eq, aErr0_eq, aFldE_eq, gIsN_eq, D.err.injEq, clsV_ref, clsV_ty]
  refine ⟨b, _, n, l, rfl, hb, hB, by decide, by decide, by omega, fun r l1 r0 r1 hB1 => ?_⟩
  simp only [↓RD, RU, RS, RT, aStart, wipeA, putFA, toP, toPs, scDs, keysOk, aHandle, endsAA, putAA, starSp, cxK, List.map, List.replicate, Nat.reduceSub, Nat.reduceAdd, reduceCtorEq, Int.reduceToNat, Int.reducePow, Int.reduceMul, Int.reduceAdd, Int.reduceNeg, Int.reduceSub, String.reduceEq, String.reduceNe, Nat.reduceLeDiff, Int.reduceLT, Int.reduceLE, Nat.reduceLT, exists_eq_left, exists_eq_left', exists_eq_right, exists_eq_right', exists_and_left, exists_and_right, if_true, if_false, eq_self, ne_eq, exists_eq', exists_eq, exists_const, exists_false, implies_true, forall_const, Int.reduceEq, RPn, aErr_eq, aErr0_eq, aFldE_eq, gIsN_eq, D.err.injEq, clsV_ref, clsV_ty]
  refine ite_dec (fun g => ?_) (fun g => ?_)
  · refine ⟨b, _, n + 1, l1, rfl, put_same, hB1, by decide, by decide, by omega, fun r2 l2 s0 s1 hB2 => ?_⟩
    simp only [↓RD, RU, RS, RT, aStart, wipeA, putFA, toP, toPs, scDs, keysOk, aHandle, endsAA, putAA, starSp, cxK, List.map, List.replicate, Nat.reduceSub, Nat.reduceAdd, reduceCtorEq, Int.reduceToNat, Int.reducePow, Int.reduceMul, Int.reduceAdd, Int.reduceNeg, Int.reduceSub, String.reduceEq, String.reduceNe, Nat.reduceLeDiff, Int.reduceLT, Int.reduceLE, Nat.reduceLT, exists_eq_left, exists_eq_left', exists_eq_right, exists_eq_right', exists_and_left, exists_and_right, if_true, if_false, eq_self, ne_eq, exists_eq', exists_eq, exists_const, exists_false, implies_true, forall_const, Int.reduceEq, RPn, aErr_eq, aErr0_eq, aFldE_eq, gIsN_eq, D.err.injEq, clsV_ref, clsV_ty]
    exact fin_id (k _ _ ⟨by omega, by omega⟩ hB2)
  · refine ⟨cpow (by decide) (by decide) (by decide), cmulW (by decide) (by decide), ?_⟩
    refine ⟨b, _, n + 1, l1, rfl, put_same, hB1, by decide, by decide, by omega, fun r2 l2 s0 s1 hB2 => ?_⟩
    simp only [↓RD, RU, RS, RT, aStart, wipeA, putFA, toP, toPs, scDs, keysOk, aHandle, endsAA, putAA, starSp, cxK, List.map, List.replicate, Nat.reduceSub, Nat.reduceAdd, reduceCtorEq, Int.reduceToNat, Int.reducePow, Int.reduceMul, Int.reduceAdd, Int.reduceNeg, Int.reduceSub, String.reduceEq, String.reduceNe, Nat.reduceLeDiff, Int.reduceLT, Int.reduceLE, Nat.reduceLT, exists_eq_left, exists_eq_left', exists_eq_right, exists_eq_right', exists_and_left, exists_and_right, if_true, if_false, eq_self, ne_eq, exists_eq', exists_eq, exists_const, exists_false, implies_true, forall_const, Int.reduceEq, RPn, aErr_eq, aErr0_eq, aFldE_eq, gIsN_eq, D.err.injEq, clsV_ref, clsV_ty]
    refine ⟨cpow (by decide) (by decide) (by decide), fin_id (k _ _ ⟨by omega, by omega⟩ hB2)⟩

theorem atI_mem {α : Type} {xs : List α} {r : Int} (h0 : 0 ≤ r) (h1 : r < xs.length) : ∃ v, atI xs r = some v ∧ v ∈ xs := by
  have hl : r.toNat < xs.length := by omega
  refine ⟨xs[r.toNat], ?_, List.getElem_mem _⟩
  unfold atI ixN
  rw [if_pos h0, if_pos h1]
  simp [hl]

def sp_l_of (_ : PySem.W.Frag) : ASp := fun ds A Q _ => ∃ (b : Addr) (n : Nat) (l xs : List D), ds = [.ref b, .lst xs] ∧ 0 < xs.length ∧ xs.length ≤ 30 ∧ A b = some (.lst l) ∧ BagF l n ∧ n ≤ 900000 ∧ ∀ (d : D) (l' : List D), d ∈ xs → BagF l' (n + 1) → Q d (put A b (.lst l'))
theorem R_l_of {w : World} {K : PySem.W.Frag} {mg : Str → Option Value} {base : Heap} (T : Tx K mg) : FnR Pg w K mg base CX0 3 (He.ga K "_law_of") (liftSp K (sp_l_of K)) := by
  obtain ⟨fd, F⟩ := T.d_l_of
  refine Av.FunD.AR F sc_l_of (fun ds A Q E h => by obtain ⟨b, n, l, xs, rfl, h0, h1, hb, hB, hn, k⟩ := h; rfl) (fun _ _ _ _ _ _ us hl => match us, hl with | [_, _], _ => rfl) (fun cdv A0 outer s H0 E0 ds A Q E hr h => ?_)
  obtain ⟨b, n, l, xs, rfl, h0, h1, hb, hB, hn, k⟩ := h
  refine ⟨_, (ass_one (as_ret (ae_subs (ae_var (pv 1)) (ae_callR (R_l_take T) (hr.mono (by decide)) rfl T.g__law_take T.k__law_take (aa_cons (ae_var (pv 0)) (aa_cons (ae_callB ca_len (by rfl) T.n_len (by decide +kernel) (aa_cons (ae_var (pv 1)) aa_nil)) aa_nil))) (fun _ _ => rfl)))), ?_⟩
  simp only [↓RD, RU, RS, RT, aStart, wipeA, putFA, toP, toPs, scDs, keysOk, aHandle, endsAA, putAA, starSp, cxK, List.map, List.replicate, Nat.reduceSub, Nat.reduceAdd, reduceCtorEq, Int.reduceToNat, Int.reducePow, Int.reduceMul, Int.reduceAdd, Int.reduceNeg, Int.reduceSub, String.reduceEq, String.reduceNe, Nat.reduceLeDiff, Int.reduceLT, Int.reduceLE, Nat.reduceLT, exists_eq_left, exists_eq_left', exists_eq_right, exists_eq_right', exists_and_left, exists_and_right, if_true, if_false, eq_self, ne_eq, exists_eq', exists_eq, exists_const, exists_false, implies_true, forall_const, Int.reduceEq, RPn, aErr_eq, aErr0_eq, aFldE_eq, gIsN_eq, D.err.injEq, clsV_ref, clsV_ty]
  refine ⟨b, _, n, l, rfl, hb, hB, by omega, by omega, by omega, fun r l1 r0 r1 hB1 => ?_⟩
  obtain ⟨v, hv, hm⟩ := atI_mem (xs := xs) r0 r1
  simp only [↓RD, RU, RS, RT, aStart, wipeA, putFA, toP, toPs, scDs, keysOk, aHandle, endsAA, putAA, starSp, cxK, List.map, List.replicate, Nat.reduceSub, Nat.reduceAdd, reduceCtorEq, Int.reduceToNat, Int.reducePow, Int.reduceMul, Int.reduceAdd, Int.reduceNeg, Int.reduceSub, String.reduceEq, String.reduceNe, Nat.reduceLeDiff, Int.reduceLT, Int.reduceLE, Nat.reduceLT, exists_eq_left, exists_eq_left', exists_eq_right, exists_eq_right', exists_and_left, exists_and_right, if_true, if_false, eq_self, ne_eq, exists_eq', exists_eq, exists_const, exists_false, implies_true, forall_const, Int.reduceEq, RPn, aErr_eq, aErr0_eq, aFldE_eq, gIsN_eq, D.err.injEq, clsV_ref, clsV_ty, hv]
  exact fin_id (k v l1 hm hB1)


def EN : List Str := [("BadSymbol" : Str), ("BadDomain" : Str), ("BadFunction" : Str), ("TooMany" : Str), ("NotCut" : Str), ("Amid" : Str), ("Closed" : Str), ("Starved" : Str), ("Failed" : Str), ("Cut" : Str), ("BadDoor" : Str), ("BadName" : Str), ("NotLent" : Str), ("BadMove" : Str), ("Faulty" : Str)]
def EM : List Str := [("BadSymbol" : Str), ("BadDomain" : Str), ("BadFunction" : Str), ("TooMany" : Str), ("NotCut" : Str), ("Amid" : Str), ("Closed" : Str), ("Starved" : Str), ("Failed" : Str), ("Cut" : Str), ("BadDoor" : Str), ("BadName" : Str), ("NotLent" : Str), ("BadMove" : Str), ("Faulty" : Str), ("OwedError" : Str)]
def fldE (n : Int) (t : Str) : List (List (Str × D)) := [[("symbol", .str t)], [("symbol", .str t)], [("row", .int n)], [("what", .str t)], [("row", .int n)], [("half", .str t)], [("number", .int n)], [("number", .int n)], [("row", .int n)], [("row", .int n)], [("word", .str t)], [("name", .str t)], [("number", .int n)], [("at", .int n)],
  [("kind", .str t), ("lengths", .tup [.int n]), ("moves", .tup [.tup [.int n, .str t]])]]
def madeE (K : PySem.W.Frag) (n : Int) (t : Str) : List D := (EN.zip (fldE n t)).map fun p => .err (He.ga K p.1) p.2
theorem OwTN_x {prog : Program} {K : PySem.W.Frag} {mg : Str → Option Value} {C fI cc cda : Addr} {cn : Str} {fls : List Str} (T : PySem.OwX.OwTN prog K mg C fI cc cda cn fls) : XfC K C := ⟨T.ga, T.gg, T.exC, T.hdC⟩
theorem xfE {K : PySem.W.Frag} {mg : Str → Option Value} (T : Tx K mg) : ∀ c ∈ EM, XfC K (He.ga K c) ∧ ErrC K (He.ga K c) := by
  unfold EM
  simp only [List.forall_mem_cons]
  exact ⟨⟨OwTN_x T.on_BadSymbol, T.er_BadSymbol⟩, ⟨OwTN_x T.on_BadDomain, T.er_BadDomain⟩, ⟨OwTN_x T.on_BadFunction, T.er_BadFunction⟩, ⟨OwTN_x T.on_TooMany, T.er_TooMany⟩, ⟨OwTN_x T.on_NotCut, T.er_NotCut⟩, ⟨OwTN_x T.on_Amid, T.er_Amid⟩, ⟨OwTN_x T.on_Closed, T.er_Closed⟩, ⟨OwTN_x T.on_Starved, T.er_Starved⟩, ⟨OwTN_x T.on_Failed, T.er_Failed⟩, ⟨OwTN_x T.on_Cut, T.er_Cut⟩, ⟨OwTN_x T.on_BadDoor, T.er_BadDoor⟩, ⟨OwTN_x T.on_BadName, T.er_BadName⟩, ⟨OwTN_x T.on_NotLent, T.er_NotLent⟩, ⟨OwTN_x T.on_BadMove, T.er_BadMove⟩, ⟨OwTN_x T.on_Faulty, T.er_Faulty⟩, ⟨T.xf_OwedError, T.er_OwedError⟩, fun x h => by cases h⟩
def sp_l_made (K : PySem.W.Frag) : ASp := fun ds A Q _ => ∃ (n : Int) (t : Str), ds = [.int n, .str t] ∧ sOk t ∧ Q (.lst (madeE K n t)) A
theorem R_l_made {w : World} {K : PySem.W.Frag} {mg : Str → Option Value} {base : Heap} (T : Tx K mg) : FnR Pg w K mg base CX0 1 (He.ga K "_law_made") (liftSp K (sp_l_made K)) := by
  obtain ⟨fd, F⟩ := T.d_l_made
  refine Av.FunD.AR F sc_l_made (fun ds A Q E h => by obtain ⟨n, t, rfl, ht, k⟩ := h; rfl) (fun _ _ _ _ _ _ us hl => match us, hl with | [_, _], _ => rfl) (fun cdv A0 outer s H0 E0 ds A Q E hr h => ?_)
  obtain ⟨n, t, rfl, ht, k⟩ := h
  refine ⟨_, (ass_cons (as_set (i := 2) sc_l_made.nd rfl (by first | exact Or.inl rfl | exact Or.inr rfl) (ae_lst false (aa_cons (ae_errN T.on_BadSymbol hr (aa_cons (ae_var (pv 1)) aa_nil) rfl) (aa_cons (ae_errN T.on_BadDomain hr (aa_cons (ae_var (pv 1)) aa_nil) rfl) (aa_cons (ae_errN T.on_BadFunction hr (aa_cons (ae_var (pv 0)) aa_nil) rfl) (aa_cons (ae_errN T.on_TooMany hr (aa_cons (ae_var (pv 1)) aa_nil) rfl) (aa_cons (ae_errN T.on_NotCut hr (aa_cons (ae_var (pv 0)) aa_nil) rfl) (aa_cons (ae_errN T.on_Amid hr (aa_cons (ae_var (pv 1)) aa_nil) rfl) aa_nil))))))))
      (ass_cons (as_set (i := 2) sc_l_made.nd rfl (by first | exact Or.inl rfl | exact Or.inr rfl) (ae_add false (ae_var (pv 2)) (ae_lst false (aa_cons (ae_errN T.on_Closed hr (aa_cons (ae_var (pv 0)) aa_nil) rfl) (aa_cons (ae_errN T.on_Starved hr (aa_cons (ae_var (pv 0)) aa_nil) rfl) (aa_cons (ae_errN T.on_Failed hr (aa_cons (ae_var (pv 0)) aa_nil) rfl) (aa_cons (ae_errN T.on_Cut hr (aa_cons (ae_var (pv 0)) aa_nil) rfl) (aa_cons (ae_errN T.on_BadDoor hr (aa_cons (ae_var (pv 1)) aa_nil) rfl) (aa_cons (ae_errN T.on_BadName hr (aa_cons (ae_var (pv 1)) aa_nil) rfl) aa_nil)))))))))
      (ass_one (as_ret (ae_add false (ae_var (pv 2)) (ae_lst false (aa_cons (ae_errN T.on_NotLent hr (aa_cons (ae_var (pv 0)) aa_nil) rfl) (aa_cons (ae_errN T.on_BadMove hr (aa_cons (ae_var (pv 0)) aa_nil) rfl) (aa_cons (ae_errN T.on_Faulty hr (aa_cons (ae_var (pv 1)) (aa_cons (ae_tup (aa_cons (ae_var (pv 0)) aa_nil)) (aa_cons (ae_tup (aa_cons (ae_tup (aa_cons (ae_var (pv 0)) (aa_cons (ae_var (pv 1)) aa_nil))) aa_nil)) aa_nil))) rfl) aa_nil))))))))), ?_⟩
  simp only [↓RD, RU, RS, RT, aStart, wipeA, putFA, toP, toPs, scDs, keysOk, aHandle, endsAA, putAA, starSp, cxK, List.map, List.replicate, Nat.reduceSub, Nat.reduceAdd, reduceCtorEq, Int.reduceToNat, Int.reducePow, Int.reduceMul, Int.reduceAdd, Int.reduceNeg, Int.reduceSub, String.reduceEq, String.reduceNe, Nat.reduceLeDiff, Int.reduceLT, Int.reduceLE, Nat.reduceLT, exists_eq_left, exists_eq_left', exists_eq_right, exists_eq_right', exists_and_left, exists_and_right, if_true, if_false, eq_self, ne_eq, exists_eq', exists_eq, exists_const, exists_false, implies_true, forall_const, Int.reduceEq, RPn, aErr_eq, aErr0_eq, aFldE_eq, gIsN_eq, D.err.injEq, clsV_ref, clsV_ty, List.zip_cons_cons, List.zip_nil_left]
  exact ⟨by decide, fin_id k⟩
def sp_l_classes (K : PySem.W.Frag) : ASp := fun ds A Q _ => ∃ (c : Str) (fs : List (Str × D)), ds = [.err (He.ga K c) fs] ∧ c ∈ EM ∧ Q (.lst (EN.map fun x => .bl (c == x))) A
theorem R_l_classes {w : World} {K : PySem.W.Frag} {mg : Str → Option Value} {base : Heap} (T : Tx K mg) : FnR Pg w K mg base CX0 1 (He.ga K "_law_classes") (liftSp K (sp_l_classes K)) := by
  obtain ⟨fd, F⟩ := T.d_l_classes
  refine Av.FunD.AR F sc_l_classes (fun ds A Q E h => by obtain ⟨c, fs, rfl, hc, k⟩ := h; rfl) (fun _ _ _ _ _ _ us hl => match us, hl with | [_], _ => rfl) (fun cdv A0 outer s H0 E0 ds A Q E hr h => ?_)
  obtain ⟨c, fs, rfl, hc, k⟩ := h
  refine ⟨_, (ass_cons (as_set (i := 1) sc_l_classes.nd rfl (by first | exact Or.inl rfl | exact Or.inr rfl) (ae_lst false (aa_cons (ae_callB ca_isN (by rfl) T.n_isinstance (by decide +kernel) (aa_cons (ae_var (pv 0)) (aa_cons (ae_c (pe_glob (v := .ref (He.ga _ "BadSymbol")) rfl T.g_BadSymbol rfl) fun _ _ => .ref _) aa_nil))) (aa_cons (ae_callB ca_isN (by rfl) T.n_isinstance (by decide +kernel) (aa_cons (ae_var (pv 0)) (aa_cons (ae_c (pe_glob (v := .ref (He.ga _ "BadDomain")) rfl T.g_BadDomain rfl) fun _ _ => .ref _) aa_nil))) (aa_cons (ae_callB ca_isN (by rfl) T.n_isinstance (by decide +kernel) (aa_cons (ae_var (pv 0)) (aa_cons (ae_c (pe_glob (v := .ref (He.ga _ "BadFunction")) rfl T.g_BadFunction rfl) fun _ _ => .ref _) aa_nil))) (aa_cons (ae_callB ca_isN (by rfl) T.n_isinstance (by decide +kernel) (aa_cons (ae_var (pv 0)) (aa_cons (ae_c (pe_glob (v := .ref (He.ga _ "TooMany")) rfl T.g_TooMany rfl) fun _ _ => .ref _) aa_nil))) aa_nil))))))
      (ass_cons (as_set (i := 1) sc_l_classes.nd rfl (by first | exact Or.inl rfl | exact Or.inr rfl) (ae_add false (ae_var (pv 1)) (ae_lst false (aa_cons (ae_callB ca_isN (by rfl) T.n_isinstance (by decide +kernel) (aa_cons (ae_var (pv 0)) (aa_cons (ae_c (pe_glob (v := .ref (He.ga _ "NotCut")) rfl T.g_NotCut rfl) fun _ _ => .ref _) aa_nil))) (aa_cons (ae_callB ca_isN (by rfl) T.n_isinstance (by decide +kernel) (aa_cons (ae_var (pv 0)) (aa_cons (ae_c (pe_glob (v := .ref (He.ga _ "Amid")) rfl T.g_Amid rfl) fun _ _ => .ref _) aa_nil))) (aa_cons (ae_callB ca_isN (by rfl) T.n_isinstance (by decide +kernel) (aa_cons (ae_var (pv 0)) (aa_cons (ae_c (pe_glob (v := .ref (He.ga _ "Closed")) rfl T.g_Closed rfl) fun _ _ => .ref _) aa_nil))) (aa_cons (ae_callB ca_isN (by rfl) T.n_isinstance (by decide +kernel) (aa_cons (ae_var (pv 0)) (aa_cons (ae_c (pe_glob (v := .ref (He.ga _ "Starved")) rfl T.g_Starved rfl) fun _ _ => .ref _) aa_nil))) aa_nil)))))))
      (ass_cons (as_set (i := 1) sc_l_classes.nd rfl (by first | exact Or.inl rfl | exact Or.inr rfl) (ae_add false (ae_var (pv 1)) (ae_lst false (aa_cons (ae_callB ca_isN (by rfl) T.n_isinstance (by decide +kernel) (aa_cons (ae_var (pv 0)) (aa_cons (ae_c (pe_glob (v := .ref (He.ga _ "Failed")) rfl T.g_Failed rfl) fun _ _ => .ref _) aa_nil))) (aa_cons (ae_callB ca_isN (by rfl) T.n_isinstance (by decide +kernel) (aa_cons (ae_var (pv 0)) (aa_cons (ae_c (pe_glob (v := .ref (He.ga _ "Cut")) rfl T.g_Cut rfl) fun _ _ => .ref _) aa_nil))) (aa_cons (ae_callB ca_isN (by rfl) T.n_isinstance (by decide +kernel) (aa_cons (ae_var (pv 0)) (aa_cons (ae_c (pe_glob (v := .ref (He.ga _ "BadDoor")) rfl T.g_BadDoor rfl) fun _ _ => .ref _) aa_nil))) (aa_cons (ae_callB ca_isN (by rfl) T.n_isinstance (by decide +kernel) (aa_cons (ae_var (pv 0)) (aa_cons (ae_c (pe_glob (v := .ref (He.ga _ "BadName")) rfl T.g_BadName rfl) fun _ _ => .ref _) aa_nil))) aa_nil)))))))
      (ass_one (as_ret (ae_add false (ae_var (pv 1)) (ae_lst false (aa_cons (ae_callB ca_isN (by rfl) T.n_isinstance (by decide +kernel) (aa_cons (ae_var (pv 0)) (aa_cons (ae_c (pe_glob (v := .ref (He.ga _ "NotLent")) rfl T.g_NotLent rfl) fun _ _ => .ref _) aa_nil))) (aa_cons (ae_callB ca_isN (by rfl) T.n_isinstance (by decide +kernel) (aa_cons (ae_var (pv 0)) (aa_cons (ae_c (pe_glob (v := .ref (He.ga _ "BadMove")) rfl T.g_BadMove rfl) fun _ _ => .ref _) aa_nil))) (aa_cons (ae_callB ca_isN (by rfl) T.n_isinstance (by decide +kernel) (aa_cons (ae_var (pv 0)) (aa_cons (ae_c (pe_glob (v := .ref (He.ga _ "Faulty")) rfl T.g_Faulty rfl) fun _ _ => .ref _) aa_nil))) aa_nil)))))))))), ?_⟩
  obtain ⟨hX, hE⟩ := xfE T c hc
  have hk := T.kit c hc
  simp only [List.forall_mem_cons] at hk
  obtain ⟨k0, k1, k2, k3, k4, k5, k6, k7, k8, k9, k10, k11, k12, k13, k14, _⟩ := hk
  simp only [↓RD, RU, RS, RT, aStart, wipeA, putFA, toP, toPs, scDs, keysOk, aHandle, endsAA, putAA, starSp, cxK, List.map, List.replicate, Nat.reduceSub, Nat.reduceAdd, reduceCtorEq, Int.reduceToNat, Int.reducePow, Int.reduceMul, Int.reduceAdd, Int.reduceNeg, Int.reduceSub, String.reduceEq, String.reduceNe, Nat.reduceLeDiff, Int.reduceLT, Int.reduceLE, Nat.reduceLT, exists_eq_left, exists_eq_left', exists_eq_right, exists_eq_right', exists_and_left, exists_and_right, if_true, if_false, eq_self, ne_eq, exists_eq', exists_eq, exists_const, exists_false, implies_true, forall_const, Int.reduceEq, RPn, aErr_eq, aErr0_eq, aFldE_eq, gIsN_eq, D.err.injEq, clsV_ref, clsV_ty, List.zip_cons_cons, List.zip_nil_left, hX, hE, k0, k1, k2, k3, k4, k5, k6, k7, k8, k9, k10, k11, k12, k13, k14]
  exact ⟨by decide, fin_id k⟩


def sp_l_fields (K : PySem.W.Frag) : ASp := fun ds A Q _ => ∃ (n a : Int) (t : Str), ds = [.int n, .str t, .tup [.int a, .int 0], .tup [.tup [.int 3, .str "go"], .tup [.int a, .str t]]] ∧ sOk t ∧ Q (.bl true) A
theorem R_l_fields {w : World} {K : PySem.W.Frag} {mg : Str → Option Value} {base : Heap} (T : Tx K mg) : FnR Pg w K mg base CX0 1 (He.ga K "_law_fields") (liftSp K (sp_l_fields K)) := by
  obtain ⟨fd, F⟩ := T.d_l_fields
  refine Av.FunD.AR F sc_l_fields (fun ds A Q E h => by obtain ⟨n, a, t, rfl, ht, k⟩ := h; rfl) (fun _ _ _ _ _ _ us hl => match us, hl with | [_, _, _, _], _ => rfl) (fun cdv A0 outer s H0 E0 ds A Q E hr h => ?_)
  obtain ⟨n, a, t, rfl, ht, k⟩ := h
  refine ⟨_, (ass_cons (as_set (i := 4) sc_l_fields.nd rfl (by first | exact Or.inl rfl | exact Or.inr rfl) (ae_errK T.on_Faulty hr (ak_cons (ae_var (pv 1)) (ak_cons (ae_var (pv 2)) (ak_cons (ae_var (pv 3)) ak_nil))) rfl))
      (ass_cons (as_set (i := 5) sc_l_fields.nd rfl (by first | exact Or.inl rfl | exact Or.inr rfl) (ae_lst false (aa_cons (ae_fldE (ae_errK T.on_BadSymbol hr (ak_cons (ae_var (pv 1)) ak_nil) rfl) rfl) (aa_cons (ae_fldE (ae_errK T.on_BadDomain hr (ak_cons (ae_var (pv 1)) ak_nil) rfl) rfl) (aa_cons (ae_fldE (ae_errK T.on_TooMany hr (ak_cons (ae_var (pv 1)) ak_nil) rfl) rfl) aa_nil)))))
      (ass_cons (as_set (i := 5) sc_l_fields.nd rfl (by first | exact Or.inl rfl | exact Or.inr rfl) (ae_add false (ae_var (pv 5)) (ae_lst false (aa_cons (ae_fldE (ae_errK T.on_Amid hr (ak_cons (ae_var (pv 1)) ak_nil) rfl) rfl) (aa_cons (ae_fldE (ae_errK T.on_BadDoor hr (ak_cons (ae_var (pv 1)) ak_nil) rfl) rfl) (aa_cons (ae_fldE (ae_errK T.on_BadName hr (ak_cons (ae_var (pv 1)) ak_nil) rfl) rfl) (aa_cons (ae_fldE (ae_var (pv 4)) rfl) aa_nil)))))))
      (ass_cons (as_set (i := 6) sc_l_fields.nd rfl (by first | exact Or.inl rfl | exact Or.inr rfl) (ae_lst false (aa_cons (ae_fldE (ae_errK T.on_BadFunction hr (ak_cons (ae_var (pv 0)) ak_nil) rfl) rfl) (aa_cons (ae_fldE (ae_errK T.on_NotCut hr (ak_cons (ae_var (pv 0)) ak_nil) rfl) rfl) (aa_cons (ae_fldE (ae_errK T.on_Closed hr (ak_cons (ae_var (pv 0)) ak_nil) rfl) rfl) aa_nil)))))
      (ass_cons (as_set (i := 6) sc_l_fields.nd rfl (by first | exact Or.inl rfl | exact Or.inr rfl) (ae_add false (ae_var (pv 6)) (ae_lst false (aa_cons (ae_fldE (ae_errK T.on_Starved hr (ak_cons (ae_var (pv 0)) ak_nil) rfl) rfl) (aa_cons (ae_fldE (ae_errK T.on_Failed hr (ak_cons (ae_var (pv 0)) ak_nil) rfl) rfl) (aa_cons (ae_fldE (ae_errK T.on_Cut hr (ak_cons (ae_var (pv 0)) ak_nil) rfl) rfl) aa_nil))))))
      (ass_cons (as_set (i := 6) sc_l_fields.nd rfl (by first | exact Or.inl rfl | exact Or.inr rfl) (ae_add false (ae_var (pv 6)) (ae_lst false (aa_cons (ae_fldE (ae_errK T.on_NotLent hr (ak_cons (ae_var (pv 0)) ak_nil) rfl) rfl) (aa_cons (ae_fldE (ae_errK T.on_BadMove hr (ak_cons (ae_var (pv 0)) ak_nil) rfl) rfl) aa_nil)))))
      (ass_cons (as_set (i := 7) sc_l_fields.nd rfl (by first | exact Or.inl rfl | exact Or.inr rfl) (ae_and (ae_cmpA (cmp_eq hr.units) (ae_fldE (ae_var (pv 4)) rfl) (ae_var (pv 2)) (nomark _)) (ae_one (ae_cmpA (cmp_eq hr.units) (ae_fldE (ae_var (pv 4)) rfl) (ae_var (pv 3)) (nomark _)))))
      (ass_one (as_ret (ae_and (ae_cmpA (cmp_eq hr.units) (ae_var (pv 5)) (ae_mul false (ae_lst false (aa_cons (ae_var (pv 1)) aa_nil)) ae_int) (nomark _)) (ae_and (ae_cmpA (cmp_eq hr.units) (ae_var (pv 6)) (ae_mul false (ae_lst false (aa_cons (ae_var (pv 0)) aa_nil)) ae_int) (nomark _)) (ae_one (ae_var (pv 7)))))))))))))), ?_⟩
  have x0 := OwTN_x T.on_BadSymbol
  have x1 := OwTN_x T.on_BadDomain
  have x2 := OwTN_x T.on_BadFunction
  have x3 := OwTN_x T.on_TooMany
  have x4 := OwTN_x T.on_NotCut
  have x5 := OwTN_x T.on_Amid
  have x6 := OwTN_x T.on_Closed
  have x7 := OwTN_x T.on_Starved
  have x8 := OwTN_x T.on_Failed
  have x9 := OwTN_x T.on_Cut
  have x10 := OwTN_x T.on_BadDoor
  have x11 := OwTN_x T.on_BadName
  have x12 := OwTN_x T.on_NotLent
  have x13 := OwTN_x T.on_BadMove
  have x14 := OwTN_x T.on_Faulty
  have n0 := T.on_BadSymbol.noN "symbol" (by decide)
  have n1 := T.on_BadDomain.noN "symbol" (by decide)
  have n2 := T.on_BadFunction.noN "row" (by decide)
  have n3 := T.on_TooMany.noN "what" (by decide)
  have n4 := T.on_NotCut.noN "row" (by decide)
  have n5 := T.on_Amid.noN "half" (by decide)
  have n6 := T.on_Closed.noN "number" (by decide)
  have n7 := T.on_Starved.noN "number" (by decide)
  have n8 := T.on_Failed.noN "row" (by decide)
  have n9 := T.on_Cut.noN "row" (by decide)
  have n10 := T.on_BadDoor.noN "word" (by decide)
  have n11 := T.on_BadName.noN "name" (by decide)
  have n12 := T.on_NotLent.noN "number" (by decide)
  have n13 := T.on_BadMove.noN "at" (by decide)
  have n14 := T.on_Faulty.noN "kind" (by decide)
  have n15 := T.on_Faulty.noN "lengths" (by decide)
  have n16 := T.on_Faulty.noN "moves" (by decide)
  have l0 : ∀ v : D, List.lookup ("symbol" : Str) [("symbol", v)] = some v := fun v => rfl
  have l1 : ∀ v : D, List.lookup ("what" : Str) [("what", v)] = some v := fun v => rfl
  have l2 : ∀ v : D, List.lookup ("half" : Str) [("half", v)] = some v := fun v => rfl
  have l3 : ∀ v : D, List.lookup ("word" : Str) [("word", v)] = some v := fun v => rfl
  have l4 : ∀ v : D, List.lookup ("name" : Str) [("name", v)] = some v := fun v => rfl
  have l5 : ∀ v : D, List.lookup ("row" : Str) [("row", v)] = some v := fun v => rfl
  have l6 : ∀ v : D, List.lookup ("number" : Str) [("number", v)] = some v := fun v => rfl
  have l7 : ∀ v : D, List.lookup ("at" : Str) [("at", v)] = some v := fun v => rfl
  have m0 : ∀ a b c : D, List.lookup ("kind" : Str) [("kind", a), ("lengths", b), ("moves", c)] = some a := fun _ _ _ => rfl
  have m1 : ∀ a b c : D, List.lookup ("lengths" : Str) [("kind", a), ("lengths", b), ("moves", c)] = some b := fun _ _ _ => rfl
  have m2 : ∀ a b c : D, List.lookup ("moves" : Str) [("kind", a), ("lengths", b), ("moves", c)] = some c := fun _ _ _ => rfl
  have q0 : PyData.eqv (PyData.tuple [PyData.int a, PyData.int 0]) (PyData.tuple [PyData.int a, PyData.int 0]) = true := by simp [PyData.eqv, PyData.eqvAll]
  have d0 : (PyData.tuple [PyData.int a, PyData.int 0]).depth ≤ 64 := Nat.le_of_ble_eq_true rfl
  have q1 : PyData.eqv (PyData.tuple [PyData.tuple [PyData.int 3, PyData.str ("go" : Str)], PyData.tuple [PyData.int a, PyData.str t]]) (PyData.tuple [PyData.tuple [PyData.int 3, PyData.str ("go" : Str)], PyData.tuple [PyData.int a, PyData.str t]]) = true := by simp [PyData.eqv, PyData.eqvAll]
  have d1 : (PyData.tuple [PyData.tuple [PyData.int 3, PyData.str ("go" : Str)], PyData.tuple [PyData.int a, PyData.str t]]).depth ≤ 64 := Nat.le_of_ble_eq_true rfl
  have q2 : PyData.eqv (PyData.list [PyData.str t, PyData.str t, PyData.str t, PyData.str t, PyData.str t, PyData.str t, PyData.str t]) (PyData.list [PyData.str t, PyData.str t, PyData.str t, PyData.str t, PyData.str t, PyData.str t, PyData.str t]) = true := by simp [PyData.eqv, PyData.eqvAll]
  have d2 : (PyData.list [PyData.str t, PyData.str t, PyData.str t, PyData.str t, PyData.str t, PyData.str t, PyData.str t]).depth ≤ 64 := Nat.le_of_ble_eq_true rfl
  have q3 : PyData.eqv (PyData.list [PyData.int n, PyData.int n, PyData.int n, PyData.int n, PyData.int n, PyData.int n, PyData.int n, PyData.int n]) (PyData.list [PyData.int n, PyData.int n, PyData.int n, PyData.int n, PyData.int n, PyData.int n, PyData.int n, PyData.int n]) = true := by simp [PyData.eqv, PyData.eqvAll]
  have d3 : (PyData.list [PyData.int n, PyData.int n, PyData.int n, PyData.int n, PyData.int n, PyData.int n, PyData.int n, PyData.int n]).depth ≤ 64 := Nat.le_of_ble_eq_true rfl
  simp only [↓RD, RU, RS, RT, aStart, wipeA, putFA, toP, toPs, scDs, keysOk, aHandle, endsAA, putAA, starSp, cxK, List.map, List.replicate, Nat.reduceSub, Nat.reduceAdd, reduceCtorEq, Int.reduceToNat, Int.reducePow, Int.reduceMul, Int.reduceAdd, Int.reduceNeg, Int.reduceSub, String.reduceEq, String.reduceNe, Nat.reduceLeDiff, Int.reduceLT, Int.reduceLE, Nat.reduceLT, exists_eq_left, exists_eq_left', exists_eq_right, exists_eq_right', exists_and_left, exists_and_right, if_true, if_false, eq_self, ne_eq, exists_eq', exists_eq, exists_const, exists_false, implies_true, forall_const, Int.reduceEq, RPn, aErr_eq, aErr0_eq, aFldE_eq, gIsN_eq, D.err.injEq, clsV_ref, clsV_ty, List.zip_cons_cons, List.zip_nil_left, q0, q1, q2, q3, d0, d1, d2, d3, List.flatten_cons, List.flatten_nil, List.cons_append, List.nil_append, l0, l1, l2, l3, l4, l5, l6, l7, m0, m1, m2, x0, x1, x2, x3, x4, x5, x6, x7, x8, x9, x10, x11, x12, x13, x14, n0, n1, n2, n3, n4, n5, n6, n7, n8, n9, n10, n11, n12, n13, n14, n15, n16]
  exact ⟨by decide, by decide, fin_id k⟩


def texts6 : List Str := [("" : Str), ("out" : Str), ("both" : Str), ("zz9" : Str), ("rows" : Str), ("stale" : Str)]
theorem texts_ok : ∀ t ∈ texts6, sOk t := by
  unfold texts6
  simp only [List.forall_mem_cons]
  exact ⟨by unfold sOk; decide +kernel, by unfold sOk; decide +kernel, by unfold sOk; decide +kernel, by unfold sOk; decide +kernel, by unfold sOk; decide +kernel, by unfold sOk; decide +kernel, fun x h => by cases h⟩
theorem lt15 {j : Nat} (h : j < 15) : j = 0 ∨ j = 1 ∨ j = 2 ∨ j = 3 ∨ j = 4 ∨ j = 5 ∨ j = 6 ∨ j = 7 ∨ j = 8 ∨ j = 9 ∨ j = 10 ∨ j = 11 ∨ j = 12 ∨ j = 13 ∨ j = 14 := by omega
theorem en_at {j : Nat} (h : j < 15) : EN.getD j "" ∈ EN ∧ EN.getD j "" ∈ EM ∧ EN.map (fun x => EN.getD j "" == x) = (List.range 15).map fun i : Nat => decide (i = j) := by
  obtain rfl | rfl | rfl | rfl | rfl | rfl | rfl | rfl | rfl | rfl | rfl | rfl | rfl | rfl | rfl := lt15 h
  all_goals decide +kernel
theorem made_at {K : PySem.W.Frag} {n : Int} {t : Str} {j : Nat} (h : j < 15) : atI (madeE K n t) (j : Int) = some (.err (He.ga K (EN.getD j "")) ((fldE n t).getD j [])) := by
  obtain rfl | rfl | rfl | rfl | rfl | rfl | rfl | rfl | rfl | rfl | rfl | rfl | rfl | rfl | rfl := lt15 h
  all_goals rfl
theorem toPs_bls : ∀ l : List Bool, toPs (l.map D.bl) = some (l.map PyData.bool)
  | [] => rfl
  | b :: l => by rw [List.map_cons, List.map_cons, toPs, toPs_bls l]; rfl
theorem topP_bls {A : AH} (l : List Bool) : topP A (.lst (l.map D.bl)) = some (.list (l.map PyData.bool)) := by
  show toP _ = _
  rw [toP, toPs_bls l]
  rfl
theorem eqvAll_bls : ∀ l : List Bool, PyData.eqvAll (l.map PyData.bool) (l.map PyData.bool) = true
  | [] => rfl
  | b :: l => by rw [List.map_cons, PyData.eqvAll, eqvAll_bls l]; simp [PyData.eqv]
theorem eqv_bls (l : List Bool) : PyData.eqv (.list (l.map PyData.bool)) (.list (l.map PyData.bool)) = true := by rw [PyData.eqv]; exact eqvAll_bls l
theorem depthAll_bls : ∀ l : List Bool, PyData.depthAll (l.map PyData.bool) ≤ 1
  | [] => by simp [PyData.depthAll]
  | b :: l => by
    have := depthAll_bls l
    rw [List.map_cons, PyData.depthAll, PyData.depth]
    omega
theorem depth_bls (l : List Bool) : (PyData.list (l.map PyData.bool)).depth ≤ 64 := by
  have := depthAll_bls l
  rw [PyData.depth]
  omega
def eqJ (j : Nat) : D → D
  | .int i => .bl (decide (i = (j : Int)))
  | d => d
def spa_law (_ : PySem.W.Frag) : ASp := fun ds A Q _ => ∃ ns : List Int, ds = [.rol (ns.map D.int)] ∧ ns.length ≤ 63 ∧ ∀ A', Q (.bl true) A'
theorem B_law {w : World} {K : PySem.W.Frag} {mg : Str → Option Value} {base : Heap} (T : Tx K mg) : Av.BodyR Pg w K mg base D_law.qual D_law.body D_law.scope (He.ga K "law") ["_law_script", "_law_place", "_law_bag_here", "_law_count", "_law_text", "_law_sizes", "_law_pairs", "_law_made_here", "_law_k", "_law_bare", "_law_one"] 4 (spa_law K) := by
  intro cdv A0 outer s H0 E0 ds A Q E hr h
  obtain ⟨ns, rfl, hl, k⟩ := h
  refine ⟨_, (ass_cons (as_for (p := (.nm 1)) PassesOwn.never rfl (ai_range1 rfl T.n_range (aa_cons (ae_callB (ca_max rfl) (by rfl) T.n_max (by decide +kernel) (aa_cons ae_int (aa_cons (ae_callB (ca_min rfl) (by rfl) T.n_min (by decide +kernel) (aa_cons ae_int (aa_cons (ae_callB ca_len (by rfl) T.n_len (by decide +kernel) (aa_cons (ae_var (pv 0)) aa_nil)) aa_nil))) aa_nil))) aa_nil)) (pg_name (i := 1) sc_law.nd rfl (by first | exact Or.inl rfl | exact Or.inr rfl)) (ass_cons (as_set (i := 2) sc_law.nd rfl (by first | exact Or.inl rfl | exact Or.inr rfl) (ae_callR (R_l_bag T) (hr.mono (by decide)) rfl T.g__law_bag T.k__law_bag (aa_cons (ae_var (pv 0)) (aa_cons (ae_var (pv 1)) aa_nil))))
      (ass_cons (as_par2 (i := 3) (j := 4) (by rfl) sc_law.nd rfl rfl (by decide) rfl rfl (aa_cons (ae_callR (R_l_number T) (hr.mono (by decide)) rfl T.g__law_number T.k__law_number (aa_cons (ae_var (pv 2)) aa_nil)) (aa_cons (ae_callR (R_l_of T) (hr.mono (by decide)) rfl T.g__law_of T.k__law_of (aa_cons (ae_var (pv 2)) (aa_cons (ae_lst false (aa_cons ae_str (aa_cons ae_str (aa_cons ae_str (aa_cons ae_str (aa_cons ae_str (aa_cons ae_str aa_nil))))))) aa_nil))) aa_nil)) (by rfl))
      (ass_cons (as_par2 (i := 5) (j := 6) (by rfl) sc_law.nd rfl rfl (by decide) rfl rfl (aa_cons (ae_tup (aa_cons (ae_callB ca_abs (by rfl) T.n_abs (by decide +kernel) (aa_cons (ae_var (pv 3)) aa_nil)) (aa_cons ae_int aa_nil))) (aa_cons (ae_tup (aa_cons (ae_tup (aa_cons ae_int (aa_cons ae_str aa_nil))) (aa_cons (ae_tup (aa_cons (ae_callB ca_abs (by rfl) T.n_abs (by decide +kernel) (aa_cons (ae_var (pv 3)) aa_nil)) (aa_cons (ae_var (pv 4)) aa_nil))) aa_nil))) aa_nil)) (by rfl))
      (ass_cons (as_if (at_not (at_truth (ae_callR (R_l_fields T) (hr.mono (by decide)) rfl T.g__law_fields T.k__law_fields (aa_cons (ae_var (pv 3)) (aa_cons (ae_var (pv 4)) (aa_cons (ae_var (pv 5)) (aa_cons (ae_var (pv 6)) aa_nil))))))) (ass_one (as_ret ae_bl)) ass_nil)
      (ass_cons (as_set (i := 7) sc_law.nd rfl (by first | exact Or.inl rfl | exact Or.inr rfl) (ae_callR (R_l_made T) (hr.mono (by decide)) rfl T.g__law_made T.k__law_made (aa_cons (ae_var (pv 3)) (aa_cons (ae_var (pv 4)) aa_nil))))
      (ass_cons (as_for (p := (.nm 8)) PassesOwn.never rfl (ai_range1 rfl T.n_range (aa_cons ae_int aa_nil)) (pg_name (i := 8) sc_law.nd rfl (by first | exact Or.inl rfl | exact Or.inr rfl)) (ass_cons (as_if (at_cmpA (cmp_ne hr.units) (ae_callR (R_l_classes T) (hr.mono (by decide)) rfl T.g__law_classes T.k__law_classes (aa_cons (ae_subs (ae_var (pv 7)) (ae_var (pv 8)) (fun _ _ => rfl)) aa_nil)) (ae_lc false (own := [("_law_one", 10)]) (pt := (.nm 10)) rfl sc_law.nd (ai_range1 rfl T.n_range (aa_cons ae_int aa_nil)) (blkOk_by (own := [("_law_one", 10)]) (N := ["_law_script", "_law_place", "_law_bag_here", "_law_count", "_law_text", "_law_sizes", "_law_pairs", "_law_made_here", "_law_k", "_law_bare", "_law_one"]) (sc := defScope s_law) (by decide +kernel)) (by decide) (fun _ _ _ _ _ => by exact (pg_name (i := 10) sc_law.nd rfl (by first | exact Or.inl rfl | exact Or.inr rfl))) (fun _ _ _ _ _ => by exact ats_nil) (fun _ _ _ _ _ => by exact (ae_cmpA (cmp_eq hr.units) (ae_var (pv 10)) (ae_var (pv 8)) (nomark _)))) (nomark _)) (ass_one (as_ret ae_bl)) ass_nil)
      (ass_one (as_if (PW.pt (aw_or (at_not (at_truth (ae_callB ca_isN (by rfl) T.n_isinstance (by decide +kernel) (aa_cons (ae_subs (ae_var (pv 7)) (ae_var (pv 8)) (fun _ _ => rfl)) (aa_cons (ae_c (pe_glob (v := .ref (He.ga _ "OwedError")) rfl T.g_OwedError rfl) fun _ _ => .ref _) aa_nil))))) (aw_or1 (at_not (at_truth (ae_callB ca_isN (by rfl) T.n_isinstance (by decide +kernel) (aa_cons (ae_subs (ae_var (pv 7)) (ae_var (pv 8)) (fun _ _ => rfl)) (aa_cons (ae_c (pe_bltn (v := .ty "ValueError") (by rfl) T.n_ValueError (by decide +kernel) rfl) fun _ _ => .ty "ValueError") aa_nil)))))))) (ass_one (as_ret ae_bl)) ass_nil))))
      (ass_cons (as_if (PW.pt (aw_or (at_cmpA (cmp_ne hr.units) (ae_fldE (ae_subs (ae_var (pv 7)) ae_int (fun _ _ => rfl)) rfl) (ae_var (pv 4)) (nomark _)) (aw_or (at_cmpA (cmp_ne hr.units) (ae_fldE (ae_subs (ae_var (pv 7)) ae_int (fun _ _ => rfl)) rfl) (ae_var (pv 4)) (nomark _)) (aw_or1 (at_cmpA (cmp_ne hr.units) (ae_fldE (ae_subs (ae_var (pv 7)) ae_int (fun _ _ => rfl)) rfl) (ae_var (pv 3)) (nomark _)))))) (ass_one (as_ret ae_bl)) ass_nil)
      (ass_cons (as_if (PW.pt (aw_or (at_cmpA (cmp_ne hr.units) (ae_fldE (ae_subs (ae_var (pv 7)) ae_int (fun _ _ => rfl)) rfl) (ae_var (pv 4)) (nomark _)) (aw_or (at_cmpA (cmp_ne hr.units) (ae_fldE (ae_subs (ae_var (pv 7)) ae_int (fun _ _ => rfl)) rfl) (ae_tup (aa_cons (ae_var (pv 3)) aa_nil)) (nomark _)) (aw_or1 (at_cmpA (cmp_ne hr.units) (ae_fldE (ae_subs (ae_var (pv 7)) ae_int (fun _ _ => rfl)) rfl) (ae_tup (aa_cons (ae_tup (aa_cons (ae_var (pv 3)) (aa_cons (ae_var (pv 4)) aa_nil))) aa_nil)) (nomark _)))))) (ass_one (as_ret ae_bl)) ass_nil)
      (ass_cons (as_set (i := 9) sc_law.nd rfl (by first | exact Or.inl rfl | exact Or.inr rfl) (ae_err0 F.excBase_ValueError T.xi_OwedError T.g_OwedError T.k_OwedError rfl ae_str))
      (ass_one (as_if (PW.pt (aw_or (at_cmpA cmp_in ae_bl (ae_callR (R_l_classes T) (hr.mono (by decide)) rfl T.g__law_classes T.k__law_classes (aa_cons (ae_var (pv 9)) aa_nil)) rfl) (aw_or1 (at_not (at_truth (ae_callB ca_isN (by rfl) T.n_isinstance (by decide +kernel) (aa_cons (ae_var (pv 9)) (aa_cons (ae_c (pe_bltn (v := .ty "ValueError") (by rfl) T.n_ValueError (by decide +kernel) rfl) fun _ _ => .ty "ValueError") aa_nil)))))))) (ass_one (as_ret ae_bl)) ass_nil))))))))))))
      (ass_one (as_ret ae_bl))), ?_⟩
  simp only [↓RD, RU, RS, RT, aStart, wipeA, putFA, toP, toPs, scDs, keysOk, aHandle, endsAA, putAA, starSp, cxK, List.map, List.replicate, Nat.reduceSub, Nat.reduceAdd, reduceCtorEq, Int.reduceToNat, Int.reducePow, Int.reduceMul, Int.reduceAdd, Int.reduceNeg, Int.reduceSub, String.reduceEq, String.reduceNe, Nat.reduceLeDiff, Int.reduceLT, Int.reduceLE, Nat.reduceLT, exists_eq_left, exists_eq_left', exists_eq_right, exists_eq_right', exists_and_left, exists_and_right, if_true, if_false, eq_self, ne_eq, exists_eq', exists_eq, exists_const, exists_false, implies_true, forall_const, Int.reduceEq, RPn, aErr_eq, aErr0_eq, aFldE_eq, gIsN_eq, D.err.injEq, clsV_ref, clsV_ty, List.zip_cons_cons, List.zip_nil_left]
  have hN : ∃ N : Nat, N ≤ 12 ∧ (if (if ((List.map D.int ns).length : Int) < 12 then ((List.map D.int ns).length : Int) else 12) > 1 then if ((List.map D.int ns).length : Int) < 12 then ((List.map D.int ns).length : Int) else 12 else 1) = (N : Int) := by
    refine ⟨max 1 (min 12 ns.length), by omega, ?_⟩
    rw [List.length_map]
    split <;> split <;> omega
  obtain ⟨N, hN6, eN⟩ := hN
  rw [eN]
  refine ⟨by omega, by omega, ?_⟩
  refine loop_for (fun i δ A' => ∃ v1 v2 v3 v4 v5 v6 v7 v8 v9 v10, δ = [some (.rol (ns.map D.int)), v1, v2, v3, v4, v5, v6, v7, v8, v9, v10]) ⟨_, _, _, _, _, _, _, _, _, _, rfl⟩ (fun _ _ _ _ _ => trivial) (fun i y δ A' R hy hP hR => ?_) (fun δ A' hP => ?_)
  · obtain ⟨v1, v2, v3, v4, v5, v6, v7, v8, v9, v10, rfl⟩ := hP
    obtain ⟨hi, rfl⟩ := rngL_get hy
    rw [show (0 : Int) + (i : Int) = (i : Int) by omega]
    simp only [↓RD, RU, RS, RT, aStart, wipeA, putFA, toP, toPs, scDs, keysOk, aHandle, endsAA, putAA, starSp, cxK, List.map, List.replicate, Nat.reduceSub, Nat.reduceAdd, reduceCtorEq, Int.reduceToNat, Int.reducePow, Int.reduceMul, Int.reduceAdd, Int.reduceNeg, Int.reduceSub, String.reduceEq, String.reduceNe, Nat.reduceLeDiff, Int.reduceLT, Int.reduceLE, Nat.reduceLT, exists_eq_left, exists_eq_left', exists_eq_right, exists_eq_right', exists_and_left, exists_and_right, if_true, if_false, eq_self, ne_eq, exists_eq', exists_eq, exists_const, exists_false, implies_true, forall_const, Int.reduceEq, RPn, aErr_eq, aErr0_eq, aFldE_eq, gIsN_eq, D.err.injEq, clsV_ref, clsV_ty, List.zip_cons_cons, List.zip_nil_left]
    refine ⟨ns, i, rfl, by omega, hl, fun l0 b hB0 hb => ?_⟩
    simp only [↓RD, RU, RS, RT, aStart, wipeA, putFA, toP, toPs, scDs, keysOk, aHandle, endsAA, putAA, starSp, cxK, List.map, List.replicate, Nat.reduceSub, Nat.reduceAdd, reduceCtorEq, Int.reduceToNat, Int.reducePow, Int.reduceMul, Int.reduceAdd, Int.reduceNeg, Int.reduceSub, String.reduceEq, String.reduceNe, Nat.reduceLeDiff, Int.reduceLT, Int.reduceLE, Nat.reduceLT, exists_eq_left, exists_eq_left', exists_eq_right, exists_eq_right', exists_and_left, exists_and_right, if_true, if_false, eq_self, ne_eq, exists_eq', exists_eq, exists_const, exists_false, implies_true, forall_const, Int.reduceEq, RPn, aErr_eq, aErr0_eq, aFldE_eq, gIsN_eq, D.err.injEq, clsV_ref, clsV_ty, List.zip_cons_cons, List.zip_nil_left]
    refine ⟨b, _, l0, rfl, put_same, hB0, by omega, fun n l1 hn hB1 => ?_⟩
    simp only [↓RD, RU, RS, RT, aStart, wipeA, putFA, toP, toPs, scDs, keysOk, aHandle, endsAA, putAA, starSp, cxK, List.map, List.replicate, Nat.reduceSub, Nat.reduceAdd, reduceCtorEq, Int.reduceToNat, Int.reducePow, Int.reduceMul, Int.reduceAdd, Int.reduceNeg, Int.reduceSub, String.reduceEq, String.reduceNe, Nat.reduceLeDiff, Int.reduceLT, Int.reduceLE, Nat.reduceLT, exists_eq_left, exists_eq_left', exists_eq_right, exists_eq_right', exists_and_left, exists_and_right, if_true, if_false, eq_self, ne_eq, exists_eq', exists_eq, exists_const, exists_false, implies_true, forall_const, Int.reduceEq, RPn, aErr_eq, aErr0_eq, aFldE_eq, gIsN_eq, D.err.injEq, clsV_ref, clsV_ty, List.zip_cons_cons, List.zip_nil_left]
    refine ⟨b, _, l1, _, rfl, by decide, by decide, put_same, hB1, by omega, fun d l2 hd hB2 => ?_⟩
    obtain ⟨t, rfl, ht⟩ : ∃ t, d = D.str t ∧ sOk t := by
      obtain ⟨t, h1, h2⟩ := List.mem_map.mp (show d ∈ texts6.map D.str from hd)
      exact ⟨t, h2.symm, texts_ok t h1⟩
    generalize put (put (put A' b (.lst l0)) b (.lst l1)) b (.lst l2) = A1
    simp only [↓RD, RU, RS, RT, aStart, wipeA, putFA, toP, toPs, scDs, keysOk, aHandle, endsAA, putAA, starSp, cxK, List.map, List.replicate, Nat.reduceSub, Nat.reduceAdd, reduceCtorEq, Int.reduceToNat, Int.reducePow, Int.reduceMul, Int.reduceAdd, Int.reduceNeg, Int.reduceSub, String.reduceEq, String.reduceNe, Nat.reduceLeDiff, Int.reduceLT, Int.reduceLE, Nat.reduceLT, exists_eq_left, exists_eq_left', exists_eq_right, exists_eq_right', exists_and_left, exists_and_right, if_true, if_false, eq_self, ne_eq, exists_eq', exists_eq, exists_const, exists_false, implies_true, forall_const, Int.reduceEq, RPn, aErr_eq, aErr0_eq, aFldE_eq, gIsN_eq, D.err.injEq, clsV_ref, clsV_ty, List.zip_cons_cons, List.zip_nil_left]
    refine ⟨n, _, t, rfl, ht, ?_⟩
    simp only [↓RD, RU, RS, RT, aStart, wipeA, putFA, toP, toPs, scDs, keysOk, aHandle, endsAA, putAA, starSp, cxK, List.map, List.replicate, Nat.reduceSub, Nat.reduceAdd, reduceCtorEq, Int.reduceToNat, Int.reducePow, Int.reduceMul, Int.reduceAdd, Int.reduceNeg, Int.reduceSub, String.reduceEq, String.reduceNe, Nat.reduceLeDiff, Int.reduceLT, Int.reduceLE, Nat.reduceLT, exists_eq_left, exists_eq_left', exists_eq_right, exists_eq_right', exists_and_left, exists_and_right, if_true, if_false, eq_self, ne_eq, exists_eq', exists_eq, exists_const, exists_false, implies_true, forall_const, Int.reduceEq, RPn, aErr_eq, aErr0_eq, aFldE_eq, gIsN_eq, D.err.injEq, clsV_ref, clsV_ty, List.zip_cons_cons, List.zip_nil_left]
    refine ⟨n, t, rfl, ht, ?_⟩
    simp only [↓RD, RU, RS, RT, aStart, wipeA, putFA, toP, toPs, scDs, keysOk, aHandle, endsAA, putAA, starSp, cxK, List.map, List.replicate, Nat.reduceSub, Nat.reduceAdd, reduceCtorEq, Int.reduceToNat, Int.reducePow, Int.reduceMul, Int.reduceAdd, Int.reduceNeg, Int.reduceSub, String.reduceEq, String.reduceNe, Nat.reduceLeDiff, Int.reduceLT, Int.reduceLE, Nat.reduceLT, exists_eq_left, exists_eq_left', exists_eq_right, exists_eq_right', exists_and_left, exists_and_right, if_true, if_false, eq_self, ne_eq, exists_eq', exists_eq, exists_const, exists_false, implies_true, forall_const, Int.reduceEq, RPn, aErr_eq, aErr0_eq, aFldE_eq, gIsN_eq, D.err.injEq, clsV_ref, clsV_ty, List.zip_cons_cons, List.zip_nil_left]
    refine loop_for (fun j δ A2 => ∃ v8 v9 v10, δ = [some (.rol (ns.map D.int)), some (.int (i : Int)), some (.ref b), some (.int n), some (.str t), some (.tup [.int (if n < 0 then -n else n), .int 0]), some (.tup [.tup [.int 3, .str "go"], .tup [.int (if n < 0 then -n else n), .str t]]), some (.lst (madeE K n t)), v8, v9, v10]) ⟨v8, v9, v10, rfl⟩ (fun _ _ _ _ _ => trivial) (fun j y δ A2 R2 hy hP hR2 => ?_) (fun δ A2 hP => ?_)
    · obtain ⟨v8, v9, v10, rfl⟩ := hP
      obtain ⟨hj, rfl⟩ := rngL_get hy
      rw [show (0 : Int) + (j : Int) = (j : Int) by omega]
      have hj15 : j < 15 := by omega
      have hat := made_at (K := K) (n := n) (t := t) hj15
      obtain ⟨hc1, hc2, he⟩ := en_at hj15
      generalize EN.getD j "" = c at hat hc1 hc2 he
      generalize (fldE n t).getD j [] = fs at hat
      simp only [↓RD, RU, RS, RT, aStart, wipeA, putFA, toP, toPs, scDs, keysOk, aHandle, endsAA, putAA, starSp, cxK, List.map, List.replicate, Nat.reduceSub, Nat.reduceAdd, reduceCtorEq, Int.reduceToNat, Int.reducePow, Int.reduceMul, Int.reduceAdd, Int.reduceNeg, Int.reduceSub, String.reduceEq, String.reduceNe, Nat.reduceLeDiff, Int.reduceLT, Int.reduceLE, Nat.reduceLT, exists_eq_left, exists_eq_left', exists_eq_right, exists_eq_right', exists_and_left, exists_and_right, if_true, if_false, eq_self, ne_eq, exists_eq', exists_eq, exists_const, exists_false, implies_true, forall_const, Int.reduceEq, RPn, aErr_eq, aErr0_eq, aFldE_eq, gIsN_eq, D.err.injEq, clsV_ref, clsV_ty, List.zip_cons_cons, List.zip_nil_left, hat]
      refine ⟨c, fs, rfl, hc2, ?_⟩
      simp only [↓RD, RU, RS, RT, aStart, wipeA, putFA, toP, toPs, scDs, keysOk, aHandle, endsAA, putAA, starSp, cxK, List.map, List.replicate, Nat.reduceSub, Nat.reduceAdd, reduceCtorEq, Int.reduceToNat, Int.reducePow, Int.reduceMul, Int.reduceAdd, Int.reduceNeg, Int.reduceSub, String.reduceEq, String.reduceNe, Nat.reduceLeDiff, Int.reduceLT, Int.reduceLE, Nat.reduceLT, exists_eq_left, exists_eq_left', exists_eq_right, exists_eq_right', exists_and_left, exists_and_right, if_true, if_false, eq_self, ne_eq, exists_eq', exists_eq, exists_const, exists_false, implies_true, forall_const, Int.reduceEq, RPn, aErr_eq, aErr0_eq, aFldE_eq, gIsN_eq, D.err.injEq, clsV_ref, clsV_ty, List.zip_cons_cons, List.zip_nil_left]
      refine Av.comp_map (eqJ j) trivial _ [] (by rw [rngL_len]; decide) (fun d hd R hR => ?_) ?_
      · obtain ⟨i2, hi2⟩ := List.getElem?_of_mem hd
        obtain ⟨_, rfl⟩ := rngL_get hi2
        simp only [↓RD, RU, RS, RT, aStart, wipeA, putFA, toP, toPs, scDs, keysOk, aHandle, endsAA, putAA, starSp, cxK, List.map, List.replicate, Nat.reduceSub, Nat.reduceAdd, reduceCtorEq, Int.reduceToNat, Int.reducePow, Int.reduceMul, Int.reduceAdd, Int.reduceNeg, Int.reduceSub, String.reduceEq, String.reduceNe, Nat.reduceLeDiff, Int.reduceLT, Int.reduceLE, Nat.reduceLT, exists_eq_left, exists_eq_left', exists_eq_right, exists_eq_right', exists_and_left, exists_and_right, if_true, if_false, eq_self, ne_eq, exists_eq', exists_eq, exists_const, exists_false, implies_true, forall_const, Int.reduceEq, RPn, aErr_eq, aErr0_eq, aFldE_eq, gIsN_eq, D.err.injEq, clsV_ref, clsV_ty, List.zip_cons_cons, List.zip_nil_left]
        exact hR
      · have eM : (rngL 0 15).map (eqJ j) = ((List.range 15).map fun i : Nat => decide (i = j)).map D.bl := by
          unfold rngL
          rw [List.map_map, List.map_map]
          refine List.map_congr_left fun x _ => ?_
          show D.bl (decide ((0 : Int) + (x : Int) = (j : Int))) = D.bl (decide (x = j))
          congr 1
          exact decide_eq_decide.mpr (by omega)
        have eN2 : EN.map (fun x => D.bl (c == x)) = ((List.range 15).map fun i : Nat => decide (i = j)).map D.bl := by
          rw [← he, List.map_map]
          rfl
        rw [List.nil_append, eM, eN2]
        generalize hL : (List.range 15).map (fun i : Nat => decide (i = j)) = L
        have eP := topP_bls (A := A2) L
        have eq := eqv_bls L
        have ed := depth_bls L
        obtain ⟨hX, hE⟩ := xfE T c hc2
        have ko := T.kito c hc1
        have kv := T.kitv c hc2
        simp only [↓RD, RU, RS, RT, aStart, wipeA, putFA, toP, toPs, scDs, keysOk, aHandle, endsAA, putAA, starSp, cxK, List.map, List.replicate, Nat.reduceSub, Nat.reduceAdd, reduceCtorEq, Int.reduceToNat, Int.reducePow, Int.reduceMul, Int.reduceAdd, Int.reduceNeg, Int.reduceSub, String.reduceEq, String.reduceNe, Nat.reduceLeDiff, Int.reduceLT, Int.reduceLE, Nat.reduceLT, exists_eq_left, exists_eq_left', exists_eq_right, exists_eq_right', exists_and_left, exists_and_right, if_true, if_false, eq_self, ne_eq, exists_eq', exists_eq, exists_const, exists_false, implies_true, forall_const, Int.reduceEq, RPn, aErr_eq, aErr0_eq, aFldE_eq, gIsN_eq, D.err.injEq, clsV_ref, clsV_ty, List.zip_cons_cons, List.zip_nil_left, eP, eq, ed, hat, hX, hE, ko, kv]
        exact hR2 _ _ ⟨_, _, _, rfl⟩
    · obtain ⟨v8, v9, v10, rfl⟩ := hP
      have a3 : atI (madeE K n t) 3 = some (.err (He.ga K "TooMany") [("what", .str t)]) := rfl
      have a5 : atI (madeE K n t) 5 = some (.err (He.ga K "Amid") [("half", .str t)]) := rfl
      have a9 : atI (madeE K n t) 9 = some (.err (He.ga K "Cut") [("row", .int n)]) := rfl
      have a14 : atI (madeE K n t) 14 = some (.err (He.ga K "Faulty") [("kind", .str t), ("lengths", .tup [.int n]), ("moves", .tup [.tup [.int n, .str t]])]) := rfl
      have x3 := OwTN_x T.on_TooMany
      have x5 := OwTN_x T.on_Amid
      have x9 := OwTN_x T.on_Cut
      have x14 := OwTN_x T.on_Faulty
      have n3 := T.on_TooMany.noN "what" (by decide)
      have n5 := T.on_Amid.noN "half" (by decide)
      have n9 := T.on_Cut.noN "row" (by decide)
      have n14 := T.on_Faulty.noN "kind" (by decide)
      have n15 := T.on_Faulty.noN "lengths" (by decide)
      have n16 := T.on_Faulty.noN "moves" (by decide)
      have l1 : ∀ v : D, List.lookup ("what" : Str) [("what", v)] = some v := fun v => rfl
      have l2 : ∀ v : D, List.lookup ("half" : Str) [("half", v)] = some v := fun v => rfl
      have l3 : ∀ v : D, List.lookup ("row" : Str) [("row", v)] = some v := fun v => rfl
      have m0 : ∀ a b c : D, List.lookup ("kind" : Str) [("kind", a), ("lengths", b), ("moves", c)] = some a := fun _ _ _ => rfl
      have m1 : ∀ a b c : D, List.lookup ("lengths" : Str) [("kind", a), ("lengths", b), ("moves", c)] = some b := fun _ _ _ => rfl
      have m2 : ∀ a b c : D, List.lookup ("moves" : Str) [("kind", a), ("lengths", b), ("moves", c)] = some c := fun _ _ _ => rfl
      have q0 : PyData.eqv (PyData.tuple [PyData.int n]) (PyData.tuple [PyData.int n]) = true := by simp [PyData.eqv, PyData.eqvAll]
      have d0 : (PyData.tuple [PyData.int n]).depth ≤ 64 := Nat.le_of_ble_eq_true rfl
      have q1 : PyData.eqv (PyData.tuple [PyData.tuple [PyData.int n, PyData.str t]]) (PyData.tuple [PyData.tuple [PyData.int n, PyData.str t]]) = true := by simp [PyData.eqv, PyData.eqvAll]
      have d1 : (PyData.tuple [PyData.tuple [PyData.int n, PyData.str t]]).depth ≤ 64 := Nat.le_of_ble_eq_true rfl
      simp only [↓RD, RU, RS, RT, aStart, wipeA, putFA, toP, toPs, scDs, keysOk, aHandle, endsAA, putAA, starSp, cxK, List.map, List.replicate, Nat.reduceSub, Nat.reduceAdd, reduceCtorEq, Int.reduceToNat, Int.reducePow, Int.reduceMul, Int.reduceAdd, Int.reduceNeg, Int.reduceSub, String.reduceEq, String.reduceNe, Nat.reduceLeDiff, Int.reduceLT, Int.reduceLE, Nat.reduceLT, exists_eq_left, exists_eq_left', exists_eq_right, exists_eq_right', exists_and_left, exists_and_right, if_true, if_false, eq_self, ne_eq, exists_eq', exists_eq, exists_const, exists_false, implies_true, forall_const, Int.reduceEq, RPn, aErr_eq, aErr0_eq, aFldE_eq, gIsN_eq, D.err.injEq, clsV_ref, clsV_ty, List.zip_cons_cons, List.zip_nil_left, q0, q1, d0, d1, Bool.not_true, Bool.false_eq_true, if_false, a3, a5, a9, a14, x3, x5, x9, x14, n3, n5, n9, n14, n15, n16, l1, l2, l3, m0, m1, m2]
      have hO : ("OwedError" : Str) ∈ EM := by decide +kernel
      refine ⟨"OwedError", [], rfl, hO, ?_⟩
      have eF : EN.map (fun x => D.bl ((("OwedError" : Str)) == x)) = List.replicate 15 (D.bl false) := by
        rw [show EN.map (fun x => D.bl ((("OwedError" : Str)) == x)) = (EN.map (fun x => (("OwedError" : Str)) == x)).map D.bl from by rw [List.map_map]; rfl, show EN.map (fun x => (("OwedError" : Str)) == x) = List.replicate 15 false from by decide +kernel]
        rfl
      rw [eF]
      obtain ⟨hX, hE⟩ := xfE T "OwedError" hO
      have kv := T.kitv "OwedError" hO
      simp only [↓RD, RU, RS, RT, aStart, wipeA, putFA, toP, toPs, scDs, keysOk, aHandle, endsAA, putAA, starSp, cxK, List.map, List.replicate, Nat.reduceSub, Nat.reduceAdd, reduceCtorEq, Int.reduceToNat, Int.reducePow, Int.reduceMul, Int.reduceAdd, Int.reduceNeg, Int.reduceSub, String.reduceEq, String.reduceNe, Nat.reduceLeDiff, Int.reduceLT, Int.reduceLE, Nat.reduceLT, exists_eq_left, exists_eq_left', exists_eq_right, exists_eq_right', exists_and_left, exists_and_right, if_true, if_false, eq_self, ne_eq, exists_eq', exists_eq, exists_const, exists_false, implies_true, forall_const, Int.reduceEq, RPn, aErr_eq, aErr0_eq, aFldE_eq, gIsN_eq, D.err.injEq, clsV_ref, clsV_ty, List.zip_cons_cons, List.zip_nil_left, List.replicate, hX, hE, kv]
      refine (if_neg (by decide)).mpr ?_
      exact hR _ _ ⟨_, _, _, _, _, _, _, _, _, _, rfl⟩
  · simp only [↓RD, RU, RS, RT, aStart, wipeA, putFA, toP, toPs, scDs, keysOk, aHandle, endsAA, putAA, starSp, cxK, List.map, List.replicate, Nat.reduceSub, Nat.reduceAdd, reduceCtorEq, Int.reduceToNat, Int.reducePow, Int.reduceMul, Int.reduceAdd, Int.reduceNeg, Int.reduceSub, String.reduceEq, String.reduceNe, Nat.reduceLeDiff, Int.reduceLT, Int.reduceLE, Nat.reduceLT, exists_eq_left, exists_eq_left', exists_eq_right, exists_eq_right', exists_and_left, exists_and_right, if_true, if_false, eq_self, ne_eq, exists_eq', exists_eq, exists_const, exists_false, implies_true, forall_const, Int.reduceEq, RPn, aErr_eq, aErr0_eq, aFldE_eq, gIsN_eq, D.err.injEq, clsV_ref, clsV_ty, List.zip_cons_cons, List.zip_nil_left]
    exact fin_id (k _)


set_option maxHeartbeats 0
def sp_law (K : PySem.W.Frag) : Sp := fun vs H Q _ => ∃ (a : Addr) (ns : List Int), vs = [.ref a] ∧ SqL K H a (ns.map V.int) ∧ ns.length ≤ 63 ∧ ∀ H', Q (.bl true) H'
theorem ok_law {w : World} {K : PySem.W.Frag} {mg : Str → Option Value} {base : Heap} {fd : FuncData} (F : L2.FunD K D_law.name D_law.qual D_law.params D_law.body D_law.scope (D_law.dvs K) (D_law.kws K) (He.ga K "law") fd) (T : Tx K mg) : FnOk Pg w K mg base CX0 5 (He.ga K "law") fd ["_law_script"] (sp_law K) := by
  refine FunD.ok F sc_law (fun vs H Q E h => by obtain ⟨a, ns, rfl, _⟩ := h; rfl) (fun cdv A outer s H vs Q E hr h => ?_)
  obtain ⟨a, ns, rfl, hS, hl, k⟩ := h
  obtain ⟨t, ht, hq⟩ := bodyR (dd := []) (B_law T) cdv A outer s H [.ref a] Q E hr (law_lift (asp := spa_law K) hS (fun A Q' h => ⟨ns, rfl, hl, h⟩) k)
  exact ⟨t, ht.nox, hq⟩
theorem facts {w : World} {K : PySem.W.Frag} {h : Heap} {mg : Str → Option Value} {f : Addr} (X : K.In h) (G : h.Ns mainGlobals mg) (hfa : mg ("law" : Str) = some (.ref f)) (c : My.SaysX fl fa fn fx K) :
    ∃ fd : FuncData, (∀ (s : Shared) (v : Value), BindsTo s fd ⟨[v], []⟩ [("_law_script", v)]) ∧ ∀ base : Heap, K.In base → base.Ns mainGlobals mg → FnOk Pg w K mg base CX0 5 f fd ["_law_script"] (sp_law K) := by
  have T : Tx K mg := ⟨⟨h, X, G⟩, c⟩
  obtain ⟨fd, F⟩ := T.d_law
  have e := hfa.symm.trans T.g_law
  cases e
  have b := FunD.bindsA (ps := ["_law_script"]) F fun _ _ _ _ _ _ us hl => match us, hl with | [_], _ => rfl
  exact ⟨fd, fun s v => b s [v] rfl, fun base _ _ => ok_law F T⟩
end V17
open PySem PySem.W PySem.Calls PyProof.Rows
theorem PySem.Challenge.cw_owedanswers_k17_errors_made_holds : PySem.Challenge.rw_owedanswers_k17_errors_made.Holds := by
  w_on; o_law
  refine HandSHeadRun.head_any (r := OpenLaw.row PySem.Challenge.rw_owedanswers_k17_errors_made) (q := view (OpenLaw.row PySem.Challenge.rw_owedanswers_k17_errors_made).prog [25]) (H := V17.hk) (ob := V17.ob) (M := 20000) (loose := V17.names) (d := HandSHeadRun.topDef (OpenLaw.row PySem.Challenge.rw_owedanswers_k17_errors_made).prog 25) (kwd := []) V17.ob_eq
    (by kernel_rfl) (fun s => by kernel_rfl) V17.run (by kernel_rfl) (by kernel_rfl) (by kernel_rfl) (by rfl) (by first | assumption | decide +kernel) (by decide +kernel) ⟨rfl, rfl, rfl, rfl, rfl, by decide +kernel⟩ ?hw ?hc
  case hw => w_witness2
  case hc =>
    refine L2.walk_ofE (l := PySem.Challenge.rw_owedanswers_k17_errors_made) (n := 63) (k := 5) (x := "_law_script") (CX := L2.CX0) rfl (by decide) (by kernel_rfl) ⟨rfl, by decide, by decide⟩ ?F (fun _ _ _ _ z => z)
    intro w mg fa h Y G hmg0
    obtain ⟨K, KX, c⟩ := Y
    have hmg : mg ("law" : PySem.Str) = some (.ref fa) := by
      have e : (HandSHeadRun.topDef (OpenLaw.row PySem.Challenge.rw_owedanswers_k17_errors_made).prog 25).name = ("law" : PySem.Str) := by kernel_rfl
      rw [← e]
      exact hmg0
    obtain ⟨fd, hb, hF⟩ := V17.facts (w := w) KX G hmg c
    exact ⟨K, fd, V17.sp_law K, KX, hb, fun H a ns hl hO hS => ⟨a, ns, rfl, hS, hl, fun _ => rfl⟩, hF⟩


