import PyProof.Rows.All
import Wide.All
import OpenK.AllK
import Wide.FinOn
import KE.KStateDown
import HandS.ForMost
import HandS.ForExc
import HandS.More
import HandS.Defaults
import HandS.Star
import HandS.Property
import HandS.Flow
import HandS.Style
import HandS.Wide
import HandS.IsInst
import HandS.Conv
import HandS.Zip
import HandS.TupAny
import HandS.FStr
import HandS.HeadNt
import HandS.HeadEnd
import HandS.Head2
import HandS.Walk
import KE.KExcSuper
import HandS.TryMany
import HandS.ExcOwn
import HandS.Small
import HandS.MakeKw
import HandS.MakeKwOnly
import PyProof.DictUpdate
import KE.KOpsOwn
import PyProof.ListMulAny
import HandS.SlotsOwn
import HandS.DictComp
import PyProof.Rows.StrMeet
import HandS.Iter
import HandS.ClsMeth
import PySem.Challenge.RW_owedanswers_k06_symbols_replaced
set_option Elab.async false
set_option linter.all false
set_option maxRecDepth 100000
set_option maxHeartbeats 4000000
/-! own library, part 1: the head's facts, calls by positional promises -/
namespace My
open PySem PySem.Spec PyProof.Rows L2
/-! ### the hook: facts as Bools over what the top left -/
abbrev FaB : Type := PySem.W.Frag → Bool
def obsM (fa : List FaB) (fn : List He5.DefA) (K : PySem.W.Frag) : He.AlD := ((fa.all fun f => f K) && fn.all fun d => d.ok K, fn.map fun d => He5.fnA K (d.at_ K))
def SaysM (fa : List FaB) (fn : List He5.DefA) (K : PySem.W.Frag) : Prop := obsM fa fn K = He5.valA fn
def obsMG (n : Nat) (fa : List FaB) (fn : List He5.DefA) (g : Addr → Option Obj) : He.AlD := obsM fa fn (He.frG g (He5.asA g n))
def hookM (n : Nat) (fa : List FaB) (fn : List He5.DefA) : PySem.W.Hook where
  α := He.AlD
  obs := fun s => obsMG n fa fn s.heap.get?
  val := fun _ => He5.valA fn
  says := fun _ h => ∃ K : PySem.W.Frag, K.In h ∧ SaysM fa fn K
  of := fun _ _ e => ⟨_, He.frG_in, e⟩
  keeps := fun _ _ _ ⟨K, hK, c⟩ k => ⟨K, PySem.W.Frag.In.keeps hK k, c⟩
theorem obsMG_eq {n : Nat} {fa : List FaB} {fn : List He5.DefA} {g : Addr → Option Obj} {s : Shared} (h : ∀ a, g a = s.heap.get? a) : obsMG n fa fn g = (hookM n fa fn).obs s := by
  have e : g = s.heap.get? := funext h
  rw [e] <;> rfl
section
variable {fa : List FaB} {fn : List He5.DefA} {K : PySem.W.Frag}
theorem SaysM.fact (c : SaysM fa fn K) (i : Nat) {f : FaB} (h : fa[i]? = some f := by rfl) : f K = true := by
  have c1 := (He.ba (show ((fa.all fun f => f K) && fn.all fun d => d.ok K) = true from congrArg (fun z : He.AlD => z.1) c)).1
  exact List.all_eq_true.mp c1 f (List.mem_of_getElem? h)
theorem SaysM.def_ (c : SaysM fa fn K) (i : Nat) {d : He5.DefA} (h : fn[i]? = some d := by rfl) : ∃ fd, L2.FunD K d.name d.qual d.params d.body d.scope (d.dvs K) (d.kws K) (d.at_ K) fd := by
  have c2 := (He.ba (show ((fa.all fun f => f K) && fn.all fun d => d.ok K) = true from congrArg (fun z : He.AlD => z.1) c)).2
  have e : fn.map (fun d => He5.fnA K (d.at_ K)) = fn.map He5.DefA.val := congrArg (fun z : He.AlD => z.2) c
  have e2 : (fn.map fun d => He5.fnA K (d.at_ K))[i]? = (fn.map He5.DefA.val)[i]? := by rw [e]
  rw [List.getElem?_map, List.getElem?_map, h] at e2
  exact He5.DefA.funD (Option.some.inj e2) (List.all_eq_true.mp c2 d (List.mem_of_getElem? h))
end
/-! ### a property -/
def prpA (C f : Str) (K : PySem.W.Frag) : Addr := match PySem.W.findIn K (.ref (He.ga K C)) f with
  | some (some (.ref p)) => p
  | _ => 0
def prpG (C f : Str) (K : PySem.W.Frag) : Addr := match PySem.W.recIn K (prpA C f K) "property" with
  | some (.ref g :: _) => g
  | _ => 0
def prpB (C f : Str) : FaB := fun K => He.eqO (PySem.W.findIn K (.ref (He.ga K C)) f) (some (some (.ref (prpA C f K)))) && (He.eqO (PySem.W.specialIn K (.ref (prpA C f K)) "__get__") (some (some (.builtin "property.__get__"))) &&
  (decide (PySem.W.takesIn K (.ref (prpA C f K)) = some true) && (match PySem.W.recIn K (prpA C f K) "property" with
    | some (.ref _ :: _) => true
    | _ => false)))
theorem prpB_ok {C f : Str} {K : PySem.W.Frag} (h : prpB C f K = true) : PropOf K (He.ga K C) f (prpA C f K) (prpG C f K) := by
  obtain ⟨h1, h⟩ := He.ba h
  obtain ⟨h2, h⟩ := He.ba h
  obtain ⟨h3, h4⟩ := He.ba h
  refine ⟨He.eqO_ok h1, He.eqO_ok h2, of_decide_eq_true h3, ?_⟩
  unfold prpG
  cases e : PySem.W.recIn K (prpA C f K) "property" with
  | none => rw [e] at h4; cases h4
  | some l =>
    rw [e] at h4
    cases l with
    | nil => cases h4
    | cons v r =>
      cases v with
      | ref g => exact ⟨r, rfl⟩
      | _ => cases h4
def gloF (x : Str) : PySem.W.Frag → Addr := fun K => He.ga K x
def mthF (C m : Str) : PySem.W.Frag → Addr := fun K => He.ma K (He.ga K C) m
/-! ### a def by a positional promise -/
section
variable {P : Program} {w : World} {K : PySem.W.Frag} {mg : Str → Option Value} {base : Heap} {x qual : Str} {params : Arguments} {body : List Stmt} {scope : Scope} {dvs : List V} {kws : List (Str × V)} {f : Addr} {fd : FuncData}
/-- a def without defaults -/
theorem FunD.R {N ps : List Str} {k : Nat} {sp : Sp} (F : FunD K x qual params body scope [] kws f fd) (S : FnScope N ps scope) (len : ∀ vs H Q E, sp vs H Q E → vs.length = ps.length)
    (hb : ∀ (kV doc pm : Value) (an : Option Addr) (cdv ct : Value) (us : List Value), us.length = ps.length → bindArgs (PySem.W.fnOf x qual params body scope .none kV doc pm an cdv ct) ⟨us, []⟩ = pure (ps.zip us))
    (hbody : ∀ (cdv : Value) (A : Around) (outer : List Env) (s : Shared) (H : Hp) (vs : List V) (Q : VK) (E : XK), Room k (A.deeper (envOfC qual scope s.heap.objs.size f cdv)) → sp vs H Q E →
      ∃ t, PSs (cxOf CX0 P w K mg base N qual scope f cdv A outer s H E).nox body t ∧ t { nx := fun _ H' => Q .non H', rt := Q } (start N vs) H) : FnR P w K mg base CX0 (k + 1) f sp := by
  have G : FnOk P w K mg base CX0 (k + 1) f fd ps sp := FunD.ok F S len fun cdv A outer s H vs Q E hr hsp => by
    obtain ⟨t, h, q⟩ := hbody cdv A outer s H vs Q E hr hsp
    exact ⟨t, h.nox, q⟩
  refine (FnOk.raw G (FunD.bindsN F hb) .nil).imp fun vs H Q E h => ?_
  rw [List.append_nil]
  exact h
end
section
variable {X : Cx} {CX : CXT} {k : Nat} {f C : Addr} {sp : Sp} {E : XK} {x m : Str} {e o : Expr} {es : List Expr} {ta : TE} {t : TA} {p pos apos : Pos}
/-- f(e, ..) by a positional promise -/
def tCallR (sp : Sp) (E : XK) (t : TA) : TE := fun σ H Q => t σ H fun vs H1 => sp vs H1 Q E
theorem pe_callR (F : FnR X.prog X.w X.K X.mg X.base CX k f sp) (hr : Room k X.A) (hg : Gl X x) (hm : X.mg x = some (.ref f)) (hk : PySem.W.keepIn X.K (.ref f) = true) (hx : Passes CX X E) (ha : PA X (e :: es) t)
    (hdb : (x == ("__debug__" : Str)) = false := by decide) (he : starEach (e :: es) X.env = (false, eval e X.env) :: starEach es X.env := by rfl) (hpl : (backTo pos (starEach es X.env)).any (·.1) = false := by rfl) :
    PE X (.Call (.Name x p) (e :: es) [] pos) (tCallR sp E t) := by
  refine ⟨fun pins s σ H Q I h => ?_⟩
  refine wpAny_Call_Name_kw (ld_glob I hg hm ?_ hdb)
  refine PySem.W.callWith_K (h₀ := X.base) I.ok.mod.kin hk (thn (ha.run pos pins s σ H _ I h) fun us s1 ⟨vs, H1, I1, r, q⟩ => ⟨I1.kIn, ?_⟩) he hpl
  exact wpAny_call (run_fnR F hr hx I1 r q)
theorem pe_callR0 (F : FnR X.prog X.w X.K X.mg X.base CX k f sp) (hr : Room k X.A) (hg : Gl X x) (hm : X.mg x = some (.ref f)) (hk : PySem.W.keepIn X.K (.ref f) = true) (hx : Passes CX X E)
    (hdb : (x == ("__debug__" : Str)) = false := by decide) : PE X (.Call (.Name x p) [] [] pos) (tCallR sp E tNil) := by
  refine ⟨fun pins s σ H Q I h => ?_⟩
  refine wpAny_Call_Name_kw (ld_glob I hg hm ?_ hdb)
  exact PySem.W.callWith_K0 I.kIn hk (wpAny_call (run_fnR (us := []) F hr hx I .nil h))
theorem pe_makeR0 (M : Mk X.K C f) (F : FnR X.prog X.w X.K X.mg X.base CX k f sp) (hr : Room (k + 1) X.A) (hg : Gl X x) (hm : X.mg x = some (.ref C)) (hx : Passes CX X E)
    (hdb : (x == ("__debug__" : Str)) = false := by decide) : PE X (.Call (.Name x p) [] [] pos) (StX.tMakeR C sp E tNil) := by
  refine ⟨fun pins s σ H Q I h => ?_⟩
  refine wpAny_Call_Name_kw (ld_glob I hg hm ?_ hdb)
  exact PySem.W.callWith_K0 I.kIn M.kp (StX.run_makeR (us := []) M F hr hx I .nil h)
theorem pe_methR0 {pl : Sem Bool} (he : PE X o ta) (c : Cls X.K C) (hm : Meth X.K C m f) (F : FnR X.prog X.w X.K X.mg X.base CX k f sp) (hr : Room k X.A) (hx : Passes CX X E)
    (ht : eval (.Call (.Attribute o m apos) [] [] pos) X.env = (do
      let ov ← eval o X.env
      standAt apos.atName
      let (f, first) ← holding [ov] (getMethod ov m pl)
      callWith pos f first (backTo pos (starEach [] X.env)) (backToKw pos (keywordEach [] X.env))) := by rfl) :
    PE X (.Call (.Attribute o m apos) [] [] pos) (tMethR C m sp E ta tNil) := by
  refine ⟨fun pins s σ H Q I h => ?_⟩
  refine PySem.W.methodCall_KW (pl := pl) (thn (he.run pins s σ H _ I h) fun u s1 ⟨x, H1, I1, rx, a, dx, fs, ex, ea, l, q⟩ => ?_) ht
  subst ex
  obtain rfl : u = Value.ref a := rx
  refine getmeth_ok I1 ea c hm l ?_
  exact PySem.W.callWith_K0 (first := [.ref a]) I1.kIn hm.kp (wpAny_call (run_fnR (us := [.ref a]) (vs := [.ref a]) F hr hx I1 (.cons rfl .nil) q))
/-- e.f, a property, by a positional promise -/
def tPropR (C : Addr) (sp : Sp) (E : XK) (ta : TE) : TE := fun σ H Q => ta σ H fun x H1 => ∃ a dx fs, x = .ref a ∧ H1 a = some (.ins C dx fs) ∧ sp [.ref a] H1 Q E
theorem pe_propR {pr g : Addr} {fl : Str} (he : PE X e ta) (c : Cls X.K C) (hp : PropOf X.K C fl pr g) (F : FnR X.prog X.w X.K X.mg X.base CX k g sp) (hr : Room (k + 1) X.A) (hx : Passes CX X.nox E)
    (hab : attributeBase e fl X.env (eval e X.env) = eval e X.env) : PE X (.Attribute e fl pos) (tPropR C sp E ta) := by
  refine ⟨fun pins s σ H Q I h => ?_⟩
  refine attr_of hab (thn (he.run pins s σ H _ I h) fun u s1 ⟨x, H1, I1, rx, a, dx, fs, ex, ea, q⟩ => ?_)
  subst ex
  obtain rfl : u = Value.ref a := rx
  obtain ⟨mA, O, _, _, _, _⟩ := ins_get I1.hok ea
  obtain ⟨od, J, _⟩ := O.look
  obtain ⟨rest, hrec⟩ := hp.rec_
  have I2 := I1.tok (s1.toks + 1)
  have hc : (PySem.W.clsIn X.K C).isSome = true := by
    obtain ⟨cd, hc, _⟩ := PySem.W.any_some c.hd
    rw [hc]
    rfl
  refine PySem.W.get_bind I1.kIn J (PySem.W.plainGet_of (c.get fl)).1 (PySem.W.findObj_data hc hp.at_ hp.get hp.tak) (PySem.W.plainGet_of (c.get fl)).2 (wpAny_call (PySem.W.prop_get (s := { s1 with toks := s1.toks + 1 }) I1.kIn hrec ?_))
  refine codeAny_mono (F X.A.in1 X.stack { s1 with toks := s1.toks + 1 } H1 [.ref a] [.ref a] Q E hr.in1 I2.env0.in1 (.cons rfl .nil) q) fun r s' hq => ?_
  cases r with
  | error er => exact False.elim (hx pins σ H1 { s1 with toks := s1.toks + 1 } er s' (I2.wish _) hq)
  | ok fl =>
    cases fl with
    | ret u =>
      obtain ⟨v, H', I3, rv, q3⟩ := I2.after hq
      show wpAny _ _ (handedOut u) _ _ _
      rw [PySem.W.handedOut_of (handed_of rv)]
      exact wpAny_pure ⟨v, H', I3, rv, q3⟩
    | next => exact False.elim hq
    | brk => exact False.elim hq
    | cont => exact False.elim hq
end
end My

set_option Elab.async false
set_option linter.all false
set_option maxRecDepth 100000
set_option maxHeartbeats 4000000
/-! own library, part 2 -/
namespace My
open PySem PySem.Spec PyProof.Rows L2
/-! ### list.extend of a tuple -/
theorem extend_tuple_any (l : Addr) (items : Array Value) (n : Nat) (b : Addr) (items2 : Array Value) (n2 : Nat) (dd : Option Addr) (sl : Array (Option Value)) (hs0 : ¬(!items.isEmpty && Builtin.List.listTooLong (items.size + items2.size)) = true) (hs1 : items.size ≤ sizeLine) (hs2 : items.size + items2.size ≤ sizeLine + 1) :
    Meets (Builtin.«list.extend» ⟨[.ref l, .ref b], []⟩) (fun _ R s => s.heap.get? l = some { cls := .type "list", dict := none, data := .seq items n, slots := #[] } ∧ s.heap.get? b = some { cls := .type "tuple", dict := dd, data := .seq items2 n2, slots := sl } ∧ R (.ok (.ret Value.none)) { s with heap := s.heap.update l (Obj.mapSeq fun x => x ++ items2), toks := s.toks }) :=
  .of_wp fun prog w A R s h => by
    obtain ⟨hp, g, d, tk, os⟩ := s; obtain ⟨hl, hb, h⟩ := h; have f1 := AutoSeq1.idx_int; have f2 := AutoSeq1.sub_tuple_tuple; have f3 := AutoSeq1.sub_list_list; have f4 := AutoSeq1.sub_tuple_list; have f5 := AutoSeq1.sub_list_tuple;
    have hz' : (items ++ items2).size ≤ sizeLine + 1 := by rw [Array.size_append]; exact hs2
    wp_walk using (wpAny_updateSeq hl rfl (hz := hs1) (_hz' := hz')), AutoSeq1.wpAny_loadPart' hl, AutoSeq1.wpAny_loadPart' hb; exact ⟨_, rfl, h⟩
section
variable {X : Cx}
def rExtendT (K : PySem.W.Frag) : V → List V → Hp → VK → Prop := fun x vs H Q => ∃ l b xs zs, x = .ref l ∧ vs = [.ref b] ∧ H l = some (.lst xs) ∧ SqT K H b zs ∧ xs.length + zs.length ≤ sizeLine ∧ Q .non (upd H l (.lst (xs ++ zs)))
theorem mt_extendT : MtM X "list.extend" (rExtendT X.K) := by
  intro pins s σ H x vs v us Q I rx rv h
  obtain ⟨l, b, xs, zs, rfl, rfl, hH, hB, hz, q⟩ := h
  cases rx
  obtain ⟨u, rfl, ru⟩ := rv.one
  cases ru
  obtain ⟨z, its, n, r, hl, e⟩ := I.lstM hH
  obtain ⟨its2, r2, ⟨o, e2, hc, n2, hd⟩, z2⟩ := I.tuple hB
  obtain ⟨oc, od, dt, osl⟩ := o
  have hc' : oc = .type "tuple" := hc
  have hd' : dt = .seq its2.toArray n2 := hd
  subst hc' hd'
  have hl2 := r2.length
  have hsz : its.toArray.size + its2.toArray.size ≤ sizeLine := by rw [List.size_toArray, List.size_toArray]; omega
  have hlong : ¬ (!its.toArray.isEmpty && Builtin.List.listTooLong (its.toArray.size + its2.toArray.size)) = true := by
    rw [notLongL hsz, Bool.and_false]
    exact Bool.false_ne_true
  refine call_meets F.slot_list_extend ⟨_, e, rfl⟩ F.entry_list_extend (F.args_list_extend_2 _ _)
    (extend_tuple_any l its.toArray n b its2.toArray n2 od osl hlong (by rw [List.size_toArray]; omega) (by omega)) ⟨e, e2, ?_⟩
  refine ⟨.non, _, I.lset (its' := its ++ its2) hH e (by simp) (r.append r2) ?_, rfl, q⟩
  rw [List.length_append]
  omega
/-! ### ** of wider ints -/
def CPowW (i j : Int) : Prop := 0 ≤ j ∧ j ≤ 64 ∧ i.natAbs < 2 ^ 4096
theorem op_powW : OpR X (binaryOp .Pow) (rI CPowW fun i j => .int (i ^ j.toNat)) := opI fun i j _ _ _ _ _ hc q => by
  obtain ⟨h0, h1, h2⟩ := hc
  refine pow_int h0 ?_ q
  have h3 : Builtin.Int.intBits i ≤ 4096 := by
    unfold Builtin.Int.intBits
    split
    · exact Nat.zero_le _
    · have := PySem.Flt.log2_lt_of (show 0 < 4096 by decide) h2
      omega
  have h4 : (Builtin.Int.intBits i : Int) * j ≤ 4096 * 64 := Int.mul_le_mul (by omega) h1 h0 (by decide)
  exact Int.le_trans h4 (by decide)
/-- a text constant, an int constant of the module -/
theorem pe_gs {x z : Str} {pos : Pos} (hg : Gl X x) (h : ∃ t, X.mg x = some (.str z t)) (hd : (x == ("__debug__" : Str)) = false := by decide) : PE X (.Name x pos) (tC (.str z)) := by
  obtain ⟨t, h⟩ := h
  exact pe_glob (v := .str z) hg h ⟨t, rfl⟩ hd
theorem pe_gi {x : Str} {i : Int} {pos : Pos} (hg : Gl X x) (h : ∃ t, X.mg x = some (.int i t)) (hd : (x == ("__debug__" : Str)) = false := by decide) : PE X (.Name x pos) (tC (.int i)) := by
  obtain ⟨t, h⟩ := h
  exact pe_glob (v := .int i) hg h ⟨t, rfl⟩ hd
end
/-! ### a def with one default, called without it; a def with a star -/
section
variable {P : Program} {w : World} {K : PySem.W.Frag} {mg : Str → Option Value} {base : Heap} {x qual : Str} {params : Arguments} {body : List Stmt} {scope : Scope} {dvs : List V} {kws : List (Str × V)} {f : Addr} {fd : FuncData}
/-- the promise says the whole list of parameters; the call has n of them -/
theorem FunD.Rd {N ps : List Str} {k : Nat} {sp : Sp} (n j : Nat) (F : FunD K x qual params body scope dvs kws f fd) (S : FnScope N ps scope) (len : ∀ vs H Q E, sp vs H Q E → vs.length = ps.length) (hd : dvs ≠ []) (hn : n + (dvs.length - j) = ps.length)
    (hb : ∀ (T : Addr) (kV doc pm : Value) (an : Option Addr) (cdv ct : Value) (us its : List Value), us.length = n → its.length = dvs.length →
      ∃ k, bindArgs (PySem.W.fnOf x qual params body scope (.ref T) kV doc pm an cdv ct) ⟨us, []⟩ = seqItems? (.ref T) >>= k ∧ k (some its.toArray) = pure (ps.zip (us ++ its.drop j)))
    (hbody : ∀ (cdv : Value) (A : Around) (outer : List Env) (s : Shared) (H : Hp) (vs : List V) (Q : VK) (E : XK), Room k (A.deeper (envOfC qual scope s.heap.objs.size f cdv)) → sp vs H Q E →
      ∃ t, PSs (cxOf CX0 P w K mg base N qual scope f cdv A outer s H E).nox body t ∧ t { nx := fun _ H' => Q .non H', rt := Q } (start N vs) H) :
    FnR P w K mg base CX0 (k + 1) f (fun vs H Q E => sp (vs ++ dvs.drop j) H Q E) := by
  have G : FnOk P w K mg base CX0 (k + 1) f fd ps sp := FunD.ok F S len fun cdv A outer s H vs Q E hr hsp => by
    obtain ⟨t, h, q⟩ := hbody cdv A outer s H vs Q E hr hsp
    exact ⟨t, h.nox, q⟩
  obtain ⟨ds, hv, hB⟩ := FunD.binds1 F n j hd hn hb
  exact FnOk.raw G hB hv
/-- def f(a, .., *v) -/
theorem FunD.Rs {N ps : List Str} {pv : Str} {k : Nat} {sp : Sp} (F : FunD K x qual params body scope [] kws f fd) (S : FnScope N (ps ++ [pv]) scope)
    (hb : ∀ (kV doc pm : Value) (an : Option Addr) (cdv ct : Value) (us rest : List Value), us.length = ps.length → bindArgs (PySem.W.fnOf x qual params body scope .none kV doc pm an cdv ct) ⟨us ++ rest, []⟩ = (newTuple rest >>= fun t => pure (ps.zip us ++ [(pv, t)])))
    (hbody : ∀ (cdv : Value) (A : Around) (outer : List Env) (s : Shared) (H : Hp) (vs : List V) (Q : VK) (E : XK), Room k (A.deeper (envOfC qual scope s.heap.objs.size f cdv)) → sp vs H Q E →
      ∃ t, PSs (cxOf CX0 P w K mg base N qual scope f cdv A outer s H E).nox body t ∧ t { nx := fun _ H' => Q .non H', rt := Q } (start N vs) H) :
    FnR P w K mg base CX0 (k + 1) f (fun vs H Q E => ∃ ws rest, vs = ws ++ rest ∧ ws.length = ps.length ∧ rest.length ≤ sizeLine ∧ ∀ p, H p = Option.none → sp (ws ++ [V.ref p]) (upd H p (.tup rest)) Q E) := by
  obtain ⟨oc, od, dV, kV, doc, pm, an, cdv, ct, osl, rfl, lk, hcd, hD, _⟩ := F.ex
  rcases hD with ⟨_, rfl⟩ | ⟨e, _⟩
  · refine StX.fn_star lk hcd S StX.cxUp_none (hb kV doc pm an cdv ct) fun A outer s H vs Q E hr hsp => ?_
    obtain ⟨t, h, q⟩ := hbody cdv A outer s H vs Q E hr hsp
    exact ⟨t, h.nox, q⟩
  · exact absurd rfl e
end
/-! ### heaps -/
theorem upd_other {H : Hp} {a b : Addr} {o : HO} (h : b ≠ a) : upd H a o b = H b := upd_ne h
theorem Same.upd_new {H H' : Hp} {p : Addr} {o : HO} (s : Same H H') (h : H' p = Option.none) : Same H (upd H' p o) := fun b u e => by
  rw [upd_ne (ne_of_none (s _ _ e) h)]
  exact s _ _ e
theorem Same.new {H : Hp} {p : Addr} {o : HO} (h : H p = Option.none) : Same H (upd H p o) := Same.upd_new (Same.refl H) h
/-- all but what stands at b is kept -/
def Kp (b : Addr) (H H' : Hp) : Prop := ∀ a o, a ≠ b → H a = some o → H' a = some o
theorem Kp.refl {b : Addr} (H : Hp) : Kp b H H := fun _ _ _ h => h
theorem Kp.trans {b : Addr} {H H1 H2 : Hp} (x : Kp b H H1) (y : Kp b H1 H2) : Kp b H H2 := fun a o n h => y a o n (x a o n h)
theorem Kp.of {b : Addr} {H H' : Hp} (s : Same H H') : Kp b H H' := fun a o _ h => s a o h
theorem Kp.put {b : Addr} {H : Hp} {o : HO} : Kp b H (upd H b o) := fun a u n h => by rw [upd_ne n]; exact h
theorem cxK {CX : CXT} {P : Program} {w : World} {K : PySem.W.Frag} {mg : Str → Option Value} {base : Heap} {N : List Str} {qual : Str} {scope : Scope} {f : Addr} {cd : Value} {A : Around} {outer : List Env} {s : Shared} {H : Hp} {E : XK} : (cxOf CX P w K mg base N qual scope f cd A outer s H E).K = K := rfl
/-! ### tests that are known -/
theorem ite_dec {c : Prop} [Decidable c] {A B : Prop} (h1 : c → A) (h2 : ¬ c → B) : if decide c = true then A else B := by
  by_cases h : c
  · rw [if_pos (decide_eq_true h)]; exact h1 h
  · rw [if_neg (by rw [decide_eq_false h]; exact Bool.false_ne_true)]; exact h2 h
theorem ite_b {b : Bool} {A B : Prop} (h1 : b = true → A) (h2 : b = false → B) : if b = true then A else B := by
  cases b with
  | true => exact iteT (h1 rfl)
  | false => exact iteF (h2 rfl)
end My

set_option Elab.async false
set_option linter.all false
set_option maxRecDepth 100000
set_option maxHeartbeats 4000000
/-! own library, part 3: rules whose readings are functional in the tracked heap -/
namespace My
open PySem PySem.Spec PyProof.Rows L2
section
variable {X : Cx}
theorem OpR.imp {f : Value → Value → Sem Value} {r r' : R2} (h : OpR X f r) (i : ∀ x y H Q, r' x y H Q → r x y H Q) : OpR X f r' := fun pins s σ H x y v u Q I a b c => h pins s σ H x y v u Q I a b (i _ _ _ _ c)
theorem CallR.imp {f : Value} {r r' : List V → Hp → VK → Prop} (h : CallR X f r) (i : ∀ x H Q, r' x H Q → r x H Q) : CallR X f r' := fun pins s σ H xs us Q I a c => h pins s σ H xs us Q I a (i _ _ _ c)
theorem MtR.imp {id : String} {r r' : V → List V → Hp → VK → Prop} (h : MtR X id r) (i : ∀ x y H Q, r' x y H Q → r x y H Q) : MtR X id r' := fun pins s σ H x xs v us Q I a b c => h pins s σ H x xs v us Q I a b (i _ _ _ _ c)
theorem IxR.imp {r r' : R2} (h : IxR X r) (i : ∀ x y H Q, r' x y H Q → r x y H Q) : IxR X r' := fun a b pins s σ H x y v u Q I p q c => h a b pins s σ H x y v u Q I p q (i _ _ _ _ c)
theorem SlR.imp {r r' : V → Option Int → Option Int → Hp → VK → Prop} (h : SlR X r) (i : ∀ x y z H Q, r' x y z H Q → r x y z H Q) : SlR X r' := fun pins s σ H x v vl vu lo hi sl Q I a b c d e => h pins s σ H x v vl vu lo hi sl Q I a b c d (i _ _ _ _ _ e)
theorem PE.imp {e : Expr} {t t' : TE} (h : PE X e t) (i : ∀ σ H Q, t' σ H Q → t σ H Q) : PE X e t' := ⟨fun pins s σ H Q I q => h.run pins s σ H Q I (i _ _ _ q)⟩
theorem PT.imp {e : Expr} {t t' : TT} (h : PT X e t) (i : ∀ σ H Q, t' σ H Q → t σ H Q) : PT X e t' := ⟨fun pins s σ H Q I q => h.run pins s σ H Q I (i _ _ _ q)⟩
theorem PS.imp {st : Stmt} {t t' : TS} (h : PS X st t) (i : ∀ D σ H, t' D σ H → t D σ H) : PS X st t' := ⟨fun pins s σ H D I q => h.run pins s σ H D I (i _ _ _ q)⟩
/-! ### lists and tuples that are tracked -/
def mIxL : R2 := fun x y H Q => ∃ p xs i v, x = .ref p ∧ y = .int i ∧ H p = some (.lst xs) ∧ atI xs i = some v ∧ Q v H
def mIxT : R2 := fun x y H Q => ∃ p xs i v, x = .ref p ∧ y = .int i ∧ H p = some (.tup xs) ∧ atI xs i = some v ∧ Q v H
theorem ixL : IxR X mIxL := IxR.imp ix_list fun x y H Q ⟨p, xs, i, v, a, b, c, d, e⟩ => ⟨p, xs, i, v, a, b, SqL.of c, d, e⟩
theorem ixT : IxR X mIxT := IxR.imp ix_tup fun x y H Q ⟨p, xs, i, v, a, b, c, d, e⟩ => ⟨p, xs, i, v, a, b, SqT.of c, d, e⟩
def mLenL : List V → Hp → VK → Prop := fun xs H Q => ∃ p ys, xs = [.ref p] ∧ H p = some (.lst ys) ∧ Q (.int (ys.length : Int)) H
def mLenT : List V → Hp → VK → Prop := fun xs H Q => ∃ p ys, xs = [.ref p] ∧ H p = some (.tup ys) ∧ Q (.int (ys.length : Int)) H
def mLenS : List V → Hp → VK → Prop := fun xs H Q => ∃ z : Str, xs = [.str z] ∧ z.length ≤ sizeLine ∧ Q (.int (z.length : Int)) H
def mLenD : List V → Hp → VK → Prop := fun xs H Q => ∃ p ys, xs = [.ref p] ∧ H p = some (.dK ys) ∧ Q (.int (ys.length : Int)) H
def mLenK (K : PySem.W.Frag) : List V → Hp → VK → Prop := fun xs H Q => ∃ p ys, xs = [.ref p] ∧ SqL K H p ys ∧ Q (.int (ys.length : Int)) H
theorem lenL : CallR X (.builtin "len") mLenL := CallR.imp call_len_seq fun x H Q ⟨p, ys, a, b, c⟩ => ⟨p, ys, a, .inl (SqL.of b), c⟩
theorem lenT : CallR X (.builtin "len") mLenT := CallR.imp call_len_seq fun x H Q ⟨p, ys, a, b, c⟩ => ⟨p, ys, a, .inr (SqT.of b), c⟩
theorem lenK : CallR X (.builtin "len") (mLenK X.K) := CallR.imp call_len_seq fun x H Q ⟨p, ys, a, b, c⟩ => ⟨p, ys, a, .inl b, c⟩
theorem lenS : CallR X (.builtin "len") mLenS := call_len_str
theorem lenD : CallR X (.builtin "len") mLenD := CallR.imp call_lenD fun x H Q ⟨p, ys, a, b, c⟩ => ⟨p, ys, a, b, c⟩
def mList : List V → Hp → VK → Prop := fun xs H Q => ∃ p ys, xs = [.ref p] ∧ H p = some (.lst ys) ∧ ∀ l, H l = none → Q (.ref l) (upd H l (.lst ys))
theorem listL : CallR X (.type "list") mList := CallR.imp call_list_of fun x H Q ⟨p, ys, a, b, c⟩ => ⟨p, ys, a, .inl (SqL.of b), c⟩
def mTupL : List V → Hp → VK → Prop := fun xs H Q => ∃ p ys, xs = [.ref p] ∧ H p = some (.lst ys) ∧ ∀ l, H l = none → Q (.ref l) (upd H l (.tup ys))
theorem tupL : CallR X (.type "tuple") mTupL := CallR.imp call_tuple_of fun x H Q ⟨p, ys, a, b, c⟩ => ⟨p, ys, a, .inl ⟨SqL.of b, c⟩⟩
def mSlL : V → Option Int → Option Int → Hp → VK → Prop := fun x lo hi H Q => ∃ a xs, x = .ref a ∧ H a = some (.lst xs) ∧ ∀ p, H p = none → Q (.ref p) (upd H p (.lst (cutV xs lo hi)))
theorem slL : SlR X mSlL := SlR.imp sl_list fun x lo hi H Q ⟨a, xs, e, h, q⟩ => ⟨a, xs, e, SqL.of h, q⟩
/-- ints -/
def mInt : List V → Hp → VK → Prop := fun xs H Q => ∃ i, xs = [.int i] ∧ Q (.int i) H
theorem int1 : CallR X (.type "int") mInt := CallR.imp call_int1 fun x H Q ⟨i, a, b⟩ => .inl ⟨i, a, b⟩
def mAbs : List V → Hp → VK → Prop := fun xs H Q => ∃ i, xs = [.int i] ∧ Q (.int (if i < 0 then -i else i)) H
theorem abs1 : CallR X (.builtin "abs") mAbs := call_abs
def mMax : List V → Hp → VK → Prop := fun xs H Q => ∃ i j, xs = [.int i, .int j] ∧ Q (.int (if j > i then j else i)) H
def mMin : List V → Hp → VK → Prop := fun xs H Q => ∃ i j, xs = [.int i, .int j] ∧ Q (.int (if j < i then j else i)) H
theorem max2 (hc : X.calm = true) : CallR X (.builtin "max") mMax := call_max2 hc
theorem min2 (hc : X.calm = true) : CallR X (.builtin "min") mMin := call_min2 hc
def mStr : List V → Hp → VK → Prop := fun xs H Q => ∃ i : Int, xs = [.int i] ∧ i.natAbs.log2 < 1920 ∧ Q (.str (toString i)) H
theorem str1 : CallR X (.type "str") mStr := call_str_int
def mAddS : R2 := fun x y H Q => ∃ i j : Str, x = .str i ∧ y = .str j ∧ i.length + j.length ≤ sizeLine ∧ Q (.str (i ++ j)) H
theorem addS : OpR X (binaryOp .Add) mAddS := op_add_str
def mIsN : R2 := fun x y H Q => y = .non ∧ Q (.bl (decide (x = .non))) H
def mNotN : R2 := fun x y H Q => y = .non ∧ Q (.bl (!decide (x = .non))) H
theorem isN : OpR X (compareOp .Is) mIsN := op_isN
theorem notN : OpR X (compareOp .IsNot) mNotN := op_notN
end
/-! ### kinds of what is tracked, for conditional rewriting -/
def isLst : Option HO → Bool
  | some (.lst _) => true
  | _ => false
def isDk : Option HO → Bool
  | some (.dK _) => true
  | _ => false
def dkOf : Option HO → List (Key × V)
  | some (.dK kvs) => kvs
  | _ => []
theorem isLst_lst {xs : List V} : isLst (some (.lst xs)) = true := rfl
theorem isDk_dk {xs : List (Key × V)} : isDk (some (.dK xs)) = true := rfl
theorem dkOf_dk {xs : List (Key × V)} : dkOf (some (.dK xs)) = xs := rfl
theorem isLst_ex {o : Option HO} (h : isLst o = true) : ∃ xs, o = some (.lst xs) := by
  cases o with
  | none => cases h
  | some u => cases u with
    | lst xs => exact ⟨xs, rfl⟩
    | _ => cases h
theorem isDk_ex {o : Option HO} (h : isDk o = true) : ∃ xs, o = some (.dK xs) := by
  cases o with
  | none => cases h
  | some u => cases u with
    | dK xs => exact ⟨xs, rfl⟩
    | _ => cases h
theorem tyV_list {K : PySem.W.Frag} {H : Hp} {p : Addr} (h : isLst (H p) = true) : tyV K "list" (.ref p) H = True := by
  obtain ⟨xs, e⟩ := isLst_ex h
  exact eq_true (Or.inl ⟨rfl, xs, SqL.of e⟩)
theorem IsD_dk {H : Hp} {p : Addr} (h : isDk (H p) = true) : IsD H p = True := by
  obtain ⟨xs, e⟩ := isDk_ex h
  exact eq_true (Or.inl ⟨xs, .inl e⟩)
theorem DGet_dk {H : Hp} {p : Addr} {k : Str} {r : Option V} (h : isDk (H p) = true) : DGet H p (.str k) r = (r = valV (dkOf (H p)) (Sum.inr k : Key)) := by
  obtain ⟨xs, e⟩ := isDk_ex h
  rw [e]
  apply propext
  constructor
  · rintro (⟨kvs, k', hr, hk, er⟩ | ⟨_, _, _, _, hk, _⟩)
    · have ek : k' = Sum.inr k := by
        cases k' with
        | inl i => cases hk
        | inr z =>
          have : V.str k = V.str z := hk
          injection this with q
          rw [q]
      have eq : kvs = xs := by
        rcases hr with hr | ⟨o, hr⟩
        · rw [e] at hr
          injection hr with hr
          injection hr with hr
          exact hr.symm
        · rw [e] at hr
          injection hr with hr
          cases hr
      rw [er, ek, eq]
      rfl
    · cases hk
  · intro er
    rw [er]
    exact DGet.k (k := Sum.inr k) e
theorem DPut_dk {H H' : Hp} {p : Addr} {k : Str} {v : V} (h : isDk (H p) = true) : DPut H p (.str k) v H' = ((dkOf (H p)).length < sizeLine ∧ H' = upd H p (.dK (putK (dkOf (H p)) (Sum.inr k : Key) v))) := by
  obtain ⟨xs, e⟩ := isDk_ex h
  rw [e]
  apply propext
  constructor
  · rintro (⟨kvs, k', hr, hk, hl, er⟩ | ⟨_, _, _, _, hk, _⟩)
    · have ek : k' = Sum.inr k := by
        cases k' with
        | inl i => cases hk
        | inr z =>
          have : V.str k = V.str z := hk
          injection this with q
          rw [q]
      rw [e] at hr
      injection hr with hr
      injection hr with hr
      subst hr ek
      exact ⟨hl, er⟩
    · cases hk
  · rintro ⟨hl, er⟩
    rw [er]
    exact DPut.k (k := Sum.inr k) e hl
/-! ### items by written places -/
section
variable {α : Type} {a b c d : α} {l : List α}
theorem atI_0 : atI (a :: l) 0 = some a := by
  unfold atI ixN
  simp
theorem atI_1 : atI (a :: b :: l) 1 = some b := by
  unfold atI ixN
  rw [if_pos (by decide), if_pos (by simp only [List.length_cons]; omega)]
  rfl
theorem atI_2 : atI (a :: b :: c :: l) 2 = some c := by
  unfold atI ixN
  rw [if_pos (by decide), if_pos (by simp only [List.length_cons]; omega)]
  rfl
theorem atI_3 : atI (a :: b :: c :: d :: l) 3 = some d := by
  unfold atI ixN
  rw [if_pos (by decide), if_pos (by simp only [List.length_cons]; omega)]
  rfl
theorem ixN_30 : ixN 3 0 = some 0 := rfl
theorem ixN_31 : ixN 3 1 = some 1 := rfl
theorem ixN_32 : ixN 3 2 = some 2 := rfl
end
end My

set_option Elab.async false
set_option linter.all false
set_option maxRecDepth 100000
set_option maxHeartbeats 4000000
/-! own library, part 4: kinds, nested data, walks -/
namespace My
open PySem PySem.Spec PyProof.Rows L2
/-! ### isinstance, by the tracked heap -/
def kdO : Option HO → String
  | some (.lst _) => "list"
  | some (.tup _) => "tuple"
  | some (.dK _) => "dict"
  | _ => "?"
def kdV (H : Hp) : V → String
  | .non => "NoneType"
  | .bl _ => "bool"
  | .int _ => "int"
  | .str _ => "str"
  | .ref a => kdO (H a)
  | _ => "?"
theorem kdO_q {o : Option HO} (h : kdO o ≠ "?") : (∃ xs, o = some (.lst xs) ∧ kdO o = "list") ∨ (∃ xs, o = some (.tup xs) ∧ kdO o = "tuple") ∨ ∃ xs, o = some (.dK xs) ∧ kdO o = "dict" := by
  cases o with
  | none => exact absurd rfl h
  | some u => cases u with
    | lst xs => exact .inl ⟨xs, rfl, rfl⟩
    | tup xs => exact .inr (.inl ⟨xs, rfl, rfl⟩)
    | dK xs => exact .inr (.inr ⟨xs, rfl, rfl⟩)
    | _ => exact absurd rfl h
theorem kdV_ty {K : PySem.W.Frag} {H : Hp} {x : V} (h : kdV H x ≠ "?") : TyX K H x (.type (kdV H x)) := by
  cases x with
  | non => exact .base .non
  | bl b => exact .base (.bl b)
  | int i => exact .base (.int i)
  | str z => exact .base (.str z)
  | byt b => exact absurd rfl h
  | flt b => exact absurd rfl h
  | ty n => exact absurd rfl h
  | ref a =>
    rcases kdO_q (o := H a) h with ⟨xs, e, e2⟩ | ⟨xs, e, e2⟩ | ⟨xs, e, e2⟩
    · show TyX K H (.ref a) (.type (kdO (H a)))
      rw [e2]; exact .base (.lst e)
    · show TyX K H (.ref a) (.type (kdO (H a)))
      rw [e2]; exact .base (.tup e)
    · show TyX K H (.ref a) (.type (kdO (H a)))
      rw [e2]; exact .base (.dK e)
def mIsi : List V → Hp → VK → Prop := fun xs H Q => ∃ (x : V) (n : String), xs = [x, .ty n] ∧ kdV H x ≠ "?" ∧ ∃ b, kitB (kdV H x) n = some b ∧ Q (.bl b) H
def mIsi2 : List V → Hp → VK → Prop := fun xs H Q => ∃ (x : V) (tp : Addr) (m n : String), xs = [x, .ref tp] ∧ H tp = some (.tup [.ty m, .ty n]) ∧ kdV H x ≠ "?" ∧ ∃ b c, kitB (kdV H x) m = some b ∧ kitB (kdV H x) n = some c ∧ Q (.bl (b || c)) H
section
variable {X : Cx}
theorem isi1 : CallR X (.builtin "isinstance") mIsi := CallR.imp call_isi fun xs H Q ⟨x, n, e, h, b, hb, q⟩ => ⟨x, .ty n, _, _, b, e, .ty n, kdV_ty h, kit_ty hb, q⟩
theorem isi2 : CallR X (.builtin "isinstance") mIsi2 := CallR.imp call_isiT fun xs H Q ⟨x, tp, m, n, e, ht, h, b, c, hb, hc, q⟩ => by
  refine ⟨x, tp, _, _, [.type m, .type n], b || c, e, ht, .cons (.ty m) (.cons (.ty n) .nil), kdV_ty h, ?_, q⟩
  refine kitAny_cons (kit_ty hb) (fun e => ?_) (fun e => by rw [e]; rfl)
  refine kitAny_cons (kit_ty hc) (fun e2 => ?_) (fun e2 => by rw [e2, Bool.or_true])
  rw [e, e2]
  exact kitAny_nil
end
theorem kdV_non {H : Hp} : kdV H .non = "NoneType" := rfl
theorem kdV_bl {H : Hp} {b : Bool} : kdV H (.bl b) = "bool" := rfl
theorem kdV_int {H : Hp} {i : Int} : kdV H (.int i) = "int" := rfl
theorem kdV_str {H : Hp} {z : Str} : kdV H (.str z) = "str" := rfl
theorem kdV_ref {H : Hp} {a : Addr} : kdV H (.ref a) = kdO (H a) := rfl
theorem kdO_lst {xs : List V} : kdO (some (.lst xs)) = "list" := rfl
theorem kdO_tup {xs : List V} : kdO (some (.tup xs)) = "tuple" := rfl
theorem kdO_dK {xs : List (Key × V)} : kdO (some (.dK xs)) = "dict" := rfl
theorem kit_NoneType_bool : kitB "NoneType" "bool" = some false := by decide +kernel
theorem kit_NoneType_int : kitB "NoneType" "int" = some false := by decide +kernel
theorem kit_NoneType_str : kitB "NoneType" "str" = some false := by decide +kernel
theorem kit_NoneType_list : kitB "NoneType" "list" = some false := by decide +kernel
theorem kit_NoneType_tuple : kitB "NoneType" "tuple" = some false := by decide +kernel
theorem kit_NoneType_dict : kitB "NoneType" "dict" = some false := by decide +kernel
theorem kit_bool_bool : kitB "bool" "bool" = some true := by decide +kernel
theorem kit_bool_int : kitB "bool" "int" = some true := by decide +kernel
theorem kit_bool_str : kitB "bool" "str" = some false := by decide +kernel
theorem kit_bool_list : kitB "bool" "list" = some false := by decide +kernel
theorem kit_bool_tuple : kitB "bool" "tuple" = some false := by decide +kernel
theorem kit_bool_dict : kitB "bool" "dict" = some false := by decide +kernel
theorem kit_int_bool : kitB "int" "bool" = some false := by decide +kernel
theorem kit_int_int : kitB "int" "int" = some true := by decide +kernel
theorem kit_int_str : kitB "int" "str" = some false := by decide +kernel
theorem kit_int_list : kitB "int" "list" = some false := by decide +kernel
theorem kit_int_tuple : kitB "int" "tuple" = some false := by decide +kernel
theorem kit_int_dict : kitB "int" "dict" = some false := by decide +kernel
theorem kit_str_bool : kitB "str" "bool" = some false := by decide +kernel
theorem kit_str_int : kitB "str" "int" = some false := by decide +kernel
theorem kit_str_str : kitB "str" "str" = some true := by decide +kernel
theorem kit_str_list : kitB "str" "list" = some false := by decide +kernel
theorem kit_str_tuple : kitB "str" "tuple" = some false := by decide +kernel
theorem kit_str_dict : kitB "str" "dict" = some false := by decide +kernel
theorem kit_list_bool : kitB "list" "bool" = some false := by decide +kernel
theorem kit_list_int : kitB "list" "int" = some false := by decide +kernel
theorem kit_list_str : kitB "list" "str" = some false := by decide +kernel
theorem kit_list_list : kitB "list" "list" = some true := by decide +kernel
theorem kit_list_tuple : kitB "list" "tuple" = some false := by decide +kernel
theorem kit_list_dict : kitB "list" "dict" = some false := by decide +kernel
theorem kit_tuple_bool : kitB "tuple" "bool" = some false := by decide +kernel
theorem kit_tuple_int : kitB "tuple" "int" = some false := by decide +kernel
theorem kit_tuple_str : kitB "tuple" "str" = some false := by decide +kernel
theorem kit_tuple_list : kitB "tuple" "list" = some false := by decide +kernel
theorem kit_tuple_tuple : kitB "tuple" "tuple" = some true := by decide +kernel
theorem kit_tuple_dict : kitB "tuple" "dict" = some false := by decide +kernel
theorem kit_dict_bool : kitB "dict" "bool" = some false := by decide +kernel
theorem kit_dict_int : kitB "dict" "int" = some false := by decide +kernel
theorem kit_dict_str : kitB "dict" "str" = some false := by decide +kernel
theorem kit_dict_list : kitB "dict" "list" = some false := by decide +kernel
theorem kit_dict_tuple : kitB "dict" "tuple" = some false := by decide +kernel
theorem kit_dict_dict : kitB "dict" "dict" = some true := by decide +kernel
/-! ### all of a tracked list of truth values -/
def mAll : List V → Hp → VK → Prop := fun vs H Q => ∃ (a : Addr) (xs : List V) (bs : List Bool), vs = [.ref a] ∧ H a = some (.lst xs) ∧ xs = bs.map V.bl ∧ Q (.bl (bs.all id)) H
def mAny : List V → Hp → VK → Prop := fun vs H Q => ∃ (a : Addr) (xs : List V) (bs : List Bool), vs = [.ref a] ∧ H a = some (.lst xs) ∧ xs = bs.map V.bl ∧ Q (.bl (bs.any id)) H
theorem all1 {X : Cx} (hc : X.calm = true) : CallR X (.builtin "all") mAll := CallR.imp (cr_all hc) fun vs H Q ⟨a, xs, bs, e, h, ex, q⟩ => ⟨a, bs, e, by rw [← ex]; exact SqL.of h, q⟩
theorem any1 {X : Cx} (hc : X.calm = true) : CallR X (.builtin "any") mAny := CallR.imp (cr_any hc) fun vs H Q ⟨a, xs, bs, e, h, ex, q⟩ => ⟨a, bs, e, by rw [← ex]; exact SqL.of h, q⟩
/-! ### data at any depth, tracked -/
mutual
inductive Da (H : Hp) : V → PyData → Prop
  | non : Da H .non .none
  | bl (b : Bool) : Da H (.bl b) (.bool b)
  | int (i : Int) : Da H (.int i) (.int i)
  | str (x : Str) : Da H (.str x) (.str x)
  | lst {a : Addr} {xs : List V} {ds : List PyData} : H a = some (.lst xs) → DaAll H xs ds → Da H (.ref a) (.list ds)
  | tup {a : Addr} {xs : List V} {ds : List PyData} : H a = some (.tup xs) → DaAll H xs ds → Da H (.ref a) (.tuple ds)
inductive DaAll (H : Hp) : List V → List PyData → Prop
  | nil : DaAll H [] []
  | cons {v : V} {vs : List V} {d : PyData} {ds : List PyData} : Da H v d → DaAll H vs ds → DaAll H (v :: vs) (d :: ds)
end
mutual
theorem Da.same {H H' : Hp} (s : Same H H') : ∀ (d : PyData) (v : V), Da H v d → Da H' v d
  | .none, _, h => by cases h; exact .non
  | .bool b, _, h => by cases h; exact .bl b
  | .int i, _, h => by cases h; exact .int i
  | .str x, _, h => by cases h; exact .str x
  | .list ds, _, h => by
    cases h with
    | lst e k => exact .lst (s _ _ e) (DaAll.same s ds _ k)
  | .tuple ds, _, h => by
    cases h with
    | tup e k => exact .tup (s _ _ e) (DaAll.same s ds _ k)
  | .dict _, _, h => by cases h
theorem DaAll.same {H H' : Hp} (s : Same H H') : ∀ (ds : List PyData) (vs : List V), DaAll H vs ds → DaAll H' vs ds
  | [], _, h => by cases h; exact .nil
  | d :: ds, _, h => by
    cases h with
    | cons a b => exact .cons (Da.same s d _ a) (DaAll.same s ds _ b)
end
mutual
theorem Da.dp {K : PySem.W.Frag} {H : Hp} : ∀ (d : PyData) (v : V), Da H v d → Dp K H v d
  | .none, _, h => by cases h; exact .non
  | .bool b, _, h => by cases h; exact .bl b
  | .int i, _, h => by cases h; exact .int i
  | .str x, _, h => by cases h; exact .str x
  | .list ds, _, h => by
    cases h with
    | lst e k => exact .lst (SqL.of e) (DaAll.dp ds _ k)
  | .tuple ds, _, h => by
    cases h with
    | tup e k => exact .tup (SqT.of e) (DaAll.dp ds _ k)
  | .dict _, _, h => by cases h
theorem DaAll.dp {K : PySem.W.Frag} {H : Hp} : ∀ (ds : List PyData) (vs : List V), DaAll H vs ds → DpAll K H vs ds
  | [], _, h => by cases h; exact .nil
  | d :: ds, _, h => by
    cases h with
    | cons a b => exact .cons (Da.dp d _ a) (DaAll.dp ds _ b)
end
theorem DaAll.length {H : Hp} : ∀ {vs : List V} {ds : List PyData}, DaAll H vs ds → vs.length = ds.length
  | _, _, .nil => rfl
  | _, _, .cons _ k => by rw [List.length_cons, List.length_cons, DaAll.length k]
theorem DaAll.get {H : Hp} : ∀ {vs : List V} {ds : List PyData} {i : Nat} {v : V}, DaAll H vs ds → vs[i]? = some v → ∃ d, ds[i]? = some d ∧ Da H v d
  | _, _, i, _, .nil, h => by cases i <;> cases h
  | _, _, 0, _, .cons a _, h => by injection h with h; subst h; exact ⟨_, rfl, a⟩
  | _, _, i + 1, v, .cons _ k, h => DaAll.get (i := i) k h
theorem DaAll.strs {H : Hp} : ∀ (q : List Str), DaAll H (q.map V.str) (q.map PyData.str)
  | [] => .nil
  | x :: q => .cons (.str x) (DaAll.strs q)
theorem DaAll.ints {H : Hp} : ∀ (q : List Int), DaAll H (q.map V.int) (q.map PyData.int)
  | [] => .nil
  | x :: q => .cons (.int x) (DaAll.ints q)
theorem walk_zipT {K : PySem.W.Frag} {a b : Addr} {xs ys : List V} {n : Nat} (hn : n = min xs.length ys.length) : Walk (RZ.ItzT K a b) n (fun H => SqT K H a xs ∧ SqT K H b ys) (YPair (fun i => xs[i]?) (fun i => ys[i]?)) := by
  subst hn
  refine ⟨fun i _ hi q => ?_, fun _ q => ⟨xs, ys, q.1, q.2, by omega⟩, fun i H v H' _ q y => ?_⟩
  · have z1 : i < xs.length := by omega
    have z2 : i < ys.length := by omega
    exact ⟨xs, ys, xs[i], ys[i], q.1, q.2, by simp [z1], by simp [z2]⟩
  · obtain ⟨T, x, z, y1, y2, y3, y4, y5⟩ := y
    exact ⟨T, x, z, y1, y2, y3, y4 xs q.1, y5 ys q.2⟩
/-! ### a, b = a tracked tuple -/
def gTupH (n : Nat) (t : TGs) : TG := fun v σ H Q => ∃ a xs, v = .ref a ∧ H a = some (.tup xs) ∧ xs.length = n ∧ t xs σ H Q
theorem PG.imp {X : Cx} {tg : Expr} {g g' : TG} (h : PG X tg g) (i : ∀ v σ H Q, g' v σ H Q → g v σ H Q) : PG X tg g' := ⟨fun pins s σ H v u Q I r q => h.run pins s σ H v u Q I r (i _ _ _ _ q)⟩
theorem pg_tupH {X : Cx} {es : List Expr} {k n : Nat} {pos : Pos} {t : TGs} (hc : X.calm = true) (h : PGs X es t) (hn : (assignEach es X.env).length = n := by rfl) (hst : (assignEach es X.env).findIdx? (·.1) = none := by rfl) : PG X (.Tuple es k pos) (gTupH n t) := PG.imp (pg_tup hc h hn hst) fun v σ H Q ⟨a, xs, e, he, hl, q⟩ => ⟨a, xs, e, SqT.of he, hl, q⟩
/-! ### loops as one word -/
def Loop (J : It) (g : TG) (tb : TS) (D : Ends) (σ : L2.St) (H : Hp) : Prop := ∃ W : Nat → Nat → L2.St → Hp → Prop, (∃ m, W 0 m σ H) ∧ ∀ i m σ H, W i m σ H → (J.stop i H ∧ D.nx σ H) ∨
  (J.go i H ∧ ∃ N : L2.St → Hp → Prop, (∀ σ' H', N σ' H' → ∃ m', m' < m ∧ W (i + 1) m' σ' H') ∧ ∀ x H', J.yld i H x H' → g x σ H' fun σ2 H2 => tb { D with nx := N, ct := N, bk := D.nx } σ2 H2)
theorem tFor_eq {wi : TI} {g : TG} {tb : TS} {D : Ends} {σ : L2.St} {H : Hp} : tFor wi g tb D σ H = wi σ H fun J H1 => Loop J g tb D σ H1 := rfl
theorem loop_it {J : It} {n : Nat} {G : Hp → Prop} {Y : Nat → Hp → V → Hp → Prop} (w : Walk J n G Y) {g : TG} {tb : TS} {D : Ends} {σ : L2.St} {H : Hp} (Pv : Nat → L2.St → Hp → Prop) (h0 : Pv 0 σ H) (hG : ∀ i σ H, i ≤ n → Pv i σ H → G H)
    (hs : ∀ i x σ H H', i < n → Pv i σ H → Y i H x H' → g x σ H' fun σ2 H2 => tb { D with nx := Pv (i + 1), ct := Pv (i + 1), bk := D.nx } σ2 H2) (hd : ∀ σ H, Pv n σ H → D.nx σ H) : Loop J g tb D σ H := for_it w Pv h0 hG hs hd
def LoopC (J : It) (g : TG) (tt : TT) (te : TE) (vs : List Nat) (σ : L2.St) (H1 : Hp) (D : Addr) (Qd : Hp → Prop) : Prop := ∃ W : Nat → Nat → Hp → Prop, (∃ m, W 0 m (upd H1 D (.lst []))) ∧ ∀ i m H, W i m H → (J.stop i H ∧ Qd H) ∨
  (J.go i H ∧ ∃ Nx : Hp → Prop, (∀ H', Nx H' → ∃ m', m' < m ∧ W (i + 1) m' H') ∧ ∀ x H', J.yld i H x H' → g x (wipe σ vs) H' fun σ2 H2 => wipe σ2 vs = wipe σ vs ∧ tt σ2 H2 fun b H3 =>
    if b = true then te σ2 H3 fun y H4 => ∃ acc, H4 D = some (.lst acc) ∧ acc.length < sizeLine ∧ Nx (upd H4 D (.lst (acc ++ [y]))) else Nx H3)
theorem tLc_eq {wi : TI} {g : TG} {tt : TT} {te : TE} {vs : List Nat} {σ : L2.St} {H : Hp} {Q : VK} : tLc wi g tt te vs σ H Q = wi σ H fun J H1 => ∀ D, H1 D = none → LoopC J g tt te vs σ H1 D (fun H' => Q (.ref D) H') := rfl
theorem loopC_it {J : It} {n : Nat} {G : Hp → Prop} {Y : Nat → Hp → V → Hp → Prop} (w : Walk J n G Y) {g : TG} {tt : TT} {te : TE} {vs : List Nat} {σ : L2.St} {H1 : Hp} {D : Addr} {Qd : Hp → Prop} (Pv : Nat → Hp → Prop) (h0 : Pv 0 (upd H1 D (.lst []))) (hG : ∀ i H, i ≤ n → Pv i H → G H)
    (hs : ∀ i x H H', i < n → Pv i H → Y i H x H' → g x (wipe σ vs) H' fun σ2 H2 => wipe σ2 vs = wipe σ vs ∧ tt σ2 H2 fun b H3 =>
      if b = true then te σ2 H3 fun y H4 => ∃ acc, H4 D = some (.lst acc) ∧ acc.length < sizeLine ∧ Pv (i + 1) (upd H4 D (.lst (acc ++ [y]))) else Pv (i + 1) H3) (hd : ∀ H, Pv n H → Qd H) : LoopC J g tt te vs σ H1 D Qd := lc_it w Pv h0 hG hs hd
/-! ### heaps that grow -/
theorem ne_new {H : Hp} {a p : Addr} {o : HO} (h : H a = some o) (hp : H p = none) : a ≠ p := ne_of_none h hp
end My

set_option Elab.async false
set_option linter.all false
set_option maxRecDepth 100000
set_option maxHeartbeats 4000000
/-! own library, part 5: an own error class E(OwedError) with  def __init__(self, f): super().__init__('..'); self.f = f -/
namespace PySem
namespace OwX
open PySem.W PySem.Calls PyProof.Rows PySem.HandSPX
def iB (msg fl : Str) (j : Nat) (p0 p1 p2 p3 p4 p5 q1 q2 q3 q4 : Pos) : List Stmt :=
  [.Expr (.Call (.Attribute (.Call (.Name "super" p0) [] [] p1) "__init__" p2) [.Constant (.str msg) j p3] [] p4) p5, .Assign [.Attribute (.Name "self" q1) fl q2] (.Name fl q3) q4]
/-- what the written part says of the class at C, of its __init__ at fI (its cell at cc, its code at cda) -/
structure OwTxt (prog : Program) (K : Frag) (mg : Str → Option Value) (C fI cc cda : Addr) (cn fl : Str) : Prop where
  gC : mg cn = some (.ref C)
  cls : ∃ nm q N bs bm sn sub ab col dd k0 k1 k2 k3 k5, K.lookup C = some (excClassObj nm q C N bs bm true sn sub ab col dd k0 k1 k2 k3 k5 "ValueError.__new__") ∧ refsVE bm = true
  sa : findIn K (.ref C) "__setattr__" = some (some (.builtin "object.__setattr__"))
  ga : findIn K (.ref C) "__getattribute__" = some (some (.builtin "BaseException.__getattribute__"))
  gg : findIn K (.ref C) "__getattr__" = some none
  noN : findIn K (.ref C) fl = some none
  iC : findIn K (.ref C) "__init__" = some (some (.ref fI))
  tC : typeIn K (.ref fI) = some (.type "function")
  kC : keepIn K (.ref C) = true
  exC : subIn K (.ref C) (.type "BaseException") = some true
  tyC : typeIn K (.ref C) = some (.type "type")
  hdC : hasDictIn K C = true
  self : mroIn K C (.ref C) = some true
  ve : subIn K (.ref C) (.type "ValueError") = some true
  sup : ks_superIn K C C "__init__" = some (some (.builtin "ValueError.__init__"))
  opq : nsIn K cStatics "thirdparty.any" = some none
  nsup : nsIn K mainGlobals "super" = some none
  cell : ∃ cl cld csl, K.lookup cc = some ⟨cl, cld, .cell (some (.ref C)), csl⟩
  code : ∃ ccl cdd vs ccs file tf, K.lookup cda = some ⟨ccl, cdd, .fields vs, ccs⟩ ∧ vs[2]? = some (.str file tf) ∧ ((prog.main.file : Str) == file) = true
  top : (prog.main.scope.names.lookup ("super" : Str)).isSome = false
  fn : ∃ (qual : Str) (params : Arguments) (body : List Stmt) (scope : Scope) (oc : Value) (od : Option Addr) (doc pm : Value) (an : Option Addr) (ct : Value) (osl : Array (Option Value)) (ar : Arg),
    K.lookup fI = some ⟨oc, od, .func (ksFn "__init__" qual params body scope .none .none doc pm an (.ref cda) ct cc), osl⟩ ∧ codeIn K (.ref cda) qual = true ∧ (params.posonlyargs ++ params.args).head? = some ar ∧ ar.arg = "self" ∧
    (∀ a b : Value, bindArgs (ksFn "__init__" qual params body scope .none .none doc pm an (.ref cda) ct cc) ⟨[a, b], []⟩ = pure [(("self" : Str), a), (fl, b)]) ∧
    (∃ msg j p0 p1 p2 p3 p4 p5 q1 q2 q3 q4, body = iB msg fl j p0 p1 p2 p3 p4 p5 q1 q2 q3 q4 ∧ (∃ pl : Env → Sem Bool, ∀ env : Env, eval (.Call (.Attribute (.Call (.Name "super" p0) [] [] p1) "__init__" p2) [.Constant (.str msg) j p3] [] p4) env = (do
        let ov ← attributeBase (.Call (.Name "super" p0) [] [] p1) "__init__" env (eval (.Call (.Name "super" p0) [] [] p1) env)
        standAt p2.atName
        let (f, first) ← holding [ov] (getMethod ov "__init__" (pl env))
        callWith p4 f first (backTo p4 (starEach [.Constant (.str msg) j p3] env)) [])) ∧
      (∀ env : Env, swapsWith (.Call (.Attribute (.Call (.Name "super" p0) [] [] p1) "__init__" p2) [.Constant (.str msg) j p3] [] p4) none p5.line env = pure false) ∧ (∀ env : Env, swapsWith (.Name fl q3) (some (.Attribute (.Name "self" q1) fl q2)) q4.line env = pure false)) ∧
    scope.kind = .function ∧ scope.isCoroutine = false ∧ scope.isGenerator = false ∧ (∀ y ∈ scope.names, y.2 ≠ .cell) ∧ scope.names.lookup ("self" : Str) = some .local ∧ scope.names.lookup fl = some .local ∧
    scope.names.lookup ("super" : Str) = some .globalImplicit ∧ scope.names.lookup ("__class__" : Str) = some .free ∧ ¬ fl = "self" ∧ (fl == ("__debug__" : Str)) = false
/-- what __init__ leaves of a fresh exception at x -/
structure InitEnd (fl : Str) (h h' : Heap) (x C dx t1 : Addr) (v : Value) : Prop where
  keep : ∀ b o, b ≠ x → h.get? b = some o → h'.get? b = some o
  obj : h'.get? x = some { cls := .ref C, dict := some dx, data := .fields #[.ref t1, .none, .none, .none, .bool false, .none] }
  dbig : h.objs.size ≤ dx
  dne : dx ≠ x
  ns : h'.Ns1 dx (fun y => if y = fl then some v else none)
section
variable {prog : Program} {w : World} {A : Around} {E : Value → Shared → Prop} {R : Result → Shared → Prop} {s : Shared} {K : Frag} {mg : Str → Option Value} {C fI cc cda : Addr} {cn fl : Str}
theorem ow_init (T : OwTxt prog K mg C fI cc cda cn fl) {x t0 : Addr} {v : Value} (X : K.In s.heap) (hg : s.heap.Ns mainGlobals mg) (hbl : ∃ mb, s.heap.Ns builtinsNs mb ∧ ∀ y : Str, y ≠ "__name__" → mb y = bootBuiltins y) (hlim : s.heap.NoLimit)
    (hx : s.heap.get? x = some (excO C t0)) (nKx : K.lookup x = none) (hroom : A.depth < recursionLimit)
    (hq : ∀ h' tk dx t1, InitEnd fl s.heap h' x C dx t1 v → R (.ok (.ret .none)) { s with heap := h', toks := tk }) :
    codeAny (model prog w) A (.call (.ref fI) ⟨[.ref x, v], []⟩) R s := by
  obtain ⟨qual, params, body, scope, oc, od, doc, pm, an, ct, osl, ar, hfn, hcd, hhd, har, hbi, ⟨msg, j, p0, p1, p2, p3, p4, p5, q1, q2, q3, q4, rfl, ⟨pl, hev⟩, hsw1, hsw2⟩, hk, hco, hgen, hce, ks, kf, ksu, kcl, nfs, ndb⟩ := T.fn
  obtain ⟨cl, cld, csl, hcell⟩ := T.cell
  obtain ⟨ccl, cdd, vs, ccs, file, tf, hcode, hvs, hfile⟩ := T.code
  obtain ⟨nm, q, N, bs, bm, sn, sub, ab, col, dd, k0, k1, k2, k3, k5, hC, hbm⟩ := T.cls
  obtain ⟨mb, hb, hbb⟩ := hbl
  have hcl : clsIn K C = some { name := nm, bases := bs, mro := .ref C :: bm, ns := N, qualname := q, hasDict := true, slotNames := sn, subclasses := sub, abstract := ab, collection := col, hasDel := false } := by unfold clsIn; rw [hC] <;> rfl
  refine ks_codeAny_call_defAt (binds := [("self", .ref x), (fl, v)]) hroom (X _ _ hfn) rfl hlim (codeRec_of X hcd) rfl (BindsTo.of_eq (hbi _ _)) hce ?_ (fun h1 hns hk1 => ?_) hco hgen hk
  · intro y hy
    rcases List.mem_cons.mp hy with rfl | hy
    · exact ks
    · rcases List.mem_cons.mp hy with rfl | hy
      · exact kf
      · cases hy
  have X1 : K.In h1 := X.keeps hk1
  have hg1 := hg.keeps hk1
  have hb1 := hb.keeps hk1
  have hx1 := hk1 _ _ hx
  have hself : (([("self", Value.ref x), (fl, v)] : List (Str × Value)).reverse.lookup ("self" : Str)) = some (.ref x) := by
    have e : (("self" : Str) == fl) = false := by simpa using fun z => nfs z.symm
    simp [List.lookup, e]
  have hfld : (([("self", Value.ref x), (fl, v)] : List (Str × Value)).reverse.lookup fl) = some v := by simp [List.lookup]
  have hkM : (scope.kind == ScopeKind.module) = false := by rw [hk]; rfl
  refine ks_wpAt_execs_cons (ks_wpAt_Expr_any (ks_wpAt_MethodCall (pl := pl _) ?_ (hev _)) (by show (scope.kind == ScopeKind.module && scope.more.any fun (n, _) => n == ("interactive" : Str)) = false; rw [hkM]; rfl) (hsw1 _))
  refine ks_wpAt_super_base ksu kcl (by decide) rfl (X1 _ _ hfn) rfl hhd rfl (X1 _ _ hcode) rfl hvs hfile T.top ?_
  refine ks_loadName_global hk ksu (loadGlobal_builtin hg1 (mg_none_of X hg T.nsup) hb1 ((hbb _ (by decide +kernel)).trans (by decide +kernel : bootBuiltins "super" = some (.type "super"))) ⟨rfl, ?_⟩)
  refine wpAny_loadName_free hk kcl rfl ⟨_, X1 _ _ hcell, rfl⟩ ?_
  rw [har]
  refine wpAny_loadName_local hk ks hns hself ?_
  obtain ⟨oD, hD1, hD2⟩ : ∃ oD, h1.get? C = some oD ∧ oD.data = .cls _ := ⟨_, X1 _ _ hC, rfl⟩
  refine ks_wpAny_isType_cls hD1 hD2 ⟨rfl, ?_⟩
  refine ks_wpAny_call_super hD1 hD2 hx1 rfl (fun c e => by cases e) (looks_mroIn X1 T.self) (fun h2 hso k2 => ?_)
  have X2 : K.In h2 := X1.keeps k2
  have hx2 := k2 _ _ hx1
  have J2 : InstAt h2 x (excO C t0) C none := ⟨hx2, rfl, rfl, trivial⟩
  refine kxs_getMethod kxs_ValueError (l₀ := .ref C :: bm) hso (looks_opaque X2 T.opq) ?_ rfl X2 ?_ (J2.type.andThen (looks_subIn X2 T.ve)) (ks_ne X2 J2 hcl) (by decide) ?_
  · exact fun A Q E s k q => wpAny_bind ((looks_clsIn X2 hcl) A _ E s k (wpAny_pure q))
  · have z := T.sup
    unfold ks_superIn at z
    rw [hcl] at z
    exact z
  have k3 : ∀ b o, h2.get? b = some o → (h2.push (kxs_mw "ValueError.__init__" x)).get? b = some o := fun b o e => Heap.get?_push_of_some _ e
  have hu3 : (h2.push (kxs_mw "ValueError.__init__" x)).get? h2.objs.size = some (kxs_mw "ValueError.__init__" x) := Heap.get?_push_at rfl rfl
  have hx3 := k3 _ _ hx2
  have hC3 := X2.keeps k3 _ _ hC
  refine kxs_callWith (i := "ValueError.__init__") (x := x) rfl (evalArgs_plain ?_)
  refine Calls.spliced_cons (Calls.Constant_str (k := j) (pos := p3) (Calls.spliced_nil ⟨hu3, ?_⟩))
  refine wpAny_call (codeAny_of_tree ?_)
  show wpAny _ _ (callAny (.ref h2.objs.size) _) _ _ _
  simp only [callAny]
  refine wpAny_bind (wpAny_load hu3 ?_)
  simp only [kxs_mw, show (Value.type "method-wrapper" == Value.type "method" || Value.type "method-wrapper" == Value.type "builtin_function_or_method" || Value.type "method-wrapper" == Value.type "method-wrapper") = true by decide, if_true]
  refine KFB.if_so (by decide) ?_
  refine wpAny_bind (check_bound_init F.excBase_ValueError.toExcCallFacts hC3 hx3 rfl ?_)
  refine wpAny_bind (wpAny_pure (wpAny_pure ?_))
  refine ⟨plainId_quiet F.excBase_ValueError.init.plain _, codeAny_builtin F.excBase_ValueError.initEntry ?_⟩
  refine exc_init_tree (cls := .ref C) (t0 := t0) (dv := none) (c2 := .none) (c3 := .none) (b4 := .bool false) hx3 (by show 1 ≤ sizeLine; decide) (fun h4 k4 hx4 ht4 => ?_)
  have hLx : s.heap.objs.size ≠ x := Nat.ne_of_gt (Heap.lt_size hx)
  have k14 : ∀ b o, b ≠ x → h1.get? b = some o → h4.get? b = some o := fun b o hb e => k4 b o hb (k3 b o (k2 b o e))
  have hns4 : h4.Ns s.heap.objs.size (fun y => ([("self", Value.ref x), (fl, v)] : List (Str × Value)).reverse.lookup y) := by
    obtain ⟨oL, es, ep, hL, r⟩ := hns
    exact ⟨oL, es, ep, k14 _ _ hLx hL, r⟩
  have X4 : K.In h4 := fun a o e => k14 a o (fun z => by rw [z, nKx] at e; cases e) (X1 a o e)
  refine wpAt_of_wpAny (wpAny_execs_cons (plainObj_wpAny_Assign_Attribute ?_ (hsw2 _)))
  refine wpAny_Name (wpAny_loadName_local hk kf hns4 hfld ?_) ndb
  refine wpAny_Name (wpAny_loadName_local hk ks hns4 hself ?_) (by decide)
  refine set_plain X4 (ox := excO C _) (od := none) ⟨hx4, rfl, rfl, trivial⟩ T.sa ?_
  refine exc_osa X4 hx4 hcl (show refsVE (.ref C :: bm) = true from hbm) rfl T.noN (fun h5 tk5 dx k5 dn dne hx5 hn5 => ?_)
  refine wpAny_execs_nil (hq h5 tk5 dx _ ⟨fun b o hb e => k5 b o hb (k14 b o hb (hk1 b o e)), hx5, Nat.le_of_lt (Nat.lt_of_lt_of_le hns4.lt dn), dne, hn5⟩)
/-- a made error -/
structure OwnMade (fl : Str) (h h' : Heap) (e C d : Addr) (v : Value) : Prop where
  keep : ∀ b o, h.get? b = some o → h'.get? b = some o
  new : h.objs.size ≤ e
  obj : ∃ oe vs, h'.get? e = some oe ∧ oe.cls = .ref C ∧ oe.dict = some d ∧ oe.data = .fields vs ∧ vs[1]? = some .none
  dbig : h.objs.size ≤ d
  dne : d ≠ e
  ns : h'.Ns1 d (fun y => if y = fl then some v else none)
theorem ow_made (T : OwTxt prog K mg C fI cc cda cn fl) {v : Value} (X : K.In s.heap) (hg : s.heap.Ns mainGlobals mg) (hbl : ∃ mb, s.heap.Ns builtinsNs mb ∧ ∀ y : Str, y ≠ "__name__" → mb y = bootBuiltins y) (hlim : s.heap.NoLimit) (hroom : A.depth + 1 < recursionLimit)
    (hq : ∀ h' tk e d, OwnMade fl s.heap h' e C d v → R (.ok (.ret (.ref e))) { s with heap := h', toks := tk }) :
    codeAny (model prog w) A (.call (.ref C) ⟨[v], []⟩) R s := by
  obtain ⟨nm, q, N, bs, bm, sn, sub, ab, col, dd, k0, k1, k2, k3, k5, hC, hbm⟩ := T.cls
  obtain ⟨hp, g, dr, tk, os⟩ := s
  have k : ∀ b o, hp.get? b = some o → ((hp.push (kdv_tup [v])).push (excO C hp.objs.size)).get? b = some o := fun b o e => Heap.get?_push_of_some _ (Heap.get?_push_of_some _ e)
  have hget : ((hp.push (kdv_tup [v])).push (excO C hp.objs.size)).get? (hp.objs.size + 1) = some (excO C hp.objs.size) := by heap_get
  have hnx : K.lookup (hp.objs.size + 1) = none := by
    cases e : K.lookup (hp.objs.size + 1) with
    | none => rfl
    | some o =>
      have z : hp.get? (hp.objs.size + 1) = some o := X _ _ e
      exact absurd (Nat.lt_of_succ_lt (Heap.lt_size z)) (Nat.lt_irrefl _)
  refine call_own F.excBase_ValueError (fun X => refsVE_contains X bm hbm) (X _ _ hC) (looks_findIn X T.iC) (fun self => bind_fn X self T.tC) (show 1 ≤ sizeLine by decide) ?_
  refine ow_init (s := ⟨(hp.push (kdv_tup [v])).push (excO C hp.objs.size), g, dr, tk, os⟩) T (X.keeps k) (hg.keeps k) ?_ (hlim.keeps k) hget hnx ?_ fun h' tk' dx t1 ⟨k', hx, dn, dne, hns⟩ => ?_
  · obtain ⟨mb, h1, h2⟩ := hbl
    exact ⟨mb, h1.keeps k, h2⟩
  · show A.depth + 1 < recursionLimit
    exact hroom
  · have old : ∀ b o, hp.get? b = some o → h'.get? b = some o := fun b o e => k' b o (Nat.ne_of_lt (Nat.lt_succ_of_lt (Heap.lt_size e))) (k b o e)
    have z : hp.objs.size + 1 + 1 ≤ dx := by
      first
        | (simpa only [Heap.size_push] using dn)
        | exact dn
        | (have q := dn; rw [Heap.size_push, Heap.size_push] at q; exact q)
    exact ⟨rfl, hq h' tk' (hp.objs.size + 1) dx ⟨old, Nat.le_succ _, ⟨_, _, hx, rfl, rfl, rfl, rfl⟩, Nat.le_trans (Nat.le_trans (Nat.le_succ _) (Nat.le_succ _)) z, dne, hns⟩⟩
end
end OwX
end PySem
namespace My
open PySem PySem.Spec PyProof.Rows L2
theorem relO_one {fl : Str} {v : V} {v' : Value} (r : RelV v v') (f : Str) : RelO (List.lookup f [(fl, v)]) (if f = fl then some v' else none) := by
  by_cases hw : f = fl
  · subst hw
    rw [if_pos rfl]
    have q : List.lookup f [(f, v)] = some v := by simp [List.lookup]
    rw [q]
    exact r
  · rw [if_neg hw]
    have qw : (f == fl) = false := by simpa using hw
    have q2 : List.lookup f [(fl, v)] = none := by simp [List.lookup, qw]
    rw [q2]
    trivial
section
variable {X : Cx} {C fI cc cda : Addr} {cn fl : Str}
/-- E(e) -/
def tMkOw (C : Addr) (fl : Str) (ta : TA) : L2.St → Hp → XK → Prop := fun σ H Q => ta σ H fun vs H1 => ∃ v, vs = [v] ∧ ∀ d, H1 d = none → Q (.ref C) (some d) (upd H1 d (.xd [(fl, v)]))
theorem pmk_ow {a : Expr} {ta : TA} {p pos : Pos} {k : Nat} (T : PySem.OwX.OwTxt X.prog X.K X.mg C fI cc cda cn fl) (hr : Room k X.A) (ha : PA X [a] ta) (hg : Gl X cn) (hdb : (cn == ("__debug__" : Str)) = false := by decide)
    (he : starEach (a :: []) X.env = (false, eval a X.env) :: starEach [] X.env := by rfl) (hpl : (backTo pos (starEach [] X.env)).any (·.1) = false := by rfl) :
    PMk X (.Call (.Name cn p) [a] [] pos) (tMkOw C fl ta) := by
  intro pins s σ H Q I h
  refine wpAny_Call_Name_kw (ld_glob I hg T.gC ?_ hdb)
  refine PySem.W.callWith_K (h₀ := X.base) I.ok.mod.kin T.kC (thn (ha.run pos pins s σ H _ I h) fun us s1 hh => ?_) he hpl
  obtain ⟨vs, H1, I1, r1, v, ev, q1⟩ := hh
  subst ev
  refine ⟨I1.kIn, ?_⟩
  cases r1 with
  | cons rv rn =>
    rename_i v' us'
    cases rn
    show wpAny _ _ (call (.ref C) [v']) _ _ _
    have hlim := I1.nolimit
    have hgl := I1.ok.mod.glob.keeps I1.bk
    have hbl : ∃ mb, s1.heap.Ns builtinsNs mb ∧ ∀ y : Str, y ≠ "__name__" → mb y = bootBuiltins y := by
      obtain ⟨mb, z1, z2⟩ := I1.ok.mod.blt
      exact ⟨mb, z1.keeps I1.bk, z2⟩
    obtain ⟨hp, g, dr, tk, os⟩ := s1
    refine wpAny_call (PySem.OwX.ow_made T I1.kIn hgl hbl hlim (by have := hr.dp; omega) fun h' tk' e d M => ?_)
    show MkP X pins σ Q (.ref e) ⟨h', g, dr, tk', os⟩
    obtain ⟨oe, fv, hoe, hc, hd, hdat, h1⟩ := M.obj
    have hns := M.ns
    obtain ⟨G', g1, g2⟩ := restrict h' fun b => decide (b ≠ e)
    have gk : ∀ b, b ≠ e → G'.get? b = h'.get? b := fun b hb => g1 b (decide_eq_true hb)
    have ge : G'.get? e = none := g2 e (by simp)
    have old : ∀ b o, hp.get? b = some o → G'.get? b = some o := fun b o q => (gk b (Nat.ne_of_lt (Nat.lt_of_lt_of_le (Heap.lt_size q) M.new))).trans (M.keep b o q)
    have ob : ObjOk X.prog X.w (upd H1 d (.xd [(fl, v)])) G' d (.xd [(fl, v)]) := ⟨_, hns.at (fun o q => (gk d M.dne).trans q), fun f => relO_one rv f⟩
    have J : Inv X pins σ (upd H1 d (.xd [(fl, v)])) ⟨G', g, dr, tk', os⟩ := I1.laid (t' := tk') old M.dbig ob
    refine ⟨e, oe, fv, ⟨G', g, dr, tk', os⟩, _, .ref C, some d, rfl, J, fun b o q => ?_, ge, hoe, ⟨hc, hd⟩, hdat, h1, ?_, rfl, I1.bare, raises_own T.exC T.tyC, q1 d (I1.hok.fresh M.dbig)⟩
    · by_cases hb : b = e
      · have q' : G'.get? b = some o := q
        rw [hb, ge] at q'; cases q'
      · exact (gk b hb).symm.trans q
    · rw [upd_ne (Ne.symm M.dne)]
      exact I1.hok.fresh M.new
/-- raise E(e) -/
def tRaiseOw (C : Addr) (fl : Str) (W : WX) (ta : TA) : TS := fun _ σ H => tMkOw C fl ta σ H fun cls d H' => W cls d σ H'
theorem ps_raiseOw {a : Expr} {ta : TA} {W : WX} {p pos pos2 : Pos} {k : Nat} (hc : X.calm = true) (T : PySem.OwX.OwTxt X.prog X.K X.mg C fI cc cda cn fl) (hr : Room k X.A) (tk : Takes X W) (ha : PA X [a] ta) (hg : Gl X cn) (hdb : (cn == ("__debug__" : Str)) = false := by decide)
    (he : starEach (a :: []) X.env = (false, eval a X.env) :: starEach [] X.env := by rfl) (hpl : (backTo pos (starEach [] X.env)).any (·.1) = false := by rfl) :
    PS X (.Raise (some (.Call (.Name cn p) [a] [] pos)) none pos2) (tRaiseOw C fl W ta) := ps_raise hc tk (pmk_ow T hr ha hg hdb he hpl)
/-- e.f, e the exception that the suite holds (at a; its class cls, its dict d) -/
def tFldOw (C : Addr) (fl : Str) (a : Addr) (cls : Value) (d : Option Addr) (te : TE) : TE := fun σ H Q => te σ H fun x H1 => x = .ref a ∧ cls = .ref C ∧ ∃ (dd : Addr) (v : V), d = some dd ∧ H1 dd = some (.xd [(fl, v)]) ∧ Q v H1
theorem pe_fldOw {a : Addr} {oe : Obj} {cls : Value} {d : Option Addr} {pn : List (Addr × Obj)} {e : Expr} {te : TE} {pos : Pos} (T : PySem.OwX.OwTxt X.prog X.K X.mg C fI cc cda cn fl) (hz : Zc cls d oe) (hf : ∃ vs, oe.data = .fields vs) (he : PE (X.suite a ((a, oe) :: pn)) e te)
    (hb : attributeBase e fl X.env (eval e X.env) = eval e X.env) :
    PE (X.suite a ((a, oe) :: pn)) (.Attribute e fl pos) (tFldOw C fl a cls d te) := by
  refine ⟨fun pins s σ H Q I h => ?_⟩
  refine attr_of hb (thn (he.run pins s σ H _ I h) fun u s1 hh => ?_)
  obtain ⟨x, H1, I1, rx, ex, ec, dd, v, ed, ea, q⟩ := hh
  subst ex
  obtain rfl : u = Value.ref a := rx
  subst ec
  subst ed
  obtain ⟨ha, _⟩ := I1.pin (a, oe) (List.mem_append_left _ List.mem_cons_self)
  obtain ⟨vs, hd⟩ := hf
  have hx : ObjOk X.prog X.w H1 s1.heap dd (.xd [(fl, v)]) := I1.hok dd _ ea
  obtain ⟨mA, hns, hr⟩ := hx
  obtain ⟨od, ho, hl⟩ := lookIn_ns hns
  have l : List.lookup fl [(fl, v)] = some v := by simp [List.lookup]
  obtain ⟨u, hu, ru⟩ := RelO.some_of (v := v) (o := mA fl) (by rw [← l]; exact hr fl)
  have J : PySem.W.InstAt s1.heap a oe C (some od) := ⟨ha, hz.1, by unfold PySem.W.notCls; rw [hd] <;> rfl, by rw [hz.2]; exact ho⟩
  exact HandSPX.exc_get I1.kIn J T.ga T.gg T.exC (PySem.W.findObj_own T.hdC T.noN rfl (by rw [hl, hu])) (handed_of ru) ⟨v, H1, I1.tok _, ru, q⟩
end
end My

set_option Elab.async false
set_option linter.all false
set_option maxRecDepth 100000
set_option maxHeartbeats 4000000
/-! own library, part 6: the head with own errors; calls that may raise; try with several clauses -/
namespace My
open PySem PySem.Spec PyProof.Rows L2
/-! ### the hook, with __init__ of own errors (their closure is the cell of the class) -/
/-- an own error: class, field, the def -/
structure DefX where
  cls : Str
  fld : Str
  qual : Str
  params : Arguments
  body : List Stmt
  scope : Scope
def fnXo (K : PySem.W.Frag) (a : Addr) : He.FnW := match K.lookup a with
  | some ⟨_, _, .func fd, _⟩ => some (fd.name, fd.qualname, fd.params, fd.body, fd.scope, fd.globals, [], fd.builtins)
  | _ => none
def DefX.val (d : DefX) : He.FnW := some ("__init__", d.qual, d.params, .stmts d.body, d.scope, mainGlobals, [], builtinsNs)
def exI (cn : Str) (K : PySem.W.Frag) : Addr := He.ma K (He.ga K cn) "__init__"
def exC (cn : Str) (K : PySem.W.Frag) : Addr := match K.lookup (exI cn K) with
  | some ⟨_, _, .func fd, _⟩ => (match fd.closure with
    | [(_, c)] => c
    | _ => 0)
  | _ => 0
def exD (cn : Str) (K : PySem.W.Frag) : Addr := match K.lookup (exI cn K) with
  | some ⟨_, _, .func fd, _⟩ => (match fd.code with
    | .ref c => c
    | _ => 0)
  | _ => 0
def isNo : Value → Bool
  | .none => true
  | _ => false
def clsB (K : PySem.W.Frag) (C : Addr) : Bool := match K.lookup C with
  | some ⟨.type t, _, .cls ⟨_, _, .ref c :: bm, _, _, true, _, _, _, _, false⟩, ⟨[_, _, _, _, some (.builtin b), _]⟩⟩ => t == "type" && (decide (c = C) && (PySem.HandSPX.refsVE bm && b == "ValueError.__new__"))
  | _ => false
def fnB (K : PySem.W.Frag) (cn q : Str) : Bool := match K.lookup (exI cn K) with
  | some ⟨_, _, .func fd, _⟩ => PySem.W.codeIn K fd.code q && (decide (fd.code = .ref (exD cn K)) && (decide (fd.closure = [(("__class__" : Str), exC cn K)]) && (isNo fd.defaults && isNo fd.kwdefaults)))
  | _ => false
def cellB (K : PySem.W.Frag) (cn : Str) : Bool := match K.lookup (exC cn K) with
  | some ⟨_, _, .cell (some v), _⟩ => decide (v = .ref (He.ga K cn))
  | _ => false
def codeB (file : Str) (K : PySem.W.Frag) (cn : Str) : Bool := match K.lookup (exD cn K) with
  | some ⟨_, _, .fields vs, _⟩ => (match (vs[2]? : Option Value) with
    | some (.str f _) => file == f
    | _ => false)
  | _ => false
/-- all that is asked of the error cn with field fl -/
def owL (file cn fl q : Str) (K : PySem.W.Frag) : List Bool := [
  He.eqO (PySem.W.nsIn K mainGlobals cn) (some (some (.ref (He.ga K cn)))),
  clsB K (He.ga K cn),
  He.eqO (PySem.W.findIn K (.ref (He.ga K cn)) "__setattr__") (some (some (.builtin "object.__setattr__"))),
  He.eqO (PySem.W.findIn K (.ref (He.ga K cn)) "__getattribute__") (some (some (.builtin "BaseException.__getattribute__"))),
  He.eqO (PySem.W.findIn K (.ref (He.ga K cn)) "__getattr__") (some none),
  He.eqO (PySem.W.findIn K (.ref (He.ga K cn)) fl) (some none),
  He.eqO (PySem.W.findIn K (.ref (He.ga K cn)) "__init__") (some (some (.ref (exI cn K)))),
  decide (PySem.W.typeIn K (.ref (exI cn K)) = some (.type "function")),
  PySem.W.keepIn K (.ref (He.ga K cn)),
  decide (PySem.W.subIn K (.ref (He.ga K cn)) (.type "BaseException") = some true),
  decide (PySem.W.typeIn K (.ref (He.ga K cn)) = some (.type "type")),
  PySem.W.hasDictIn K (He.ga K cn),
  decide (PySem.W.mroIn K (He.ga K cn) (.ref (He.ga K cn)) = some true),
  decide (PySem.W.subIn K (.ref (He.ga K cn)) (.type "ValueError") = some true),
  He.eqO (PySem.W.ks_superIn K (He.ga K cn) (He.ga K cn) "__init__") (some (some (.builtin "ValueError.__init__"))),
  He.eqO (PySem.W.nsIn K cStatics "thirdparty.any") (some none),
  He.eqO (PySem.W.nsIn K mainGlobals "super") (some none),
  cellB K cn,
  codeB file K cn,
  fnB K cn q]
def DefX.ok (file : Str) (K : PySem.W.Frag) (d : DefX) : Bool := (owL file d.cls d.fld d.qual K).all id
def obsX (file : Str) (fa : List FaB) (fn : List He5.DefA) (fx : List DefX) (K : PySem.W.Frag) : He.AlD :=
  ((fa.all fun f => f K) && (fn.all (fun d => d.ok K) && fx.all fun d => d.ok file K), fn.map (fun d => He5.fnA K (d.at_ K)) ++ fx.map fun d => fnXo K (exI d.cls K))
def valX (fn : List He5.DefA) (fx : List DefX) : He.AlD := (true, fn.map He5.DefA.val ++ fx.map DefX.val)
def SaysX (file : Str) (fa : List FaB) (fn : List He5.DefA) (fx : List DefX) (K : PySem.W.Frag) : Prop := obsX file fa fn fx K = valX fn fx
def obsXG (n : Nat) (file : Str) (fa : List FaB) (fn : List He5.DefA) (fx : List DefX) (g : Addr → Option Obj) : He.AlD := obsX file fa fn fx (He.frG g (He5.asA g n))
def hookX (n : Nat) (file : Str) (fa : List FaB) (fn : List He5.DefA) (fx : List DefX) : PySem.W.Hook where
  α := He.AlD
  obs := fun s => obsXG n file fa fn fx s.heap.get?
  val := fun _ => valX fn fx
  says := fun _ h => ∃ K : PySem.W.Frag, K.In h ∧ SaysX file fa fn fx K
  of := fun _ _ e => ⟨_, He.frG_in, e⟩
  keeps := fun _ _ _ ⟨K, hK, c⟩ k => ⟨K, PySem.W.Frag.In.keeps hK k, c⟩
theorem obsXG_eq {n : Nat} {file : Str} {fa : List FaB} {fn : List He5.DefA} {fx : List DefX} {g : Addr → Option Obj} {s : Shared} (h : ∀ a, g a = s.heap.get? a) : obsXG n file fa fn fx g = (hookX n file fa fn fx).obs s := by
  have e : g = s.heap.get? := funext h
  rw [e] <;> rfl
section
variable {file : Str} {fa : List FaB} {fn : List He5.DefA} {fx : List DefX} {K : PySem.W.Frag}
theorem SaysX.b (c : SaysX file fa fn fx K) : ((fa.all fun f => f K) && (fn.all (fun d => d.ok K) && fx.all fun d => d.ok file K)) = true := congrArg (fun z : He.AlD => z.1) c
theorem SaysX.fact (c : SaysX file fa fn fx K) (i : Nat) {f : FaB} (h : fa[i]? = some f := by rfl) : f K = true := List.all_eq_true.mp (He.ba c.b).1 f (List.mem_of_getElem? h)
theorem SaysX.fn_ (c : SaysX file fa fn fx K) : fn.map (fun d => He5.fnA K (d.at_ K)) = fn.map He5.DefA.val ∧ fx.map (fun d => fnXo K (exI d.cls K)) = fx.map DefX.val := by
  have e : fn.map (fun d => He5.fnA K (d.at_ K)) ++ fx.map (fun d => fnXo K (exI d.cls K)) = fn.map He5.DefA.val ++ fx.map DefX.val := congrArg (fun z : He.AlD => z.2) c
  exact List.append_inj e (by simp)
theorem SaysX.def_ (c : SaysX file fa fn fx K) (i : Nat) {d : He5.DefA} (h : fn[i]? = some d := by rfl) : ∃ fd, L2.FunD K d.name d.qual d.params d.body d.scope (d.dvs K) (d.kws K) (d.at_ K) fd := by
  have e2 : (fn.map fun d => He5.fnA K (d.at_ K))[i]? = (fn.map He5.DefA.val)[i]? := by rw [c.fn_.1]
  rw [List.getElem?_map, List.getElem?_map, h] at e2
  exact He5.DefA.funD (Option.some.inj e2) (List.all_eq_true.mp (He.ba (He.ba c.b).2).1 d (List.mem_of_getElem? h))
/-- what the text itself says of such an __init__ -/
structure OwSt (fl : Str) (qual : Str) (params : Arguments) (body : List Stmt) (scope : Scope) : Prop where
  ar : ∃ ar : Arg, (params.posonlyargs ++ params.args).head? = some ar ∧ ar.arg = "self"
  bind : ∀ (doc pm : Value) (an : Option Addr) (cda : Addr) (ct : Value) (cc : Addr) (a b : Value), bindArgs (PySem.W.ksFn "__init__" qual params body scope .none .none doc pm an (.ref cda) ct cc) ⟨[a, b], []⟩ = pure [(("self" : Str), a), (fl, b)]
  body : ∃ msg j p0 p1 p2 p3 p4 p5 q1 q2 q3 q4, body = PySem.OwX.iB msg fl j p0 p1 p2 p3 p4 p5 q1 q2 q3 q4 ∧ (∃ pl : Env → Sem Bool, ∀ env : Env, eval (.Call (.Attribute (.Call (.Name "super" p0) [] [] p1) "__init__" p2) [.Constant (.str msg) j p3] [] p4) env = (do
        let ov ← attributeBase (.Call (.Name "super" p0) [] [] p1) "__init__" env (eval (.Call (.Name "super" p0) [] [] p1) env)
        standAt p2.atName
        let (f, first) ← holding [ov] (getMethod ov "__init__" (pl env))
        callWith p4 f first (backTo p4 (starEach [.Constant (.str msg) j p3] env)) [])) ∧
      (∀ env : Env, swapsWith (.Call (.Attribute (.Call (.Name "super" p0) [] [] p1) "__init__" p2) [.Constant (.str msg) j p3] [] p4) none p5.line env = pure false) ∧ (∀ env : Env, swapsWith (.Name fl q3) (some (.Attribute (.Name "self" q1) fl q2)) q4.line env = pure false)
  sc : scope.kind = .function ∧ scope.isCoroutine = false ∧ scope.isGenerator = false ∧ (∀ y ∈ scope.names, y.2 ≠ .cell) ∧ scope.names.lookup ("self" : Str) = some .local ∧ scope.names.lookup fl = some .local ∧
    scope.names.lookup ("super" : Str) = some .globalImplicit ∧ scope.names.lookup ("__class__" : Str) = some .free ∧ ¬ fl = "self" ∧ (fl == ("__debug__" : Str)) = false
theorem isNo_ok {v : Value} (h : isNo v = true) : v = .none := by
  cases v with
  | none => rfl
  | _ => cases h
theorem clsB_ok {C : Addr} (h : clsB K C = true) : ∃ nm q N bs bm sn sub ab col dd k0 k1 k2 k3 k5, K.lookup C = some (excClassObj nm q C N bs bm true sn sub ab col dd k0 k1 k2 k3 k5 "ValueError.__new__") ∧ PySem.HandSPX.refsVE bm = true := by
  unfold clsB at h
  split at h
  · rename_i e
    obtain ⟨h1, h⟩ := He.ba h
    obtain ⟨h2, h⟩ := He.ba h
    obtain ⟨h3, h4⟩ := He.ba h
    obtain rfl := of_decide_eq_true h2
    obtain rfl := eq_of_beq h1
    obtain rfl := eq_of_beq h4
    exact ⟨_, _, _, _, _, _, _, _, _, _, _, _, _, _, _, e, h3⟩
  · cases h
theorem SaysX.ow {mg : Str → Option Value} {h : Heap} {P : Program} (c : SaysX file fa fn fx K) (X : K.In h) (G : h.Ns mainGlobals mg) (i : Nat) {d : DefX} (hi : fx[i]? = some d) (st : OwSt d.fld d.qual d.params d.body d.scope) (hfile : ((P.main.file : Str) == file) = true) (htop : (P.main.scope.names.lookup ("super" : Str)).isSome = false) :
    PySem.OwX.OwTxt P K mg (He.ga K d.cls) (exI d.cls K) (exC d.cls K) (exD d.cls K) d.cls d.fld := by
  have hf : fnXo K (exI d.cls K) = d.val := by
    have e2 : (fx.map fun d => fnXo K (exI d.cls K))[i]? = (fx.map DefX.val)[i]? := by rw [c.fn_.2]
    rw [List.getElem?_map, List.getElem?_map, hi] at e2
    exact Option.some.inj e2
  have hb : ∀ b ∈ owL file d.cls d.fld d.qual K, b = true := fun b hb => List.all_eq_true.mp (List.all_eq_true.mp (He.ba (He.ba c.b).2).2 d (List.mem_of_getElem? hi)) b hb
  unfold owL at hb
  simp only [List.forall_mem_cons] at hb
  obtain ⟨b1, b2, b3, b4, b5, b6, b7, b8, b9, b10, b11, b12, b13, b14, b15, b16, b17, b18, b19, b20, _⟩ := hb
  refine ⟨PySem.W.mg_of X G (He.eqO_ok b1), clsB_ok b2, He.eqO_ok b3, He.eqO_ok b4, He.eqO_ok b5, He.eqO_ok b6, He.eqO_ok b7, of_decide_eq_true b8, b9, of_decide_eq_true b10, of_decide_eq_true b11, b12, of_decide_eq_true b13, of_decide_eq_true b14, He.eqO_ok b15, He.eqO_ok b16, He.eqO_ok b17, ?_, ?_, htop, ?_⟩
  · unfold cellB at b18
    split at b18
    · rename_i e
      rw [of_decide_eq_true b18] at e
      exact ⟨_, _, _, e⟩
    · cases b18
  · unfold codeB at b19
    split at b19
    · rename_i e
      split at b19
      · rename_i e2
        obtain rfl := eq_of_beq b19
        exact ⟨_, _, _, _, _, _, e, e2, hfile⟩
      · cases b19
    · cases b19
  · unfold fnB at b20
    unfold fnXo at hf
    split at b20
    · rename_i oc od fd osl e
      rw [e] at hf
      obtain ⟨n1, n2, n3, n4, n5, n6, n7, n8, n9, n10, n11, n12, n13, n14, n15⟩ := fd
      obtain ⟨c1, b20⟩ := He.ba b20
      obtain ⟨c2, b20⟩ := He.ba b20
      obtain ⟨c3, b20⟩ := He.ba b20
      obtain ⟨c4, c5⟩ := He.ba b20
      have g2 : n13 = .ref (exD d.cls K) := of_decide_eq_true c2
      have g3 : n7 = [(("__class__" : Str), exC d.cls K)] := of_decide_eq_true c3
      have g4 : n8 = .none := isNo_ok c4
      have g5 : n9 = .none := isNo_ok c5
      have e2 : (some (n1, n2, n3, n4, n5, n6, ([] : List (Str × Addr)), n15) : He.FnW) = some (("__init__" : Str), d.qual, d.params, FuncBody.stmts d.body, d.scope, mainGlobals, [], builtinsNs) := hf
      simp only [Option.some.injEq, Prod.mk.injEq] at e2
      obtain ⟨h1, h2, h3, h4, h5, h6, -, h8⟩ := e2
      subst h1 h2 h3 h4 h5 h6 h8 g4 g5
      rw [g2, g3] at e
      obtain ⟨ar, a1, a2⟩ := st.ar
      refine ⟨_, _, _, _, _, _, _, _, _, _, _, ar, e, by rw [← g2]; exact c1, a1, a2, fun a b => st.bind _ _ _ _ _ _ a b, st.body, st.sc⟩
    · cases b20
end
end My

set_option Elab.async false
set_option linter.all false
set_option maxRecDepth 100000
set_option maxHeartbeats 4000000
/-! own library, part 7: calls that may raise, defs that may raise, try with several clauses (each with or without a name) -/
namespace My
open PySem PySem.Spec PyProof.Rows L2
/-! ### calls, the wish may look at the slots -/
section
variable {X : Cx} {CX : CXT} {k : Nat} {f C : Addr} {sp : Sp} {E : L2.St → XK} {x m : Str} {e o : Expr} {es : List Expr} {ta : TE} {t : TA} {p pos apos : Pos}
theorem run_fnX {pins : List (Addr × Obj)} {σ : L2.St} {H : Hp} {s : Shared} {Q : VK} {us : List Value} {vs : List V} (F : FnR X.prog X.w X.K X.mg X.base CX k f sp) (hr : Room k X.A) (hx : PassesAt CX X σ (E σ)) (I : Inv X pins σ H s) (r : Vals vs us) (h : sp vs H Q (E σ)) :
    codeAny (model X.prog X.w) X.A (.call (.ref f) ⟨us, []⟩) (fun r s' => match r with | .ok (.ret v) => EP X pins σ Q v s' | .ok _ => False | .error e => X.xe e s') s := by
  refine codeAny_mono (F X.A X.stack s H us vs Q (E σ) hr I.env0 r h) fun r s' hq => ?_
  cases r with
  | error e => exact hx pins H s e s' I hq
  | ok fl =>
    cases fl with
    | ret u => exact I.after hq
    | next => exact False.elim hq
    | brk => exact False.elim hq
    | cont => exact False.elim hq
def tCallX (sp : Sp) (E : L2.St → XK) (t : TA) : TE := fun σ H Q => t σ H fun vs H1 => sp vs H1 Q (E σ)
theorem pe_callX (F : FnR X.prog X.w X.K X.mg X.base CX k f sp) (hr : Room k X.A) (hg : Gl X x) (hm : X.mg x = some (.ref f)) (hk : PySem.W.keepIn X.K (.ref f) = true) (hx : ∀ σ, PassesAt CX X σ (E σ)) (ha : PA X (e :: es) t)
    (hdb : (x == ("__debug__" : Str)) = false := by decide) (he : starEach (e :: es) X.env = (false, eval e X.env) :: starEach es X.env := by rfl) (hpl : (backTo pos (starEach es X.env)).any (·.1) = false := by rfl) :
    PE X (.Call (.Name x p) (e :: es) [] pos) (tCallX sp E t) := by
  refine ⟨fun pins s σ H Q I h => ?_⟩
  refine wpAny_Call_Name_kw (ld_glob I hg hm ?_ hdb)
  refine PySem.W.callWith_K (h₀ := X.base) I.ok.mod.kin hk (thn (ha.run pos pins s σ H _ I h) fun us s1 ⟨vs, H1, I1, r, q⟩ => ⟨I1.kIn, ?_⟩) he hpl
  exact wpAny_call (run_fnX F hr (hx σ) I1 r q)
theorem pe_callX0 (F : FnR X.prog X.w X.K X.mg X.base CX k f sp) (hr : Room k X.A) (hg : Gl X x) (hm : X.mg x = some (.ref f)) (hk : PySem.W.keepIn X.K (.ref f) = true) (hx : ∀ σ, PassesAt CX X σ (E σ))
    (hdb : (x == ("__debug__" : Str)) = false := by decide) : PE X (.Call (.Name x p) [] [] pos) (tCallX sp E tNil) := by
  refine ⟨fun pins s σ H Q I h => ?_⟩
  refine wpAny_Call_Name_kw (ld_glob I hg hm ?_ hdb)
  exact PySem.W.callWith_K0 I.kIn hk (wpAny_call (run_fnX (us := []) F hr (hx σ) I .nil h))
/-- o.m(e, ..) -/
def tMethX (C : Addr) (m : Str) (sp : Sp) (E : L2.St → XK) (ta : TE) (t : TA) : TE := fun σ H Q => ta σ H fun x H1 => ∃ a dx fs, x = .ref a ∧ H1 a = some (.ins C dx fs) ∧ fs.lookup m = none ∧ t σ H1 fun vs H2 => sp (x :: vs) H2 Q (E σ)
theorem pe_methX {pl : Sem Bool} (he : PE X o ta) (c : Cls X.K C) (hm : Meth X.K C m f) (F : FnR X.prog X.w X.K X.mg X.base CX k f sp) (hr : Room k X.A) (hx : ∀ σ, PassesAt CX X σ (E σ)) (ha : PA X (e :: es) t)
    (hst : starEach (e :: es) X.env = (false, eval e X.env) :: starEach es X.env := by rfl) (hpl : (backTo pos (starEach es X.env)).any (·.1) = false := by rfl)
    (ht : eval (.Call (.Attribute o m apos) (e :: es) [] pos) X.env = (do
      let ov ← eval o X.env
      standAt apos.atName
      let (f, first) ← holding [ov] (getMethod ov m pl)
      callWith pos f first (backTo pos (starEach (e :: es) X.env)) (backToKw pos (keywordEach [] X.env))) := by rfl) :
    PE X (.Call (.Attribute o m apos) (e :: es) [] pos) (tMethX C m sp E ta t) := by
  refine ⟨fun pins s σ H Q I h => ?_⟩
  refine PySem.W.methodCall_KW (pl := pl) (thn (he.run pins s σ H _ I h) fun u s1 ⟨x, H1, I1, rx, a, dx, fs, ex, ea, l, q⟩ => ?_) ht
  subst ex
  obtain rfl : u = Value.ref a := rx
  refine getmeth_ok I1 ea c hm l ?_
  refine PySem.W.callWith_K (first := [.ref a]) (h₀ := X.base) I.ok.mod.kin hm.kp (thn (ha.run pos pins s1 σ H1 _ I1 q) fun us s2 ⟨vs, H2, I2, r, q2⟩ => ⟨I2.kIn, ?_⟩) hst hpl
  exact wpAny_call (run_fnX (us := .ref a :: us) (vs := .ref a :: vs) F hr (hx σ) I2 (.cons rfl r) q2)
theorem pe_methX0 {pl : Sem Bool} (he : PE X o ta) (c : Cls X.K C) (hm : Meth X.K C m f) (F : FnR X.prog X.w X.K X.mg X.base CX k f sp) (hr : Room k X.A) (hx : ∀ σ, PassesAt CX X σ (E σ))
    (ht : eval (.Call (.Attribute o m apos) [] [] pos) X.env = (do
      let ov ← eval o X.env
      standAt apos.atName
      let (f, first) ← holding [ov] (getMethod ov m pl)
      callWith pos f first (backTo pos (starEach [] X.env)) (backToKw pos (keywordEach [] X.env))) := by rfl) :
    PE X (.Call (.Attribute o m apos) [] [] pos) (tMethX C m sp E ta tNil) := by
  refine ⟨fun pins s σ H Q I h => ?_⟩
  refine PySem.W.methodCall_KW (pl := pl) (thn (he.run pins s σ H _ I h) fun u s1 ⟨x, H1, I1, rx, a, dx, fs, ex, ea, l, q⟩ => ?_) ht
  subst ex
  obtain rfl : u = Value.ref a := rx
  refine getmeth_ok I1 ea c hm l ?_
  exact PySem.W.callWith_K0 (first := [.ref a]) I1.kIn hm.kp (wpAny_call (run_fnX (us := [.ref a]) (vs := [.ref a]) F hr (hx σ) I1 (.cons rfl .nil) q))
end
/-! ### defs that may raise -/
section
variable {P : Program} {w : World} {K : PySem.W.Frag} {mg : Str → Option Value} {base : Heap} {x qual : Str} {params : Arguments} {body : List Stmt} {scope : Scope} {dvs : List V} {kws : List (Str × V)} {f : Addr} {fd : FuncData}
theorem FunD.RX {N ps : List Str} {k : Nat} {sp : Sp} (F : FunD K x qual params body scope [] kws f fd) (S : FnScope N ps scope) (len : ∀ vs H Q E, sp vs H Q E → vs.length = ps.length)
    (hb : ∀ (kV doc pm : Value) (an : Option Addr) (cdv ct : Value) (us : List Value), us.length = ps.length → bindArgs (PySem.W.fnOf x qual params body scope .none kV doc pm an cdv ct) ⟨us, []⟩ = pure (ps.zip us))
    (hbody : ∀ (cdv : Value) (A : Around) (outer : List Env) (s : Shared) (H : Hp) (vs : List V) (Q : VK) (E : XK), Room k (A.deeper (envOfC qual scope s.heap.objs.size f cdv)) → sp vs H Q E →
      ∃ t, PSs (cxOf (L2.CX P w) P w K mg base N qual scope f cdv A outer s H E) body t ∧ t { nx := fun _ H' => Q .non H', rt := Q } (start N vs) H) : FnR P w K mg base (L2.CX P w) (k + 1) f sp := by
  have G : FnOk P w K mg base (L2.CX P w) (k + 1) f fd ps sp := FunD.ok F S len hbody
  refine (FnOk.raw G (FunD.bindsN F hb) .nil).imp fun vs H Q E h => ?_
  rw [List.append_nil]
  exact h
theorem FunD.RdX {N ps : List Str} {k : Nat} {sp : Sp} (n j : Nat) (F : FunD K x qual params body scope dvs kws f fd) (S : FnScope N ps scope) (len : ∀ vs H Q E, sp vs H Q E → vs.length = ps.length) (hd : dvs ≠ []) (hn : n + (dvs.length - j) = ps.length)
    (hb : ∀ (T : Addr) (kV doc pm : Value) (an : Option Addr) (cdv ct : Value) (us its : List Value), us.length = n → its.length = dvs.length →
      ∃ k, bindArgs (PySem.W.fnOf x qual params body scope (.ref T) kV doc pm an cdv ct) ⟨us, []⟩ = seqItems? (.ref T) >>= k ∧ k (some its.toArray) = pure (ps.zip (us ++ its.drop j)))
    (hbody : ∀ (cdv : Value) (A : Around) (outer : List Env) (s : Shared) (H : Hp) (vs : List V) (Q : VK) (E : XK), Room k (A.deeper (envOfC qual scope s.heap.objs.size f cdv)) → sp vs H Q E →
      ∃ t, PSs (cxOf (L2.CX P w) P w K mg base N qual scope f cdv A outer s H E) body t ∧ t { nx := fun _ H' => Q .non H', rt := Q } (start N vs) H) :
    FnR P w K mg base (L2.CX P w) (k + 1) f (fun vs H Q E => sp (vs ++ dvs.drop j) H Q E) := by
  have G : FnOk P w K mg base (L2.CX P w) (k + 1) f fd ps sp := FunD.ok F S len hbody
  obtain ⟨ds, hv, hB⟩ := FunD.binds1 F n j hd hn hb
  exact FnOk.raw G hB hv
/-- def f(a, .., *v) -/
theorem FunD.RsX {N ps : List Str} {pv : Str} {k : Nat} {sp : Sp} (F : FunD K x qual params body scope [] kws f fd) (S : FnScope N (ps ++ [pv]) scope)
    (hb : ∀ (kV doc pm : Value) (an : Option Addr) (cdv ct : Value) (us rest : List Value), us.length = ps.length → bindArgs (PySem.W.fnOf x qual params body scope .none kV doc pm an cdv ct) ⟨us ++ rest, []⟩ = (newTuple rest >>= fun t => pure (ps.zip us ++ [(pv, t)])))
    (hbody : ∀ (cdv : Value) (A : Around) (outer : List Env) (s : Shared) (H : Hp) (vs : List V) (Q : VK) (E : XK), Room k (A.deeper (envOfC qual scope s.heap.objs.size f cdv)) → sp vs H Q E →
      ∃ t, PSs (cxOf (L2.CX P w) P w K mg base N qual scope f cdv A outer s H E) body t ∧ t { nx := fun _ H' => Q .non H', rt := Q } (start N vs) H) :
    FnR P w K mg base (L2.CX P w) (k + 1) f (fun vs H Q E => ∃ ws rest, vs = ws ++ rest ∧ ws.length = ps.length ∧ rest.length ≤ sizeLine ∧ ∀ p, H p = Option.none → sp (ws ++ [V.ref p]) (upd H p (.tup rest)) Q E) := by
  obtain ⟨oc, od, dV, kV, doc, pm, an, cdv, ct, osl, rfl, lk, hcd, hD, _⟩ := F.ex
  rcases hD with ⟨_, rfl⟩ | ⟨e, _⟩
  · exact StX.fn_star lk hcd S StX.cxUp (hb kV doc pm an cdv ct) fun A outer s H vs Q E hr hsp => hbody cdv A outer s H vs Q E hr hsp
  · exact absurd rfl e
/-- what raises nothing may stand where something may -/
theorem FnR.up {CX : CXT} {k : Nat} {sp : Sp} (F : FnR P w K mg base CX0 k f sp) : FnR P w K mg base CX k f sp := fun A outer s H us vs Q E hr e0 r hs => codeAny_mono (F A outer s H us vs Q E hr e0 r hs) fun r s' hq => by
  cases r with
  | error e => exact False.elim hq
  | ok fl => cases fl <;> exact hq
end
/-! ### try -/
/-- what an error wishes of a clause:  (slot of its name or none, class, suite) -/
abbrev Cl : Type := Option Nat × Value × (Addr → Value → Option Addr → TS)
def endsA : Option Nat → Ends → Ends
  | none, D => D
  | some i, D => { nx := fun σ' H' => D.nx (σ'.set i none) H', rt := D.rt, bk := fun σ' H' => D.bk (σ'.set i none) H', ct := fun σ' H' => D.ct (σ'.set i none) H' }
def putA : Option Nat → Addr → L2.St → L2.St
  | none, _, σ => σ
  | some i, a, σ => σ.set i (some (.ref a))
def wCls (K : PySem.W.Frag) (Wout : WX) (D : Ends) : List Cl → WX
  | [] => Wout
  | (n, c, ts) :: r => fun cls d σ H => ∃ b, PySem.W.exmOne K cls c = some b ∧ (b = true → ∀ a, H a = none → ts a cls d (endsA n D) (putA n a σ) H) ∧ (b = false → wCls K Wout D r cls d σ H)
abbrev SuiteOk (X : Cx) (body : List Stmt) (ts : Addr → Value → Option Addr → TS) : Prop :=
  ∀ (a : Addr) (oe : Obj) (cls : Value) (d : Option Addr) (pn : List (Addr × Obj)), Zc cls d oe → (∃ vs, oe.data = .fields vs) → PSs (X.suite a ((a, oe) :: pn)) body (ts a cls d)
inductive ClsOk (X : Cx) : List ExceptHandler → List Cl → Prop
  | nil : ClsOk X [] []
  | bare {x : Str} {c : Value} {ts : Addr → Value → Option Addr → TS} {b₀ : Stmt} {suite : List Stmt} {np pos' : Pos} {hds : List ExceptHandler} {l : List Cl} (hc : Names X x c) (hsu : SuiteOk X (b₀ :: suite) ts) (r : ClsOk X hds l) :
      ClsOk X (.ExceptHandler (some (.Name x np)) none (b₀ :: suite) pos' :: hds) ((none, c, ts) :: l)
  | as {x n : Str} {i : Nat} {c : Value} {ts : Addr → Value → Option Addr → TS} {b₀ : Stmt} {suite : List Stmt} {np pos' : Pos} {hds : List ExceptHandler} {l : List Cl} (hc : Names X x c) (hi : X.N[i]? = some n) (hln : X.env.kindOf n = some .local) (hsu : SuiteOk X (b₀ :: suite) ts) (r : ClsOk X hds l) :
      ClsOk X (.ExceptHandler (some (.Name x np)) (some n) (b₀ :: suite) pos' :: hds) ((some i, c, ts) :: l)
section
variable {X : Cx} {pins : List (Addr × Obj)} {σ : L2.St} {H : Hp} {D : Ends}
/-- a suite's end is an end of the try -/
theorem SP.back {q : Addr × Obj} {a : Addr} {f : Flow} {s : Shared} (ok : X.Ok) (h : SP (X.suite a (q :: (X.pn ++ pins))) [] D f s) : SP X pins D f s := by
  cases f with
  | next => obtain ⟨σ', H', S, z⟩ := h; exact ⟨_, _, S.unsuite ok, z⟩
  | brk => obtain ⟨σ', H', S, z⟩ := h; exact ⟨_, _, S.unsuite ok, z⟩
  | cont => obtain ⟨σ', H', S, z⟩ := h; exact ⟨_, _, S.unsuite ok, z⟩
  | ret u => obtain ⟨v, σ', H', S, r, z⟩ := h; exact ⟨_, _, _, S.unsuite ok, r, z⟩
theorem SP.gone {i : Nat} {n : Str} {f : Flow} {s : Shared} {pos : Pos} {M : Model} {A : Around} {E : Value → Shared → Prop} (hN : X.N.Nodup) (hi : X.N[i]? = some n) (hl : X.env.kindOf n = some .local) (h : SP X pins (endsA (some i) D) f s) :
    wpAny M A (do bindName X.env n .none; unbindBehindTheSuite X.env n pos) (fun _ s' => SP X pins D f s') E s := by
  cases f with
  | next => obtain ⟨σ', H', S, z⟩ := h; exact gone_ok S hN hi hl fun s7 J => ⟨_, _, J, z⟩
  | brk => obtain ⟨σ', H', S, z⟩ := h; exact gone_ok S hN hi hl fun s7 J => ⟨_, _, J, z⟩
  | cont => obtain ⟨σ', H', S, z⟩ := h; exact gone_ok S hN hi hl fun s7 J => ⟨_, _, J, z⟩
  | ret u => obtain ⟨v, σ', H', S, r, z⟩ := h; exact gone_ok S hN hi hl fun s7 J => ⟨_, _, _, J, r, z⟩
theorem SP.ofTry {f : Flow} {s : Shared} {xe : Value → Shared → Prop} (ok : X.Ok) (h : SP (X.tr (X.pn ++ pins) xe) [] D f s) : SP X pins D f s := by
  cases f with
  | next => obtain ⟨σ', H', S, z⟩ := h; exact ⟨_, _, S.ofTry ok, z⟩
  | brk => obtain ⟨σ', H', S, z⟩ := h; exact ⟨_, _, S.ofTry ok, z⟩
  | cont => obtain ⟨σ', H', S, z⟩ := h; exact ⟨_, _, S.ofTry ok, z⟩
  | ret u => obtain ⟨v, σ', H', S, r, z⟩ := h; exact ⟨_, _, _, S.ofTry ok, r, z⟩
variable {hds : List ExceptHandler} {l : List Cl} {Wout : WX} {a : Addr} {B : Heap} {sI s' : Shared} {cls : Value} {d : Option Addr}
/-- an exception on the ground, before the clauses -/
theorem clauses (hs : X.stack = X.env :: X.outer) (hf : X.env.frame = some X.env.locals) (hN : X.N.Nodup) (tk : Takes X Wout) (J : Inv X pins σ H sI) (nb : ∀ b o, sI.heap.get? b = some o → b ∉ frs X.stack → B.get? b = some o) (up : sI.heap.UpToSlots s'.heap)
    (fl : HandSPX.FlyingZ B (X.env :: X.outer) a (Zc cls d) s'.heap) (na : H a = none) (os : s'.os = sI.os) (ag : AllBare s'.gens) (hk : ClsOk X hds l) : wCls X.K Wout D l cls d σ H → wpAny (model X.prog X.w) X.A (handleBy (.ref a) X.env hds) (SP X pins D) X.xe s' := by
  have ok := J.ok
  have at_ : ∀ {h : Heap}, HandSPX.FlyingZ B (X.env :: X.outer) a (Zc cls d) h → s'.heap.UpToSlots h → ∃ oe, Zc cls d oe ∧ (∃ vs, oe.data = .fields vs) ∧ h.get? a = some oe ∧ Inv X pins σ H { s' with heap := h } ∧ Inv (X.suite a ((a, oe) :: (X.pn ++ pins))) [] σ H { s' with heap := h } := fun {h} f4 u4 => by
    obtain ⟨oe, vs, he, hz, hd⟩ := f4.there
    have nfr : a ∉ frs (X.env :: X.outer) := fun hm => by
      obtain ⟨_, o', e', hnf⟩ := (f4.2.2.1).mem hm
      rw [he] at e'; cases e'
      exact hnf _ hd
    have nL : a ≠ X.env.locals := fun z => nfr (List.mem_filterMap.mpr ⟨X.env, List.mem_cons_self, by rw [hf, z]⟩)
    have nF : a ∉ X.fs := fun hm => by
      obtain ⟨e, he, q⟩ := List.mem_filterMap.mp hm
      exact nfr (List.mem_filterMap.mpr ⟨e, List.mem_cons_of_mem _ he, q⟩)
    have J4 : Inv X pins σ H { s' with heap := h } := J.landed nb f4.1 (up.trans u4) os ag
    exact ⟨oe, hz, ⟨_, hd⟩, he, J4, J4.suite he hd na nL nF⟩
  obtain ⟨oe0, hz0, hd0, he0, J0, S0⟩ := at_ fl (Heap.UpToSlots.refl _)
  have test : ∀ {x : Str} {np : Pos} {c : Value} {b : Bool} {Q : Bool → Shared → Prop} {E : Value → Shared → Prop}, Names X x c → PySem.W.exmOne X.K cls c = some b → Q b s' → wpAny (model X.prog X.w) (X.A.mark (some (.ref a))) (eval (.Name x np) X.env) (fun c s₁ => wpAny (model X.prog X.w) (X.A.mark (some (.ref a))) (excMatches (.ref a) c) Q E s₁) E s' := fun {x np c b Q E} hc hb1 q => by
    have LT : PySem.W.Looks (model X.prog X.w) s'.heap (typeOf (.ref a)) cls := fun A Q E s k q => wpAny_typeOf_ref (k _ _ he0) (by rw [hz0.1]; exact q)
    have LM := PySem.W.exm_one (M := model X.prog X.w) J0.kIn LT hb1
    obtain ⟨hg, hdbg, hm | ⟨hm, hv, hnn⟩⟩ := hc
    · exact ld_glob (X := X.suite a ((a, oe0) :: (X.pn ++ pins))) S0 hg hm (LM.here q) hdbg
    · exact ld_blt (X := X.suite a ((a, oe0) :: (X.pn ++ pins))) S0 hg hm hv (LM.here q) hnn hdbg
  induction hk with
  | nil =>
    intro w
    refine wpAny_handleBy_nil ?_
    obtain ⟨k1, k2, k3, oe, vs, T, oT, ts', he, hz, hd, h1, hr⟩ := id fl
    unfold PySem.passOn
    refine wpAny_bind (wpAny_field he hd h1 ?_)
    rw [if_neg (show ¬ ((Value.ref T == Value.none) = true) from by simp)]
    have fin : wpAny (model X.prog X.w) X.A (setFlight (.ref a) X.env.frame) (fun _ s4 => wpAny (model X.prog X.w) X.A (throw (.ref a) : Sem Flow) (SP X pins D) X.xe s4) X.xe s' := by
      rw [hf]
      refine HandSPX.setFlight_upZ fl fun h4 hh4 up4 => wpAny_throw (tk _ _ ?_)
      exact ⟨a, B, sI, pins, σ, H, cls, d, rfl, J, nb, up.trans up4, .inr (.inr (by rw [hs]; exact hh4)), na, os, ag, w⟩
    first
      | exact wpAny_bind (wpAny_pure (wpAny_bind fin))
      | exact wpAny_bind fin
  | bare hc hsu r ih =>
    intro w
    obtain ⟨b, hb1, hyes, hno⟩ := w
    refine wpAny_handleBy_cons (codeAny_handlers_test (test hc hb1 ?_)) (by intro q; cases q)
    cases b with
    | true =>
      refine codeAny_handlers_suite (HandSPX.lands_againZ fl fun h4 fl4 up4 => ?_)
      obtain ⟨oe, hz, hd, he, J4, S4⟩ := at_ fl4 up4
      exact wpAny_mono ((hsu a oe cls d (X.pn ++ pins) hz hd).run [] _ _ H _ S4 (hyes rfl a na)) (fun f s6 hsp => SP.back ok hsp) (fun _ _ z => False.elim z)
    | false => exact ih (hno rfl)
  | as hc hi hln hsu r ih =>
    intro w
    obtain ⟨b, hb1, hyes, hno⟩ := w
    refine wpAny_handleBy_cons (codeAny_handlers_test (test hc hb1 ?_)) (by intro q; cases q)
    cases b with
    | true =>
      refine codeAny_handlers_suite_as (HandSPX.lands_againZ fl fun h4 fl4 up4 => ?_)
      obtain ⟨oe, hz, hd, he, J4, S4⟩ := at_ fl4 up4
      refine store_ok (X := X.suite a ((a, oe) :: (X.pn ++ pins))) (v := .ref a) S4 hN hi (.inl hln) rfl (fun s5 S5 => ?_) (.inr hln)
      exact wpAny_mono ((hsu a oe cls d (X.pn ++ pins) hz hd).run [] s5 _ H _ S5 (hyes rfl a na)) (fun f s6 hsp => SP.gone hN hi hln (SP.back ok hsp)) (fun _ _ z => False.elim z)
    | false => exact ih (hno rfl)
end
section
variable {X : Cx} {body : List Stmt} {h₀ : ExceptHandler} {hds : List ExceptHandler} {l : List Cl} {pos : Pos} {tb : WX → TS} {Wout : WX}
theorem ps_tryC (hs : X.stack = X.env :: X.outer) (hf : X.env.frame = some X.env.locals) (hN : X.N.Nodup) (tk : Takes X Wout)
    (hb : ∀ (W : WX) (pn : List (Addr × Obj)) (xe : Value → Shared → Prop), Takes (X.tr pn xe) W → PassesOwn (model X.prog X.w) X.A X.env xe → PSs (X.tr pn xe) body (tb W))
    (hh : ClsOk X (h₀ :: hds) l) : PS X (.Try body (h₀ :: hds) [] [] pos) (fun D σ H => tb (wCls X.K Wout D l) D σ H) := by
  refine ⟨fun pins s σ H D I h => ?_⟩
  have ok := I.ok
  have hfr : X.A.frames = some (X.env :: X.outer) := by rw [ok.frames, hs]
  refine wpAny_Try_except ?_
  refine wpAny_mono ((hb (wCls X.K Wout D l) (X.pn ++ pins) (fun e s₁ => wpAny (model X.prog X.w) X.A (noteFrame e X.env) (fun _ s₂ => wpAny (model X.prog X.w) X.A (setFlight e none) (fun _ s₃ =>
    wpAny (model X.prog X.w) X.A (handleBy e X.env (h₀ :: hds)) (SP X pins D) X.xe s₃) X.xe s₂) X.xe s₁) (fun u s' xx => ?_) PassesOwn.looking).run [] s σ H D (I.toTry _) h) (fun f s1 hsp => ?_) (fun e s1 he => he)
  · obtain ⟨a, B, sI, pins', σ', H', cls, d, rfl, J', nb, up, sky, na, os, ag, w⟩ := xx
    have sky' : Sky B (X.env :: X.outer) a (Zc cls d) X.env.locals s'.heap := by rw [← hs]; exact sky
    show wpAny (model X.prog X.w) X.A (noteFrame (.ref a) X.env) _ _ _
    exact Sky.land Zc.steady hfr hf sky' fun h3 fl3 up3 => clauses (s' := { s' with heap := h3 }) hs hf hN tk (J'.ofTry ok) nb (up.trans up3) fl3 na os ag hh w
  · have z := SP.ofTry ok hsp
    cases f with
    | next =>
      obtain ⟨σ', H', J', q⟩ := z
      exact wpAny_execs_nil ⟨σ', H', J', q⟩
    | brk => exact z
    | cont => exact z
    | ret u => exact z
end
end My

set_option Elab.async false
set_option linter.all false
set_option maxRecDepth 100000
set_option maxHeartbeats 4000000
/-! own library, part 8: own __len__, __contains__, __getitem__, __setitem__; more values -/
namespace My
open PySem PySem.Spec PyProof.Rows L2
section
variable {X : Cx} {k : Nat} {f C : Addr} {sp : Sp} {E : XK}
/-- a method by a special name -/
structure Spc (K : PySem.W.Frag) (C : Addr) (m : Str) (f : Addr) : Prop where
  at_ : PySem.W.findIn K (.ref C) m = some (some (.ref f))
  fi : PySem.W.isFn K (.ref f) = true
theorem inst_at {pins : List (Addr × Obj)} {σ : L2.St} {H : Hp} {s : Shared} {a dx : Addr} {fs : List (Str × V)} (I : Inv X pins σ H s) (ea : H a = some (.ins C dx fs)) : ∃ ox od, PySem.W.InstAt s.heap a ox C od := by
  obtain ⟨mA, O, _, _, _, _⟩ := ins_get I.hok ea
  obtain ⟨od, J, _⟩ := O.look
  exact ⟨_, _, J⟩
/-- len(o) -/
def mLenO (C : Addr) (sp : Sp) : List V → Hp → VK → Prop := fun xs H Q => ∃ a dx fs, xs = [.ref a] ∧ H a = some (.ins C dx fs) ∧ sp [.ref a] H (fun v H' => ∃ n : Int, v = .int n ∧ 0 ≤ n ∧ n < 2 ^ 63 ∧ Q v H') (fun _ _ _ => False)
theorem lenO (F : FnR X.prog X.w X.K X.mg X.base CX0 k f sp) (hr : Room (k + 1) X.A) (S : Spc X.K C "__len__" f) : CallR X (.builtin "len") (mLenO C sp) := by
  intro pins s σ H xs us Q I rv h
  obtain ⟨a, dx, fs, rfl, ea, hsp⟩ := h
  obtain ⟨u, rfl, ru⟩ := rv.one
  cases ru
  obtain ⟨ox, od, J⟩ := inst_at I ea
  refine Calls.call_function_entry kind_len plain_len entry_len (args_len1 _) ?_
  unfold Builtin.«len»
  refine wpAny_bind (m := oneArg "len" _) (wpAny_pure ?_)
  refine wpAny_bind (m := callSpecial? (.ref a) (Str.ofString "__len__")) (PySem.W.special_fn I.kIn J S.at_ (beq_iff_eq.mp S.fi) (wpAny_call ?_))
  refine codeAny_mono (F X.A.in1 X.stack s H [.ref a] [.ref a] _ _ hr.in1 I.env0.in1 (.cons rfl .nil) hsp) fun r s' hq => ?_
  cases r with
  | error er => exact False.elim hq
  | ok fl =>
    cases fl with
    | ret u =>
      obtain ⟨v, H', I3, rv3, n, rfl, h0, h1, q3⟩ := I.after hq
      obtain ⟨t, rfl⟩ := rv3
      refine wpAny_bind (wpAny_holding (wpAny_pure ?_))
      refine wpAny_bind (wpAny_letGo ?_)
      show wpAny _ _ (if n < 0 then _ else _) _ _ _
      rw [if_neg (by omega)]
      show wpAny _ _ (if n ≥ 2 ^ 63 then _ else _) _ _ _
      rw [if_neg (by omega)]
      exact wpAny_bind (wpAny_mkInt (wpAny_pure ⟨_, rfl, ⟨.int n, H', I3.tok _, ⟨_, rfl⟩, q3⟩⟩))
    | next => exact False.elim hq
    | brk => exact False.elim hq
    | cont => exact False.elim hq
/-- x in o, x not in o -/
def rInO (C : Addr) (sp : Sp) : R2 := fun x y H Q => ∃ a dx fs, y = .ref a ∧ H a = some (.ins C dx fs) ∧ sp [.ref a, x] H (fun v H' => ∃ b : Bool, v = .bl b ∧ Q (.bl b) H') (fun _ _ _ => False)
def rNotInO (C : Addr) (sp : Sp) : R2 := fun x y H Q => ∃ a dx fs, y = .ref a ∧ H a = some (.ins C dx fs) ∧ sp [.ref a, x] H (fun v H' => ∃ b : Bool, v = .bl b ∧ Q (.bl (!b)) H') (fun _ _ _ => False)
theorem run_con {pins : List (Addr × Obj)} {σ : L2.St} {H : Hp} {s : Shared} {a dx : Addr} {fs : List (Str × V)} {x : V} {v : Value} {R : Bool → Hp → Prop} {Q : Bool → Shared → Prop} (F : FnR X.prog X.w X.K X.mg X.base CX0 k f sp) (hr : Room k X.A) (S : Spc X.K C "__contains__" f) (I : Inv X pins σ H s) (ea : H a = some (.ins C dx fs)) (rx : RelV x v)
    (h : sp [.ref a, x] H (fun v H' => ∃ b : Bool, v = .bl b ∧ R b H') (fun _ _ _ => False)) (hq : ∀ b s' H', Inv X pins σ H' s' → R b H' → Q b s') : wpAny (model X.prog X.w) X.A (contains (.ref a) v) Q X.xe s := by
  obtain ⟨ox, od, J⟩ := inst_at I ea
  unfold contains
  refine wpAny_holding (wpAny_bind (wpAny_bind (J.type.here ((PySem.W.looks_findIn I.kIn S.at_).here ?_))))
  rw [if_neg (by simp)]
  refine wpAny_bind (PySem.W.unlessNone_K I.kIn J S.at_ S.fi (wpAny_call ?_))
  refine codeAny_mono (F X.A X.stack s H [.ref a, v] [.ref a, x] _ _ hr I.env0 (.cons rfl (.cons rx .nil)) h) fun r s' hz => ?_
  cases r with
  | error er => exact False.elim hz
  | ok fl =>
    cases fl with
    | ret u =>
      obtain ⟨y, H', I3, ry, b, rfl, q3⟩ := I.after hz
      obtain rfl : u = Value.bool b := ry
      exact wpAny_truthy_bool (hq b _ H' I3 q3)
    | next => exact False.elim hz
    | brk => exact False.elim hz
    | cont => exact False.elim hz
theorem op_inO (F : FnR X.prog X.w X.K X.mg X.base CX0 k f sp) (hr : Room k X.A) (S : Spc X.K C "__contains__" f) : OpR X (compareOp .In) (rInO C sp) := by
  intro pins s σ H x y v u Q I rx ry h
  obtain ⟨a, dx, fs, rfl, ea, hsp⟩ := h
  cases ry
  exact wpAny_bind (run_con F hr S I ea rx hsp fun b s' H' I' q => wpAny_pure ⟨.bl b, H', I', rfl, q⟩)
theorem op_notInO (F : FnR X.prog X.w X.K X.mg X.base CX0 k f sp) (hr : Room k X.A) (S : Spc X.K C "__contains__" f) : OpR X (compareOp .NotIn) (rNotInO C sp) := by
  intro pins s σ H x y v u Q I rx ry h
  obtain ⟨a, dx, fs, rfl, ea, hsp⟩ := h
  cases ry
  exact wpAny_bind (run_con F hr S I ea rx hsp fun b s' H' I' q => wpAny_pure ⟨.bl (!b), H', I', rfl, q⟩)
end
end My

set_option Elab.async false
set_option linter.all false
set_option maxRecDepth 100000
set_option maxHeartbeats 4000000
/-! own library, part 9: items and lengths of a list or a text -/
namespace My
open PySem PySem.Spec PyProof.Rows L2
section
variable {X : Cx}
/-- x[i], x a tracked list or a text -/
def mIxA : R2 := fun x y H Q => mIxL x y H Q ∨ rIxS x y H Q
theorem ixA : IxR X mIxA := IxR.or ixL ix_str
def mLenA : List V → Hp → VK → Prop := fun xs H Q => mLenL xs H Q ∨ mLenS xs H Q
theorem lenA : CallR X (.builtin "len") mLenA := CallR.or lenL lenS
end
end My
namespace My
open PySem PySem.Spec PyProof.Rows L2
section
variable {X : Cx}
/-- x in (e, ..): the tuple isn't tracked -/
def tInT (neg : Bool) (ta : TE) (t : TA) : TE := fun σ H Q => ta σ H fun x H1 => t σ H1 fun xs H2 => xs.length ≤ sizeLine ∧ flatV x = true ∧ xs.all flatV = true ∧ Q (.bl (if neg then !inV x xs else inV x xs)) H2
theorem pe_inT {a : Expr} {es : List Expr} {x1 : Nat} {ta : TE} {t : TA} {p2 pos : Pos} (ha : PE X a ta) (h : PA X es t) (hm : behindInMarks .In (.Tuple es x1 p2) = false := by rfl) : PE X (.Compare a [.In] [.Tuple es x1 p2] pos) (tInT false ta t) := by
  refine ⟨fun pins s σ H Q I hq => ?_⟩
  refine wpAny_Compare1 (thn (ha.run pins s σ H _ I hq) fun v s1 ⟨x, H1, I1, rx, q1⟩ => ?_) hm
  refine wpAny_Tuple_spliced (thn (h.run p2 pins s1 σ H1 _ I1 q1) fun us s2 ⟨xs, H2, I2, r, z, fx, fs, q⟩ => ⟨by rw [← r.length]; exact z, ?_⟩)
  refine SeqAt.in_tupleAt (items := us.toArray) (eqU x) ⟨_, Heap.get?_push_size _ rfl, rfl, _, rfl⟩ (fun w hw => mem_eqAt rx fx r fs w (by simpa using hw)) ⟨.bl _, H2, I2.kept (t' := s2.toks) (fun b u e => Heap.get?_push_of_some _ e), rfl, ?_⟩
  rw [show us.toArray.any (eqU x) = us.any (eqU x) by simp, any_eqU r fs]
  exact q
theorem pe_notInT {a : Expr} {es : List Expr} {x1 : Nat} {ta : TE} {t : TA} {p2 pos : Pos} (ha : PE X a ta) (h : PA X es t) (hm : behindInMarks .NotIn (.Tuple es x1 p2) = false := by rfl) : PE X (.Compare a [.NotIn] [.Tuple es x1 p2] pos) (tInT true ta t) := by
  refine ⟨fun pins s σ H Q I hq => ?_⟩
  refine wpAny_Compare1 (thn (ha.run pins s σ H _ I hq) fun v s1 ⟨x, H1, I1, rx, q1⟩ => ?_) hm
  refine wpAny_Tuple_spliced (thn (h.run p2 pins s1 σ H1 _ I1 q1) fun us s2 ⟨xs, H2, I2, r, z, fx, fs, q⟩ => ⟨by rw [← r.length]; exact z, ?_⟩)
  refine SeqAt.notIn_tupleAt (items := us.toArray) (eqU x) ⟨_, Heap.get?_push_size _ rfl, rfl, _, rfl⟩ (fun w hw => mem_eqAt rx fx r fs w (by simpa using hw)) ⟨.bl _, H2, I2.kept (t' := s2.toks) (fun b u e => Heap.get?_push_of_some _ e), rfl, ?_⟩
  rw [show us.toArray.any (eqU x) = us.any (eqU x) by simp, any_eqU r fs]
  exact q
end
theorem ofS_eq (a b : String) : (Str.ofString a = Str.ofString b) = (a = b) := by
  apply propext
  constructor
  · intro h
    rw [Str.ofString_eq_toList, Str.ofString_eq_toList] at h
    injection h with h
    have h1 : a.toList.map Char.toNat = b.toList.map Char.toNat := by
      have := congrArg Array.toList h
      simpa using this
    have inj : ∀ x y : List Char, x.map Char.toNat = y.map Char.toNat → x = y := by
      intro x
      induction x with
      | nil => intro y h; cases y with
        | nil => rfl
        | cons c y => cases h
      | cons c x ih => intro y h; cases y with
        | nil => cases h
        | cons d y =>
          rw [List.map_cons, List.map_cons] at h
          injection h with h2 h3
          rw [Char.toNat_inj.mp h2, ih y h3]
    exact String.toList_inj.mp (inj _ _ h1)
  · intro h; rw [h]
theorem inV_nil (x : V) : inV x [] = false := rfl
theorem inV_str (x y : Str) (r : List V) : inV (.str x) (.str y :: r) = (decide (x = y) || inV (.str x) r) := by
  unfold inV
  rw [List.any_cons]
  congr 1
  by_cases h : x = y
  · subst h; simp [eqV]
  · have h2 : ¬ y = x := fun e => h e.symm
    simp [h, h2, eqV]
theorem flatV_str (x : Str) : flatV (.str x) = true := rfl
theorem flatV_int (x : Int) : flatV (.int x) = true := rfl
theorem flatV_non : flatV .non = true := rfl
def mIntB : List V → Hp → VK → Prop := fun xs H Q => ∃ k, xs = [.bl k] ∧ Q (.int (if k then 1 else 0)) H
theorem intB {X : Cx} : CallR X (.type "int") mIntB := CallR.imp call_int1 fun x H Q ⟨i, a, b⟩ => .inr ⟨i, a, b⟩
end My
namespace My
open PySem PySem.Spec PyProof.Rows L2
section
variable {X : Cx}
theorem pt_inT {a : Expr} {es : List Expr} {x1 : Nat} {ta : TE} {t : TA} {p2 pos : Pos} (ha : PE X a ta) (h : PA X es t) (hm : behindInMarks .In (.Tuple es x1 p2) = false := by rfl) : PT X (.Compare a [.In] [.Tuple es x1 p2] pos) (tTest (tInT false ta t)) := by
  refine ⟨fun pins s σ H Q I hq => ?_⟩
  refine wpAny_isTrue_Compare1 (thn (ha.run pins s σ H _ I hq) fun v s1 ⟨x, H1, I1, rx, q1⟩ => ?_) hm
  refine wpAny_Tuple_spliced (thn (h.run p2 pins s1 σ H1 _ I1 q1) fun us s2 ⟨xs, H2, I2, r, z, fx, fs, q⟩ => ⟨by rw [← r.length]; exact z, ?_⟩)
  refine SeqAt.in_tupleAt (items := us.toArray) (eqU x) ⟨_, Heap.get?_push_size _ rfl, rfl, _, rfl⟩ (fun w hw => mem_eqAt rx fx r fs w (by simpa using hw)) ?_
  rw [show us.toArray.any (eqU x) = us.any (eqU x) by simp, any_eqU r fs]
  obtain ⟨k, e, q⟩ := q
  have e2 : (xs.any fun y => eqV y x) = k := by injection e
  rw [e2]
  exact wpAny_truthy_bool ⟨H2, I2.kept (t' := s2.toks) (fun b u e => Heap.get?_push_of_some _ e), q⟩
theorem pt_notInT {a : Expr} {es : List Expr} {x1 : Nat} {ta : TE} {t : TA} {p2 pos : Pos} (ha : PE X a ta) (h : PA X es t) (hm : behindInMarks .NotIn (.Tuple es x1 p2) = false := by rfl) : PT X (.Compare a [.NotIn] [.Tuple es x1 p2] pos) (tTest (tInT true ta t)) := by
  refine ⟨fun pins s σ H Q I hq => ?_⟩
  refine wpAny_isTrue_Compare1 (thn (ha.run pins s σ H _ I hq) fun v s1 ⟨x, H1, I1, rx, q1⟩ => ?_) hm
  refine wpAny_Tuple_spliced (thn (h.run p2 pins s1 σ H1 _ I1 q1) fun us s2 ⟨xs, H2, I2, r, z, fx, fs, q⟩ => ⟨by rw [← r.length]; exact z, ?_⟩)
  refine SeqAt.notIn_tupleAt (items := us.toArray) (eqU x) ⟨_, Heap.get?_push_size _ rfl, rfl, _, rfl⟩ (fun w hw => mem_eqAt rx fx r fs w (by simpa using hw)) ?_
  rw [show us.toArray.any (eqU x) = us.any (eqU x) by simp, any_eqU r fs]
  obtain ⟨k, e, q⟩ := q
  have e2 : (!(xs.any fun y => eqV y x)) = k := by injection e
  rw [e2]
  exact wpAny_truthy_bool ⟨H2, I2.kept (t' := s2.toks) (fun b u e => Heap.get?_push_of_some _ e), q⟩
/-! ### {k: v, ..} with distinct keys -/
theorem exk_nil {P : List (Key × V) → Prop} : (∃ kvs : List (Key × V), ([] : List (V × V)) = kvs.map (fun kv => (kV kv.1, kv.2)) ∧ P kvs) = P [] := by
  apply propext
  constructor
  · rintro ⟨kvs, e, h⟩
    cases kvs with
    | nil => exact h
    | cons _ _ => cases e
  · intro h; exact ⟨[], rfl, h⟩
theorem exk_str {P : List (Key × V) → Prop} {x : Str} {v : V} {ps : List (V × V)} : (∃ kvs : List (Key × V), ((.str x, v) :: ps) = kvs.map (fun kv => (kV kv.1, kv.2)) ∧ P kvs) = (∃ kvs : List (Key × V), ps = kvs.map (fun kv => (kV kv.1, kv.2)) ∧ P ((.inr x, v) :: kvs)) := by
  apply propext
  constructor
  · rintro ⟨kvs, e, h⟩
    cases kvs with
    | nil => cases e
    | cons kv r =>
      obtain ⟨k, u⟩ := kv
      rw [List.map_cons] at e
      injection e with e1 e2
      injection e1 with e3 e4
      cases k with
      | inl i => cases e3
      | inr z =>
        have : V.str x = V.str z := e3
        injection this with q
        subst q e4
        exact ⟨r, e2, h⟩
  · rintro ⟨kvs, e, h⟩
    exact ⟨(.inr x, v) :: kvs, by rw [List.map_cons, ← e]; rfl, h⟩
theorem putK_new {kvs : List (Key × V)} {k : Key} {v : V} (h : k ∉ kvs.map (·.1)) : putK kvs k v = kvs ++ [(k, v)] := by
  unfold putK
  rw [if_neg]
  intro z
  obtain ⟨kv, h1, h2⟩ := List.any_eq_true.mp z
  exact h (List.mem_map.mpr ⟨kv, h1, of_decide_eq_true h2⟩)
theorem mergeK_new : ∀ (more kvs : List (Key × V)), ((kvs ++ more).map (·.1)).Nodup → mergeK kvs more = kvs ++ more
  | [], kvs, _ => by simp [mergeK]
  | (k, v) :: r, kvs, h => by
    have hn : k ∉ kvs.map (·.1) := by
      rw [List.map_append, List.map_cons] at h
      intro z
      exact (List.nodup_append.mp h).2.2 _ z _ List.mem_cons_self rfl
    show mergeK (putK kvs k v) r = _
    rw [putK_new hn, mergeK_new r (kvs ++ [(k, v)]) (by simpa using h)]
    simp
theorem mergeK_lit {kvs : List (Key × V)} (h : (kvs.map (·.1)).Nodup) : mergeK [] kvs = kvs := by
  have := mergeK_new kvs [] (by simpa using h)
  simpa using this
end
end My
namespace My
open PySem PySem.Spec PyProof.Rows L2
theorem leS0 : (0 ≤ sizeLine) = True := eq_true (by decide)
theorem leS1 : (1 ≤ sizeLine) = True := eq_true (by decide)
theorem leS2 : (2 ≤ sizeLine) = True := eq_true (by decide)
theorem leS3 : (3 ≤ sizeLine) = True := eq_true (by decide)
theorem leS4 : (4 ≤ sizeLine) = True := eq_true (by decide)
theorem leS5 : (5 ≤ sizeLine) = True := eq_true (by decide)
theorem leS6 : (6 ≤ sizeLine) = True := eq_true (by decide)
theorem leS7 : (7 ≤ sizeLine) = True := eq_true (by decide)
theorem leS8 : (8 ≤ sizeLine) = True := eq_true (by decide)
theorem leS9 : (9 ≤ sizeLine) = True := eq_true (by decide)
theorem leS10 : (10 ≤ sizeLine) = True := eq_true (by decide)
theorem leS11 : (11 ≤ sizeLine) = True := eq_true (by decide)
theorem leS12 : (12 ≤ sizeLine) = True := eq_true (by decide)
/-- a list of two lists, picked twice -/
theorem pick22 {H : Hp} {a b c d : V} {s r : Bool} {Q : VK} (k : ∀ H', Same H H' → Q (if s = true then (if r = true then d else c) else (if r = true then b else a)) H') : ∀ p, H p = none → ∀ p1, upd H p (.lst [a, b]) p1 = none → ∀ p2, upd (upd H p (.lst [a, b])) p1 (.lst [c, d]) p2 = none →
    ∃ x, atI [V.ref p, V.ref p1] (if s = true then 1 else 0) = some x ∧ ∃ p3, x = V.ref p3 ∧ ∃ y, upd (upd (upd H p (.lst [a, b])) p1 (.lst [c, d])) p2 (.lst [V.ref p, V.ref p1]) p3 = some (.lst y) ∧ ∃ z, atI y (if r = true then 1 else 0) = some z ∧ Q z (upd (upd (upd H p (.lst [a, b])) p1 (.lst [c, d])) p2 (.lst [V.ref p, V.ref p1])) := by
  intro p hp p1 hp1 p2 hp2
  have e1 : p ≠ p1 := fun e => by rw [← e, upd_same] at hp1; cases hp1
  have e2 : p1 ≠ p2 := fun e => by rw [← e, upd_same] at hp2; cases hp2
  have e3 : p ≠ p2 := fun e => by rw [← e, upd_ne e1, upd_same] at hp2; cases hp2
  have K := k _ (Same.upd_new (Same.upd_new (Same.new hp) hp1) hp2 (o := .lst [V.ref p, V.ref p1]))
  cases s
  · refine ⟨.ref p, rfl, p, rfl, [a, b], by rw [upd_ne e3, upd_ne e1, upd_same], ?_⟩
    cases r
    · exact ⟨a, rfl, K⟩
    · exact ⟨b, rfl, K⟩
  · refine ⟨.ref p1, rfl, p1, rfl, [c, d], by rw [upd_ne e2, upd_same], ?_⟩
    cases r
    · exact ⟨c, rfl, K⟩
    · exact ⟨d, rfl, K⟩
end My
namespace My
open PySem PySem.Spec PyProof.Rows L2
theorem none_of {H H2 : Hp} {p : Addr} (s : Same H H2) (h : H2 p = none) : H p = none := by
  cases q : H p with
  | none => rfl
  | some o => rw [s _ _ q] at h; cases h
theorem Kp.upd {d : Addr} {H G : Hp} {o : HO} (k : Kp d H G) : Kp d H (L2.upd G d o) := fun b u n h => by rw [upd_ne n]; exact k b u n h
theorem Kp.new {d p : Addr} {H G : Hp} {o : HO} (k : Kp d H G) (hp : G p = none) : Kp d H (L2.upd G p o) := fun b u n h => Same.new hp _ _ (k b u n h)
theorem cut1 (a : V) (l : List V) : cutV (a :: l) (some 1) none = l := by
  have e1 : HT.sIx (l.length + 1) 0 (some 1) = 1 := by
    simp only [HT.sIx]
    split <;> omega
  have e2 : HT.sIx (l.length + 1) (l.length + 1) none = l.length + 1 := rfl
  unfold cutV
  rw [List.length_cons, e1, e2]
  simp
end My
namespace My
open PySem PySem.Spec PyProof.Rows L2
def mBoolB : List V → Hp → VK → Prop := fun xs H Q => ∃ k, xs = [.bl k] ∧ Q (.bl k) H
theorem boolB {X : Cx} : CallR X (.type "bool") mBoolB := CallR.imp call_bool1 fun x H Q ⟨i, a, b⟩ => .inr ⟨i, a, b⟩
end My
namespace My
open PySem PySem.Spec PyProof.Rows L2
/-- a == [], a a tracked list -/
def rEqNil (neg : Bool) : R2 := fun x y H Q => ∃ a b xs, x = .ref a ∧ y = .ref b ∧ H a = some (.lst xs) ∧ H b = some (.lst []) ∧ Q (.bl (if neg then !xs.isEmpty else xs.isEmpty)) H
theorem rc_nil {X : Cx} {pins : List (Addr × Obj)} {σ : L2.St} {H : Hp} {s : Shared} {a b : Addr} {xs : List V} (hu : X.A.units + 64 < cLine) (I : L2.Inv X pins σ H s) (ha : H a = some (.lst xs)) (hb : H b = some (.lst [])) : SeqAt.RcAt X.A s (.ref a) (.ref b) xs.isEmpty := by
  obtain ⟨us, r1, p1, _⟩ := I.list (SqL.of ha)
  obtain ⟨ws, r2, p2, _⟩ := I.list (SqL.of hb)
  cases r2
  cases r1 with
  | nil => exact SeqAt.RcAt.lists (e := fun _ => true) p1.isList p2.isList rfl (by omega) (fun j h1 h2 => absurd h1 (by simp))
  | cons rv rr => exact SeqAt.RcAt.lists_lengths p1.isList p2.isList (by simp) (by omega)
theorem op_eqNil {X : Cx} (hu : X.A.units + 64 < cLine) : OpR X (compareOp .Eq) (rEqNil false) := by
  intro pins s σ H x y v u Q I rx ry h
  obtain ⟨a, b, xs, rfl, rfl, ha, hb, q⟩ := h
  cases rx
  cases ry
  exact rc_nil hu I ha hb _ _ _ _ ⟨.bl _, H, I, rfl, q⟩
end My
namespace My
open PySem PySem.Spec PyProof.Rows L2
theorem none_kp {d p : Addr} {H G : Hp} {u : HO} (k : Kp d H G) (hd : G d = some u) (hp : G p = none) : H p = none := by
  cases e : H p with
  | none => rfl
  | some o =>
    by_cases h : p = d
    · rw [h, hd] at hp; cases hp
    · rw [k _ _ h e] at hp; cases hp
/-- data that lies in what is new in H' (over H) -/
def DaF (H H' : Hp) (v : V) (d : PyData) : Prop := ∀ H'', (∀ c o, H c = none → H' c = some o → H'' c = some o) → Da H'' v d
theorem DaF.here {H H' : Hp} {v : V} {d : PyData} (h : DaF H H' v d) : Da H' v d := h H' fun _ _ _ e => e
/-- a join behind the first statement -/
theorem seq_cut {s1 s2 : TS} {D : Ends} {σ : L2.St} {H : Hp} (P : L2.St → Hp → Prop) (h1 : ∀ R : L2.St → Hp → Prop, (∀ σ' H', P σ' H' → R σ' H') → s1 { D with nx := R } σ H) (h2 : ∀ σ' H', P σ' H' → s2 D σ' H') : tSeq s1 s2 D σ H := h1 _ h2
end My

set_option Elab.async false
set_option linter.all false
set_option maxRecDepth 100000
set_option maxHeartbeats 4000000
/-! own library, part 10: calls with keywords -/
namespace My
open PySem PySem.Spec PyProof.Rows L2
abbrev SpK := List V → List V → Hp → VK → XK → Prop
/-- a promise for n positional values and the keywords ks -/
def FnK (P : Program) (w : World) (K : PySem.W.Frag) (mg : Str → Option Value) (base : Heap) (CX : CXT) (k : Nat) (f : Addr) (n : Nat) (ks : List Str) (sp : SpK) : Prop :=
  ∀ (A : Around) (outer : List Env) (s : Shared) (H : Hp) (us ws : List Value) (vs zs : List V) (Q : VK) (E : XK), Room k A → Env0 P w K mg base A outer s H → Vals vs us → Vals zs ws → vs.length = n → zs.length = ks.length → sp vs zs H Q E →
    codeAny (model P w) A (.call (.ref f) ⟨us, ks.zip ws⟩) (CR CX outer P w H s Q E) s
theorem FnK.of {P : Program} {w : World} {K : PySem.W.Frag} {mg : Str → Option Value} {base : Heap} {CX : CXT} {k n : Nat} {f : Addr} {fd : FuncData} {ps ks : List Str} {sp : Sp} {g : List Value → List Value → List Value} {gV : List V → List V → List V} (F : FnOk P w K mg base CX k f fd ps sp) (hb : KBn K fd ps n ks g gV) :
    FnK P w K mg base CX k f n ks (fun vs zs => sp (gV vs zs)) := fun A outer s H us ws vs zs Q E hr e0 r rz l1 l2 hs =>
  F.run A outer s H ⟨us, ks.zip ws⟩ (g us ws) (gV vs zs) Q E hr e0 (hb.to s us ws (e0.mod.kin.keeps fun b o e => (e0.bs b o e).1) (r.length.symm.trans l1) (rz.length.symm.trans l2)) (hb.rel r rz) hs
section
variable {X : Cx} {CX : CXT} {k n : Nat} {f C : Addr} {ks : List Str} {sp : SpK} {E : L2.St → XK} {x m : Str} {e o : Expr} {es : List Expr} {kws : List Keyword} {ta : TE} {t tk : TA} {p pos apos : Pos}
theorem run_fnK {pins : List (Addr × Obj)} {σ : L2.St} {H : Hp} {s : Shared} {Q : VK} {us ws : List Value} {vs zs : List V} (F : FnK X.prog X.w X.K X.mg X.base CX k f n ks sp) (hr : Room k X.A) (hx : PassesAt CX X σ (E σ)) (I : L2.Inv X pins σ H s) (r : Vals vs us) (rz : Vals zs ws) (l1 : vs.length = n) (l2 : zs.length = ks.length) (h : sp vs zs H Q (E σ)) :
    codeAny (model X.prog X.w) X.A (.call (.ref f) ⟨us, ks.zip ws⟩) (fun r s' => match r with | .ok (.ret v) => EP X pins σ Q v s' | .ok _ => False | .error e => X.xe e s') s := by
  refine codeAny_mono (F X.A X.stack s H us ws vs zs Q (E σ) hr I.env0 r rz l1 l2 h) fun r s' hq => ?_
  cases r with
  | error e => exact hx pins H s e s' I hq
  | ok fl =>
    cases fl with
    | ret u => exact I.after hq
    | next => exact False.elim hq
    | brk => exact False.elim hq
    | cont => exact False.elim hq
/-- f(e, .., k = v, ..) -/
def tCallKW (n m : Nat) (sp : SpK) (E : L2.St → XK) (t tk : TA) : TE := fun σ H Q => t σ H fun vs H1 => tk σ H1 fun zs H2 => vs.length = n ∧ zs.length = m ∧ sp vs zs H2 Q (E σ)
theorem pe_callKW (F : FnK X.prog X.w X.K X.mg X.base CX k f n ks sp) (hr : Room k X.A) (hg : Gl X x) (hm : X.mg x = some (.ref f)) (hk : PySem.W.keepIn X.K (.ref f) = true) (hx : ∀ σ, PassesAt CX X σ (E σ)) (ha : PA X (e :: es) t) (hkw : PK X kws tk)
    (hall : (backToKw pos (keywordEach kws X.env)).all (·.1.isSome) = true := by rfl) (hks : (backToKw pos (keywordEach kws X.env)).filterMap (·.1) = ks := by rfl) (hdb : (x == ("__debug__" : Str)) = false := by decide)
    (he : starEach (e :: es) X.env = (false, eval e X.env) :: starEach es X.env := by rfl) (hpl : ((backTo pos (starEach (e :: es) X.env)).any (·.1) || (backToKw pos (keywordEach kws X.env)).any (·.1.isNone)) = false := by rfl) :
    PE X (.Call (.Name x p) (e :: es) kws pos) (tCallKW n ks.length sp E t tk) := by
  refine ⟨fun pins s σ H Q I h => ?_⟩
  refine wpAny_Call_Name_kw (ld_glob I hg hm ?_ hdb)
  refine PySem.W.callWith_KW (h₀ := X.base) I.ok.mod.kin hk hall (thn (ha.run pos pins s σ H _ I h) fun us s1 ⟨vs, H1, I1, r, q⟩ => ?_) hpl he
  refine thn (hkw.run pos pins s1 σ H1 _ I1 q) fun ws s2 ⟨zs, H2, I2, rz, l1, l2, q2⟩ => ⟨I2.kIn, ?_⟩
  rw [hks]
  exact wpAny_call (run_fnK F hr (hx σ) I2 r rz l1 l2 q2)
theorem pe_callKW0 (F : FnK X.prog X.w X.K X.mg X.base CX k f 0 ks sp) (hr : Room k X.A) (hg : Gl X x) (hm : X.mg x = some (.ref f)) (hk : PySem.W.keepIn X.K (.ref f) = true) (hx : ∀ σ, PassesAt CX X σ (E σ)) (hkw : PK X kws tk)
    (hall : (backToKw pos (keywordEach kws X.env)).all (·.1.isSome) = true := by rfl) (hks : (backToKw pos (keywordEach kws X.env)).filterMap (·.1) = ks := by rfl) (hdb : (x == ("__debug__" : Str)) = false := by decide)
    (hpl : ((backTo pos (starEach [] X.env)).any (·.1) || (backToKw pos (keywordEach kws X.env)).any (·.1.isNone)) = false := by rfl) :
    PE X (.Call (.Name x p) [] kws pos) (tCallKW 0 ks.length sp E tNil tk) := by
  refine ⟨fun pins s σ H Q I h => ?_⟩
  refine wpAny_Call_Name_kw (ld_glob I hg hm ?_ hdb)
  refine PySem.W.callWith_KW0 (h₀ := X.base) I.ok.mod.kin hk hall ?_ hpl
  refine thn (hkw.run pos pins s σ H _ I h) fun ws s2 ⟨zs, H2, I2, rz, l1, l2, q2⟩ => ⟨I2.kIn, ?_⟩
  rw [hks]
  exact wpAny_call (run_fnK (us := []) (vs := []) F hr (hx σ) I2 .nil rz rfl l2 q2)
/-- o.m(e, .., k = v, ..) -/
def tMethKW (C : Addr) (m : Str) (n j : Nat) (sp : SpK) (E : L2.St → XK) (ta : TE) (t tk : TA) : TE := fun σ H Q => ta σ H fun x H1 => ∃ a dx fs, x = .ref a ∧ H1 a = some (.ins C dx fs) ∧ fs.lookup m = none ∧ t σ H1 fun vs H2 => tk σ H2 fun zs H3 => vs.length = n ∧ zs.length = j ∧ sp (x :: vs) zs H3 Q (E σ)
theorem pe_methKW0 {pl : Sem Bool} (he : PE X o ta) (c : Cls X.K C) (hm : Meth X.K C m f) (F : FnK X.prog X.w X.K X.mg X.base CX k f 1 ks sp) (hr : Room k X.A) (hx : ∀ σ, PassesAt CX X σ (E σ)) (hkw : PK X kws tk)
    (hall : (backToKw pos (keywordEach kws X.env)).all (·.1.isSome) = true := by rfl) (hks : (backToKw pos (keywordEach kws X.env)).filterMap (·.1) = ks := by rfl)
    (hpl : ((backTo pos (starEach [] X.env)).any (·.1) || (backToKw pos (keywordEach kws X.env)).any (·.1.isNone)) = false := by rfl)
    (ht : eval (.Call (.Attribute o m apos) [] kws pos) X.env = (do
      let ov ← eval o X.env
      standAt apos.atName
      let (f, first) ← holding [ov] (getMethod ov m pl)
      callWith pos f first (backTo pos (starEach [] X.env)) (backToKw pos (keywordEach kws X.env))) := by rfl) :
    PE X (.Call (.Attribute o m apos) [] kws pos) (tMethKW C m 0 ks.length sp E ta tNil tk) := by
  refine ⟨fun pins s σ H Q I h => ?_⟩
  refine PySem.W.methodCall_KW (pl := pl) (thn (he.run pins s σ H _ I h) fun u s1 ⟨x, H1, I1, rx, a, dx, fs, ex, ea, l, q⟩ => ?_) ht
  subst ex
  obtain rfl : u = Value.ref a := rx
  refine getmeth_ok I1 ea c hm l ?_
  refine PySem.W.callWith_KW0 (first := [.ref a]) (h₀ := X.base) I.ok.mod.kin hm.kp hall ?_ hpl
  refine thn (hkw.run pos pins s1 σ H1 _ I1 q) fun ws s2 ⟨zs, H2, I2, rz, l1, l2, q2⟩ => ⟨I2.kIn, ?_⟩
  rw [hks]
  exact wpAny_call (run_fnK (us := [.ref a]) (vs := [.ref a]) F hr (hx σ) I2 (.cons rfl .nil) rz rfl l2 q2)
theorem pe_methKW {pl : Sem Bool} (ho : PE X o ta) (c : Cls X.K C) (hm : Meth X.K C m f) (F : FnK X.prog X.w X.K X.mg X.base CX k f (n + 1) ks sp) (hr : Room k X.A) (hx : ∀ σ, PassesAt CX X σ (E σ)) (ha : PA X (e :: es) t) (hkw : PK X kws tk)
    (hall : (backToKw pos (keywordEach kws X.env)).all (·.1.isSome) = true := by rfl) (hks : (backToKw pos (keywordEach kws X.env)).filterMap (·.1) = ks := by rfl)
    (he : starEach (e :: es) X.env = (false, eval e X.env) :: starEach es X.env := by rfl) (hpl : ((backTo pos (starEach (e :: es) X.env)).any (·.1) || (backToKw pos (keywordEach kws X.env)).any (·.1.isNone)) = false := by rfl)
    (ht : eval (.Call (.Attribute o m apos) (e :: es) kws pos) X.env = (do
      let ov ← eval o X.env
      standAt apos.atName
      let (f, first) ← holding [ov] (getMethod ov m pl)
      callWith pos f first (backTo pos (starEach (e :: es) X.env)) (backToKw pos (keywordEach kws X.env))) := by rfl) :
    PE X (.Call (.Attribute o m apos) (e :: es) kws pos) (tMethKW C m n ks.length sp E ta t tk) := by
  refine ⟨fun pins s σ H Q I h => ?_⟩
  refine PySem.W.methodCall_KW (pl := pl) (thn (ho.run pins s σ H _ I h) fun u s1 ⟨x, H1, I1, rx, a, dx, fs, ex, ea, l, q⟩ => ?_) ht
  subst ex
  obtain rfl : u = Value.ref a := rx
  refine getmeth_ok I1 ea c hm l ?_
  refine PySem.W.callWith_KW (first := [.ref a]) (h₀ := X.base) I.ok.mod.kin hm.kp hall (thn (ha.run pos pins s1 σ H1 _ I1 q) fun us s2 ⟨vs, H2, I2, r, q2⟩ => ?_) hpl he
  refine thn (hkw.run pos pins s2 σ H2 _ I2 q2) fun ws s3 ⟨zs, H3, I3, rz, l1, l2, q3⟩ => ⟨I3.kIn, ?_⟩
  rw [hks]
  exact wpAny_call (run_fnK (us := .ref a :: us) (vs := .ref a :: vs) F hr (hx σ) I3 (.cons rfl r) rz (congrArg Nat.succ l1) l2 q3)
theorem passA0 (σ : L2.St) : PassesAt CX0 X σ ((fun _ => E0) σ) := fun _ _ _ _ _ _ h => h.elim
end
end My

set_option Elab.async false
set_option linter.all false
set_option maxRecDepth 100000
set_option maxHeartbeats 4000000
/-! own library, part 11: instances without an own __eq__ are told apart by where they lie -/
namespace My
open PySem PySem.Spec PyProof.Rows L2
section
variable {M : Model} {prog : Program} {w : World} {A : Around} {E : Value → Shared → Prop} {s : Shared} {K : PySem.W.Frag} {x y C : Addr} {ox oy : Obj} {od oe : Option Obj}
theorem noTup {h : Heap} (I : PySem.W.InstAt h x ox C od) : ox.cls ≠ .type "tuple" := by rw [I.cls]; intro e; cases e
theorem entry_oth {Q : Fin → Shared → Prop} (hxy : x ≠ y) (I : PySem.W.InstAt s.heap x ox C od) (hy : s.heap.get? y = some oy) (hq : Q (.done (.ret .notImplemented)) s) : wpAny M A (Builtin.«object.__eq__» ⟨[.ref x, .ref y], []⟩) Q E s := objEq_entry_other hxy I.at_ hy (noTup I) hq
theorem call_objEqI {Q : Value → Shared → Prop} (X : K.In s.heap) (hxy : x ≠ y) (I : PySem.W.InstAt s.heap x ox C od) (hy : s.heap.get? y = some oy) (hm : PySem.W.mroIn K C (.type "object") = some true) (hq : Q .notImplemented s) :
    wpAny (model prog w) A (call (.builtin "object.__eq__") [.ref x, .ref y]) Q E s :=
  wpAny_call (codeAny_call_builtin F.cmp_object.eq.plain F.cmpEntry_eq (PySem.W.check_slot F.cmpKind_eq F.cmpSplit_eq (I.type.andThen (PySem.W.looks_mroIn X hm)) (F.cmpArgs_eq _ _) (entry_oth hxy I hy hq)))
theorem rc_ins (hu : A.units < cLine) (X : K.In s.heap) (hxy : x ≠ y) (I : PySem.W.InstAt s.heap x ox C od) (J : PySem.W.InstAt s.heap y oy C oe) (hm : PySem.W.mroIn K C (.type "object") = some true) (hs : PySem.W.findIn K (.ref C) "__eq__" = some (some (.builtin "object.__eq__"))) :
    SeqAt.RcAt A s (.ref x) (.ref y) false := fun prog w E Q h => by
  have one : wpAny (model prog w) A (tryCompare (.ref x) "__eq__" (.ref y)) (fun r s' => r = none ∧ s' = s) E s := by
    unfold tryCompare
    exact wpAny_bind (HN.ifBound_objEq X I hs (call_objEqI X hxy I J.at_ hm (wpAny_pure ⟨rfl, rfl⟩)))
  have two : wpAny (model prog w) A (tryCompare (.ref y) "__eq__" (.ref x)) (fun r s' => r = none ∧ s' = s) E s := by
    unfold tryCompare
    exact wpAny_bind (HN.ifBound_objEq X J hs (call_objEqI X hxy.symm J I.at_ hm (wpAny_pure ⟨rfl, rfl⟩)))
  simp only [richCompare, cmpInfo_Eq, oneThing_ref]
  refine wpAny_holding (wpAny_bind (wpAny_cRoomFor hu ?_))
  refine wpAny_bind (I.type.here ?_)
  refine wpAny_bind (J.type.here ?_)
  rw [if_neg (by simp)]
  refine wpAny_bind (wpAny_pure ?_)
  simp only [Bool.false_eq_true, if_false, Bool.not_false, if_true]
  refine wpAny_bind (m := tryCompare (.ref x) _ (.ref y)) (wpAny_mono one (fun r s1 z => ?_) fun _ _ e => e)
  obtain ⟨z1, z2⟩ := z
  subst z1
  subst z2
  refine wpAny_bind (m := tryCompare (.ref y) _ (.ref x)) (wpAny_mono two (fun r s2 z => ?_) fun _ _ e => e)
  obtain ⟨z1, z2⟩ := z
  subst z1
  subst z2
  exact wpAny_bind (wpAny_rule (wpAny_bind (wpAny_isSame_ref_other hxy I.at_ J.at_ (noTup I) (wpAny_pure h))))
theorem eqAt_ins (hu : A.units < cLine) (X : K.In s.heap) (hxy : x ≠ y) (I : PySem.W.InstAt s.heap x ox C od) (J : PySem.W.InstAt s.heap y oy C oe) (hm : PySem.W.mroIn K C (.type "object") = some true) (hs : PySem.W.findIn K (.ref C) "__eq__" = some (some (.builtin "object.__eq__"))) :
    SeqAt.EqAt A s (.ref x) (.ref y) false := fun prog w E Q h => by
  unfold eqBool
  refine wpAny_holding ?_
  refine wpAny_ite_split (fun hab => absurd (eq_of_beq hab) (fun e => hxy (by injection e))) (fun _ => ?_)
  exact wpAny_bind (rc_ins hu X hxy I J hm hs prog w E _ (wpAny_truthy_bool h))
end
/-- instances of a class that has no __eq__ of its own -/
structure NoEq (K : PySem.W.Frag) (C : Addr) : Prop where
  mro : PySem.W.mroIn K C (.type "object") = some true
  eq_ : PySem.W.findIn K (.ref C) "__eq__" = some (some (.builtin "object.__eq__"))
def InsOf (C : Addr) (H : Hp) (z : V) : Prop := ∃ a dx fs, z = .ref a ∧ H a = some (.ins C dx fs)
def rInI (K : PySem.W.Frag) (C : Addr) (neg : Bool) : R2 := fun x y H Q => ∃ (a p : Addr) (bs : List Addr), x = .ref a ∧ y = .ref p ∧ InsOf C H (.ref a) ∧ SqL K H p (bs.map V.ref) ∧ (∀ b ∈ bs, InsOf C H (.ref b)) ∧ Q (.bl (if neg then !decide (a ∈ bs) else decide (a ∈ bs))) H
section
variable {X : Cx} {C : Addr}
def isRef (a : Addr) (u : Value) : Bool := match u with
  | .ref b => decide (b = a)
  | _ => false
theorem any_ref {a : Addr} : ∀ {bs : List Addr} {us : List Value}, Vals (bs.map V.ref) us → us.any (isRef a) = decide (a ∈ bs)
  | [], _, .nil => by simp
  | b :: bs, _, .cons r t => by
    cases r
    rw [List.any_cons, any_ref t]
    show (decide (b = a) || decide (a ∈ bs)) = _
    by_cases h : b = a
    · subst h; simp
    · have h' : ¬ a = b := fun e => h e.symm
      simp [h, h']
theorem mem_ref {A : Around} {pins : List (Addr × Obj)} {σ : L2.St} {H : Hp} {s : Shared} {a : Addr} (N : NoEq X.K C) (I : Inv X pins σ H s) (hu : A.units < cLine) (ha : InsOf C H (.ref a)) : ∀ {bs : List Addr} {us : List Value}, Vals (bs.map V.ref) us → (∀ b ∈ bs, InsOf C H (.ref b)) → ∀ u ∈ us, SeqAt.EqAt A s u (.ref a) (isRef a u)
  | [], _, .nil, _ => fun u hu' => by cases hu'
  | b :: bs, _, .cons r t, f => fun u' hu' => by
    rcases List.mem_cons.mp hu' with e | hu'
    · subst e
      cases r
      by_cases h : b = a
      · subst h
        rw [show isRef b (.ref b) = true by simp [isRef]]
        exact SeqAt.EqAt.same _
      · rw [show isRef a (.ref b) = false by simp [isRef, h]]
        obtain ⟨a', dx, fs, e1, ha⟩ := ha
        cases e1
        obtain ⟨b', dx', fs', e2, hb⟩ := f b List.mem_cons_self
        cases e2
        obtain ⟨ox, od, J1⟩ := inst_at I ha
        obtain ⟨oy, oe, J2⟩ := inst_at I hb
        exact eqAt_ins hu I.kIn h J2 J1 N.mro N.eq_
    · exact mem_ref N I hu ha t (fun z hz => f z (List.mem_cons_of_mem _ hz)) u' hu'
theorem op_inI (N : NoEq X.K C) (hu : X.A.units + 64 < cLine) : OpR X (compareOp .In) (rInI X.K C false) := by
  intro pins s σ H x y v u Q I rx ry h
  obtain ⟨a, p, bs, rfl, rfl, ha, hq, hb, q⟩ := h
  cases rx
  cases ry
  obtain ⟨its, rv, hl, _⟩ := I.list hq
  have hu1 : X.A.in1.units < cLine := by show X.A.units + 1 < cLine; omega
  refine SeqAt.in_listAt (isRef a) hl.isList (fun z hz => mem_ref N I hu1 ha rv hb z (by simpa using hz)) ⟨.bl _, H, I, rfl, ?_⟩
  rw [show its.toArray.any (isRef a) = its.any (isRef a) by simp, any_ref rv]
  exact q
theorem op_notInI (N : NoEq X.K C) (hu : X.A.units + 64 < cLine) : OpR X (compareOp .NotIn) (rInI X.K C true) := by
  intro pins s σ H x y v u Q I rx ry h
  obtain ⟨a, p, bs, rfl, rfl, ha, hq, hb, q⟩ := h
  cases rx
  cases ry
  obtain ⟨its, rv, hl, _⟩ := I.list hq
  have hu1 : X.A.in1.units < cLine := by show X.A.units + 1 < cLine; omega
  refine SeqAt.notIn_listAt (isRef a) hl.isList (fun z hz => mem_ref N I hu1 ha rv hb z (by simpa using hz)) ⟨.bl _, H, I, rfl, ?_⟩
  rw [show its.toArray.any (isRef a) = its.any (isRef a) by simp, any_ref rv]
  exact q
end
end My

set_option Elab.async false
set_option linter.all false
set_option maxRecDepth 100000
set_option maxHeartbeats 4000000
/-! own library My, part 12: C(e, .., **d) -/
namespace My
open PySem PySem.Spec PyProof.Rows L2
section
variable {prog : Program} {w : World} {A : Around} {E : Value → Shared → Prop} {s : Shared}
theorem wp_putNew {d : Addr} {kvs : List (Key × Value)} {k : Key} {key v : Value} {Q : Unit → Shared → Prop} (hkey : (mixKind prog w).is k key = true) (hm : s.heap.DictOf (mixKind prog w) d kvs) (hnew : k ∉ kvs.map (·.1))
    (hQ : ∀ h', h'.DictOf (mixKind prog w) d (kvs ++ [(k, v)]) → Heap.SameBut d s.heap h' → Q () { s with heap := h' }) (hsz : kvs.length ≤ sizeLine) :
    wpAny (model prog w) A (dictFind d key ((mixKind prog w).hash k)) (fun r s1 => r = none ∧ s1 = s ∧ wpAny (model prog w) A (dictPut d ((mixKind prog w).hash k) key v) Q E s1) E s := by
  obtain ⟨o, es, ep, ho, hc, hd, hk, hp, hn⟩ := hm
  have hes : es.size ≤ sizeLine := by
    have e1 := hp.length
    have e2 : es.toList.length = es.size := by simp
    omega
  have hidx : (es.findIdx? fun e => (mixKind prog w).is k e.key) = kvs.findIdx? fun kv => decide (kv.1 = k) := by
    rw [← hp.findIdx k]; obtain ⟨l⟩ := es; simp
  have hi : (es.findIdx? fun e => (mixKind prog w).is k e.key) = none := by
    rw [hidx, List.findIdx?_eq_none_iff]
    intro x hx
    exact decide_eq_false fun e => hnew (List.mem_map.mpr ⟨x, hx, e⟩)
  refine wpAny_dictFind_of hkey ho hd hk ?_
  refine ⟨hi, rfl, ?_⟩
  unfold dictPut
  refine wpAny_bind (wpAny_dictFind_of hkey ho hd hk ?_)
  rw [hi]
  refine wpAny_updateDictKeys (hz := hes) ho hd (hQ _ ⟨_, _, ep + 1, Heap.get?_update_self _ ho (Obj.isFreed_of_dict (Obj.data_mapDictKeys hd _)),
      hc.mapDictKeys _, Obj.data_mapDictKeys hd _, hk.push hkey _, ?_, ?_⟩ (Heap.SameBut.update ..))
  · have := hp.append hkey ((mixKind prog w).hash k) v
    obtain ⟨l⟩ := es
    simpa using this
  · rw [List.map_append, List.nodup_append]
    refine ⟨hn, by simp, ?_⟩
    intro a ha b hb
    simp only [List.map_cons, List.map_nil, List.mem_singleton] at hb
    subst hb
    exact fun e => hnew (e ▸ ha)
theorem wp_merge {d a : Addr} {more : List (Key × Value)} {Q : Unit → Shared → Prop} (hda : d ≠ a) (haS : (a == sysModules) = false) (hd : s.heap.DictOf (mixKind prog w) d []) (ha : s.heap.DictOf (mixKind prog w) a more)
    (hQ : ∀ h', h'.DictOf (mixKind prog w) d more → Heap.SameBut d s.heap h' → Q () { s with heap := h' }) (hsz : more.length ≤ sizeLine) :
    wpAny (model prog w) A (mergeMapping d (.ref a) true) Q E s := by
  obtain ⟨od, esd, epd, hod, hcd, hdd, hkd, hpd, hnd⟩ := id hd
  obtain ⟨oo, eso, epo, hoo, hco, hdo', hko, hpo, hno⟩ := id ha
  have hlen : more.length = eso.size := by rw [← hpo.length]; simp
  have h0 : esd = #[] := by
    have := hpd.length
    simp only [List.length_nil] at this
    exact Array.toList_eq_nil_iff.mp (List.length_eq_zero_iff.mp this)
  subst h0
  unfold mergeMapping
  refine wpAny_bind (wpAny_isInstance ha.typeIs isSubtype_dict_dict ?_)
  rw [if_pos rfl]
  refine wpAny_bind (wpAny_specialOf ha.typeIs F.slot_dict_iter.lookup (wpAny_bind (wpAny_pure ?_)))
  show wpAny _ _ (if (a == sysModules) = true then _ else _) _ _ _
  rw [if_neg (by rw [haS]; exact Bool.false_ne_true)]
  refine wpAny_bind (wpAny_dictEntries hod hdd ?_)
  rw [if_pos (by rfl)]
  refine wpAny_bind (wpAny_dictEntries hoo hdo' ?_)
  refine wpAny_bind ?_
  have l1 : ∀ (l : List DictEntry), (∀ e ∈ l, carriedByValue e.key = true) → ∀ {R : PUnit → Shared → Prop} {f : DictEntry → PUnit → Sem (ForInStep PUnit)}, (∀ e u, carriedByValue e.key = true → f e u = pure (.yield ⟨⟩)) → R ⟨⟩ s → wpAny (model prog w) A (forIn l PUnit.unit f) R E s := by
    intro l
    induction l with
    | nil => intro _ R f _ h; rw [List.forIn_nil]; exact wpAny_pure h
    | cons e l ih =>
      intro hl R f hf h
      rw [List.forIn_cons, hf e _ (hl e (.head _))]
      exact wpAny_bind (wpAny_pure (ih (fun x hx => hl x (.tail _ hx)) hf h))
  rw [← Array.forIn_toList]
  refine l1 _ (fun e he => ?_) (fun e u he => ?_) ?_
  · obtain ⟨k, hk, _⟩ := hko e (by simpa using he)
    exact (mixKind prog w).byValue _ _ hk
  · cases hq : e.key <;> first | rfl | (rw [hq] at he; exact absurd he Bool.false_ne_true)
  refine wpAny_bind (wpAny_dictEntries hoo hdo' ?_)
  refine wpAny_bind (wpAny_dictEpoch hoo hdo' ?_)
  refine wpAny_bind ?_
  refine wpAny_forIn_list _
      (fun rest _ s' => ∃ h' i, s' = { s with heap := h' } ∧ rest = List.range' i (eso.size - i) ∧ i ≤ eso.size ∧ h'.DictOf (mixKind prog w) d (more.take i) ∧ h'.get? a = some oo ∧ Heap.SameBut d s.heap h')
      _ ?_ ?_ _ _ ⟨s.heap, 0, rfl, by rw [List.range_eq_range']; simp, Nat.zero_le _, by simpa using hd, hoo, Heap.SameBut.refl _ _⟩
  · rintro x rest b s' ⟨h', i, rfl, hr, hi, hd', hoo', hs'⟩
    have hlt : i < eso.size := by
      rcases Nat.lt_or_ge i eso.size with h | h
      · exact h
      · rw [Nat.sub_eq_zero_of_le h] at hr; simp at hr
    obtain ⟨rfl, hrest⟩ : x = i ∧ rest = List.range' (i + 1) (eso.size - (i + 1)) := by
      have e : eso.size - i = (eso.size - (i + 1)) + 1 := by omega
      rw [e, List.range'_succ] at hr
      injection hr with h1 h2
      exact ⟨h1, h2⟩
    refine wpAny_bind (wpAny_dictEntries hoo' hdo' ?_)
    rw [Array.getElem?_eq_getElem hlt]
    obtain ⟨kv, hkv⟩ : ∃ kv, more[x]? = some kv := ⟨more[x]'(by rw [hlen]; exact hlt), List.getElem?_eq_getElem _⟩
    obtain ⟨k, v⟩ := kv
    obtain ⟨hkey, hval⟩ := hpo.get? (e := eso[x]) (by simp [hlt]) hkv
    obtain ⟨k', hkey', hhash⟩ := hko eso[x] (Array.getElem_mem hlt)
    obtain rfl : k' = k := (mixKind prog w).inj _ _ _ hkey' hkey
    have ht : more.take (x + 1) = more.take x ++ [(k', v)] := by simp [List.take_add_one, hkv]
    have hnew : k' ∉ (more.take x).map (·.1) := by
      have hn2 : (more.map (·.1)).Nodup := hno
      have : ((more.take (x + 1)).map (·.1)).Nodup := (List.take_sublist (x + 1) more).map _ |>.nodup hn2
      rw [ht, List.map_append, List.nodup_append] at this
      exact fun hm => this.2.2 k' hm k' (by simp) rfl
    have hmx : (more.take x).length ≤ sizeLine := by rw [List.length_take]; omega
    show wpAny _ _ (holding [eso[x].key, eso[x].val] _ >>= _) _ _ _
    rw [hhash, hval]
    refine wpAny_bind (wpAny_holding ?_)
    dsimp only
    rw [if_pos rfl]
    refine wpAny_bind (wpAny_mono (wp_putNew (Q := fun _ s' => ∃ h', s' = { s with heap := h' } ∧ h'.DictOf (mixKind prog w) d (more.take (x + 1)) ∧ h'.get? a = some oo ∧ Heap.SameBut d s.heap h') (v := v) hkey' hd' hnew (fun h'' hd'' hs'' => ⟨h'', rfl, by rw [ht]; exact hd'', (hs''.2 a (Ne.symm hda)).trans hoo', hs'.trans hs''⟩) hmx) (fun r s1 hr1 => ?_) fun _ _ z => z)
    obtain ⟨rfl, rfl, hput⟩ := hr1
    rw [if_neg (by decide)]
    refine wpAny_mono hput (fun _ s2 hs2 => ?_) fun _ _ z => z
    obtain ⟨h'', rfl, hd'', hoo'', hs''⟩ := hs2
    refine wpAny_bind (wpAny_dictEpoch hoo'' hdo' ?_)
    rw [if_neg (by simp)]
    exact wpAny_pure ⟨h'', x + 1, rfl, hrest, hlt, hd'', hoo'', hs''⟩
  · rintro b s' ⟨h', i, rfl, hr, hi, hd', hoo', hs'⟩
    have hin : i = eso.size := by
      rcases Nat.lt_or_ge i eso.size with h | h
      · have e : eso.size - i = (eso.size - (i + 1)) + 1 := by omega
        rw [e, List.range'_succ] at hr; exact nomatch hr
      · exact Nat.le_antisymm hi h
    refine wpAny_pure (hQ h' ?_ hs')
    rw [hin, ← hlen, List.take_length] at hd'; exact hd'
theorem wp_kwOf {f : Value} {x : Sem Value} {Q : Addr → Shared → Prop}
    (h : wpAny (model prog w) A x (fun v s1 => ∃ a more, v = .ref a ∧ s.heap.objs.size ≠ a ∧ (a == sysModules) = false ∧ s1.heap.DictOf (mixKind prog w) s.heap.objs.size [] ∧ s1.heap.DictOf (mixKind prog w) a more ∧ more.length ≤ sizeLine ∧
      ∀ h', h'.DictOf (mixKind prog w) s.heap.objs.size more → Heap.SameBut s.heap.objs.size s1.heap h' → Q s.heap.objs.size { s1 with heap := h' }) E { s with heap := s.heap.push { cls := .type "dict", data := .dict #[] } }) :
    wpAny (model prog w) A (mergedKeywords f [(none, x)]) Q E s := by
  unfold mergedKeywords
  refine wpAny_bind (wpAny_alloc ?_)
  refine wpAny_bind (wpAny_holding ?_)
  refine wpAny_bind ?_
  rw [List.forIn_cons]
  refine wpAny_bind ?_
  refine wpAny_bind (wpAny_pure ?_)
  refine wpAny_bind (wpAny_mono h (fun v s1 hs => ?_) fun _ _ z => z)
  obtain ⟨a, more, rfl, hne, hS, h1, h2, hz, hq⟩ := hs
  refine wpAny_bind (wpAny_onRaise (wpAny_holding (wpAny_tryCatch (wpAny_onRaise (wp_merge hne hS h1 h2 (fun h' hd hs => ?_) hz)))))
  refine wpAny_pure ?_
  dsimp only
  rw [List.forIn_nil]
  exact wpAny_pure (wpAny_pure (wpAny_pure (hq h' hd hs)))
theorem wp_kwIn {f : Value} {d : Addr} {kws : List (Str × Value)} {Q : List (Str × Value) → Shared → Prop} (hd : s.heap.DictOf (mixKind prog w) d (kws.map fun p => (Sum.inr p.1, p.2))) (h : Q kws s) : wpAny (model prog w) A (keywordsIn f d) Q E s := by
  obtain ⟨o, es, ep, ho, hc, hdd, hk, hp, hn⟩ := hd
  unfold keywordsIn
  refine wpAny_bind (wpAny_dictEntries ho hdd ?_)
  refine wpAny_bind ?_
  rw [← Array.forIn_toList]
  have l1 : ∀ (l : List DictEntry) (ks acc : List (Str × Value)) {f : DictEntry → List (Str × Value) → Sem (ForInStep (List (Str × Value)))}, Pairs (mixKind prog w) l (ks.map fun p => ((Sum.inr p.1 : Key), p.2)) →
      (∀ e acc z t, e.key = .str z t → f e acc = pure (.yield (acc ++ [(z, e.val)]))) → forIn l acc f = pure (acc ++ ks) := by
    intro l
    induction l with
    | nil =>
      intro ks acc f hp hf
      cases ks with
      | nil => rw [List.forIn_nil, List.append_nil]
      | cons k ks => cases hp
    | cons e l ih =>
      intro ks acc f hp hf
      cases ks with
      | nil => cases hp
      | cons k ks =>
        rw [List.map_cons] at hp
        cases hp with
        | cons h1 h2 h3 =>
          rcases keyIs_shape (k := Sum.inr k.1) (v := e.key) h1 with ⟨i, t, e1, e2⟩ | ⟨z, t, e1, e2⟩
          · cases e1
          · cases e1
            rw [List.forIn_cons, hf e acc _ t e2, pure_bind]
            show forIn l _ f = _
            rw [ih ks _ h3 hf, h2]
            simp
  rw [l1 es.toList kws [] hp (fun e acc z t he => by rw [he])]
  exact wpAny_pure (wpAny_pure h)
def KwGives (prog : Program) (w : World) (A : Around) (E : Value → Shared → Prop) (x : Sem Value) (s0 : Shared) (R : List (Str × Value) → Shared → Prop) : Prop :=
  wpAny (model prog w) A x (fun v s1 => ∃ a kws, v = .ref a ∧ s0.heap.objs.size ≠ a ∧ (a == sysModules) = false ∧ s1.heap.DictOf (mixKind prog w) s0.heap.objs.size [] ∧ s1.heap.DictOf (mixKind prog w) a (kws.map fun p => (Sum.inr p.1, p.2)) ∧ kws.length ≤ sizeLine ∧
      ∀ h', h'.DictOf (mixKind prog w) s0.heap.objs.size (kws.map fun p => (Sum.inr p.1, p.2)) → Heap.SameBut s0.heap.objs.size s1.heap h' → R kws { s1 with heap := h' }) E { s0 with heap := s0.heap.push { cls := .type "dict", data := .dict #[] } }
theorem wp_evalArgsK {f : Value} {y : Sem Value} {rest : List (Bool × Sem Value)} {x : Sem Value} {Q : Args → Shared → Prop}
    (h : wpAny (model prog w) A (spliced ((false, y) :: rest)) (fun us s0 => KwGives prog w A E x s0 (fun kws s1 => Q ⟨us, kws⟩ s1)) E s) :
    wpAny (model prog w) A (evalArgs f true ((false, y) :: rest) [(none, x)]) Q E s := by
  unfold evalArgs
  show wpAny _ A (spliced ((false, y) :: rest) >>= _) Q E s
  refine wpAny_bind (wpAny_mono h (fun us s0 h0 => ?_) fun _ _ z => z)
  refine wpAny_holding ?_
  show wpAny _ _ (if ([(none, x)] : List (Option Str × Sem Value)).all (·.1.isSome) = true then _ else _) _ _ _
  rw [if_neg (show ¬ (([(none, x)] : List (Option Str × Sem Value)).all (·.1.isSome) = true) from Bool.false_ne_true)]
  refine wpAny_bind (wp_kwOf (wpAny_mono h0 (fun v s1 hs => ?_) fun _ _ z => z))
  obtain ⟨a, kws, e1, e2, e3, e4, e5, e6, e7⟩ := hs
  refine ⟨a, _, e1, e2, e3, e4, e5, by rw [List.length_map]; exact e6, fun h' hd hs => ?_⟩
  refine wpAny_bind (wpAny_pure ?_)
  exact wpAny_bind (wpAny_holding (wp_kwIn hd (wpAny_pure (e7 h' hd hs))))
theorem wp_evalArgsK0 {f : Value} {x : Sem Value} {Q : Args → Shared → Prop} (h : KwGives prog w A E x s (fun kws s1 => Q ⟨[], kws⟩ s1)) :
    wpAny (model prog w) A (evalArgs f true [] [(none, x)]) Q E s := by
  unfold evalArgs
  show wpAny _ A (spliced [] >>= _) Q E s
  refine wpAny_bind (PySem.Calls.spliced_nil ?_)
  refine wpAny_bind (wpAny_pure ?_)
  refine wpAny_holding ?_
  show wpAny _ _ (if ([(none, x)] : List (Option Str × Sem Value)).all (·.1.isSome) = true then _ else _) _ _ _
  rw [if_neg (show ¬ (([(none, x)] : List (Option Str × Sem Value)).all (·.1.isSome) = true) from Bool.false_ne_true)]
  refine wpAny_bind (wp_kwOf (wpAny_mono h (fun v s1 hs => ?_) fun _ _ z => z))
  obtain ⟨a, kws, e1, e2, e3, e4, e5, e6, e7⟩ := hs
  refine ⟨a, _, e1, e2, e3, e4, e5, by rw [List.length_map]; exact e6, fun h' hd hs => ?_⟩
  refine wpAny_bind (wpAny_pure ?_)
  exact wpAny_bind (wpAny_holding (wp_kwIn hd (wpAny_pure (e7 h' hd hs))))
theorem wp_callSS {f : Value} {first : List Value} {pos : Pos} {Q : Value → Shared → Prop} {P : Heap → Prop} {args : List (Bool × Sem Value)} {kw : List (Option Str × Sem Value)} (hst : (args.any (·.1) || kw.any (·.1.isNone)) = true)
    (hk : ∀ h, P h → ∃ k, (k = Keeper.frame ∨ k = Keeper.machine ∨ k = Keeper.boundFrame) ∧ PySem.W.Looks (model prog w) h (keeperOf f) k)
    (h : wpAny (model prog w) A (evalArgs f true args kw) (fun a s₁ => P s₁.heap ∧ wpAny (model prog w) A (call f (first ++ a.pos) a.kw) Q E s₁) E s) : wpAny (model prog w) A (callWith pos f first args kw) Q E s := by
  unfold callWith
  refine wpAny_bind (wpAny_holding (wpAny_mono h (fun a s₁ h₁ => wpAny_bind (wpAny_standAt ?_)) fun _ _ x => x))
  obtain ⟨k, hk', L⟩ := hk _ h₁.1
  simp only [hst]
  refine wpAny_bind (L.here ?_)
  have tail : ∀ {t : Sem Value}, wpAny (model prog w) A t Q E s₁ → wpAny (model prog w) A (t >>= fun r => holding [r] point >>= fun _ => pure r) Q E s₁ :=
    fun ht => wpAny_bind (wpAny_mono ht (fun r s₂ hr => wpAny_bind (wpAny_holding (wpAny_point (wpAny_pure hr)))) fun _ _ x => x)
  have marked (mk : Value) : wpAny (model prog w) A (callMarked mk f (first ++ a.pos) a.kw) Q E s₁ := by unfold callMarked; exact Calls.wpAny_keep h₁.2
  rcases hk' with rfl | rfl | rfl <;> dsimp only <;> first | exact tail (marked _) | exact tail (wpAny_operating h₁.2)
end
/-! ### binding **d -/
section
variable {prog : Program} {w : World} {A : Around} {E : Value → Shared → Prop} {s : Shared}
theorem wp_nsNew {d : Addr} {kvs : List (Key × Value)} {k : Str} {v : Value} {Q : Unit → Shared → Prop} (hm : s.heap.DictOf (mixKind prog w) d kvs) (hstr : ∀ p ∈ kvs, ∃ z, p.1 = Sum.inr z) (hnew : Sum.inr k ∉ kvs.map (·.1))
    (hQ : ∀ h' n, h'.DictOf (mixKind prog w) d (kvs ++ [(Sum.inr k, v)]) → Heap.SameBut d s.heap h' → Q () { s with heap := h', toks := n }) :
    wpAny (model prog w) A (nsSet d k v) Q E s := by
  obtain ⟨o, es, ep, ho, hc, hd, hk, hp, hn⟩ := hm
  obtain ⟨hc1, hc2, hc3⟩ := hc
  have hkeys : ∀ e ∈ es.toList, ∃ z t, e.key = .str z t ∧ (Sum.inr z : Key) ∈ kvs.map (·.1) := by
    have : ∀ (l : List DictEntry) (ks : List (Key × Value)), Pairs (mixKind prog w) l ks → (∀ p ∈ ks, ∃ z, p.1 = Sum.inr z) → ∀ e ∈ l, ∃ z t, e.key = .str z t ∧ (Sum.inr z : Key) ∈ ks.map (·.1) := by
      intro l ks hp
      induction hp with
      | nil => intro _ e he; cases he
      | cons h1 h2 h3 ih =>
        rename_i e0 kv0 es0 kvs0
        intro hs e he
        rcases List.mem_cons.mp he with he | he
        · subst he
          obtain ⟨z, hz⟩ := hs kv0 (.head _)
          rw [hz] at h1
          rcases keyIs_shape (k := Sum.inr z) (v := e.key) h1 with ⟨i, t, e1, e2⟩ | ⟨y, t, e1, e2⟩
          · cases e1
          · cases e1; exact ⟨z, t, e2, by rw [List.map_cons, hz]; exact .head _⟩
        · obtain ⟨z, t, e1, e2⟩ := ih (fun p hp => hs p (.tail _ hp)) e he
          exact ⟨z, t, e1, .tail _ e2⟩
    exact this _ _ hp hstr
  have e1 : es.toList.any (·.key.isStr k) = false := by
    cases q : es.toList.any (·.key.isStr k) with
    | false => rfl
    | true =>
      obtain ⟨e, he, z⟩ := List.any_eq_true.mp q
      obtain ⟨y, t, e1, e2⟩ := hkeys e he
      rw [e1] at z
      have : y = k := by simpa [Value.isStr] using z
      subst this
      exact absurd e2 hnew
  have e2 : es.toList.any (·.refKey) = false := by
    cases q : es.toList.any (·.refKey) with
    | false => rfl
    | true =>
      obtain ⟨e, he, z⟩ := List.any_eq_true.mp q
      obtain ⟨y, t, e1, _⟩ := hkeys e he
      unfold DictEntry.refKey at z
      rw [e1] at z
      exact absurd z Bool.false_ne_true
  have eo : o = PySem.W.dictOf es.toList ep := by
    cases o
    simp only at hc1 hc2 hc3 hd
    subst hc1 hc2 hc3 hd
    rfl
  have e : Obj.putName k (PyData.keyHash w.params k) (.str k s.toks) v o = PySem.W.dictOf (es.toList ++ [⟨PyData.keyHash w.params k, .str k s.toks, v⟩]) (ep + 1) := by
    rw [eo, PySem.W.putName_dict, PySem.W.putL_new (fun e he => by
      cases q : e.key.isStr k with
      | false => rfl
      | true => rw [List.any_eq_true.mpr ⟨e, he, q⟩] at e1; cases e1)]
    show PySem.W.dictOf _ (if es.toList.any (·.key.isStr k) then ep else ep + 1) = _
    rw [e1, if_neg Bool.false_ne_true]
  have c : aRefKeyMayBeTheName k es = false := by
    rw [aRefKeyMayBeTheName_at, ← Array.any_toList, ← Array.any_toList, e2, Bool.and_false]
  unfold nsSet
  refine wpAny_bind (wpAny_bind (wpAny_askSetting (wpAny_pure (wpAny_bind (wpAny_mkText (wpAny_bind (wpAny_loadPart ho ?_)))))))
  rw [hd]
  dsimp only
  rw [c]
  refine wpAny_updatePart ho (hQ _ _ ?_ (Heap.SameBut.update ..))
  show Heap.DictOf (mixKind prog w) (s.heap.update d (Obj.putName k (PyData.keyHash w.params k) (.str k s.toks) v)) d (kvs ++ [(Sum.inr k, v)])
  have hf : (Obj.putName k (PyData.keyHash w.params k) (.str k s.toks) v o).isFreed = false := by rw [e]; rfl
  refine ⟨_, (es.toList ++ [(⟨PyData.keyHash w.params k, .str k s.toks, v⟩ : DictEntry)]).toArray, ep + 1, Heap.get?_update_self _ ho hf, ?_, ?_, ?_, ?_, ?_⟩
  rotate_left
  · rw [e]
  · intro x hx
    rcases List.mem_append.mp (List.mem_toArray.mp hx) with hx | hx
    · exact hk x (by simpa using hx)
    · obtain rfl := List.mem_singleton.mp hx
      exact ⟨Sum.inr k, by show keyIs (Sum.inr k) (Value.str k s.toks) = true; simp [keyIs, Value.isStr, Value.isStrOf], rfl⟩
  · have := hp.append (k := (Sum.inr k : Key)) (key := .str k s.toks) (by show keyIs (Sum.inr k) (Value.str k s.toks) = true; simp [keyIs, Value.isStr, Value.isStrOf]) (PyData.keyHash w.params k) v
    simpa using this
  · rw [List.map_append, List.nodup_append]
    refine ⟨hn, by simp, ?_⟩
    intro a ha b hb
    simp only [List.map_cons, List.map_nil, List.mem_singleton] at hb
    subst hb
    exact fun e => hnew (e ▸ ha)
  · rw [e]; exact ⟨rfl, rfl, rfl⟩
theorem wp_nsFill {d : Addr} {Q : PUnit → Shared → Prop} : ∀ (kws done : List (Str × Value)) (s : Shared), s.heap.DictOf (mixKind prog w) d (done.map fun p => (Sum.inr p.1, p.2)) → ((done ++ kws).map (·.1)).Nodup →
    (∀ h' n, h'.DictOf (mixKind prog w) d ((done ++ kws).map fun p => (Sum.inr p.1, p.2)) → Heap.SameBut d s.heap h' → Q ⟨⟩ { s with heap := h', toks := n }) →
    wpAny (model prog w) A (forIn kws PUnit.unit fun x _ => (nsSet d x.1 x.2 >>= fun _ => pure (ForInStep.yield PUnit.unit))) Q E s
  | [], done, s, hd, _, h => by
    rw [List.forIn_nil]
    rw [List.append_nil] at h
    exact wpAny_pure (h s.heap s.toks hd (Heap.SameBut.refl _ _))
  | x :: r, done, s, hd, hn, h => by
    rw [List.forIn_cons]
    have hn1 : (Sum.inr x.1 : Key) ∉ (done.map fun p => ((Sum.inr p.1 : Key), p.2)).map (·.1) := by
      intro hm
      simp only [List.map_map, List.mem_map, Function.comp] at hm
      obtain ⟨p, hp, he⟩ := hm
      injection he with he
      rw [List.map_append, List.nodup_append] at hn
      exact hn.2.2 p.1 (List.mem_map_of_mem hp) x.1 (by simp) he
    refine wpAny_bind (wpAny_bind (wp_nsNew hd (fun p hp => ?_) hn1 fun h' n hd' hs' => wpAny_pure ?_))
    · obtain ⟨q, _, rfl⟩ := List.mem_map.mp hp
      exact ⟨_, rfl⟩
    · refine wp_nsFill r (done ++ [x]) _ (by simpa using hd') (by simpa using hn) fun h'' n' hd'' hs'' => ?_
      exact h h'' n' (by simpa using hd'') (hs'.trans hs'')
end
end My

set_option Elab.async false
set_option linter.all false
set_option maxRecDepth 100000
set_option maxHeartbeats 4000000
/-! own library My, part 13: defs with **d, classes made with **d or with keywords -/
namespace My
open PySem PySem.Spec PyProof.Rows L2 StX
/-- keywords as the keys of a dict -/
def kwK {α : Type} (l : List (Str × α)) : List (Key × α) := l.map fun p => (Sum.inr p.1, p.2)
/-- the promise of a def f(a, .., **d) that is called with n values and keywords: what is left is a new dict -/
def FnSS (P : Program) (w : World) (K : PySem.W.Frag) (mg : Str → Option Value) (base : Heap) (CX : CXT) (k : Nat) (f : Addr) (n : Nat) (bad : List Str) (spb : Sp) : Prop :=
  ∀ (A : Around) (outer : List Env) (s : Shared) (H : Hp) (us : List Value) (vs : List V) (kus : List (Str × Value)) (kvs : List (Str × V)) (Q : VK) (E : XK), Room k A → Env0 P w K mg base A outer s H → Vals vs us → vs.length = n → KV kvs kus → (kvs.map (·.1)).Nodup →
    (∀ p ∈ kvs, p.1 ∉ bad) → kvs.length ≤ sizeLine → (∀ c, H c = none → spb (vs ++ [.ref c]) (upd H c (.dK (kwK kvs))) Q E) → codeAny (model P w) A (.call (.ref f) ⟨us, kus⟩) (CR CX outer P w H s Q E) s
theorem kv_kwK {kvs : List (Str × V)} {kus : List (Str × Value)} (h : KV kvs kus) : KV (kwK kvs) (kwK kus) := by
  induction h with
  | nil => exact .nil
  | cons a r ih => exact .cons ⟨congrArg Sum.inr a.1, a.2⟩ ih
theorem kv_names {α : Type} {kvs : List (α × V)} {kus : List (α × Value)} (h : KV kvs kus) : kvs.map (·.1) = kus.map (·.1) := by
  induction h with
  | nil => rfl
  | cons a r ih => rw [List.map_cons, List.map_cons, a.1, ih]
theorem kw_loop {α : Type} {bad : List Str} {f : Str × Value → α × List (Str × Value) → Sem (ForInStep (α × List (Str × Value)))} (hf : ∀ p st, p.1 ∉ bad → f p st = pure (.yield (st.1, st.2 ++ [p]))) : ∀ (kws : List (Str × Value)) (a : α) (acc : List (Str × Value)), (∀ p ∈ kws, p.1 ∉ bad) → forIn kws (a, acc) f = pure (a, acc ++ kws)
  | [], a, acc, _ => by rw [List.forIn_nil, List.append_nil]
  | p :: r, a, acc, h => by
    rw [List.forIn_cons, hf p _ (h p (.head _)), pure_bind]
    show forIn r (a, acc ++ [p]) f = _
    rw [kw_loop hf r a _ fun q hq => h q (.tail _ hq), List.append_assoc]
    rfl
section
variable {CX : CXT} {P : Program} {w : World} {K : PySem.W.Frag} {mg : Str → Option Value} {base : Heap} {k n : Nat} {f : Addr} {name qual : Str} {params : Arguments} {body : List Stmt} {scope : Scope} {dV kV doc pm cdv ct oc : Value} {an od : Option Addr}
  {osl : Array (Option Value)} {N ps : List Str} {sp : Sp} {bad : List Str}
/-- how a def with **d binds: from what bindArgs comes to -/
def BindSS (K : PySem.W.Frag) (P : Program) (w : World) (fd : FuncData) (n : Nat) (bad ps : List Str) (dd : List Value) (pd : Str) : Prop :=
  ∀ (A : Around) (Ex : Value → Shared → Prop) (s : Shared) (us : List Value) (kus : List (Str × Value)) (Q : List (Str × Value) → Shared → Prop), K.In s.heap → us.length = n → (∀ p ∈ kus, p.1 ∉ bad) → kus.length ≤ sizeLine →
    wpAny (model P w) A (alloc ({ cls := .type "dict", data := .dict #[] } : Obj)) (fun d s1 => wpAny (model P w) A (forIn kus PUnit.unit fun x _ => (nsSet d x.1 x.2 >>= fun _ => pure (ForInStep.yield PUnit.unit))) (fun _ s2 => Q (ps.zip (us ++ dd) ++ [(pd, .ref d)]) s2) Ex s1) Ex s →
    wpAny (model P w) A (bindArgs fd ⟨us, kus⟩) Q Ex s
theorem fn_ss {pd : Str} {dd : List Value} {dvs : List V} (lk : K.lookup f = some ⟨oc, od, .func (PySem.W.fnOf name qual params body scope dV kV doc pm an cdv ct), osl⟩) (hcd : PySem.W.codeIn K cdv qual = true) (S : FnScope N (ps ++ [pd]) scope) (hCX : CXUp CX)
    (hb : BindSS K P w (PySem.W.fnOf name qual params body scope dV kV doc pm an cdv ct) n bad ps dd pd) (hdd : Vals dvs dd) (hn : n + dd.length = ps.length)
    (hbody : ∀ (A : Around) (outer : List Env) (s : Shared) (H : Hp) (vs : List V) (Q : VK) (E : XK), Room k (A.deeper (envOfC qual scope s.heap.objs.size f cdv)) → sp vs H Q E →
      ∃ t, PSs (cxOf CX P w K mg base N qual scope f cdv A outer s H E) body t ∧ t { nx := fun _ H' => Q .non H', rt := Q } (start N vs) H) :
    FnSS P w K mg base CX (k + 1) f n bad (fun vs H Q E => sp (vs.dropLast ++ dvs ++ vs.drop (vs.length - 1)) H Q E) := by
  intro A outer s H us vs kus kvs Q E hr e0 r hl rk hnd hbad hz hq
  have KX : K.In s.heap := e0.mod.kin.keeps fun b o e => (e0.bs b o e).1
  have hn' : H s.heap.objs.size = none := e0.hok.fresh (Nat.le_refl _)
  have hlu : us.length = n := by rw [← r.length]; exact hl
  have hzk : kus.length ≤ sizeLine := by rw [← rk.length]; exact hz
  have hnames := kv_names rk
  have hbad' : ∀ p ∈ kus, p.1 ∉ bad := fun p hp => by
    have : p.1 ∈ kvs.map (·.1) := by rw [hnames]; exact List.mem_map_of_mem hp
    obtain ⟨q, hq, e⟩ := List.mem_map.mp this
    rw [← e]; exact hbad q hq
  have hq' : ∀ c, H c = none → sp (vs ++ dvs ++ [.ref c]) (upd H c (.dK (kwK kvs))) Q E := fun c hc => by
    have := hq c hc
    simpa using this
  refine run_bnd lk hcd S hr e0 (G := fun xs H2 => ∃ p, H p = none ∧ xs = vs ++ dvs ++ [V.ref p] ∧ H2 = upd H p (.dK (kwK kvs))) (fun A' Ex Q' h => ?_) fun s2 H2 xs ⟨p, hp, ex, eH⟩ hr' => ?_
  · refine hb A' Ex s us kus Q' KX hlu hbad' hzk (wpAny_alloc ?_)
    have e1 := env0_laid (u := .dK []) (o := ({ cls := .type "dict", data := .dict #[] } : Obj)) e0 (dk_empty _ (env0_big e0))
    obtain ⟨_, hS, vs0, rel0, dd0⟩ := dk_of e1.hok (upd_same (H := H) (a := s.heap.objs.size) (o := .dK []))
    cases rel0
    refine wp_nsFill kus [] _ dd0 (by rw [List.nil_append, ← hnames]; exact hnd) fun h' t' hd' hs' => ?_
    rw [List.nil_append] at hd'
    have kp : ∀ b x, s.heap.get? b = some x → h'.get? b = some x := fun b x e => by
      have hne : b ≠ s.heap.objs.size := Nat.ne_of_lt (Heap.lt_size e)
      rw [hs'.2 b hne]; exact Heap.get?_push_of_some _ e
    have new : ObjOk P w (upd H s.heap.objs.size (.dK (kwK kvs))) h' s.heap.objs.size (.dK (kwK kvs)) := dk_new (by unfold kwK; rw [List.length_map]; exact hz) hS (kv_kwK rk) hd'
    have un : Un (frs outer) [] H (upd H s.heap.objs.size (.dK (kwK kvs))) s.heap h' := Un.laid kp (Nat.le_refl _) hn'
    have e2 : Env0 P w K mg base A outer { s with heap := h', toks := t' } (upd H s.heap.objs.size (.dK (kwK kvs))) := by
      refine ⟨e0.frames, e0.mod, fun b x e => ⟨kp b x (e0.bs b x e).1, ?_⟩, ?_, Heap.FunFrames.of_keeps (fun b x e _ => ⟨x, kp b x e, rfl⟩) e0.funs, fun b hb => ?_, e0.hok.laid kp (Nat.le_refl _) new, e0.bare⟩
      · rw [upd_ne (Nat.ne_of_lt (Heap.lt_size (e0.bs b x e).1))]
        exact (e0.bs b x e).2
      · show base.objs.size ≤ h'.objs.size
        have e1 : h'.objs.size = (s.heap.push ({ cls := .type "dict", data := .dict #[] } : Obj)).objs.size := hs'.1
        rw [e1, Heap.size_push]
        exact Nat.le_succ_of_le e0.bsz
      · obtain ⟨_, x, hx, _⟩ := e0.funs.mem hb
        rw [upd_ne (Nat.ne_of_lt (Heap.lt_size hx))]
        exact e0.frf b hb
    have z := h _ _ (vs ++ dvs ++ [V.ref s.heap.objs.size]) (us ++ dd ++ [Value.ref s.heap.objs.size]) e2 un rfl (fun e s' => hCX outer s H _ _ E e s' un kp rfl) ((r.append hdd).append (.cons rfl .nil)) (by
      rw [List.length_append, List.length_append, List.length_append, hl, hdd.length, hn]; rfl) ⟨_, hn', rfl, rfl⟩
    rw [List.zip_append (by rw [List.length_append, hlu, hn])] at z
    exact z
  · subst ex eH
    exact hbody A outer s2 _ _ Q E hr' (hq' p hp)
end
/-! ### C(e, .., **d), C(e, .., k = v, ..) -/
def tMakeSS (C : Addr) (n : Nat) (bad : List Str) (spb : Sp) (E : XK) (tf : TE) (t : TA) (te : TE) : TE := fun σ H Q => tf σ H fun y H0 => y = V.ref C ∧ t σ H0 fun vs H1 => ∀ d, H1 d = none → te σ (upd H1 d (.dK [])) fun y H2 => ∃ a kvs, y = V.ref a ∧ d ≠ a ∧ Rd H2 a (.dK (kwK kvs)) ∧ H2 d = some (.dK []) ∧
  vs.length + 1 = n ∧ (∀ p ∈ kvs, p.1 ∉ bad) ∧ ∀ x dx c, H2 x = none → H2 dx = none → H2 c = none → dx ≠ x → c ≠ x → c ≠ dx → spb (V.ref x :: vs ++ [V.ref c]) (upd (upd (upd (upd H2 d (.dK (kwK kvs))) dx (.own x)) x (.ins C dx [])) c (.dK (kwK kvs))) (fun v H3 => v = .non ∧ Q (.ref x) H3) E
def tMakeKS (C : Addr) (n : Nat) (bad ks : List Str) (spb : Sp) (E : XK) (t tk : TA) : TE := fun σ H Q => t σ H fun vs H1 => tk σ H1 fun zs H2 => vs.length + 1 = n ∧ zs.length = ks.length ∧
  ∀ x dx c, H2 x = none → H2 dx = none → H2 c = none → dx ≠ x → c ≠ x → c ≠ dx → spb (V.ref x :: vs ++ [V.ref c]) (upd (upd (upd H2 dx (.own x)) x (.ins C dx [])) c (.dK (kwK (ks.zip zs)))) (fun v H3 => v = .non ∧ Q (.ref x) H3) E
section
variable {X : Cx} {CX : CXT} {k n : Nat} {bad : List Str} {f C : Addr} {spb : Sp} {E : XK} {x : Str} {e fe kd : Expr} {es : List Expr} {tf te : TE} {t tk : TA} {p pos kp : Pos} {ks : List Str} {kws : List Keyword}
theorem run_makeSS {pins : List (Addr × Obj)} {σ : L2.St} {H : Hp} {s : Shared} {Q : VK} {us : List Value} {vs : List V} {kus : List (Str × Value)} {kvs : List (Str × V)} (M : Mk X.K C f) (F : FnSS X.prog X.w X.K X.mg X.base CX k f n bad spb) (hr : Room (k + 1) X.A) (hx : Passes CX X E) (I : Inv X pins σ H s) (r : Vals vs us)
    (hl : vs.length + 1 = n) (rk : KV kvs kus) (hnd : (kvs.map (·.1)).Nodup) (hbad : ∀ p ∈ kvs, p.1 ∉ bad) (hz : kvs.length ≤ sizeLine)
    (h : ∀ x dx c, H x = none → H dx = none → H c = none → dx ≠ x → c ≠ x → c ≠ dx → spb (V.ref x :: vs ++ [V.ref c]) (upd (upd (upd H dx (.own x)) x (.ins C dx [])) c (.dK (kwK kvs))) (fun v H2 => v = .non ∧ Q (.ref x) H2) E) :
    wpAny (model X.prog X.w) X.A (call (.ref C) us kus) (EP X pins σ Q) X.xe s := by
  have I2 := Inv.made (C := C) I
  have r2 : Vals (V.ref (s.heap.objs.size + 1) :: vs) (Value.ref (s.heap.objs.size + 1) :: us) := .cons rfl r
  have hq : ∀ c, upd (upd H s.heap.objs.size (.own (s.heap.objs.size + 1))) (s.heap.objs.size + 1) (.ins C s.heap.objs.size []) c = none → spb (V.ref (s.heap.objs.size + 1) :: vs ++ [V.ref c]) (upd (upd (upd H s.heap.objs.size (.own (s.heap.objs.size + 1))) (s.heap.objs.size + 1) (.ins C s.heap.objs.size [])) c (.dK (kwK kvs))) (fun v H2 => v = .non ∧ Q (.ref (s.heap.objs.size + 1)) H2) E := fun c hc => by
    have n1 : c ≠ s.heap.objs.size + 1 := fun z => by rw [z, upd_same] at hc; cases hc
    rw [upd_ne n1] at hc
    have n2 : c ≠ s.heap.objs.size := fun z => by rw [z, upd_same] at hc; cases hc
    rw [upd_ne n2] at hc
    exact h (s.heap.objs.size + 1) s.heap.objs.size c (I.hok.fresh (Nat.le_succ _)) (I.hok.fresh (Nat.le_refl _)) hc (Nat.ne_of_lt (Nat.lt_succ_self _)) n1 n2
  refine wpAny_call (make_map (f := f) I.kIn M.makes M.init (beq_iff_eq.mp M.fn) (codeAny_mono (F _ X.stack _ _ (Value.ref (s.heap.objs.size + 1) :: us) _ kus kvs _ E (hr.make C us kus) (I2.env0.make C us kus) r2 (by rw [List.length_cons]; exact hl) rk hnd hbad hz hq) fun r s' hq' => ?_))
  cases r with
  | error e => exact hx pins σ _ _ e s' I2 hq'
  | ok fl =>
    cases fl with
    | ret u =>
      obtain ⟨v, H', I3, rv, ev, q3⟩ := I2.after hq'
      subst ev
      exact ⟨rv, ⟨V.ref (s.heap.objs.size + 1), H', I3, rfl, q3⟩⟩
    | next => exact False.elim hq'
    | brk => exact False.elim hq'
    | cont => exact False.elim hq'
theorem kwK_inv : ∀ {kvs : List (Str × V)} {vs : List (Key × Value)}, KV (kwK kvs) vs → ∃ kus, vs = kwK kus ∧ KV kvs kus
  | [], [], _ => ⟨[], rfl, .nil⟩
  | (a, v) :: r, (b, u) :: ws, .cons h t => by
    obtain ⟨kus, rfl, h2⟩ := kwK_inv (kvs := r) t
    obtain ⟨h3, h4⟩ := h
    have h3 : (Sum.inr a : Key) = b := h3
    subst h3
    exact ⟨(a, u) :: kus, rfl, .cons ⟨rfl, h4⟩ h2⟩
theorem kwK_nodup {α : Type} : ∀ {l : List (Str × α)}, ((kwK l).map (·.1)).Nodup → (l.map (·.1)).Nodup := fun {l} h => by
  have : (kwK l).map (·.1) = (l.map (·.1)).map Sum.inr := by simp [kwK]
  rw [this] at h
  exact (List.pairwise_map.mp h).imp fun {a b} hne e => hne (by rw [e])
theorem pe_makeSS (M : Mk X.K C f) (F : FnSS X.prog X.w X.K X.mg X.base CX k f n bad spb) (hr : Room (k + 1) X.A) (hf : PE X (.Name x p) tf) (hx : Passes CX X E) (ha : PA X (e :: es) t) (hk : PE X kd te)
    (he : starEach (e :: es) X.env = (false, eval e X.env) :: starEach es X.env := by rfl) : PE X (.Call (.Name x p) (e :: es) [⟨none, kd, kp⟩] pos) (tMakeSS C n bad spb E tf t te) := by
  refine ⟨fun pins s σ H Q I h => ?_⟩
  refine wpAny_Call_Name_kw (thn (hf.run pins s σ H _ I h) fun u s0 ⟨y, H0, I0, ry, ey, q⟩ => ?_)
  subst ey
  obtain rfl : u = Value.ref C := ry
  refine wp_callSS (P := fun h => X.K.In h) (by show (_ || true) = true; rw [Bool.or_true]) (PySem.W.keeps_K M.kp) ?_
  have hs : backTo pos (starEach (e :: es) X.env) = (false, eval e X.env) :: backTo pos (starEach es X.env) := by rw [he]; rfl
  rw [hs]
  refine wp_evalArgsK (x := (do let v ← eval kd X.env; standAt pos; pure v)) ?_
  rw [← hs]
  refine thn (ha.run pos pins s0 σ H0 _ I0 q) fun us s1 ⟨vs, H1, I1, r, q1⟩ => ?_
  have hn := I1.hok.fresh (Nat.le_refl s1.heap.objs.size)
  have I2 := I1.laid (a := s1.heap.objs.size) (o := .dK []) (t' := s1.toks) (fun _ _ q => Heap.get?_push_of_some _ q) (Nat.le_refl _) (dk_empty s1.heap I1.big)
  unfold KwGives
  refine wpAny_bind (thn (hk.run pins _ σ _ _ I2 (q1 _ hn)) fun u s3 ⟨y, H3, I3, ry, a, kvs, ey, hne, hd, hd0, hl, hbad, q3⟩ => wpAny_bind (wpAny_standAt (wpAny_pure ?_)))
  subst ey
  obtain rfl : u = Value.ref a := ry
  obtain ⟨z0, hS0, vs0, rel0, dd0⟩ := dk_of I3.hok hd0
  cases rel0
  obtain ⟨z, hS, vs1, rel1, dd1⟩ := dk_rd I3.hok hd
  obtain ⟨kus, rfl, rk⟩ := kwK_inv rel1
  have hzk : kvs.length ≤ sizeLine := by unfold kwK at z; rw [List.length_map] at z; exact z
  refine ⟨a, kus, rfl, hne, hS, dd0, dd1, by rw [← rk.length]; exact hzk, fun h' hd' hs' => ?_⟩
  have I4 : Inv X pins σ (upd H3 s1.heap.objs.size (.dK (kwK kvs))) { s3 with heap := h' } := by
    have he : ∃ q, h'.get? s1.heap.objs.size = some q := let ⟨q, _, _, hq, _⟩ := hd'; ⟨q, hq⟩
    exact d_write I3 (by rw [hd0]; exact True.intro) hs' he (dk_new z hS0 rel1 hd')
  refine ⟨I4.kIn, ?_⟩
  have hnd : (kvs.map (·.1)).Nodup := by
    obtain ⟨_, _, _, _, _, _, _, _, hn⟩ := dd1
    have := kwK_nodup (l := kus) hn
    rw [kv_names rk]; exact this
  refine run_makeSS M F hr hx I4 r hl rk hnd hbad hzk fun x dx c h1 h2 h3 n1 n2 n3 => ?_
  have fr : ∀ b, upd H3 s1.heap.objs.size (.dK (kwK kvs)) b = none → H3 b = none := fun b hb => by
    by_cases z : b = s1.heap.objs.size
    · rw [z, upd_same] at hb; cases hb
    · rw [upd_ne z] at hb; exact hb
  exact q3 x dx c (fr _ h1) (fr _ h2) (fr _ h3) n1 n2 n3
theorem kv_zip : ∀ {ks : List Str} {zs : List V} {ws : List Value}, Vals zs ws → KV (ks.zip zs) (ks.zip ws)
  | [], _, _, _ => .nil
  | _ :: _, [], [], .nil => .nil
  | _ :: _, _ :: _, _ :: _, .cons h t => .cons ⟨rfl, h⟩ (kv_zip t)
theorem pe_makeKS (M : Mk X.K C f) (F : FnSS X.prog X.w X.K X.mg X.base CX k f n bad spb) (hr : Room (k + 1) X.A) (hg : Gl X x) (hm : X.mg x = some (.ref C)) (hx : Passes CX X E) (ha : PA X (e :: es) t) (hkw : PK X kws tk) (hnd : ks.Nodup) (hbad : ∀ k ∈ ks, k ∉ bad) (hz : ks.length ≤ sizeLine)
    (hall : (backToKw pos (keywordEach kws X.env)).all (·.1.isSome) = true := by rfl) (hks : (backToKw pos (keywordEach kws X.env)).filterMap (·.1) = ks := by rfl)
    (hdb : (x == ("__debug__" : Str)) = false := by decide) (he : starEach (e :: es) X.env = (false, eval e X.env) :: starEach es X.env := by rfl)
    (hpl : ((backTo pos (starEach (e :: es) X.env)).any (·.1) || (backToKw pos (keywordEach kws X.env)).any (·.1.isNone)) = false := by rfl) :
    PE X (.Call (.Name x p) (e :: es) kws pos) (tMakeKS C n bad ks spb E t tk) := by
  refine ⟨fun pins s σ H Q I h => ?_⟩
  refine wpAny_Call_Name_kw (ld_glob I hg hm ?_ hdb)
  refine PySem.W.callWith_KW (h₀ := X.base) I.ok.mod.kin M.kp hall (thn (ha.run pos pins s σ H _ I h) fun us s1 ⟨vs, H1, I1, r, q⟩ => ?_) hpl he
  refine thn (hkw.run pos pins s1 σ H1 _ I1 q) fun ws s2 ⟨zs, H2, I2, rz, l1, l2, q2⟩ => ⟨I2.kIn, ?_⟩
  rw [hks]
  have hn : (ks.zip zs).map (·.1) = ks := List.map_fst_zip (by rw [l2]; exact Nat.le_refl _)
  refine run_makeSS M F hr hx I2 r l1 (kv_zip rz) (by rw [hn]; exact hnd) (fun p hp => hbad _ (by rw [← hn]; exact List.mem_map_of_mem hp)) (by rw [List.length_zip, l2, Nat.min_self]; exact hz) q2
theorem pe_makeKS0 (M : Mk X.K C f) (F : FnSS X.prog X.w X.K X.mg X.base CX k f 1 bad spb) (hr : Room (k + 1) X.A) (hg : Gl X x) (hm : X.mg x = some (.ref C)) (hx : Passes CX X E) (hkw : PK X kws tk) (hnd : ks.Nodup) (hbad : ∀ k ∈ ks, k ∉ bad) (hz : ks.length ≤ sizeLine)
    (hall : (backToKw pos (keywordEach kws X.env)).all (·.1.isSome) = true := by rfl) (hks : (backToKw pos (keywordEach kws X.env)).filterMap (·.1) = ks := by rfl)
    (hdb : (x == ("__debug__" : Str)) = false := by decide)
    (hpl : ((backTo pos (starEach [] X.env)).any (·.1) || (backToKw pos (keywordEach kws X.env)).any (·.1.isNone)) = false := by rfl) :
    PE X (.Call (.Name x p) [] kws pos) (tMakeKS C 1 bad ks spb E (fun _ H Q => Q [] H) tk) := by
  refine ⟨fun pins s σ H Q I h => ?_⟩
  refine wpAny_Call_Name_kw (ld_glob I hg hm ?_ hdb)
  refine PySem.W.callWith_KW0 (h₀ := X.base) I.ok.mod.kin M.kp hall ?_ hpl
  refine thn (hkw.run pos pins s σ H _ I h) fun ws s2 ⟨zs, H2, I2, rz, l1, l2, q2⟩ => ⟨I2.kIn, ?_⟩
  rw [hks]
  have hn : (ks.zip zs).map (·.1) = ks := List.map_fst_zip (by rw [l2]; exact Nat.le_refl _)
  refine run_makeSS M F hr hx I2 .nil l1 (kv_zip rz) (by rw [hn]; exact hnd) (fun p hp => hbad _ (by rw [← hn]; exact List.mem_map_of_mem hp)) (by rw [List.length_zip, l2, Nat.min_self]; exact hz) q2
end
end My

set_option Elab.async false
set_option linter.all false
set_option maxRecDepth 100000
set_option maxHeartbeats 4000000
/-! own library My, part 14: binding of **d at work; own operators -/
namespace My
open PySem PySem.Spec PyProof.Rows L2 StX
theorem contains_not {k : Str} {l : List Str} (h : k ∉ l) : l.contains k = false := by
  cases e : l.contains k with
  | false => rfl
  | true => exact absurd (List.contains_iff_mem.mp e) h
theorem bindSS_2 {K : PySem.W.Frag} {P : Program} {w : World} {x qual : Str} {n1 n2 n3 : Option Expr} {p1 p2 p3 : Pos} {kwd : List (Option Expr)} {df : List Expr} {body : List Stmt} {scope : Scope} {T : Addr} {o : Obj} {d0 : Value} {m : Nat} {kV doc pm cdv ct : Value} {an : Option Addr} (lT : K.lookup T = some o) (oT : o.data = .seq #[d0] m) :
    BindSS K P w (PySem.W.fnOf x qual ⟨[], [⟨"self", n1, p1⟩, ⟨"constant", n2, p2⟩], none, [], kwd, some ⟨"coefficients", n3, p3⟩, df⟩ body scope (.ref T) kV doc pm an cdv ct) 2 ["self", "constant"] ["self", "constant"] [] "coefficients" := by
  intro A Ex s us kus Q X hl hb hz h
  match us, hl with
  | [u1, u2], _ =>
  unfold bindArgs
  refine wpAny_bind ?_
  rw [kw_loop (bad := ["self", "constant"]) (fun p st hp => ?hf) kus _ [] hb]
  case hf =>
    show (if ((["self", "constant"] : List Str).contains p.1 || ([] : List Str).contains p.1) = true then _ else _) = _
    rw [contains_not hp]
    rfl
  refine wpAny_pure ?_
  refine wpAny_bind (wpAny_seqItems (X _ _ lT) oT ?_)
  show wpAny _ A (if ([] ++ kus).length > sizeLine + 1 then _ else _) Q Ex s
  rw [List.nil_append, if_neg (by omega)]
  refine wpAny_bind (wpAny_mono h (fun d s1 h1 => ?_) fun _ _ z => z)
  refine wpAny_bind (wpAny_mono h1 (fun d s1 h1 => ?_) fun _ _ z => z)
  exact wpAny_pure h1
theorem bindSS_1 {K : PySem.W.Frag} {P : Program} {w : World} {x qual : Str} {n1 n2 n3 : Option Expr} {p1 p2 p3 : Pos} {kwd : List (Option Expr)} {df : List Expr} {body : List Stmt} {scope : Scope} {T : Addr} {o : Obj} {d0 : Value} {m : Nat} {kV doc pm cdv ct : Value} {an : Option Addr} (lT : K.lookup T = some o) (oT : o.data = .seq #[d0] m) :
    BindSS K P w (PySem.W.fnOf x qual ⟨[], [⟨"self", n1, p1⟩, ⟨"constant", n2, p2⟩], none, [], kwd, some ⟨"coefficients", n3, p3⟩, df⟩ body scope (.ref T) kV doc pm an cdv ct) 1 ["self", "constant"] ["self", "constant"] [d0] "coefficients" := by
  intro A Ex s us kus Q X hl hb hz h
  match us, hl with
  | [u1], _ =>
  unfold bindArgs
  refine wpAny_bind ?_
  rw [kw_loop (bad := ["self", "constant"]) (fun p st hp => ?hf) kus _ [] hb]
  case hf =>
    show (if ((["self", "constant"] : List Str).contains p.1 || ([] : List Str).contains p.1) = true then _ else _) = _
    rw [contains_not hp]
    rfl
  refine wpAny_pure ?_
  refine wpAny_bind (wpAny_seqItems (X _ _ lT) oT ?_)
  show wpAny _ A (if ([] ++ kus).length > sizeLine + 1 then _ else _) Q Ex s
  rw [List.nil_append, if_neg (by omega)]
  refine wpAny_bind (wpAny_mono h (fun d s1 h1 => ?_) fun _ _ z => z)
  refine wpAny_bind (wpAny_mono h1 (fun d s1 h1 => ?_) fun _ _ z => z)
  exact wpAny_pure h1

/-! ### int op instance: the int declines -/
section
open Builtin
theorem dec_add (a : Int) (t : Tok) (l : Addr) (c : Value) (dd : Option Addr) (sl : Array (Option Value)) : Meets (Builtin.«int.__add__» ⟨[.int a t, .ref l], []⟩) (fun _ R s => s.heap.get? l = some { cls := c, dict := dd, data := .plain, slots := sl } ∧ R (.ok (.ret Value.notImplemented)) s) :=
  .of_wp fun prog w A R s h => by obtain ⟨hp, g, d, tk, os⟩ := s; obtain ⟨hl, h⟩ := h; wp_walk using wpAny_loadPart' hl, wpAny_load hl; exact ⟨_, rfl, h⟩
theorem dec_sub (a : Int) (t : Tok) (l : Addr) (c : Value) (dd : Option Addr) (sl : Array (Option Value)) : Meets (Builtin.«int.__sub__» ⟨[.int a t, .ref l], []⟩) (fun _ R s => s.heap.get? l = some { cls := c, dict := dd, data := .plain, slots := sl } ∧ R (.ok (.ret Value.notImplemented)) s) :=
  .of_wp fun prog w A R s h => by obtain ⟨hp, g, d, tk, os⟩ := s; obtain ⟨hl, h⟩ := h; wp_walk using wpAny_loadPart' hl, wpAny_load hl; exact ⟨_, rfl, h⟩
theorem dec_mul (a : Int) (t : Tok) (l : Addr) (c : Value) (dd : Option Addr) (sl : Array (Option Value)) : Meets (Builtin.«int.__mul__» ⟨[.int a t, .ref l], []⟩) (fun _ R s => s.heap.get? l = some { cls := c, dict := dd, data := .plain, slots := sl } ∧ R (.ok (.ret Value.notImplemented)) s) :=
  .of_wp fun prog w A R s h => by obtain ⟨hp, g, d, tk, os⟩ := s; obtain ⟨hl, h⟩ := h; wp_walk using wpAny_loadPart' hl, wpAny_load hl; exact ⟨_, rfl, h⟩
end
end My

set_option Elab.async false
set_option linter.all false
set_option maxRecDepth 100000
set_option maxHeartbeats 4000000
/-! own library My, part 15: own operators -/
namespace My
open PySem PySem.Spec PyProof.Rows L2 StX
/-- what + (-, *) of instances of C asks: the def f for instance op y, the def r for int op instance -/
structure OwnOp (K : PySem.W.Frag) (C f r : Addr) (op : Operator) : Prop where
  sf : PySem.W.selfFirst K C = true
  lf : Spc K C (PySem.dunder op.info.2) f
  rt : Spc K C (dunderR op.info.2) r
  i1 : ∃ fo, PySem.W.findIn K (.type "int") (PySem.dunder op.info.2) = some fo
  i2 : ∃ ro, PySem.W.findIn K (.type "int") (dunderR op.info.2) = some ro
  s1 : PySem.W.subIn K (.type "int") (.ref C) = some false
  s2 : PySem.W.subIn K (.ref C) (.type "int") = some false
def someB {α : Type} (o : Option α) : Bool := o.isSome
theorem someB_ok {α : Type} {o : Option α} (h : someB o = true) : ∃ x, o = some x := by
  cases o with
  | none => cases h
  | some x => exact ⟨x, rfl⟩
def ownOpB (c : Str) (op : Operator) : FaB := fun K => (PySem.W.selfFirst K (He.ga K c)) && ((He.eqO (PySem.W.findIn K (.ref (He.ga K c)) (PySem.dunder op.info.2)) (some (some (.ref (He.ma K (He.ga K c) (PySem.dunder op.info.2))))) && PySem.W.isFn K (.ref (He.ma K (He.ga K c) (PySem.dunder op.info.2)))) &&
  ((He.eqO (PySem.W.findIn K (.ref (He.ga K c)) (dunderR op.info.2)) (some (some (.ref (He.ma K (He.ga K c) (dunderR op.info.2))))) && PySem.W.isFn K (.ref (He.ma K (He.ga K c) (dunderR op.info.2)))) &&
  (someB (PySem.W.findIn K (.type "int") (PySem.dunder op.info.2)) && (someB (PySem.W.findIn K (.type "int") (dunderR op.info.2)) && ((PySem.W.subIn K (.type "int") (.ref (He.ga K c)) == some false) && (PySem.W.subIn K (.ref (He.ga K c)) (.type "int") == some false))))))
theorem ownOpB_ok {c : Str} {op : Operator} {K : PySem.W.Frag} (h : ownOpB c op K = true) : OwnOp K (He.ga K c) (He.ma K (He.ga K c) (PySem.dunder op.info.2)) (He.ma K (He.ga K c) (dunderR op.info.2)) op := by
  obtain ⟨h1, h⟩ := He.ba h
  obtain ⟨h2, h⟩ := He.ba h
  obtain ⟨h3, h⟩ := He.ba h
  obtain ⟨h4, h⟩ := He.ba h
  obtain ⟨h5, h⟩ := He.ba h
  obtain ⟨h6, h7⟩ := He.ba h
  exact ⟨h1, ⟨He.eqO_ok (He.ba h2).1, (He.ba h2).2⟩, ⟨He.eqO_ok (He.ba h3).1, (He.ba h3).2⟩, someB_ok h4, someB_ok h5, eq_of_beq h6, eq_of_beq h7⟩
theorem ownOpB_ok2 {c m r : Str} {op : Operator} {K : PySem.W.Frag} (h : ownOpB c op K = true) (hm : PySem.dunder op.info.2 = m) (hr : dunderR op.info.2 = r) : OwnOp K (He.ga K c) (He.ma K (He.ga K c) m) (He.ma K (He.ga K c) r) op := by
  subst hm hr
  exact ownOpB_ok h
section
variable {prog : Program} {w : World} {A : Around} {E : Value → Shared → Prop} {s : Shared} {K : PySem.W.Frag} {x C f r : Addr} {ox : Obj} {od : Option Obj}
theorem int_first {op : Operator} {i : Int} {t : Tok} {Q : Value → Shared → Prop} (X : K.In s.heap) (I : PySem.W.InstAt s.heap x ox C od) (O : OwnOp K C f r op) (hfi : fillsNumberSlot (.type "int") op.info.2 = pure true)
    (hdec : wpAny (model prog w) A (tryMethod (.int i t) (PySem.dunder op.info.2) (.ref x)) (fun r s' => r = none ∧ s' = s) E s)
    (h : wpAny (model prog w) A (call (.ref r) [.ref x, .int i t]) (PySem.W.CmpBack Q) E s) : wpAny (model prog w) A (binaryOp op (.int i t) (.ref x)) Q E s := by
  obtain ⟨cd, rest, hcd, hm⟩ := PySem.W.ksp_first O.sf
  have one := PySem.W.ksp_try X I O.rt.at_ O.rt.fi h
  have O2 := O.s2
  have Olf := O.lf.at_
  rcases hi : op.info with ⟨sym, nm'⟩
  rw [hi] at hdec one hfi Olf
  dsimp only at hdec one hfi Olf
  have L1 : PySem.W.Looks (model prog w) s.heap (typeOf (.int i t)) (.type "int") := PySem.W.Looks.of_pure rfl
  have L2 : PySem.W.Looks (model prog w) s.heap (typeOf (.ref x)) (.ref C) := I.type
  have L3 : PySem.W.Looks (model prog w) s.heap (fillsNumberSlot (.type "int") nm') true := PySem.W.Looks.of_pure hfi
  have L4 : PySem.W.Looks (model prog w) s.heap (fillsNumberSlot (.ref C) nm') true := PySem.W.fills_K X hcd hm Olf
  have L5 : PySem.W.Looks (model prog w) s.heap (isSubtype (.ref C) (.type "int")) false := PySem.W.looks_subIn X O2
  have L6 : PySem.W.Looks (model prog w) s.heap (numberSlotInPython (.type "int") nm') false := PySem.W.Looks.of_pure rfl
  have hne : (Value.type "int" == Value.ref C) = false := Bool.eq_false_iff.mpr fun q => by cases beq_iff_eq.mp q
  simp only [binaryOp, hi]
  refine wpAny_holding (wpAny_bind ?_)
  unfold binaryOp1
  refine wpAny_bind (L1.here (wpAny_bind (L2.here (wpAny_bind (L3.here ?_)))))
  simp only [hne, Bool.false_eq_true, if_false]
  refine wpAny_bind (L4.here ?_)
  simp only [Bool.and_self, if_true]
  refine wpAny_bind (L5.here ?_)
  simp only [Bool.false_eq_true, if_false, Bool.not_false, Bool.and_self, if_true]
  refine wpAny_bind (L6.here ?_)
  simp only [Bool.false_eq_true, if_false]
  refine wpAny_bind (wpAny_mono hdec (fun r s1 z => ?_) fun _ _ e => e)
  obtain ⟨rfl, rfl⟩ := z
  dsimp only
  refine wpAny_bind (wpAny_mono one (fun r s1 z => ?_) fun _ _ e => e)
  obtain ⟨v, rfl, hq⟩ := z
  exact wpAny_bind (wpAny_rule (wpAny_pure (wpAny_pure hq)))
end
theorem dcl_add {prog : Program} {w : World} {A : Around} {E : Value → Shared → Prop} (i : Int) (t : Tok) (x : Addr) (ox : Obj) (s : Shared) (e : s.heap.get? x = some ox) (hp : ox.data = .plain) :
    wpAny (model prog w) A (call (.builtin "int.__add__") [.int i t, .ref x]) (fun v s' => v = .notImplemented ∧ none = (none : Option Value) ∧ s' = s) E s := by
  obtain ⟨c, dd, data, sl⟩ := ox
  have hp : data = .plain := hp
  subst hp
  have h1 := call_meets (prog := prog) (w := w) (A := A) (E := E) (Q := fun v s' => v = .notImplemented ∧ none = (none : Option Value) ∧ s' = s) PySem.F.slot_int_add (typeIs_int s i t) PySem.F.entry_int_add (PySem.F.args_int_add_2 (.int i t) (.ref x)) (dec_add i t x c dd sl)
  exact h1 ⟨e, rfl, rfl, rfl⟩
theorem dclT_add {prog : Program} {w : World} {A : Around} {E : Value → Shared → Prop} (i : Int) (t : Tok) (x : Addr) (ox : Obj) (s : Shared) (e : s.heap.get? x = some ox) (hp : ox.data = .plain) :
    wpAny (model prog w) A (tryMethod (.int i t) (PySem.dunder (Operator.Add).info.2) (.ref x)) (fun r s' => r = none ∧ s' = s) E s := by
  have h1 := dcl_add (prog := prog) (w := w) (A := A) (E := E) i t x ox s e hp
  have h2 := typeIs_int s i t
  have h3 : Slot "int" (PySem.dunder (Operator.Add).info.2) "int.__add__" := PySem.F.slot_int_add
  generalize PySem.dunder (Operator.Add).info.2 = nm at h3 ⊢
  generalize "int.__add__" = id at h1 h3
  generalize "int" = T at h2 h3
  exact wpAny_tryMethod_declines (Q := fun r s' => r = none ∧ s' = s) h2 h3 h1
theorem dcl_sub {prog : Program} {w : World} {A : Around} {E : Value → Shared → Prop} (i : Int) (t : Tok) (x : Addr) (ox : Obj) (s : Shared) (e : s.heap.get? x = some ox) (hp : ox.data = .plain) :
    wpAny (model prog w) A (call (.builtin "int.__sub__") [.int i t, .ref x]) (fun v s' => v = .notImplemented ∧ none = (none : Option Value) ∧ s' = s) E s := by
  obtain ⟨c, dd, data, sl⟩ := ox
  have hp : data = .plain := hp
  subst hp
  have h1 := call_meets (prog := prog) (w := w) (A := A) (E := E) (Q := fun v s' => v = .notImplemented ∧ none = (none : Option Value) ∧ s' = s) PySem.F.slot_int_sub (typeIs_int s i t) PySem.F.entry_int_sub (PySem.F.args_int_sub_2 (.int i t) (.ref x)) (dec_sub i t x c dd sl)
  exact h1 ⟨e, rfl, rfl, rfl⟩
theorem dclT_sub {prog : Program} {w : World} {A : Around} {E : Value → Shared → Prop} (i : Int) (t : Tok) (x : Addr) (ox : Obj) (s : Shared) (e : s.heap.get? x = some ox) (hp : ox.data = .plain) :
    wpAny (model prog w) A (tryMethod (.int i t) (PySem.dunder (Operator.Sub).info.2) (.ref x)) (fun r s' => r = none ∧ s' = s) E s := by
  have h1 := dcl_sub (prog := prog) (w := w) (A := A) (E := E) i t x ox s e hp
  have h2 := typeIs_int s i t
  have h3 : Slot "int" (PySem.dunder (Operator.Sub).info.2) "int.__sub__" := PySem.F.slot_int_sub
  generalize PySem.dunder (Operator.Sub).info.2 = nm at h3 ⊢
  generalize "int.__sub__" = id at h1 h3
  generalize "int" = T at h2 h3
  exact wpAny_tryMethod_declines (Q := fun r s' => r = none ∧ s' = s) h2 h3 h1
theorem dcl_mul {prog : Program} {w : World} {A : Around} {E : Value → Shared → Prop} (i : Int) (t : Tok) (x : Addr) (ox : Obj) (s : Shared) (e : s.heap.get? x = some ox) (hp : ox.data = .plain) :
    wpAny (model prog w) A (call (.builtin "int.__mul__") [.int i t, .ref x]) (fun v s' => v = .notImplemented ∧ none = (none : Option Value) ∧ s' = s) E s := by
  obtain ⟨c, dd, data, sl⟩ := ox
  have hp : data = .plain := hp
  subst hp
  have h1 := call_meets (prog := prog) (w := w) (A := A) (E := E) (Q := fun v s' => v = .notImplemented ∧ none = (none : Option Value) ∧ s' = s) PySem.F.slot_int_mul (typeIs_int s i t) PySem.F.entry_int_mul (PySem.F.args_int_mul_2 (.int i t) (.ref x)) (dec_mul i t x c dd sl)
  exact h1 ⟨e, rfl, rfl, rfl⟩
theorem dclT_mul {prog : Program} {w : World} {A : Around} {E : Value → Shared → Prop} (i : Int) (t : Tok) (x : Addr) (ox : Obj) (s : Shared) (e : s.heap.get? x = some ox) (hp : ox.data = .plain) :
    wpAny (model prog w) A (tryMethod (.int i t) (PySem.dunder (Operator.Mult).info.2) (.ref x)) (fun r s' => r = none ∧ s' = s) E s := by
  have h1 := dcl_mul (prog := prog) (w := w) (A := A) (E := E) i t x ox s e hp
  have h2 := typeIs_int s i t
  have h3 : Slot "int" (PySem.dunder (Operator.Mult).info.2) "int.__mul__" := PySem.F.slot_int_mul
  generalize PySem.dunder (Operator.Mult).info.2 = nm at h3 ⊢
  generalize "int.__mul__" = id at h1 h3
  generalize "int" = T at h2 h3
  exact wpAny_tryMethod_declines (Q := fun r s' => r = none ∧ s' = s) h2 h3 h1
section
variable {X : Cx} {k : Nat} {f r C : Addr} {sp : Sp} {op : Operator}
def InsAt (C : Addr) (H : Hp) (a : Addr) : Prop := ∃ dx fs, H a = some (.ins C dx fs)
/-- instance op instance, instance op int -/
def rOpL (C : Addr) (sp : Sp) : R2 := fun x y H Q => ∃ a, x = .ref a ∧ InsAt C H a ∧ ((∃ b, y = .ref b ∧ InsAt C H b) ∨ ∃ i, y = .int i) ∧ sp [x, y] H Q (fun _ _ _ => False)
/-- int op instance -/
def rOpR (C : Addr) (sp : Sp) : R2 := fun x y H Q => ∃ i a, x = .int i ∧ y = .ref a ∧ InsAt C H a ∧ sp [y, x] H Q (fun _ _ _ => False)
theorem run_own {pins : List (Addr × Obj)} {σ : L2.St} {H : Hp} {s : Shared} {Q : VK} {us : List Value} {vs : List V} (F : FnR X.prog X.w X.K X.mg X.base CX0 k f sp) (hr : Room k X.A) (I : Inv X pins σ H s) (rv : Vals vs us) (h : sp vs H Q (fun _ _ _ => False)) :
    wpAny (model X.prog X.w) X.A (call (.ref f) us) (PySem.W.CmpBack (EP X pins σ Q)) X.xe s := by
  refine wpAny_call (codeAny_mono (F X.A X.stack s H us vs _ _ hr I.env0 rv h) fun r s' hq => ?_)
  cases r with
  | error er => exact False.elim hq
  | ok fl =>
    cases fl with
    | ret u =>
      obtain ⟨v, H', I3, rv3, q3⟩ := I.after hq
      exact SlX.cmpback rv3 ⟨v, H', I3, rv3, q3⟩
    | next => exact False.elim hq
    | brk => exact False.elim hq
    | cont => exact False.elim hq
theorem op_ownL (O : OwnOp X.K C f r op) (F : FnR X.prog X.w X.K X.mg X.base CX0 k f sp) (hr : Room k X.A) : OpR X (binaryOp op) (rOpL C sp) := by
  intro pins s σ H x y v u Q I rx ry h
  obtain ⟨a, rfl, ⟨dx, fs, ea⟩, hy, hsp⟩ := h
  obtain rfl : v = Value.ref a := rx
  obtain ⟨ox, od, J⟩ := inst_at I ea
  obtain ⟨m, hF⟩ := I.fr
  rcases hy with ⟨b, rfl, dy, gs, eb⟩ | ⟨i, rfl⟩
  · obtain rfl : u = Value.ref b := ry
    obtain ⟨oy, oe, J'⟩ := inst_at I eb
    exact PySem.W.binop_K hF I.ok.mod.kin J J'.type O.sf O.lf.at_ O.lf.fi (run_own (us := [.ref a, .ref b]) (vs := [.ref a, .ref b]) F hr I (.cons rfl (.cons rfl .nil)) hsp)
  · obtain ⟨t, rfl⟩ := ry
    obtain ⟨fo, i1⟩ := O.i1
    obtain ⟨ro, i2⟩ := O.i2
    exact PySem.W.ksp_binT (T := "int") hF I.ok.mod.kin J rfl O.sf O.lf.at_ O.lf.fi O.rt.at_ (.inr ⟨_, rfl⟩) i1 i2 O.s1 (run_own (us := [.ref a, .int i t]) (vs := [.ref a, .int i]) F hr I (.cons rfl (.cons ⟨t, rfl⟩ .nil)) hsp)
theorem opR_core (hfi : fillsNumberSlot (.type "int") op.info.2 = pure true) (hdec : ∀ (i : Int) (t : Tok) (x : Addr) (ox : Obj) (s : Shared), s.heap.get? x = some ox → ox.data = .plain → wpAny (model X.prog X.w) X.A (tryMethod (.int i t) (PySem.dunder op.info.2) (.ref x)) (fun r s' => r = none ∧ s' = s) X.xe s)
    (O : OwnOp X.K C f r op) (F : FnR X.prog X.w X.K X.mg X.base CX0 k r sp) (hr : Room k X.A) : OpR X (binaryOp op) (rOpR C sp) := by
  intro pins s σ H x y v u Q I rx ry h
  obtain ⟨i, a, rfl, rfl, ⟨dx, fs, ea⟩, hsp⟩ := h
  obtain ⟨t, rfl⟩ := rx
  obtain rfl : u = Value.ref a := ry
  obtain ⟨ox, od, J, hp⟩ := insC_at (X := X) (C := C) I (.inr ⟨dx, fs, ea⟩)
  exact int_first I.kIn J O hfi (hdec i t a ox s J.at_ hp) (run_own (us := [.ref a, .int i t]) (vs := [.ref a, .int i]) F hr I (.cons rfl (.cons ⟨t, rfl⟩ .nil)) hsp)
theorem op_ownR_add (O : OwnOp X.K C f r .Add) (F : FnR X.prog X.w X.K X.mg X.base CX0 k r sp) (hr : Room k X.A) : OpR X (binaryOp .Add) (rOpR C sp) :=
  opR_core PySem.F.fills_int_add (fun i t x ox s e hp => dclT_add i t x ox s e hp) O F hr
theorem op_ownR_sub (O : OwnOp X.K C f r .Sub) (F : FnR X.prog X.w X.K X.mg X.base CX0 k r sp) (hr : Room k X.A) : OpR X (binaryOp .Sub) (rOpR C sp) :=
  opR_core PySem.F.fills_int_sub (fun i t x ox s e hp => dclT_sub i t x ox s e hp) O F hr
theorem op_ownR_mul (O : OwnOp X.K C f r .Mult) (F : FnR X.prog X.w X.K X.mg X.base CX0 k r sp) (hr : Room k X.A) : OpR X (binaryOp .Mult) (rOpR C sp) :=
  opR_core PySem.F.fills_int_mul (fun i t x ox s e hp => dclT_mul i t x ox s e hp) O F hr
/-- - instance -/
def rNegO (C : Addr) (sp : Sp) : V → Hp → VK → Prop := fun x H Q => ∃ a, x = .ref a ∧ InsAt C H a ∧ sp [x] H Q (fun _ _ _ => False)
theorem back_of {P : Value → Shared → Prop} {v : Value} {s : Shared} (h : PySem.W.CmpBack P v s) : P v s := by
  cases v <;> first | exact h | exact False.elim h
theorem un_ownNeg (S : Spc X.K C "__neg__" f) (F : FnR X.prog X.w X.K X.mg X.base CX0 k f sp) (hr : Room k X.A) : UnR X (unaryOp .USub) (rNegO C sp) := by
  intro pins s σ H x v Q I rx h
  obtain ⟨a, rfl, ⟨dx, fs, ea⟩, hsp⟩ := h
  obtain rfl : v = Value.ref a := rx
  obtain ⟨ox, od, J⟩ := inst_at I ea
  obtain ⟨m, hF⟩ := I.fr
  exact PySem.W.ksp_neg hF I.ok.mod.kin J S.at_ S.fi (wpAny_mono (run_own (us := [.ref a]) (vs := [.ref a]) F hr I (.cons rfl .nil) hsp) (fun _ _ z => back_of z) fun _ _ z => z)
end
end My

set_option Elab.async false
set_option linter.all false
set_option maxRecDepth 100000
set_option maxHeartbeats 4000000
/-! own library My, part 16: list(d), [*d, ..], name = {..}, o[i] of an own class, op= of own instances -/
namespace My
open PySem PySem.Spec PyProof.Rows L2 StX
section
variable {X : Cx} {pins : List (Addr × Obj)} {σ : L2.St} {H : Hp} {s : Shared}
theorem keys_vals {kvs : List (Key × V)} {vs : List (Key × Value)} {acc : Array Value} (rk : KV kvs vs) (h1 : acc.size = vs.length) (h2 : ∀ (j : Nat) (v : Value), acc[j]? = some v → ∃ (k : Key) (x : Value), vs[j]? = some (k, x) ∧ keyIs k v = true) : Vals (kvs.map fun kv => kV kv.1) acc.toList := by
  have el : acc.toList.length = acc.size := by simp
  have hl : kvs.length = vs.length := Paired.length rk
  refine vals_of_at (by rw [List.length_map, el, h1, hl]) fun j x w e1 e2 => ?_
  obtain ⟨k, y, hky, hi⟩ := h2 j w (by rw [← Array.getElem?_toList]; exact e2)
  have e3 : (kvs.map (·.1))[j]? = some k := by
    rw [KV.keys rk, List.getElem?_map, hky] <;> rfl
  have e4 : (kvs.map fun kv => kV kv.1)[j]? = some (kV k) := by
    have e5 : (kvs.map fun kv => kV kv.1) = (kvs.map (·.1)).map kV := by rw [List.map_map] <;> rfl
    rw [e5, List.getElem?_map, e3] <;> rfl
  rw [e4] at e1
  cases e1
  exact keyIs_rel hi
def rListD2 : List V → Hp → VK → Prop := fun xs H Q => ∃ p kvs, xs = [.ref p] ∧ Rd H p (.dK kvs) ∧ ∀ q, H q = none → Q (.ref q) (upd H q (.lst (kvs.map fun kv => kV kv.1)))
theorem call_listD2 (hc : X.calm = true) : CallR X (.type "list") rListD2 := by
  intro pins s σ H xs us Q I r h
  obtain ⟨p, kvs, e, hk, q⟩ := h
  subst e
  obtain ⟨u, eu, rx⟩ := vals1 r
  subst eu
  obtain rfl : u = Value.ref p := rx
  obtain ⟨z, lo, vs, rk, hd⟩ := dk_rd I.hok hk
  obtain ⟨ep, hat⟩ := hd.dictAt
  have hl : kvs.length = vs.length := Paired.length rk
  refine PySem.W.kdl_call (PySem.W.kdl_dict (knd := mixKind X.prog X.w) (kvs := vs) (ep := ep) lo) (I.ok.hd hc) hat (by rw [← hl]; exact z) fun h' tk acc' c' hkeep hS hacc => ?_
  refine ⟨.ref s.heap.objs.size, upd H s.heap.objs.size (.lst (kvs.map fun kv => kV kv.1)), I.laid hkeep (Nat.le_refl _) (show ObjOk X.prog X.w _ _ _ (.lst (kvs.map fun kv => kV kv.1)) from ⟨?_, acc'.toList, c', ?_, ?_⟩), rfl, q _ (I.hok.fresh (Nat.le_refl _))⟩
  · rw [List.length_map]; exact z
  · exact keys_vals rk hacc.1 hacc.2
  · rw [Array.toArray_toList]; exact hS
theorem star_dict {a : Addr} {kvs : List (Key × V)} {E : Value → Shared → Prop} {Q : List Value → Shared → Prop} (hc : X.calm = true) (I : Inv X pins σ H s) (h : Rd H a (.dK kvs)) (hQ : ∀ us s', Inv X pins σ H s' → Vals (kvs.map fun kv => kV kv.1) us → Q us s') : PySem.W.StarOf (model X.prog X.w) X.A E (.ref a) Q s := by
  obtain ⟨z, lo, vs, rk, hd⟩ := dk_rd I.hok h
  obtain ⟨ep, hat⟩ := hd.dictAt
  have hl : kvs.length = vs.length := Paired.length rk
  have zz : wpAny (model X.prog X.w) X.A (collect (.ref a)) Q E s := by
    refine PySem.W.kdu_collect (PySem.W.kdl_dict (knd := mixKind X.prog X.w) (kvs := vs) (ep := ep) lo) (I.ok.hd hc) hat (by rw [← hl]; exact z) fun h' tk acc hk hacc => ?_
    exact hQ _ _ (I.kept hk) (keys_vals rk hacc.1 hacc.2)
  unfold PySem.W.StarOf notIterableAtAll
  exact wpAny_bind (wpAny_specialOf hd.typeIs PySem.F.slot_dict_iter.lookup (wpAny_pure ⟨rfl, zz⟩))
end
section
variable {X : Cx} {k : Nat} {f C : Addr} {sp : Sp} {e a b : Expr} {es : List Expr} {te ta tb : TE} {t : TA} {p pos : Pos}
def tStarD (te : TE) (t : TA) : TA := fun σ H Q => te σ H fun x H1 => ∃ p kvs, x = V.ref p ∧ Rd H1 p (.dK kvs) ∧ t σ H1 fun ys H2 => Q ((kvs.map fun kv => kV kv.1) ++ ys) H2
theorem pa_starD (hc : X.calm = true) (he : PE X e te) (hr : PA X es t) (hs : starEach (.Starred e p :: es) X.env = (true, eval e X.env) :: starEach es X.env := by rfl) : PA X (.Starred e p :: es) (tStarD te t) := by
  refine ⟨fun pos pins s σ H Q I h => ?_⟩
  refine PySem.W.items_star (thn (he.run pins s σ H _ I h) fun v s1 ⟨y, H1, I1, ry, a, kvs, ey, hx, q⟩ => ?_) hs
  subst ey
  obtain rfl : v = Value.ref a := ry
  refine star_dict hc I1 hx fun us s2 I2 rv => ?_
  exact thn (hr.run pos pins s2 σ H1 _ I2 q) fun ws s3 ⟨vs, H3, I3, r3, q3⟩ => ⟨_, H3, I3, rv.append r3, q3⟩
theorem ps_setDc {i : Nat} {y : Str} {py : Pos} {kx vx tg iter : Expr} {ifs : List Expr} {scope : Scope} {own : List (Str × Nat)} {pos spos : Pos} {wi : TI} {g : TG} {tt : TT} {tk tv : TE} (hc : X.calm = true) (hN : X.N.Nodup) (hy : X.N[i]? = some y) (hyl : X.env.scope.names.lookup y = some .local)
    (hsw : swapsWith (.DictComp kx vx [⟨tg, iter, ifs, 0⟩] scope pos) (some (.Name y py)) spos.line X.env = pure true) (hi : PI X tg iter wi) (ok : BlkOk X.N X.env.scope scope own)
    (hg : ∀ (s : Shared) (H : Hp) (C : Addr) (cl : List (Str × Addr)) (fp : List Addr), PG (X.blk s H scope (compEnvC scope cl C X.env) fp) tg g) (ht : ∀ (s : Shared) (H : Hp) (C : Addr) (cl : List (Str × Addr)) (fp : List Addr), PTs (X.blk s H scope (compEnvC scope cl C X.env) fp) ifs tt)
    (hk : ∀ (s : Shared) (H : Hp) (C : Addr) (cl : List (Str × Addr)) (fp : List Addr), PE (X.blk s H scope (compEnvC scope cl C X.env) fp) kx tk)
    (he : ∀ (s : Shared) (H : Hp) (C : Addr) (cl : List (Str × Addr)) (fp : List Addr), PE (X.blk s H scope (compEnvC scope cl C X.env) fp) vx tv) (hs : ∀ x, foldedSetIterable iter X.env x = pure x := by intro _; rfl) :
    PS X (.Assign [.Name y py] (.DictComp kx vx [⟨tg, iter, ifs, 0⟩] scope pos) spos) (tAsg (tDc wi g tt tk tv (own.map (·.2))) (gName i)) := by
  refine ⟨fun pins s σ H D I h => ?_⟩
  rw [exec_Assign_Name_used _ _ _ _ hsw]
  refine wpAny_bind (wpAny_standAt (wpAny_bind ?_))
  show wpAny _ X.A (do let _ ← comprehension (.DictComp kx vx [⟨tg, iter, ifs, 0⟩] scope pos) scope X.env (firstIterPos [⟨tg, iter, ifs, 0⟩] pos) newDict false (eval iter X.env) (some (assign (.Name y py) X.env)); pure ()) _ _ _
  have h : tDc wi g tt tk tv (own.map (·.2)) σ H (fun x H1 => gName i x σ H1 D.nx) := h
  refine wpAny_bind (thn (dc_core (Qf := fun _ s' => SP X pins D .next s') hc hN I hi ok hg ht hk he hs h fun L C s' m H' I' q hn f => ?_) fun _ s' hq => wpAny_pure (wpAny_pure hq))
  show wpAny _ _ (assign (.Name y py) X.env (.ref L)) _ _ _
  refine wpAny_assign_Name (store_ok2 (v := V.ref L) I' hN hy (.inl hyl) rfl (fun s2 I2 ⟨a, sb, ha⟩ => ?_) (.inr hyl))
  obtain ⟨f0, f1, f2, f3, f4, f5⟩ := f
  have haC : C ≠ a := by
    rcases ha with z | z
    · rw [z]; exact f1
    · exact fun e => f4 y a z e.symm
  refine ⟨m, hn.sameBut sb haC, fun h3 sb3 => ?_⟩
  exact ⟨_, H', I2.turned (t' := s2.toks) (fun b o hb e => (sb3.2 b hb).trans e) f0 f1 f3 f4 f5, q⟩
theorem sw_trueD {kx vx : Expr} {gs : List Comprehension} {scope : Scope} {pos py : Pos} {y : Str} {l : Nat} {env : Env} (hk : env.scope.kind = .function) (hy : env.scope.names.lookup y = some .local) (hl : (py.line == pos.line) = true)
    (ha : (scope.names.any fun (n, k) => n == y && (k == .local || k == .cell)) = false) : swapsWith (.DictComp kx vx gs scope pos) (some (.Name y py)) l env = pure true := by
  have ky : env.kindOf y = some .local := hy
  have hb : env.blockKind = .function := by unfold Env.blockKind; rw [hk]; rfl
  unfold swapsWith
  simp only [hb, ky, ha, Expr.pos, hl]
  rfl
/-- o[i], o of an own class -/
def rIxO (C : Addr) (sp : Sp) : R2 := fun x y H Q => ∃ a, x = .ref a ∧ InsAt C H a ∧ sp [x, y] H Q (fun _ _ _ => False)
theorem pe_ixO (S : Spc X.K C "__getitem__" f) (hfn : PySem.W.fnIn X.K f = true) (F : FnR X.prog X.w X.K X.mg X.base CX0 k f sp) (hr : Room (k + 1) X.A) (ha : PE X a ta) (hb : PE X b tb)
    (hs : ∀ v u, subscripted b true v u = runValue (.builtin "lifetime.subscript" ⟨[v, u], []⟩)) : PE X (.Subscript a b pos) (tOp (rIxO C sp) ta tb) := by
  refine ⟨fun pins s σ H Q I h => ?_⟩
  refine Subscript_ (binT ha hb I h fun v u s2 x y H2 I2 rx ry q => ?_)
  obtain ⟨c, rfl, ⟨dx, fs, ea⟩, hsp⟩ := q
  obtain rfl : v = Value.ref c := rx
  obtain ⟨ox, od, J⟩ := inst_at I2 ea
  obtain ⟨m, hF⟩ := I2.fr
  refine PySem.W.sub_K hF I2.ok.mod.kin J S.at_ hfn S.fi (wpAny_call ?_) (hs _ _)
  refine codeAny_mono (F X.A.in1 X.stack s2 H2 [.ref c, u] [.ref c, y] _ _ hr.in1 I2.env0.in1 (.cons rfl (.cons ry .nil)) hsp) fun r s' hq => ?_
  cases r with
  | error er => exact False.elim hq
  | ok fl =>
    cases fl with
    | ret w => exact I2.after hq
    | next => exact False.elim hq
    | brk => exact False.elim hq
    | cont => exact False.elim hq
end
end My

set_option Elab.async false
set_option linter.all false
set_option maxRecDepth 100000
set_option maxHeartbeats 4000000
/-! own library My, part 17: op= of own instances -/
namespace My
open PySem PySem.Spec PyProof.Rows L2 StX
/-- C has no __iop__; its line of classes is C, object -/
structure NoIn (K : PySem.W.Frag) (C : Addr) (op : Operator) : Prop where
  mro : ∃ cd, PySem.W.clsIn K C = some cd ∧ cd.mro = [.ref C, .type "object"]
  n1 : PySem.W.findIn K (.ref C) (dunderI op.info.2) = some none
  n2 : PySem.W.findIn K (.type "object") (dunderI op.info.2) = some none
def mroB (K : PySem.W.Frag) (C : Addr) : Bool := match PySem.W.clsIn K C with
  | some cd => (match cd.mro with
    | [.ref D, .type o] => decide (D = C) && decide (o = "object")
    | _ => false)
  | none => false
theorem mroB_ok {K : PySem.W.Frag} {C : Addr} (h : mroB K C = true) : ∃ cd, PySem.W.clsIn K C = some cd ∧ cd.mro = [.ref C, .type "object"] := by
  unfold mroB at h
  split at h
  · rename_i cd e
    split at h
    · rename_i D o e2
      obtain ⟨h1, h2⟩ := He.ba h
      exact ⟨cd, e, by rw [e2, of_decide_eq_true h1, of_decide_eq_true h2]⟩
    · cases h
  · cases h
def isNoneB (o : Option (Option Value)) : Bool := match o with
  | some none => true
  | _ => false
theorem isNoneB_ok {o : Option (Option Value)} (h : isNoneB o = true) : o = some none := by
  unfold isNoneB at h
  split at h
  · rfl
  · cases h
def noInB (c : Str) (op : Operator) : FaB := fun K => mroB K (He.ga K c) && (isNoneB (PySem.W.findIn K (.ref (He.ga K c)) (dunderI op.info.2)) && isNoneB (PySem.W.findIn K (.type "object") (dunderI op.info.2)))
theorem noInB_ok {c : Str} {op : Operator} {K : PySem.W.Frag} (h : noInB c op K = true) : NoIn K (He.ga K c) op := by
  obtain ⟨h1, h⟩ := He.ba h
  obtain ⟨h2, h3⟩ := He.ba h
  exact ⟨mroB_ok h1, isNoneB_ok h2, isNoneB_ok h3⟩
section
variable {prog : Program} {w : World} {M : Model} {A : Around} {E : Value → Shared → Prop} {s : Shared} {K : PySem.W.Frag} {x C L f r : Addr} {h₀ : Heap} {m : Str → Option Value} {ox : Obj} {od : Option Obj}
theorem fillsI_no {h : Heap} {op : Operator} {add : Bool} (X : K.In h) (N : NoIn K C op) : PySem.W.Looks M h (fillsInplaceSlot (.ref C) op.info.2 add) false := by
  intro A Q E s k q
  obtain ⟨cd, hc, hm⟩ := N.mro
  have Lm : PySem.W.Looks M h (mroOf (.ref C)) cd.mro := (PySem.W.looks_clsIn X hc).andThen (f := fun cd => pure cd.mro) .now
  have Lm' := Lm.keeps k
  have X' : K.In s.heap := X.keeps k
  have L1 : PySem.W.Looks M s.heap (typeLookup (.ref C) (dunderI op.info.2)) none := PySem.W.looks_findIn X' N.n1
  have L2 : PySem.W.Looks M s.heap (typeLookup (.type "object") (dunderI op.info.2)) none := PySem.W.looks_findIn X' N.n2
  unfold fillsInplaceSlot
  refine wpAny_bind (Lm'.here ?_)
  rw [hm, List.anyM_cons]
  refine wpAny_bind (wpAny_bind (L1.here (wpAny_pure ?_)))
  rw [if_neg Bool.false_ne_true, List.anyM_cons]
  refine wpAny_bind (wpAny_bind (L2.here (wpAny_pure ?_)))
  rw [if_neg Bool.false_ne_true, List.anyM_nil]
  exact wpAny_pure q
theorem bin1_K {op : Operator} {b : Value} {Q : Value → Shared → Prop} (X : K.In s.heap) (I : PySem.W.InstAt s.heap x ox C od) (hb : PySem.W.Looks (model prog w) s.heap (typeOf b) (.ref C)) (O : OwnOp K C f r op)
    (h : wpAny (model prog w) A (call (.ref f) [.ref x, b]) (PySem.W.CmpBack Q) E s) : wpAny (model prog w) A (binaryOp1 op.info.2 (.ref x) b) (fun r s' => ∃ v, r = some v ∧ Q v s') E s := by
  obtain ⟨cd, rest, hcd, hm⟩ := PySem.W.ksp_first O.sf
  unfold binaryOp1
  refine wpAny_bind (I.type.here (wpAny_bind (hb.here (wpAny_bind ((PySem.W.fills_K X hcd hm O.lf.at_).here ?_)))))
  simp only [beq_self_eq_true, if_true]
  refine wpAny_bind (wpAny_pure ?_)
  simp only [Bool.and_false, Bool.false_eq_true, if_false, Bool.false_and]
  refine wpAny_bind (wpAny_pure ?_)
  simp only [Bool.false_eq_true, if_false]
  refine wpAny_bind (m := tryMethod (.ref x) _ b) ?_
  unfold tryMethod
  refine wpAny_bind (PySem.W.special_fn X I O.lf.at_ (beq_iff_eq.mp O.lf.fi) (wpAny_mono h (fun v s' hv => ?_) fun _ _ e => e))
  cases v <;> first | exact hv.elim | exact wpAny_pure (wpAny_pure ⟨_, rfl, hv⟩)
theorem bin1_T {op : Operator} {i : Int} {t : Tok} {Q : Value → Shared → Prop} (X : K.In s.heap) (I : PySem.W.InstAt s.heap x ox C od) (O : OwnOp K C f r op)
    (h : wpAny (model prog w) A (call (.ref f) [.ref x, .int i t]) (PySem.W.CmpBack Q) E s) : wpAny (model prog w) A (binaryOp1 op.info.2 (.ref x) (.int i t)) (fun r s' => ∃ v, r = some v ∧ Q v s') E s := by
  obtain ⟨cd, rest, hcd, hm⟩ := PySem.W.ksp_first O.sf
  obtain ⟨fo, h1⟩ := O.i1
  obtain ⟨ro, h2⟩ := O.i2
  have hs := O.lf.at_
  have hr := O.rt.at_
  have hsub := O.s1
  have one := PySem.W.ksp_try X I O.lf.at_ O.lf.fi h
  have L1 : PySem.W.Looks (model prog w) s.heap (typeOf (.ref x)) (.ref C) := I.type
  have L2 : PySem.W.Looks (model prog w) s.heap (typeOf (.int i t)) (.type "int") := PySem.W.Looks.of_pure rfl
  have L3 : PySem.W.Looks (model prog w) s.heap (fillsNumberSlot (.ref C) op.info.2) true := PySem.W.fills_K X hcd hm hs
  have L4 : PySem.W.Looks (model prog w) s.heap (fillsNumberSlot (.type "int") op.info.2) ((fo.isSome && !isSeqSlot fo) || (ro.isSome && !isSeqSlot ro)) := PySem.W.ksp_fillsT X h1 h2
  have L5 : PySem.W.Looks (model prog w) s.heap (isSubtype (.type "int") (.ref C)) false := PySem.W.looks_subIn X hsub
  have L6 : PySem.W.Looks (model prog w) s.heap (numberSlotInPython (.ref C) op.info.2) true := PySem.W.ksp_inPy X hs hr (.inr ⟨_, rfl⟩)
  have L7 : PySem.W.Looks (model prog w) s.heap (numberSlotInPython (.type "int") op.info.2) false := PySem.W.Looks.of_pure rfl
  have L8 : PySem.W.Looks (model prog w) s.heap (typeLookup (.type "int") (dunderR op.info.2)) ro := PySem.W.looks_findIn X h2
  generalize ((fo.isSome && !isSeqSlot fo) || (ro.isSome && !isSeqSlot ro)) = right at L4
  have hne : (Value.ref C == Value.type "int") = false := Bool.eq_false_iff.mpr fun q => by cases beq_iff_eq.mp q
  unfold binaryOp1
  refine wpAny_bind (L1.here (wpAny_bind (L2.here (wpAny_bind (L3.here ?_)))))
  simp only [hne, Bool.false_eq_true, if_false]
  refine wpAny_bind (L4.here ?_)
  cases right with
  | false =>
    simp only [Bool.and_false, Bool.false_eq_true, if_false, Bool.false_and, if_true, Bool.and_self]
    refine wpAny_bind (wpAny_pure ?_)
    simp only [Bool.false_eq_true, if_false, if_true]
    refine wpAny_bind (wpAny_mono one (fun r s' hr' => ?_) fun _ _ e => e)
    obtain ⟨v, rfl, hq⟩ := hr'
    exact wpAny_pure ⟨v, rfl, hq⟩
  | true =>
    simp only [Bool.and_self, if_true]
    refine wpAny_bind (L5.here ?_)
    simp only [Bool.false_eq_true, if_false, Bool.not_false, Bool.and_self, if_true]
    refine wpAny_bind (L6.here ?_)
    simp only [if_true]
    refine wpAny_bind (L7.here ?_)
    simp only [Bool.not_false, if_true]
    refine wpAny_bind (L8.here ?_)
    refine wpAny_bind (wpAny_mono one (fun r s' hr' => ?_) fun _ _ e => e)
    obtain ⟨v, rfl, hq⟩ := hr'
    exact wpAny_pure ⟨v, rfl, hq⟩
theorem inplace_of {op : Operator} {b : Value} {Q : Value → Shared → Prop} (X : K.In s.heap) (I : PySem.W.InstAt s.heap x ox C od) (N : NoIn K C op)
    (h : wpAny (model prog w) A (binaryOp1 op.info.2 (.ref x) b) (fun r s' => ∃ v, r = some v ∧ Q v s') E s) : wpAny (model prog w) A (inplaceOp op (.ref x) b) Q E s := by
  unfold inplaceOp
  refine wpAny_holding ?_
  refine wpAny_bind (I.type.here ?_)
  refine wpAny_bind ((fillsI_no X N).here ?_)
  rw [if_neg Bool.false_ne_true]
  refine wpAny_bind (wpAny_mono h (fun r s' hr' => ?_) fun _ _ e => e)
  obtain ⟨v, rfl, hq⟩ := hr'
  exact wpAny_pure hq
end
section
variable {X : Cx} {k : Nat} {f r C : Addr} {sp : Sp} {op : Operator}
theorem ip_own (O : OwnOp X.K C f r op) (N : NoIn X.K C op) (F : FnR X.prog X.w X.K X.mg X.base CX0 k f sp) (hr : Room k X.A) : PIp X op (rOpL C sp) := by
  intro pins s σ H x y v u Q I rx ry h
  obtain ⟨a, rfl, ⟨dx, fs, ea⟩, hy, hsp⟩ := h
  obtain rfl : v = Value.ref a := rx
  obtain ⟨ox, od, J⟩ := inst_at I ea
  rcases hy with ⟨b, rfl, dy, gs, eb⟩ | ⟨i, rfl⟩
  · obtain rfl : u = Value.ref b := ry
    obtain ⟨oy, oe, J'⟩ := inst_at I eb
    exact inplace_of I.kIn J N (bin1_K I.kIn J J'.type O (run_own (us := [.ref a, .ref b]) (vs := [.ref a, .ref b]) F hr I (.cons rfl (.cons rfl .nil)) hsp))
  · obtain ⟨t, rfl⟩ := ry
    exact inplace_of I.kIn J N (bin1_T I.kIn J O (run_own (us := [.ref a, .int i t]) (vs := [.ref a, .int i]) F hr I (.cons rfl (.cons ⟨t, rfl⟩ .nil)) hsp))
end
end My

set_option Elab.async false
set_option linter.all false
set_option maxRecDepth 100000
set_option maxHeartbeats 4000000
/-! own library Av, part 1: values as trees (what no one changes any more is told by its content), live cells by address -/
namespace Av
open PySem PySem.Spec PyProof.Rows L2 My
inductive D where
  | non | bl (b : Bool) | int (i : Int) | str (x : Str) | ty (n : String) | ref (a : Addr)
  | tup (xs : List D) | lst (xs : List D) | rol (xs : List D) | dct (kvs : List (D × D)) | dtt (kvs : List (D × D)) | obj (C : Addr) (fs : List (Str × D)) | exc (a dd C : Addr) (fs : List (Str × D))
inductive AO where
  | lst (xs : List D) | dct (kvs : List (D × D)) | dtt (kvs : List (D × D)) | ins (C : Addr) (fs : List (Str × D))
abbrev AH := Addr → Option AO
def put (A : AH) (a : Addr) (o : AO) : AH := fun b => if b = a then some o else A b
def del (A : AH) (a : Addr) : AH := fun b => if b = a then none else A b
theorem put_same {A : AH} {a : Addr} {o : AO} : put A a o a = some o := by unfold put; rw [if_pos rfl]
theorem put_ne {A : AH} {a b : Addr} {o : AO} (h : b ≠ a) : put A a o b = A b := by unfold put; rw [if_neg h]
theorem put_put {A : AH} {a : Addr} {o u : AO} : put (put A a o) a u = put A a u := by funext b; unfold put; split <;> rfl
theorem del_put {A : AH} {a : Addr} {o : AO} (h : A a = none) : del (put A a o) a = A := by
  funext b; unfold del put
  by_cases e : b = a
  · rw [if_pos e, e, h]
  · rw [if_neg e, if_neg e]
def frz : AO → D
  | .lst xs => .lst xs
  | .dct kvs => .dct kvs
  | .dtt kvs => .dtt kvs
  | .ins C fs => .obj C fs
def sOk (x : Str) : Prop := PySem.PyData.strOk x = true
def dK : Key → D
  | .inl i => .int i
  | .inr x => .str x
def okK : Key → Prop
  | .inl _ => True
  | .inr x => sOk x
def TupE (K : PySem.W.Frag) (H : Hp) (a : Addr) (xs : List V) : Prop := H a = some (.tup xs) ∨ ∃ (o : Obj) (its : Array Value) (n : Nat), K.lookup a = some o ∧ o.cls = .type "tuple" ∧ o.data = .seq its n ∧ its.size ≤ sizeLine ∧ Vals xs its.toList
theorem TupE.sq {K : PySem.W.Frag} {H : Hp} {a : Addr} {xs : List V} (h : TupE K H a xs) : SqT K H a xs := h.imp (fun e => .inl e) id
mutual
inductive Rep (K : PySem.W.Frag) (F : Addr → Prop) (H : Hp) : D → V → Prop
  | non : Rep K F H .non .non
  | bl (b : Bool) : Rep K F H (.bl b) (.bl b)
  | int (i : Int) : Rep K F H (.int i) (.int i)
  | str {x : Str} : sOk x → Rep K F H (.str x) (.str x)
  | ty (n : String) : Rep K F H (.ty n) (.ty n)
  | ref (a : Addr) : Rep K F H (.ref a) (.ref a)
  | tup {a : Addr} {ds : List D} {vs : List V} : TupE K H a vs → Reps K F H ds vs → Rep K F H (.tup ds) (.ref a)
  | lst {a : Addr} {ds : List D} {vs : List V} : F a → H a = some (.lst vs) → Reps K F H ds vs → Rep K F H (.lst ds) (.ref a)
  | rol {a : Addr} {ds : List D} {vs : List V} : F a → Rd H a (.lst vs) → Reps K F H ds vs → Rep K F H (.rol ds) (.ref a)
  | rolK {a : Addr} {ds : List D} {vs : List V} : (∃ (o : Obj) (its : Array Value) (n : Nat), K.lookup a = some o ∧ o.cls = .type "list" ∧ o.dict = none ∧ o.data = .seq its n ∧ its.size ≤ sizeLine ∧ Vals vs its.toList) → Reps K F H ds vs → Rep K F H (.rol ds) (.ref a)
  | dk {a : Addr} {ds : List (D × D)} {vs : List (Key × V)} : F a → Rd H a (.dK vs) → RepK K F H ds vs → Rep K F H (.dct ds) (.ref a)
  | dt {a : Addr} {ds : List (D × D)} {vs : List (List Key × V)} : F a → Rd H a (.dT vs) → RepT K F H ds vs → Rep K F H (.dtt ds) (.ref a)
  | obj {a C dx : Addr} {ds : List (Str × D)} {vs : List (Str × V)} : F a → H a = some (.ins C dx vs) → RepF K F H ds vs → Rep K F H (.obj C ds) (.ref a)
  | exc {a dd C : Addr} {ds : List (Str × D)} {vs : List (Str × V)} : H dd = some (.xd vs) → RepF K F H ds vs → Rep K F H (.exc a dd C ds) (.ref a)
inductive Reps (K : PySem.W.Frag) (F : Addr → Prop) (H : Hp) : List D → List V → Prop
  | nil : Reps K F H [] []
  | cons {d : D} {v : V} {ds : List D} {vs : List V} : Rep K F H d v → Reps K F H ds vs → Reps K F H (d :: ds) (v :: vs)
inductive RepF (K : PySem.W.Frag) (F : Addr → Prop) (H : Hp) : List (Str × D) → List (Str × V) → Prop
  | nil : RepF K F H [] []
  | cons {n : Str} {d : D} {v : V} {ds : List (Str × D)} {vs : List (Str × V)} : Rep K F H d v → RepF K F H ds vs → RepF K F H ((n, d) :: ds) ((n, v) :: vs)
inductive RepK (K : PySem.W.Frag) (F : Addr → Prop) (H : Hp) : List (D × D) → List (Key × V) → Prop
  | nil : RepK K F H [] []
  | cons {k : Key} {d : D} {v : V} {ds : List (D × D)} {vs : List (Key × V)} : okK k → Rep K F H d v → RepK K F H ds vs → RepK K F H ((dK k, d) :: ds) ((k, v) :: vs)
inductive RepT (K : PySem.W.Frag) (F : Addr → Prop) (H : Hp) : List (D × D) → List (List Key × V) → Prop
  | nil : RepT K F H [] []
  | cons {k : List Key} {d : D} {v : V} {ds : List (D × D)} {vs : List (List Key × V)} : (∀ x ∈ k, okK x) → Rep K F H d v → RepT K F H ds vs → RepT K F H ((.tup (k.map dK), d) :: ds) ((k, v) :: vs)
end
/-- what a represented value leans on is kept -/
structure Kept (F F' : Addr → Prop) (H H' : Hp) : Prop where
  f : ∀ a, F a → F' a
  t : ∀ a xs, H a = some (.tup xs) → H' a = some (.tup xs)
  m : ∀ a xs, F a → H a = some (.lst xs) → H' a = some (.lst xs)
  l : ∀ a xs, F a → Rd H a (.lst xs) → Rd H' a (.lst xs)
  k : ∀ a xs, F a → Rd H a (.dK xs) → Rd H' a (.dK xs)
  d : ∀ a xs, F a → Rd H a (.dT xs) → Rd H' a (.dT xs)
  i : ∀ a C dx fs, F a → H a = some (.ins C dx fs) → H' a = some (.ins C dx fs)
  x : ∀ a fs, H a = some (.xd fs) → H' a = some (.xd fs)
mutual
theorem Rep.kept {K : PySem.W.Frag} {F F' : Addr → Prop} {H H' : Hp} (s : Kept F F' H H') : ∀ {d : D} {v : V}, Rep K F H d v → Rep K F' H' d v
  | _, _, .non => .non
  | _, _, .bl b => .bl b
  | _, _, .int i => .int i
  | _, _, .str h => .str h
  | _, _, .ty n => .ty n
  | _, _, .ref a => .ref a
  | _, _, .tup e r => .tup (e.imp (s.t _ _) id) (Reps.kept s r)
  | _, _, .lst f e r => .lst (s.f _ f) (s.m _ _ f e) (Reps.kept s r)
  | _, _, .rol f e r => .rol (s.f _ f) (s.l _ _ f e) (Reps.kept s r)
  | _, _, .rolK e r => .rolK e (Reps.kept s r)
  | _, _, .dk f e r => .dk (s.f _ f) (s.k _ _ f e) (RepK.kept s r)
  | _, _, .dt f e r => .dt (s.f _ f) (s.d _ _ f e) (RepT.kept s r)
  | _, _, .obj f e r => .obj (s.f _ f) (s.i _ _ _ _ f e) (RepF.kept s r)
  | _, _, .exc e r => .exc (s.x _ _ e) (RepF.kept s r)
theorem Reps.kept {K : PySem.W.Frag} {F F' : Addr → Prop} {H H' : Hp} (s : Kept F F' H H') : ∀ {d : List D} {v : List V}, Reps K F H d v → Reps K F' H' d v
  | _, _, .nil => .nil
  | _, _, .cons a r => .cons (Rep.kept s a) (Reps.kept s r)
theorem RepF.kept {K : PySem.W.Frag} {F F' : Addr → Prop} {H H' : Hp} (s : Kept F F' H H') : ∀ {d : List (Str × D)} {v : List (Str × V)}, RepF K F H d v → RepF K F' H' d v
  | _, _, .nil => .nil
  | _, _, .cons a r => .cons (Rep.kept s a) (RepF.kept s r)
theorem RepK.kept {K : PySem.W.Frag} {F F' : Addr → Prop} {H H' : Hp} (s : Kept F F' H H') : ∀ {d : List (D × D)} {v : List (Key × V)}, RepK K F H d v → RepK K F' H' d v
  | _, _, .nil => .nil
  | _, _, .cons o a r => .cons o (Rep.kept s a) (RepK.kept s r)
theorem RepT.kept {K : PySem.W.Frag} {F F' : Addr → Prop} {H H' : Hp} (s : Kept F F' H H') : ∀ {d : List (D × D)} {v : List (List Key × V)}, RepT K F H d v → RepT K F' H' d v
  | _, _, .nil => .nil
  | _, _, .cons o a r => .cons o (Rep.kept s a) (RepT.kept s r)
end
/-- a live object -/
inductive RepO (K : PySem.W.Frag) (F : Addr → Prop) (H : Hp) : AO → HO → Prop
  | lst {ds : List D} {vs : List V} : Reps K F H ds vs → RepO K F H (.lst ds) (.lst vs)
  | dk {ds : List (D × D)} {vs : List (Key × V)} : RepK K F H ds vs → RepO K F H (.dct ds) (.dK vs)
  | dt {ds : List (D × D)} {vs : List (List Key × V)} : RepT K F H ds vs → RepO K F H (.dtt ds) (.dT vs)
  | ins {C dx : Addr} {ds : List (Str × D)} {vs : List (Str × V)} : RepF K F H ds vs → RepO K F H (.ins C ds) (.ins C dx vs)
section
variable {K : PySem.W.Frag} {F F' F'' : Addr → Prop} {H H' H'' : Hp} {A A' A'' : AH}
theorem RepO.kept (s : Kept F F' H H') {o : AO} {ho : HO} (r : RepO K F H o ho) : RepO K F' H' o ho := by
  cases r with
  | lst r => exact .lst (r.kept s)
  | dk r => exact .dk (r.kept s)
  | dt r => exact .dt (r.kept s)
  | ins r => exact .ins (r.kept s)
theorem RepO.frz {a : Addr} (f : F a) {o : AO} {ho : HO} (e : H a = some ho) (r : RepO K F H o ho) : Rep K F H (frz o) (.ref a) := by
  cases r with
  | lst r => exact .lst f e r
  | dk r => exact .dk f (.of e) r
  | dt r => exact .dt f (.of e) r
  | ins r => exact .obj f e r
structure Rel (K : PySem.W.Frag) (F : Addr → Prop) (A : AH) (H : Hp) : Prop where
  live : ∀ a o, A a = some o → ¬ F a ∧ ∃ ho, H a = some ho ∧ RepO K F H o ho
  there : ∀ a, F a → ∃ ho, H a = some ho
/-- a dict, as it may be locked later -/
def DkO : HO → Prop
  | .dK _ => True
  | .dT _ => True
  | _ => False
def Stay (F : Addr → Prop) (a : Addr) (o : HO) (u : Option HO) : Prop := u = some o ∨ (F a ∧ DkO o ∧ ∃ ob, u = some (.frz ob o))
structure Ext (F : Addr → Prop) (A : AH) (H : Hp) (F' : Addr → Prop) (A' : AH) (H' : Hp) : Prop where
  f : ∀ a, F a → F' a
  k : ∀ a o, A a = none → H a = some o → A' a = none ∧ Stay F a o (H' a)
  g : ∀ a o, A a = none → H a = some o → F' a → F a
theorem Ext.refl : Ext F A H F A H := ⟨fun _ h => h, fun _ _ h e => ⟨h, .inl e⟩, fun _ _ _ _ h => h⟩
theorem Ext.there' (x : Ext F A H F' A' H') {a : Addr} {o : HO} (h : A a = none) (e : H a = some o) : ∃ o', H' a = some o' := by
  rcases (x.k a o h e).2 with z | ⟨_, _, ob, z⟩
  · exact ⟨_, z⟩
  · exact ⟨_, z⟩
theorem Ext.trans (x : Ext F A H F' A' H') (y : Ext F' A' H' F'' A'' H'') : Ext F A H F'' A'' H'' := by
  refine ⟨fun a h => y.f a (x.f a h), fun a o h e => ?_, fun a o h e f => ?_⟩
  · obtain ⟨h1, z⟩ := x.k a o h e
    rcases z with z | ⟨f, d, ob, z⟩
    · obtain ⟨h2, z2⟩ := y.k a o h1 z
      refine ⟨h2, ?_⟩
      rcases z2 with z2 | ⟨f2, d2, ob2, z2⟩
      · exact .inl z2
      · exact .inr ⟨x.g a o h e f2, d2, ob2, z2⟩
    · obtain ⟨h2, z2⟩ := y.k a _ h1 z
      refine ⟨h2, ?_⟩
      rcases z2 with z2 | ⟨_, d2, _⟩
      · exact .inr ⟨f, d, ob, z2⟩
      · exact d2.elim
  · obtain ⟨h1, z⟩ := x.k a o h e
    obtain ⟨o', z'⟩ := x.there' h e
    exact x.g a o h e (y.g a o' h1 z' f)
/-- what is no dict, or not known to be kept, stays as it is -/
theorem Ext.kn (x : Ext F A H F' A' H') {a : Addr} {o : HO} (h : A a = none) (e : H a = some o) (n : ¬ DkO o) : A' a = none ∧ H' a = some o := by
  obtain ⟨h1, z | ⟨_, d, _⟩⟩ := x.k a o h e
  · exact ⟨h1, z⟩
  · exact absurd d n
theorem Ext.kh (x : Ext F A H F' A' H') {a : Addr} {o : HO} (h : A a = none) (e : H a = some o) (n : ¬ F a) : A' a = none ∧ H' a = some o := by
  obtain ⟨h1, z | ⟨f, _⟩⟩ := x.k a o h e
  · exact ⟨h1, z⟩
  · exact absurd f n
theorem Rel.dead (R : Rel K F A H) {a : Addr} (f : F a) : A a = none := by
  cases e : A a with
  | none => rfl
  | some o => exact absurd f (R.live a o e).1
theorem Rel.dead2 (R : Rel K F A H) {a : Addr} {ho : HO} (e : H a = some ho) (n : ∀ o, ¬ RepO K F H o ho) : A a = none := by
  cases q : A a with
  | none => rfl
  | some o =>
    obtain ⟨_, h2, e2, r⟩ := R.live a o q
    rw [e] at e2; cases e2
    exact absurd r (n o)
theorem Rel.fresh (R : Rel K F A H) {p : Addr} (hp : H p = none) : A p = none ∧ ¬ F p := by
  constructor
  · cases q : A p with
    | none => rfl
    | some o => obtain ⟨_, _, e, _⟩ := R.live p o q; rw [hp] at e; cases e
  · intro f
    obtain ⟨_, e⟩ := R.there p f
    rw [hp] at e; cases e
theorem Rd.keep {a : Addr} {u : HO} (h : ∀ o, H a = some o → H' a = some o) (r : Rd H a u) : Rd H' a u := by
  rcases r with r | ⟨o, r⟩
  · exact .inl (h _ r)
  · exact .inr ⟨o, h _ r⟩
theorem Ext.keptRd (x : Ext F A H F' A' H') {a : Addr} {u : HO} (h : A a = none) (r : Rd H a u) : Rd H' a u := by
  rcases r with r | ⟨o, r⟩
  · rcases (x.k a u h r).2 with z | ⟨_, _, ob, z⟩
    · exact .inl z
    · exact .inr ⟨ob, z⟩
  · exact .inr ⟨o, (x.kn h r (fun d => d)).2⟩
theorem Ext.kept (R : Rel K F A H) (x : Ext F A H F' A' H') : Kept F F' H H' where
  f := x.f
  t := fun a xs r => (x.kn (R.dead2 r (fun o h => by cases h)) r (fun d => d)).2
  m := fun a xs f e => (x.kn (R.dead f) e (fun d => d)).2
  l := fun a xs f r => x.keptRd (R.dead f) r
  k := fun a xs f r => x.keptRd (R.dead f) r
  d := fun a xs f r => x.keptRd (R.dead f) r
  i := fun a C dx fs f e => (x.kn (R.dead f) e (fun d => d)).2
  x := fun a fs e => (x.kn (R.dead2 e (fun o h => by cases h)) e (fun d => d)).2
theorem ext_new (R : Rel K F A H) {p : Addr} {ho : HO} (hp : H p = none) : Ext F A H F A (upd H p ho) := ⟨fun _ h => h, fun a o h e => ⟨h, .inl (by rw [upd_ne (ne_of_none e hp)]; exact e)⟩, fun _ _ _ _ h => h⟩
theorem Rel.lay (R : Rel K F A H) {p : Addr} {ho : HO} (hp : H p = none) : Rel K F A (upd H p ho) := ⟨fun a o e => by
    obtain ⟨n, h2, e2, r⟩ := R.live a o e
    exact ⟨n, h2, by rw [upd_ne (ne_of_none e2 hp)]; exact e2, r.kept ((ext_new R hp).kept R)⟩, fun a f => by
    obtain ⟨h2, e2⟩ := R.there a f
    exact ⟨h2, by rw [upd_ne (ne_of_none e2 hp)]; exact e2⟩⟩
/-- a new live object -/
theorem Rel.newL (R : Rel K F A H) {p : Addr} {o : AO} {ho : HO} (hp : H p = none) (r : RepO K F H o ho) : Rel K F (put A p o) (upd H p ho) ∧ Ext F A H F (put A p o) (upd H p ho) := by
  have k := (ext_new R hp (ho := ho)).kept R
  have R1 := R.lay hp (ho := ho)
  refine ⟨⟨fun a o' e => ?_, R1.there⟩, fun _ h => h, fun a u h e => ⟨?_, (ext_new R hp).k a u h e |>.2⟩, fun _ _ _ _ h => h⟩
  · by_cases q : a = p
    · subst q
      rw [put_same] at e; cases e
      exact ⟨(R.fresh hp).2, ho, upd_same, r.kept k⟩
    · rw [put_ne q] at e; exact R1.live a o' e
  · rw [put_ne (ne_of_none e hp)]; exact h
theorem kept_frz {p : Addr} : Kept F (fun a => F a ∨ a = p) H H := ⟨fun _ h => .inl h, fun _ _ h => h, fun _ _ _ h => h, fun _ _ _ h => h, fun _ _ _ h => h, fun _ _ _ h => h, fun _ _ _ _ _ h => h, fun _ _ h => h⟩
/-- a new object that no one will change -/
theorem Rel.newF (R : Rel K F A H) {p : Addr} {o : AO} {ho : HO} (hp : H p = none) (r : RepO K F H o ho) :
    Rel K (fun a => F a ∨ a = p) A (upd H p ho) ∧ Ext F A H (fun a => F a ∨ a = p) A (upd H p ho) ∧ Rep K (fun a => F a ∨ a = p) (upd H p ho) (frz o) (.ref p) := by
  have x0 := ext_new R hp (ho := ho)
  have R1 := R.lay hp (ho := ho)
  have x1 : Ext F A H (fun a => F a ∨ a = p) A (upd H p ho) := ⟨fun _ h => .inl h, x0.k, fun a o h e f => by
    rcases f with f | f
    · exact f
    · rw [f, hp] at e; cases e⟩
  have k1 : Kept F (fun a => F a ∨ a = p) (upd H p ho) (upd H p ho) := kept_frz
  refine ⟨⟨fun a o' e => ?_, fun a f => ?_⟩, x1, (r.kept (x1.kept R)).frz (.inr rfl) upd_same⟩
  · obtain ⟨n, h2, e2, r2⟩ := R1.live a o' e
    refine ⟨fun z => ?_, h2, e2, r2.kept k1⟩
    rcases z with z | z
    · exact n z
    · rw [z, (R.fresh hp).1] at e; cases e
  · rcases f with f | f
    · exact R1.there a f
    · exact ⟨ho, by rw [f]; exact upd_same⟩
theorem Rel.newT (R : Rel K F A H) {p : Addr} {ds : List D} {vs : List V} (hp : H p = none) (r : Reps K F H ds vs) : Rel K F A (upd H p (.tup vs)) ∧ Ext F A H F A (upd H p (.tup vs)) ∧ Rep K F (upd H p (.tup vs)) (.tup ds) (.ref p) :=
  ⟨R.lay hp, ext_new R hp, .tup (.inl upd_same) (r.kept ((ext_new R hp).kept R))⟩
/-- a live object is changed -/
theorem Rel.put (R : Rel K F A H) {a : Addr} {o o' : AO} {ho' : HO} (e : A a = some o) (r : RepO K F H o' ho') : Rel K F (put A a o') (upd H a ho') ∧ Ext F A H F (put A a o') (upd H a ho') := by
  obtain ⟨n, ho, eh, r0⟩ := R.live a o e
  have x : Ext F A H F (Av.put A a o') (upd H a ho') := ⟨fun _ h => h, fun b u h q => by
    have : b ≠ a := fun z => by rw [z, e] at h; cases h
    rw [put_ne this, upd_ne this]; exact ⟨h, .inl q⟩, fun _ _ _ _ h => h⟩
  have k := x.kept R
  refine ⟨⟨fun b u q => ?_, fun b f => ?_⟩, x⟩
  · by_cases z : b = a
    · subst z
      rw [put_same] at q; cases q
      exact ⟨n, ho', upd_same, r.kept k⟩
    · rw [put_ne z] at q
      obtain ⟨n2, h2, e2, r2⟩ := R.live b u q
      exact ⟨n2, h2, by rw [upd_ne z]; exact e2, r2.kept k⟩
  · have : b ≠ a := fun z => n (z ▸ f)
    rw [upd_ne this]; exact R.there b f
theorem Rel.sub (R : Rel K F A H) (s : ∀ a o, A' a = some o → A a = some o) : Rel K F A' H ∧ Ext F A H F A' H := by
  refine ⟨⟨fun a o e => R.live a o (s a o e), R.there⟩, fun _ h => h, fun a o h e => ⟨?_, .inl e⟩, fun _ _ _ _ h => h⟩
  cases q : A' a with
  | none => rfl
  | some u => rw [s a u q] at h; cases h
/-- from now on no one changes it -/
theorem Rel.frz (R : Rel K F A H) {a : Addr} {o : AO} (e : A a = some o) : Rel K (fun b => F b ∨ b = a) (del A a) H ∧ Ext F A H (fun b => F b ∨ b = a) (del A a) H ∧ Rep K (fun b => F b ∨ b = a) H (Av.frz o) (.ref a) := by
  obtain ⟨n, ho, eh, r0⟩ := R.live a o e
  have s : ∀ b u, del A a b = some u → A b = some u ∧ b ≠ a := fun b u q => by
    unfold del at q
    by_cases z : b = a
    · rw [if_pos z] at q; cases q
    · rw [if_neg z] at q; exact ⟨q, z⟩
  obtain ⟨R1, x1⟩ := R.sub (fun b u q => (s b u q).1)
  have k1 : Kept F (fun b => F b ∨ b = a) H H := kept_frz
  refine ⟨⟨fun b u q => ?_, fun b f => ?_⟩, ⟨fun _ h => .inl h, x1.k, fun b o h q f => ?_⟩, (r0.kept k1).frz (.inr rfl) eh⟩
  · obtain ⟨n2, h2, e2, r2⟩ := R1.live b u q
    refine ⟨fun z => ?_, h2, e2, r2.kept k1⟩
    rcases z with z | z
    · exact n2 z
    · exact (s b u q).2 z
  · rcases f with f | f
    · exact R.there b f
    · exact ⟨ho, by rw [f]; exact eh⟩
  · rcases f with f | f
    · exact f
    · rw [f, e] at h; cases h
/-- a hidden object is changed -/
theorem kept_hid {p : Addr} {ho ho' : HO} (nF : ¬ F p) (e : H p = some ho) (nt : ∀ xs, ho ≠ .tup xs) (nz : ∀ o u, ho ≠ .frz o u) (nx : ∀ fs, ho ≠ .xd fs) : Kept F F H (upd H p ho') := by
  have ne : ∀ {a : Addr}, F a → a ≠ p := fun f z => nF (z ▸ f)
  have rd : ∀ {a : Addr} {u : HO}, a ≠ p → Rd H a u → Rd (upd H p ho') a u := fun n r => Rd.keep (fun o q => by rw [upd_ne n]; exact q) r
  refine ⟨fun _ h => h, fun a xs r => ?_, fun a xs f q => by rw [upd_ne (ne f)]; exact q, fun a xs f r => rd (ne f) r, fun a xs f r => rd (ne f) r, fun a xs f r => rd (ne f) r, fun a C dx fs f q => by rw [upd_ne (ne f)]; exact q, fun a fs q => ?_⟩
  · rw [upd_ne (fun z => by subst z; rw [e] at r; cases r; exact nt _ rfl)]; exact r
  · rw [upd_ne (fun z => by subst z; rw [e] at q; cases q; exact nx _ rfl)]; exact q
theorem Rel.hid (R : Rel K F A H) {p : Addr} {ho ho' : HO} (nF : ¬ F p) (nA : A p = none) (e : H p = some ho) (nt : ∀ xs, ho ≠ .tup xs) (nz : ∀ o u, ho ≠ .frz o u) (nx : ∀ fs, ho ≠ .xd fs) : Rel K F A (upd H p ho') := by
  have k := kept_hid (ho' := ho') nF e nt nz nx
  refine ⟨fun a o q => ?_, fun a f => ?_⟩
  · obtain ⟨n, h2, e2, r⟩ := R.live a o q
    have : a ≠ p := fun z => by rw [z, nA] at q; cases q
    exact ⟨n, h2, by rw [upd_ne this]; exact e2, r.kept k⟩
  · have : a ≠ p := fun z => nF (z ▸ f)
    rw [upd_ne this]; exact R.there a f
/-- a hidden object comes forth -/
theorem Rel.showL (R : Rel K F A H) {p : Addr} {o : AO} {ho : HO} (nF : ¬ F p) (e : H p = some ho) (r : RepO K F H o ho) : Rel K F (Av.put A p o) H := by
  refine ⟨fun a u q => ?_, R.there⟩
  by_cases z : a = p
  · subst z; rw [put_same] at q; cases q; exact ⟨nF, ho, e, r⟩
  · rw [put_ne z] at q; exact R.live a u q
theorem Rel.showF (R : Rel K F A H) {p : Addr} {o : AO} {ho : HO} (nA : A p = none) (e : H p = some ho) (r : RepO K F H o ho) : Rel K (fun a => F a ∨ a = p) A H ∧ Rep K (fun a => F a ∨ a = p) H (Av.frz o) (.ref p) := by
  have k1 : Kept F (fun b => F b ∨ b = p) H H := kept_frz
  refine ⟨⟨fun a u q => ?_, fun a f => ?_⟩, (r.kept k1).frz (.inr rfl) e⟩
  · obtain ⟨n, h2, e2, r2⟩ := R.live a u q
    refine ⟨fun z => ?_, h2, e2, r2.kept k1⟩
    rcases z with z | z
    · exact n z
    · rw [z, nA] at q; cases q
  · rcases f with f | f
    · exact R.there a f
    · exact ⟨ho, by rw [f]; exact e⟩
end
/-! ### small facts -/
section
variable {K : PySem.W.Frag} {F : Addr → Prop} {H : Hp}
theorem Reps.length : ∀ {ds : List D} {vs : List V}, Reps K F H ds vs → ds.length = vs.length
  | _, _, .nil => rfl
  | _, _, .cons _ r => by rw [List.length_cons, List.length_cons, Reps.length r]
theorem Reps.get : ∀ {ds : List D} {vs : List V} {i : Nat} {v : V}, Reps K F H ds vs → vs[i]? = some v → ∃ d, ds[i]? = some d ∧ Rep K F H d v
  | _, _, i, _, .nil, h => by cases i <;> cases h
  | _, _, 0, _, .cons a _, h => by injection h with h; subst h; exact ⟨_, rfl, a⟩
  | _, _, i + 1, v, .cons _ k, h => Reps.get (i := i) k h
theorem Reps.get' : ∀ {ds : List D} {vs : List V} {i : Nat} {d : D}, Reps K F H ds vs → ds[i]? = some d → ∃ v, vs[i]? = some v ∧ Rep K F H d v
  | _, _, i, _, .nil, h => by cases i <;> cases h
  | _, _, 0, _, .cons a _, h => by injection h with h; subst h; exact ⟨_, rfl, a⟩
  | _, _, i + 1, v, .cons _ k, h => Reps.get' (i := i) k h
theorem Reps.append : ∀ {ds es : List D} {vs us : List V}, Reps K F H ds vs → Reps K F H es us → Reps K F H (ds ++ es) (vs ++ us)
  | _, _, _, _, .nil, s => s
  | _, _, _, _, .cons a r, s => .cons a (Reps.append r s)
theorem Reps.take : ∀ {ds : List D} {vs : List V} (n : Nat), Reps K F H ds vs → Reps K F H (ds.take n) (vs.take n)
  | _, _, 0, _ => .nil
  | _, _, _ + 1, .nil => .nil
  | _, _, n + 1, .cons a r => .cons a (Reps.take n r)
theorem Reps.drop : ∀ {ds : List D} {vs : List V} (n : Nat), Reps K F H ds vs → Reps K F H (ds.drop n) (vs.drop n)
  | _, _, 0, r => r
  | _, _, _ + 1, .nil => .nil
  | _, _, n + 1, .cons _ r => Reps.drop n r
theorem Reps.set {d : D} {v : V} (q : Rep K F H d v) : ∀ {ds : List D} {vs : List V} (n : Nat), Reps K F H ds vs → Reps K F H (ds.set n d) (vs.set n v)
  | _, _, _, .nil => .nil
  | _, _, 0, .cons _ r => .cons q r
  | _, _, n + 1, .cons a r => .cons a (Reps.set q n r)
theorem RepF.lookup : ∀ {ds : List (Str × D)} {vs : List (Str × V)} {f : Str} {d : D}, RepF K F H ds vs → ds.lookup f = some d → ∃ v, vs.lookup f = some v ∧ Rep K F H d v
  | _, _, f, d, .nil, h => by cases h
  | _, _, f, d, .cons (n := n) a r, h => by
    by_cases e : (f == n) = true
    · rw [List.lookup, e] at h; cases h
      exact ⟨_, by rw [List.lookup, e], a⟩
    · have e' : (f == n) = false := by simpa using e
      rw [List.lookup, e'] at h
      obtain ⟨v, h1, h2⟩ := RepF.lookup r h
      exact ⟨v, by rw [List.lookup, e']; exact h1, h2⟩
theorem RepF.lookup0 : ∀ {ds : List (Str × D)} {vs : List (Str × V)} {f : Str}, RepF K F H ds vs → ds.lookup f = none → vs.lookup f = none
  | _, _, f, .nil, h => rfl
  | _, _, f, .cons (n := n) a r, h => by
    by_cases e : (f == n) = true
    · rw [List.lookup, e] at h; cases h
    · have e' : (f == n) = false := by simpa using e
      rw [List.lookup, e'] at h ⊢
      exact RepF.lookup0 r h
theorem RepF.length : ∀ {ds : List (Str × D)} {vs : List (Str × V)}, RepF K F H ds vs → ds.length = vs.length
  | _, _, .nil => rfl
  | _, _, .cons _ r => by rw [List.length_cons, List.length_cons, RepF.length r]
end
/-- slots -/
inductive RepS (K : PySem.W.Frag) (F : Addr → Prop) (H : Hp) : List (Option D) → List (Option V) → Prop
  | nil : RepS K F H [] []
  | no {v : Option V} {ds : List (Option D)} {vs : List (Option V)} : RepS K F H ds vs → RepS K F H (none :: ds) (v :: vs)
  | yes {d : D} {v : V} {ds : List (Option D)} {vs : List (Option V)} : Rep K F H d v → RepS K F H ds vs → RepS K F H (some d :: ds) (some v :: vs)
section
variable {K : PySem.W.Frag} {F F' : Addr → Prop} {H H' : Hp}
theorem RepS.kept (s : Kept F F' H H') : ∀ {d : List (Option D)} {v : List (Option V)}, RepS K F H d v → RepS K F' H' d v
  | _, _, .nil => .nil
  | _, _, .no r => .no (RepS.kept s r)
  | _, _, .yes a r => .yes (a.kept s) (RepS.kept s r)
theorem RepS.get : ∀ {ds : List (Option D)} {vs : List (Option V)} {i : Nat} {d : D}, RepS K F H ds vs → ds[i]? = some (some d) → ∃ v, vs[i]? = some (some v) ∧ Rep K F H d v
  | _, _, i, _, .nil, h => by cases i <;> cases h
  | _, _, 0, _, .no _, h => by cases h
  | _, _, 0, _, .yes a _, h => by cases h; exact ⟨_, rfl, a⟩
  | _, _, i + 1, d, .no k, h => RepS.get (i := i) k h
  | _, _, i + 1, d, .yes _ k, h => RepS.get (i := i) k h
theorem RepS.set {d : D} {v : V} (q : Rep K F H d v) : ∀ {ds : List (Option D)} {vs : List (Option V)} (n : Nat), RepS K F H ds vs → RepS K F H (ds.set n (some d)) (vs.set n (some v))
  | _, _, _, .nil => .nil
  | _, _, 0, .no r => .yes q r
  | _, _, 0, .yes _ r => .yes q r
  | _, _, n + 1, .no r => .no (RepS.set q n r)
  | _, _, n + 1, .yes a r => .yes a (RepS.set q n r)
theorem RepS.unset : ∀ {ds : List (Option D)} {vs : List (Option V)} {x : Option V} (n : Nat), RepS K F H ds vs → RepS K F H (ds.set n none) (vs.set n x)
  | _, _, _, _, .nil => .nil
  | _, _, _, 0, .no r => .no r
  | _, _, _, 0, .yes _ r => .no r
  | _, _, x, n + 1, .no r => .no (RepS.unset n r)
  | _, _, x, n + 1, .yes a r => .yes a (RepS.unset n r)
theorem RepS.nones : ∀ (n : Nat) (vs : List (Option V)), vs.length = n → RepS K F H (List.replicate n none) vs
  | 0, [], _ => .nil
  | n + 1, v :: vs, h => .no (RepS.nones n vs (by simpa using h))
  | 0, _ :: _, h => by cases h
  | _ + 1, [], h => by cases h
end
end Av

set_option Elab.async false
set_option linter.all false
set_option maxRecDepth 100000
set_option maxHeartbeats 4000000
/-! own library Av, part 2: readings over trees and live cells -/
namespace Av
open PySem PySem.Spec PyProof.Rows L2 My
abbrev AX := Addr → List (Str × D) → AH → Prop
abbrev AQ := D → AH → Prop
abbrev ASt := List (Option D)
abbrev AK (α : Type) := AH → (α → AH → Prop) → AX → Prop
abbrev AM (α : Type) := ASt → AK α
abbrev AE := AM D
abbrev AT := AM Bool
abbrev AA := AM (List D)
def Gx (K : PySem.W.Frag) (W : WX) (F : Addr → Prop) (A : AH) (H : Hp) (σ : L2.St) (E : AX) : Prop :=
  ∀ C fs A' F' H' dd fv, E C fs A' → Ext F A H F' A' H' → Rel K F' A' H' → H' dd = some (.xd fv) → RepF K F' H' fs fv → W (.ref C) (some dd) σ H'
structure At (K : PySem.W.Frag) (W : WX) (δ : ASt) (σ : L2.St) (H : Hp) (F : Addr → Prop) (A : AH) (E : AX) (ds : List D) (vs : List V) : Prop where
  rel : Rel K F A H
  sl : RepS K F H δ σ
  gx : Gx K W F A H σ E
  held : Reps K F H ds vs
abbrev RP (α β : Type) := (Addr → Prop) → Hp → α → β → Prop
def Post {α β : Type} (K : PySem.W.Frag) (Rp : RP α β) (F : Addr → Prop) (A : AH) (H : Hp) (Q' : α → AH → Prop) (Q : β → Hp → Prop) : Prop :=
  ∀ x A' F' H' y, Q' x A' → Ext F A H F' A' H' → Rel K F' A' H' → Rp F' H' x y → Q y H'
def Lf {α β : Type} (Rp : RP α β) (K : PySem.W.Frag) (W : WX) (δ : ASt) (ds : List D) (vs : List V) (k : AK α) (σ : L2.St) (H : Hp) (Q : β → Hp → Prop) : Prop :=
  ∃ F A Q' E', At K W δ σ H F A E' ds vs ∧ k A Q' E' ∧ Post K Rp F A H Q' Q
def lift {α β : Type} (Rp : RP α β) (K : PySem.W.Frag) (W : WX) (t : AM α) : L2.St → Hp → (β → Hp → Prop) → Prop := fun σ H Q => ∃ δ, Lf Rp K W δ [] [] (t δ) σ H Q
abbrev liftE (K : PySem.W.Frag) (W : WX) (t : AE) : TE := lift (Rep K) K W t
abbrev liftT (K : PySem.W.Frag) (W : WX) (t : AT) : TT := lift (fun _ _ x y => x = y) K W t
abbrev liftA (K : PySem.W.Frag) (W : WX) (t : AA) : TA := lift (Reps K) K W t
section
variable {α β γ ε : Type} {R1 : RP α β} {R2 : RP γ ε} {K : PySem.W.Frag} {W : WX} {δ : ASt} {σ : L2.St} {H H' : Hp} {F F' : Addr → Prop} {A A' : AH} {E : AX} {ds : List D} {vs : List V}
theorem Gx.step (g : Gx K W F A H σ E) (x : Ext F A H F' A' H') : Gx K W F' A' H' σ E := fun C fs A2 F2 H2 dd fv e x2 => g C fs A2 F2 H2 dd fv e (x.trans x2)
theorem At.step (a : At K W δ σ H F A E ds vs) (x : Ext F A H F' A' H') (R : Rel K F' A' H') : At K W δ σ H' F' A' E ds vs := ⟨R, a.sl.kept (x.kept a.rel), a.gx.step x, a.held.kept (x.kept a.rel)⟩
theorem Post.step {Q' : α → AH → Prop} {Q : β → Hp → Prop} (p : Post K R1 F A H Q' Q) (x : Ext F A H F' A' H') : Post K R1 F' A' H' Q' Q := fun y A2 F2 H2 z q x2 => p y A2 F2 H2 z q (x.trans x2)
theorem lift.mono {t : AM α} {Q Q2 : β → Hp → Prop} (h : lift R1 K W t σ H Q) (i : ∀ y H', Q y H' → Q2 y H') : lift R1 K W t σ H Q2 := by
  obtain ⟨δ, F, A, Q', E', a, k, p⟩ := h
  exact ⟨δ, F, A, Q', E', a, k, fun x A' F' H' y q x2 r rp => i _ _ (p x A' F' H' y q x2 r rp)⟩
theorem Lf.core {t : AM α} {k : α → AK γ} {Q : ε → Hp → Prop} (h : Lf R2 K W δ ds vs (fun A Q E => t δ A (fun x A1 => k x A1 Q E) E) σ H Q) :
    lift R1 K W t σ H (fun y H1 => ∃ x F1 A1 Q' E', At K W δ σ H1 F1 A1 E' ds vs ∧ R1 F1 H1 x y ∧ k x A1 Q' E' ∧ Post K R2 F1 A1 H1 Q' Q) := by
  obtain ⟨F, A, Q', E', a, kk, p⟩ := h
  exact ⟨δ, F, A, _, E', ⟨a.rel, a.sl, a.gx, .nil⟩, kk, fun x A1 F1 H1 y q x1 r rp => ⟨x, F1, A1, Q', E', a.step x1 r, rp, q, p.step x1⟩⟩
theorem Lf.bindE {t : AE} {k : D → AK γ} {Q : ε → Hp → Prop} (h : Lf R2 K W δ ds vs (fun A Q E => t δ A (fun x A1 => k x A1 Q E) E) σ H Q) :
    liftE K W t σ H (fun y H1 => ∃ x, Lf R2 K W δ (x :: ds) (y :: vs) (k x) σ H1 Q) :=
  (Lf.core (R1 := Rep K) h).mono fun y H1 ⟨x, F1, A1, Q', E', a, r, q, p⟩ => ⟨x, F1, A1, Q', E', ⟨a.rel, a.sl, a.gx, .cons r a.held⟩, q, p⟩
theorem Lf.bindA {t : AA} {k : List D → AK γ} {Q : ε → Hp → Prop} (h : Lf R2 K W δ ds vs (fun A Q E => t δ A (fun x A1 => k x A1 Q E) E) σ H Q) :
    liftA K W t σ H (fun y H1 => ∃ x, Lf R2 K W δ (x ++ ds) (y ++ vs) (k x) σ H1 Q) :=
  (Lf.core (R1 := Reps K) h).mono fun y H1 ⟨x, F1, A1, Q', E', a, r, q, p⟩ => ⟨x, F1, A1, Q', E', ⟨a.rel, a.sl, a.gx, r.append a.held⟩, q, p⟩
theorem Lf.bindT {t : AT} {k : Bool → AK γ} {Q : ε → Hp → Prop} (h : Lf R2 K W δ ds vs (fun A Q E => t δ A (fun x A1 => k x A1 Q E) E) σ H Q) :
    liftT K W t σ H (fun y H1 => Lf R2 K W δ ds vs (k y) σ H1 Q) :=
  (Lf.core (R1 := fun _ _ x y => x = y) h).mono fun y H1 ⟨x, F1, A1, Q', E', a, r, q, p⟩ => by subst r; exact ⟨F1, A1, Q', E', a, q, p⟩
/-- the last step -/
theorem Lf.out {t : AM γ} {Q : ε → Hp → Prop} (h : Lf R2 K W δ ds vs (t δ) σ H Q) : lift R2 K W t σ H Q := by
  obtain ⟨F, A, Q', E', a, kk, p⟩ := h
  exact ⟨δ, F, A, Q', E', ⟨a.rel, a.sl, a.gx, .nil⟩, kk, p⟩
end
/-! ### reading cells -/
def asX (A : AH) : D → Option (List D)
  | .lst xs => some xs
  | .ref a => match A a with
    | some (.lst xs) => some xs
    | _ => none
  | _ => none
def asL (A : AH) : D → Option (List D)
  | .lst xs => some xs
  | .rol xs => some xs
  | .ref a => match A a with
    | some (.lst xs) => some xs
    | _ => none
  | _ => none
def asT : D → Option (List D)
  | .tup xs => some xs
  | _ => none
def asD (A : AH) : D → Option (List (D × D))
  | .dct xs => some xs
  | .ref a => match A a with
    | some (.dct xs) => some xs
    | _ => none
  | _ => none
def asO (A : AH) : D → Option (Addr × List (Str × D))
  | .obj C fs => some (C, fs)
  | .ref a => match A a with
    | some (.ins C fs) => some (C, fs)
    | _ => none
  | _ => none
/-- a new object -/
def aNew (live : Bool) (o : AO) (A : AH) (Q : AQ) : Prop := match live with
  | true => ∀ p, A p = none → Q (.ref p) (put A p o)
  | false => Q (frz o) A
section
variable {K : PySem.W.Frag} {F : Addr → Prop} {A : AH} {H : Hp} {d : D} {v : V}
theorem asL_ok (R : Rel K F A H) (r : Rep K F H d v) {xs : List D} (e : asL A d = some xs) : ∃ a vs, v = .ref a ∧ SqL K H a vs ∧ Reps K F H xs vs := by
  cases r with
  | lst f h r => cases e; exact ⟨_, _, rfl, SqL.of h, r⟩
  | rol f h r => cases e; exact ⟨_, _, rfl, .inl h, r⟩
  | rolK h r => cases e; exact ⟨_, _, rfl, .inr h, r⟩
  | ref a =>
    simp only [asL] at e
    split at e
    · rename_i ys q
      cases e
      obtain ⟨_, ho, eh, r⟩ := R.live a _ q
      cases r with
      | lst r => exact ⟨a, _, rfl, SqL.of eh, r⟩
    · cases e
  | _ => cases e
theorem asX_ok (R : Rel K F A H) (r : Rep K F H d v) {xs : List D} (e : asX A d = some xs) : ∃ a vs, v = .ref a ∧ H a = some (.lst vs) ∧ Reps K F H xs vs := by
  cases r with
  | lst f h r => cases e; exact ⟨_, _, rfl, h, r⟩
  | ref a =>
    simp only [asX] at e
    split at e
    · rename_i ys q
      cases e
      obtain ⟨_, ho, eh, r⟩ := R.live a _ q
      cases r with
      | lst r => exact ⟨a, _, rfl, eh, r⟩
    · cases e
  | _ => cases e
theorem asTe_ok (r : Rep K F H d v) {xs : List D} (e : asT d = some xs) : ∃ a vs, v = .ref a ∧ TupE K H a vs ∧ Reps K F H xs vs := by
  cases r with
  | tup h r => cases e; exact ⟨_, _, rfl, h, r⟩
  | _ => cases e
theorem asT_ok (r : Rep K F H d v) {xs : List D} (e : asT d = some xs) : ∃ a vs, v = .ref a ∧ SqT K H a vs ∧ Reps K F H xs vs := by
  cases r with
  | tup h r => cases e; exact ⟨_, _, rfl, h.sq, r⟩
  | _ => cases e
theorem asD_ok (R : Rel K F A H) (r : Rep K F H d v) {xs : List (D × D)} (e : asD A d = some xs) : ∃ a vs, v = .ref a ∧ Rd H a (.dK vs) ∧ RepK K F H xs vs := by
  cases r with
  | dk f h r => cases e; exact ⟨_, _, rfl, h, r⟩
  | ref a =>
    simp only [asD] at e
    split at e
    · rename_i ys q
      cases e
      obtain ⟨_, ho, eh, r⟩ := R.live a _ q
      cases r with
      | dk r => exact ⟨a, _, rfl, .of eh, r⟩
    · cases e
  | _ => cases e
theorem asO_ok (R : Rel K F A H) (r : Rep K F H d v) {C : Addr} {fs : List (Str × D)} (e : asO A d = some (C, fs)) : ∃ a dx vs, v = .ref a ∧ H a = some (.ins C dx vs) ∧ RepF K F H fs vs := by
  cases r with
  | obj f h r => cases e; exact ⟨_, _, _, rfl, h, r⟩
  | ref a =>
    simp only [asO] at e
    split at e
    · rename_i C' ys q
      cases e
      obtain ⟨_, ho, eh, r⟩ := R.live a _ q
      cases r with
      | ins r => exact ⟨a, _, _, rfl, eh, r⟩
    · cases e
  | _ => cases e
end
section
variable {K : PySem.W.Frag} {W : WX} {δ : ASt} {σ : L2.St} {H : Hp} {F : Addr → Prop} {A : AH} {E : AX} {ds : List D} {vs : List V} {Q' : AQ} {Q : VK}
/-- a new object is laid -/
theorem aNew_ok {live : Bool} {o : AO} {ho : HO} (R : Rel K F A H) (r : RepO K F H o ho) (h : aNew live o A Q') (p : Post K (Rep K) F A H Q' Q) : ∀ a, H a = none → Q (.ref a) (upd H a ho) := fun a ha => by
  cases live with
  | true =>
    obtain ⟨R1, x1⟩ := R.newL ha r
    exact p _ _ _ _ _ (h a (R.fresh ha).1) x1 R1 (.ref a)
  | false =>
    obtain ⟨R1, x1, r1⟩ := R.newF ha r
    exact p _ _ _ _ _ h x1 R1 r1
theorem tup_ok {xs : List D} {us : List V} (R : Rel K F A H) (r : Reps K F H xs us) (h : Q' (.tup xs) A) (p : Post K (Rep K) F A H Q' Q) : ∀ a, H a = none → Q (.ref a) (upd H a (.tup us)) := fun a ha => by
  obtain ⟨R1, x1, r1⟩ := R.newT ha r
  exact p _ _ _ _ _ h x1 R1 r1
end
/-! ### expressions -/
section
variable {X : Cx} {W : WX} {pos : Pos}
def aVar (i : Nat) : AE := fun δ A Q _ => ∃ d, δ[i]? = some (some d) ∧ Q d A
def aC (d : D) : AE := fun _ A Q _ => Q d A
theorem ae_var {e : Expr} {i : Nat} (h : PE X e (tVar i)) : PE X e (liftE X.K W (aVar i)) := PE.imp h fun σ H Q ⟨δ, F, A, Q', E', a, ⟨d, e, q⟩, p⟩ => by
  obtain ⟨v, e1, r⟩ := a.sl.get e
  exact ⟨v, e1, p _ _ _ _ _ q Ext.refl a.rel r⟩
theorem ae_c {e : Expr} {v : V} {d : D} (h : PE X e (tC v)) (hr : ∀ F H, Rep X.K F H d v) : PE X e (liftE X.K W (aC d)) := PE.imp h fun σ H Q ⟨δ, F, A, Q', E', a, q, p⟩ => p _ _ _ _ _ q Ext.refl a.rel (hr _ _)
theorem ae_int {i : Int} {j pos} : PE X (.Constant (.int i) j pos) (liftE X.K W (aC (.int i))) := ae_c pe_int fun _ _ => .int i
theorem ae_bl {b : Bool} {j pos} : PE X (.Constant (.bool b) j pos) (liftE X.K W (aC (.bl b))) := ae_c pe_bl fun _ _ => .bl b
theorem ae_non {j pos} : PE X (.Constant .none j pos) (liftE X.K W (aC .non)) := ae_c pe_non fun _ _ => .non
theorem ae_str {x : Str} {j pos} (h : sOk x := by unfold sOk; decide +kernel) : PE X (.Constant (.str x) j pos) (liftE X.K W (aC (.str x))) := ae_c pe_str fun _ _ => .str h
/-- binary -/
abbrev G2 := D → D → AK D
def Lift2 (K : PySem.W.Frag) (g : G2) (r : R2) : Prop := ∀ (W : WX) δ σ H x y v u Q, Lf (Rep K) K W δ [y, x] [u, v] (g x y) σ H Q → r v u H Q
def aOp (g : G2) (ta tb : AE) : AE := fun δ A Q E => ta δ A (fun x A1 => tb δ A1 (fun y A2 => g x y A2 Q E) E) E
variable {a b c : Expr} {ta tb tc : AE} {g : G2} {r : R2}
theorem lift_op (L : Lift2 X.K g r) {σ : L2.St} {H : Hp} {Q : VK} (h : liftE X.K W (aOp g ta tb) σ H Q) : tOp r (liftE X.K W ta) (liftE X.K W tb) σ H Q := by
  obtain ⟨δ, h⟩ := h
  exact (Lf.bindE (k := fun x A1 Q E => tb δ A1 (fun y A2 => g x y A2 Q E) E) h).mono fun v1 H1 ⟨x1, h1⟩ => (Lf.bindE (k := fun y => g x1 y) h1).mono fun v2 H2 ⟨x2, h2⟩ => L W δ σ H2 x1 x2 v1 v2 Q h2
theorem ae_op {op : Operator} (L : Lift2 X.K g r) (ho : OpR X (binaryOp op) r) (ha : PE X a (liftE X.K W ta)) (hb : PE X b (liftE X.K W tb)) : PE X (.BinOp a op b pos) (liftE X.K W (aOp g ta tb)) := PE.imp (pe_op ho ha hb) fun σ H Q h => lift_op L h
theorem ae_cmp {op : CmpOp} (L : Lift2 X.K g r) (ho : OpR X (compareOp op) r) (ha : PE X a (liftE X.K W ta)) (hb : PE X b (liftE X.K W tb)) (hm : behindInMarks op b = false) : PE X (.Compare a [op] [b] pos) (liftE X.K W (aOp g ta tb)) := PE.imp (pe_cmpR ho ha hb hm) fun σ H Q h => lift_op L h
theorem ae_ix (L : Lift2 X.K g r) (hr : IxR X r) (ha : PE X a (liftE X.K W ta)) (hb : PE X b (liftE X.K W tb)) (hs : PlainIx b) : PE X (.Subscript a b pos) (liftE X.K W (aOp g ta tb)) := PE.imp (pe_ix hr ha hb hs) fun σ H Q h => lift_op L h
/-- a value's truth as a test -/
def aB (t : AE) : AT := fun δ A Q E => t δ A (fun x A1 => ∃ c, x = .bl c ∧ Q c A1) E
theorem lift_B {t : AE} {σ : L2.St} {H : Hp} {Q : Bool → Hp → Prop} (h : liftT X.K W (aB t) σ H Q) : tB (liftE X.K W t) σ H Q := by
  obtain ⟨δ, h⟩ := h
  refine (Lf.bindE (k := fun x A1 Q _ => ∃ c, x = .bl c ∧ Q c A1) h).mono fun v1 H1 ⟨x1, F, A, Q', E', a, ⟨c, e, q⟩, p⟩ => ?_
  subst e
  cases a.held with
  | cons r _ => cases r; exact ⟨c, rfl, p _ _ _ _ _ q Ext.refl a.rel rfl⟩
theorem at_cmp {op : CmpOp} (L : Lift2 X.K g r) (ho : OpR X (compareOp op) r) (ha : PE X a (liftE X.K W ta)) (hb : PE X b (liftE X.K W tb)) (hm : behindInMarks op b = false) : PT X (.Compare a [op] [b] pos) (liftT X.K W (aB (aOp g ta tb))) :=
  PT.imp (pt_cmpR ho ha hb hm) fun σ H Q h => by
    have := lift_B h
    exact (show tTest (tOp r (liftE X.K W ta) (liftE X.K W tb)) σ H Q from lift_op L this)
theorem at_val {e : Expr} {t : AE} (h : PE X e (liftE X.K W t)) (he : ∀ whole, isTrue e X.env whole = (do let v ← whole; standAt e.pos; holding [v] (truthy v)) := by intro _; rfl) : PT X e (liftT X.K W (aB t)) := PT.imp (pt_val h he) fun σ H Q h => lift_B h
/-- unary -/
abbrev G1 := D → AK D
def Lift1 (K : PySem.W.Frag) (g : G1) (r : V → Hp → VK → Prop) : Prop := ∀ (W : WX) δ σ H x v Q, Lf (Rep K) K W δ [x] [v] (g x) σ H Q → r v H Q
def aUn (g : G1) (ta : AE) : AE := fun δ A Q E => ta δ A (fun x A1 => g x A1 Q E) E
theorem lift_un {g : G1} {r : V → Hp → VK → Prop} (L : Lift1 X.K g r) {σ : L2.St} {H : Hp} {Q : VK} (h : liftE X.K W (aUn g ta) σ H Q) : liftE X.K W ta σ H (fun x H1 => r x H1 Q) := by
  obtain ⟨δ, h⟩ := h
  exact (Lf.bindE (k := g) h).mono fun v1 H1 ⟨x1, h1⟩ => L W δ σ H1 x1 v1 Q h1
theorem ae_un {op : UnaryOp} {g : G1} {r : V → Hp → VK → Prop} (L : Lift1 X.K g r) (ho : UnR X (unaryOp op) r) (ha : PE X a (liftE X.K W ta)) : PE X (.UnaryOp op a pos) (liftE X.K W (aUn g ta)) := PE.imp (pe_un ho ha) fun σ H Q h => lift_un L h
/-- truth of any value -/
def truD (A : AH) : D → Option Bool
  | .non => some false
  | .bl b => some b
  | .int i => some (i != 0)
  | .str x => some ((x.length : Int) != 0)
  | .tup xs => some (!xs.isEmpty)
  | .lst xs => some (!xs.isEmpty)
  | .ref a => match A a with
    | some (.lst xs) => some (!xs.isEmpty)
    | _ => none
  | _ => none
def lenOk : D → Prop
  | .str x => x.length ≤ sizeLine
  | _ => True
theorem reps_empty {K : PySem.W.Frag} {F : Addr → Prop} {H : Hp} {xs : List D} {us : List V} (r : Reps K F H xs us) : (!xs.isEmpty) = !us.isEmpty := by cases r <;> rfl
theorem truD_ok {K : PySem.W.Frag} {F : Addr → Prop} {A : AH} {H : Hp} {d : D} {v : V} (R : Rel K F A H) (r : Rep K F H d v) {b : Bool} (l : lenOk d) (e : truD A d = some b) : TruV K v H b := by
  cases r with
  | non => cases e; exact rfl
  | bl b => cases e; exact rfl
  | int i => cases e; exact rfl
  | str h => cases e; exact ⟨l, rfl⟩
  | tup h r => cases e; exact .inr (.inl ⟨_, h.sq, reps_empty r⟩)
  | lst f h r => cases e; exact .inl ⟨_, SqL.of h, reps_empty r⟩
  | ref a =>
    simp only [truD] at e
    split at e
    · rename_i ys q
      cases e
      obtain ⟨_, ho, eh, r⟩ := R.live a _ q
      cases r with
      | lst r => exact .inl ⟨_, SqL.of eh, reps_empty r⟩
    · cases e
  | _ => cases e
def aTru (t : AE) : AT := fun δ A Q E => t δ A (fun x A1 => lenOk x ∧ ∃ b, truD A1 x = some b ∧ Q b A1) E
theorem at_truth (ha : PE X a (liftE X.K W ta)) (he : ∀ whole, isTrue a X.env whole = (do let v ← whole; standAt a.pos; holding [v] (truthy v)) := by intro _; rfl) : PT X a (liftT X.K W (aTru ta)) := PT.imp (pt_truth ha he) fun σ H Q ⟨δ, h⟩ => by
  refine (Lf.bindE (k := fun x A1 Q _ => lenOk x ∧ ∃ b, truD A1 x = some b ∧ Q b A1) h).mono fun v1 H1 ⟨x1, F, A, Q', E', a, ⟨l, b, e, q⟩, p⟩ => ?_
  cases a.held with
  | cons r _ => exact ⟨b, truD_ok a.rel r l e, p _ _ _ _ _ q Ext.refl a.rel rfl⟩
def aOrV (ta tb : AE) : AE := fun δ A Q E => ta δ A (fun x A1 => lenOk x ∧ ∃ b, truD A1 x = some b ∧ if b = true then Q x A1 else tb δ A1 Q E) E
def aAndV (ta tb : AE) : AE := fun δ A Q E => ta δ A (fun x A1 => lenOk x ∧ ∃ b, truD A1 x = some b ∧ if b = true then tb δ A1 Q E else Q x A1) E
def aNotV (ta : AE) : AE := fun δ A Q E => ta δ A (fun x A1 => lenOk x ∧ ∃ b, truD A1 x = some b ∧ Q (.bl (!b)) A1) E
variable {rest : List Expr}
theorem ae_one {op} {t : AE} (h : PE X a (liftE X.K W t)) : PE X (.BoolOp op [a] pos) (liftE X.K W t) := pe_one h
theorem ae_or (ha : PE X a (liftE X.K W ta)) (hb : PE X (.BoolOp .Or (b :: rest) pos) (liftE X.K W tb)) : PE X (.BoolOp .Or (a :: b :: rest) pos) (liftE X.K W (aOrV ta tb)) := PE.imp (pe_orT ha hb) fun σ H Q ⟨δ, h⟩ => by
  refine (Lf.bindE (k := fun x A1 Q E => lenOk x ∧ ∃ b, truD A1 x = some b ∧ if b = true then Q x A1 else tb δ A1 Q E) h).mono fun v1 H1 ⟨x1, F, A, Q', E', a, ⟨l, b, e, q⟩, p⟩ => ?_
  cases a.held with
  | cons r n =>
    refine ⟨b, truD_ok a.rel r l e, ?_⟩
    split
    · rw [if_pos (by assumption)] at q; exact p _ _ _ _ _ q Ext.refl a.rel r
    · rw [if_neg (by assumption)] at q; exact ⟨δ, F, A, Q', E', ⟨a.rel, a.sl, a.gx, .nil⟩, q, p⟩
theorem ae_and (ha : PE X a (liftE X.K W ta)) (hb : PE X (.BoolOp .And (b :: rest) pos) (liftE X.K W tb)) : PE X (.BoolOp .And (a :: b :: rest) pos) (liftE X.K W (aAndV ta tb)) := PE.imp (pe_andT ha hb) fun σ H Q ⟨δ, h⟩ => by
  refine (Lf.bindE (k := fun x A1 Q E => lenOk x ∧ ∃ b, truD A1 x = some b ∧ if b = true then tb δ A1 Q E else Q x A1) h).mono fun v1 H1 ⟨x1, F, A, Q', E', a, ⟨l, b, e, q⟩, p⟩ => ?_
  cases a.held with
  | cons r n =>
    refine ⟨b, truD_ok a.rel r l e, ?_⟩
    split
    · rw [if_pos (by assumption)] at q; exact ⟨δ, F, A, Q', E', ⟨a.rel, a.sl, a.gx, .nil⟩, q, p⟩
    · rw [if_neg (by assumption)] at q; exact p _ _ _ _ _ q Ext.refl a.rel r
theorem ae_not (ha : PE X a (liftE X.K W ta)) : PE X (.UnaryOp .Not a pos) (liftE X.K W (aNotV ta)) := PE.imp (pe_notT ha) fun σ H Q ⟨δ, h⟩ => by
  refine (Lf.bindE (k := fun x A1 Q E => lenOk x ∧ ∃ b, truD A1 x = some b ∧ Q (D.bl (!b)) A1) h).mono fun v1 H1 ⟨x1, F, A, Q', E', a, ⟨l, b, e, q⟩, p⟩ => ?_
  cases a.held with
  | cons r n => exact ⟨b, truD_ok a.rel r l e, p _ _ _ _ _ q Ext.refl a.rel (.bl _)⟩
variable {tA tB' : AT}
def aAnd (t u : AT) : AT := fun δ A Q E => t δ A (fun c A1 => if c = true then u δ A1 Q E else Q false A1) E
def aOr (t u : AT) : AT := fun δ A Q E => t δ A (fun c A1 => if c = true then Q true A1 else u δ A1 Q E) E
def aNot (t : AT) : AT := fun δ A Q E => t δ A (fun c A1 => Q (!c) A1) E
theorem PW.imp {e : Expr} {t t' : TT} (h : PW X e t) (i : ∀ σ H Q, t' σ H Q → t σ H Q) : PW X e t' := ⟨fun wh pins s σ H Q I q => h.run wh pins s σ H Q I (i _ _ _ q)⟩
theorem aw_and1 (ha : PT X a (liftT X.K W tA)) : PW X (.BoolOp .And [a] pos) (liftT X.K W tA) := pw_and1 ha
theorem aw_or1 (ha : PT X a (liftT X.K W tA)) : PW X (.BoolOp .Or [a] pos) (liftT X.K W tA) := pw_or1 ha
theorem aw_and (ha : PT X a (liftT X.K W tA)) (hb : PW X (.BoolOp .And (b :: rest) pos) (liftT X.K W tB')) : PW X (.BoolOp .And (a :: b :: rest) pos) (liftT X.K W (aAnd tA tB')) := PW.imp (pw_and ha hb) fun σ H Q ⟨δ, h⟩ => by
  refine (Lf.bindT (k := fun c A1 Q E => if c = true then tB' δ A1 Q E else Q false A1) h).mono fun c H1 ⟨F, A, Q', E', a, q, p⟩ => ?_
  dsimp only at q
  split
  · rw [if_pos (by assumption)] at q; exact ⟨δ, F, A, Q', E', a, q, p⟩
  · rw [if_neg (by assumption)] at q; exact p _ _ _ _ _ q Ext.refl a.rel rfl
theorem aw_or (ha : PT X a (liftT X.K W tA)) (hb : PW X (.BoolOp .Or (b :: rest) pos) (liftT X.K W tB')) : PW X (.BoolOp .Or (a :: b :: rest) pos) (liftT X.K W (aOr tA tB')) := PW.imp (pw_or ha hb) fun σ H Q ⟨δ, h⟩ => by
  refine (Lf.bindT (k := fun c A1 Q E => if c = true then Q true A1 else tB' δ A1 Q E) h).mono fun c H1 ⟨F, A, Q', E', a, q, p⟩ => ?_
  dsimp only at q
  split
  · rw [if_pos (by assumption)] at q; exact p _ _ _ _ _ q Ext.refl a.rel rfl
  · rw [if_neg (by assumption)] at q; exact ⟨δ, F, A, Q', E', a, q, p⟩
theorem at_not (ha : PT X a (liftT X.K W tA)) : PT X (.UnaryOp .Not a pos) (liftT X.K W (aNot tA)) := PT.imp (pt_not ha) fun σ H Q ⟨δ, h⟩ =>
  (Lf.bindT (k := fun c A1 Q E => Q (!c) A1) h).mono fun c H1 ⟨F, A, Q', E', a, q, p⟩ => p _ _ _ _ _ q Ext.refl a.rel rfl
def aIf (t : AT) (ta tb : AE) : AE := fun δ A Q E => t δ A (fun c A1 => if c = true then ta δ A1 Q E else tb δ A1 Q E) E
theorem ae_if (hc : PT X c (liftT X.K W tA)) (ha : PE X a (liftE X.K W ta)) (hb : PE X b (liftE X.K W tb)) : PE X (.IfExp c a b pos) (liftE X.K W (aIf tA ta tb)) := PE.imp (pe_ifExp hc ha hb) fun σ H Q ⟨δ, h⟩ => by
  refine (Lf.bindT (k := fun c A1 Q E => if c = true then ta δ A1 Q E else tb δ A1 Q E) h).mono fun c H1 ⟨F, A, Q', E', a, q, p⟩ => ?_
  dsimp only at q
  split
  · rw [if_pos (by assumption)] at q; exact ⟨δ, F, A, Q', E', a, q, p⟩
  · rw [if_neg (by assumption)] at q; exact ⟨δ, F, A, Q', E', a, q, p⟩
variable {g' : G2} {r' : R2}
def aChain (g g' : G2) (ta tb tc : AE) : AE := fun δ A Q E => ta δ A (fun x A1 => tb δ A1 (fun y A2 => g x y A2 (fun z A3 => ∃ k, z = .bl k ∧ if k = true then tc δ A3 (fun w A4 => g' y w A4 Q E) E else Q (.bl false) A3) E) E) E
variable {es : List Expr} {te : AE} {t : AA}
def aNil : AA := fun _ A Q _ => Q [] A
def aCons (te : AE) (t : AA) : AA := fun δ A Q E => te δ A (fun x A1 => t δ A1 (fun xs A2 => Q (x :: xs) A2) E) E
theorem PA.imp {es : List Expr} {t t' : TA} (h : PA X es t) (i : ∀ σ H Q, t' σ H Q → t σ H Q) : PA X es t' := ⟨fun pos pins s σ H Q I q => h.run pos pins s σ H Q I (i _ _ _ q)⟩
theorem aa_nil : PA X [] (liftA X.K W aNil) := PA.imp pa_nil fun σ H Q ⟨δ, F, A, Q', E', a, q, p⟩ => p _ _ _ _ _ q Ext.refl a.rel .nil
theorem aa_cons (ha : PE X a (liftE X.K W te)) (hr : PA X es (liftA X.K W t)) (hs : starEach (a :: es) X.env = (false, eval a X.env) :: starEach es X.env := by rfl) : PA X (a :: es) (liftA X.K W (aCons te t)) := PA.imp (pa_cons ha hr hs) fun σ H Q ⟨δ, h⟩ =>
  (Lf.bindE (k := fun x A1 Q E => t δ A1 (fun xs A2 => Q (x :: xs) A2) E) h).mono fun v1 H1 ⟨x1, h1⟩ => (Lf.core (R1 := Reps X.K) (k := fun xs A2 Q E => Q (x1 :: xs) A2) h1).mono fun vs H2 ⟨xs, F, A, Q', E', a, r, q, p⟩ => by
    cases a.held with
    | cons r0 _ => exact p _ _ _ _ _ q Ext.refl a.rel (.cons r0 r)
def aTup (t : AA) : AE := fun δ A Q E => t δ A (fun xs A1 => xs.length ≤ sizeLine ∧ Q (.tup xs) A1) E
theorem ae_tup {x1} (h : PA X es (liftA X.K W t)) : PE X (.Tuple es x1 pos) (liftE X.K W (aTup t)) := PE.imp (pe_tup h) fun σ H Q ⟨δ, h⟩ =>
  (Lf.core (R1 := Reps X.K) (k := fun xs A1 Q E => xs.length ≤ sizeLine ∧ Q (.tup xs) A1) h).mono fun vs H1 ⟨xs, F, A, Q', E', a, r, ⟨z, q⟩, p⟩ => ⟨by rw [← r.length]; exact z, tup_ok a.rel r q p⟩
def aLst (live : Bool) (t : AA) : AE := fun δ A Q E => t δ A (fun xs A1 => xs.length ≤ sizeLine ∧ aNew live (.lst xs) A1 Q) E
theorem ae_lst (live : Bool) (h : PA X es (liftA X.K W t)) : PE X (.List es pos) (liftE X.K W (aLst live t)) := PE.imp (pe_lst h) fun σ H Q ⟨δ, h⟩ =>
  (Lf.core (R1 := Reps X.K) (k := fun xs A1 Q E => xs.length ≤ sizeLine ∧ aNew live (.lst xs) A1 Q) h).mono fun vs H1 ⟨xs, F, A, Q', E', a, r, ⟨z, q⟩, p⟩ => ⟨by rw [← r.length]; exact z, aNew_ok a.rel (.lst r) q p⟩
/-- a builtin by its arguments -/
abbrev GA := List D → AK D
def LiftA (K : PySem.W.Frag) (g : GA) (r : List V → Hp → VK → Prop) : Prop := ∀ (W : WX) δ σ H xs vs Q, Lf (Rep K) K W δ xs vs (g xs) σ H Q → r vs H Q
def aCB (g : GA) (t : AA) : AE := fun δ A Q E => t δ A (fun xs A1 => g xs A1 Q E) E
theorem lift_cb {gg : GA} {rr : List V → Hp → VK → Prop} (L : LiftA X.K gg rr) {σ : L2.St} {H : Hp} {Q : VK} (h : liftE X.K W (aCB gg t) σ H Q) : tCB rr (liftA X.K W t) σ H Q := by
  obtain ⟨δ, h⟩ := h
  exact (Lf.bindA (k := gg) h).mono fun vs H1 ⟨xs, h1⟩ => by rw [List.append_nil, List.append_nil] at h1; exact L W δ σ H1 xs vs Q h1
def aFrz (te : AE) : AE := fun δ A Q E => te δ A (fun d A1 => ∃ a o, d = .ref a ∧ A1 a = some o ∧ Q (frz o) (del A1 a)) E
theorem ae_frz {e : Expr} (h : PE X e (liftE X.K W te)) : PE X e (liftE X.K W (aFrz te)) := PE.imp h fun σ H Q ⟨δ, F, A, Q', E', a, q, p⟩ => by
  refine ⟨δ, F, A, _, E', a, q, fun x A1 F1 H1 y ⟨b, o, e1, e2, q1⟩ x1 R1 r1 => ?_⟩
  subst e1
  cases r1
  obtain ⟨R2, x2, r2⟩ := R1.frz e2
  exact p _ _ _ _ _ q1 (x1.trans x2) R2 r2
end
end Av

set_option Elab.async false
set_option linter.all false
set_option maxRecDepth 100000
set_option maxHeartbeats 4000000
/-! own library Av, part 3: statements, loops, comprehensions, calls, defs -/
namespace Av
open PySem PySem.Spec PyProof.Rows L2 My
structure AEnds where
  nx : ASt → AH → Prop
  rt : AQ
  bk : ASt → AH → Prop := fun _ _ => False
  ct : ASt → AH → Prop := fun _ _ => False
  ex : Addr → List (Str × D) → ASt → AH → Prop := fun _ _ _ _ => False
abbrev AS := AEnds → ASt → AH → Prop
structure EndsOk (K : PySem.W.Frag) (W : WX) (F : Addr → Prop) (A : AH) (H : Hp) (D' : AEnds) (E : Ends) : Prop where
  nx : ∀ δ A' F' H' σ, D'.nx δ A' → Ext F A H F' A' H' → Rel K F' A' H' → RepS K F' H' δ σ → E.nx σ H'
  rt : ∀ d A' F' H' v, D'.rt d A' → Ext F A H F' A' H' → Rel K F' A' H' → Rep K F' H' d v → E.rt v H'
  bk : ∀ δ A' F' H' σ, D'.bk δ A' → Ext F A H F' A' H' → Rel K F' A' H' → RepS K F' H' δ σ → E.bk σ H'
  ct : ∀ δ A' F' H' σ, D'.ct δ A' → Ext F A H F' A' H' → Rel K F' A' H' → RepS K F' H' δ σ → E.ct σ H'
  ex : ∀ C fs δ A' F' H' σ dd fv, D'.ex C fs δ A' → Ext F A H F' A' H' → Rel K F' A' H' → RepS K F' H' δ σ → H' dd = some (.xd fv) → RepF K F' H' fs fv → W (.ref C) (some dd) σ H'
def liftS (K : PySem.W.Frag) (W : WX) (t : AS) : TS := fun E σ H => ∃ F A δ D', Rel K F A H ∧ RepS K F H δ σ ∧ t D' δ A ∧ EndsOk K W F A H D' E
section
variable {α β : Type} {R1 : RP α β} {K : PySem.W.Frag} {W : WX} {δ : ASt} {σ : L2.St} {H H' : Hp} {F F' : Addr → Prop} {A A' : AH} {D' : AEnds} {E : Ends}
theorem EndsOk.step (e : EndsOk K W F A H D' E) (x : Ext F A H F' A' H') : EndsOk K W F' A' H' D' E :=
  ⟨fun δ A2 F2 H2 σ q x2 => e.nx δ A2 F2 H2 σ q (x.trans x2), fun δ A2 F2 H2 σ q x2 => e.rt δ A2 F2 H2 σ q (x.trans x2), fun δ A2 F2 H2 σ q x2 => e.bk δ A2 F2 H2 σ q (x.trans x2), fun δ A2 F2 H2 σ q x2 => e.ct δ A2 F2 H2 σ q (x.trans x2), fun C fs δ A2 F2 H2 σ dd fv q x2 => e.ex C fs δ A2 F2 H2 σ dd fv q (x.trans x2)⟩
theorem EndsOk.gx (R : Rel K F A H) (s : RepS K F H δ σ) (e : EndsOk K W F A H D' E) : Gx K W F A H σ (fun C fs A1 => D'.ex C fs δ A1) := fun C fs A2 F2 H2 dd fv q x2 R2 h r => e.ex C fs δ A2 F2 H2 σ dd fv q x2 R2 (s.kept (x2.kept R)) h r
theorem EndsOk.setNx {n : ASt → AH → Prop} {n' : L2.St → Hp → Prop} (e : EndsOk K W F A H D' E) (h : ∀ δ A' F' H' σ, n δ A' → Ext F A H F' A' H' → Rel K F' A' H' → RepS K F' H' δ σ → n' σ H') : EndsOk K W F A H { D' with nx := n } { E with nx := n' } := ⟨h, e.rt, e.bk, e.ct, e.ex⟩
/-- an expression in a statement -/
theorem st_core {t : AM α} {k : α → AH → Prop} (R : Rel K F A H) (s : RepS K F H δ σ) (e : EndsOk K W F A H D' E) (h : t δ A k (fun C fs A1 => D'.ex C fs δ A1)) :
    lift R1 K W t σ H (fun y H1 => ∃ x F1 A1, R1 F1 H1 x y ∧ Rel K F1 A1 H1 ∧ RepS K F1 H1 δ σ ∧ k x A1 ∧ EndsOk K W F1 A1 H1 D' E ∧ Ext F A H F1 A1 H1) :=
  ⟨δ, F, A, _, _, ⟨R, s, e.gx R s, .nil⟩, h, fun x A1 F1 H1 y q x1 R1' r => ⟨x, F1, A1, r, R1', s.kept (x1.kept R), q, e.step x1, x1⟩⟩
end
section
variable {X : Cx} {W : WX} {pos : Pos} {st : Stmt} {rest : List Stmt} {t u : AS} {te : AE} {e : Expr}
def aNext : AS := fun D δ A => D.nx δ A
def aBrk : AS := fun D δ A => D.bk δ A
def aCont : AS := fun D δ A => D.ct δ A
def aSeq (t u : AS) : AS := fun D δ A => t { D with nx := u D } δ A
theorem PSs.imp {sts : List Stmt} {t t' : TS} (h : PSs X sts t) (i : ∀ D σ H, t' D σ H → t D σ H) : PSs X sts t' := ⟨fun pins s σ H D I q => h.run pins s σ H D I (i _ _ _ q)⟩
theorem next_ok {sts : List Stmt} (h : PSs X sts tNext) : PSs X sts (liftS X.K W aNext) := PSs.imp h fun D σ H ⟨F, A, δ, D', R, s, q, e⟩ => e.nx _ _ _ _ _ q Ext.refl R s
theorem ass_nil : PSs X [] (liftS X.K W aNext) := next_ok pss_nil
theorem as_pass : PS X (.Pass pos) (liftS X.K W aNext) := PS.imp ps_pass fun D σ H ⟨F, A, δ, D', R, s, q, e⟩ => e.nx _ _ _ _ _ q Ext.refl R s
theorem as_doc {x j pos pos'} : PS X (.Expr (.Constant (.str x) j pos) pos') (liftS X.K W aNext) := PS.imp ps_doc fun D σ H ⟨F, A, δ, D', R, s, q, e⟩ => e.nx _ _ _ _ _ q Ext.refl R s
theorem as_break : PS X (.Break pos) (liftS X.K W aBrk) := PS.imp ps_break fun D σ H ⟨F, A, δ, D', R, s, q, e⟩ => e.bk _ _ _ _ _ q Ext.refl R s
theorem as_continue : PS X (.Continue pos) (liftS X.K W aCont) := PS.imp ps_continue fun D σ H ⟨F, A, δ, D', R, s, q, e⟩ => e.ct _ _ _ _ _ q Ext.refl R s
theorem ass_cons (h1 : PS X st (liftS X.K W t)) (h2 : PSs X rest (liftS X.K W u)) : PSs X (st :: rest) (liftS X.K W (aSeq t u)) := PSs.imp (pss_cons h1 h2) fun D σ H ⟨F, A, δ, D', R, s, q, e⟩ =>
  ⟨F, A, δ, { D' with nx := u D' }, R, s, q, e.setNx fun δ1 A1 F1 H1 σ1 q1 x1 R1 s1 => ⟨F1, A1, δ1, D', R1, s1, q1, e.step x1⟩⟩
theorem ass_one (h1 : PS X st (liftS X.K W t)) : PSs X [st] (liftS X.K W t) := pss_one h1
def aDrop (te : AE) : AS := fun D δ A => te δ A (fun _ A1 => D.nx δ A1) (fun C fs A1 => D.ex C fs δ A1)
theorem as_expr (he : PE X e (liftE X.K W te)) (hs : swapsWith e none pos.line X.env = pure false := by rfl) : PS X (.Expr e pos) (liftS X.K W (aDrop te)) := PS.imp (ps_expr he hs) fun D σ H ⟨F, A, δ, D', R, s, q, e⟩ =>
  (st_core (R1 := Rep X.K) R s e q).mono fun y H1 ⟨x, F1, A1, r, R1, s1, q1, e1, x1⟩ => e1.nx _ _ _ _ _ q1 Ext.refl R1 s1
def aRet (te : AE) : AS := fun D δ A => te δ A D.rt (fun C fs A1 => D.ex C fs δ A1)
theorem as_ret (he : PE X e (liftE X.K W te)) : PS X (.Return (some e) pos) (liftS X.K W (aRet te)) := PS.imp (ps_ret he) fun D σ H ⟨F, A, δ, D', R, s, q, e⟩ =>
  (st_core (R1 := Rep X.K) R s e q).mono fun y H1 ⟨x, F1, A1, r, R1, s1, q1, e1, x1⟩ => e1.rt _ _ _ _ _ q1 Ext.refl R1 r
def aRetN : AS := fun D _ A => D.rt .non A
theorem as_retN : PS X (.Return none pos) (liftS X.K W aRetN) := PS.imp ps_retN fun D σ H ⟨F, A, δ, D', R, s, q, e⟩ => e.rt _ _ _ _ _ q Ext.refl R .non
def aIfS (c : AT) (t u : AS) : AS := fun D δ A => c δ A (fun b A1 => if b = true then t D δ A1 else u D δ A1) (fun C fs A1 => D.ex C fs δ A1)
theorem as_if {c : Expr} {a b : List Stmt} {tc : AT} (hc : PT X c (liftT X.K W tc)) (ha : PSs X a (liftS X.K W t)) (hb : PSs X b (liftS X.K W u)) : PS X (.If c a b pos) (liftS X.K W (aIfS tc t u)) := PS.imp (ps_if hc ha hb) fun D σ H ⟨F, A, δ, D', R, s, q, e⟩ => by
  refine (st_core (R1 := fun _ _ x y => x = y) R s e q).mono fun y H1 ⟨x, F1, A1, r, R1, s1, q1, e1, x1⟩ => ?_
  subst r
  split
  · rw [if_pos (by assumption)] at q1; exact ⟨F1, A1, δ, D', R1, s1, q1, e1⟩
  · rw [if_neg (by assumption)] at q1; exact ⟨F1, A1, δ, D', R1, s1, q1, e1⟩
/-! patterns -/
inductive Pat where
  | nm (i : Nat) | tp (ps : List Pat)
mutual
def bindP : Pat → D → ASt → Option ASt
  | .nm i, d, δ => some (δ.set i (some d))
  | .tp ps, .tup ds, δ => bindPs ps ds δ
  | .tp _, _, _ => none
def bindPs : List Pat → List D → ASt → Option ASt
  | [], [], δ => some δ
  | p :: ps, d :: ds, δ => match bindP p d δ with
    | some δ' => bindPs ps ds δ'
    | none => none
  | _, _, _ => none
end
mutual
def slP : Pat → List Nat
  | .nm i => [i]
  | .tp ps => slPs ps
def slPs : List Pat → List Nat
  | [] => []
  | p :: ps => slP p ++ slPs ps
end
mutual
def tgOf (K : PySem.W.Frag) : Pat → TG
  | .nm i => gName i
  | .tp ps => gTup K ps.length (tgsOf K ps)
def tgsOf (K : PySem.W.Frag) : List Pat → TGs
  | [] => gNil
  | p :: ps => gCons (tgOf K p) (tgsOf K ps)
end
theorem wipe_set {σ : L2.St} {i : Nat} {x : Option V} : ∀ {vs : List Nat}, i ∈ vs → wipe (σ.set i x) vs = wipe σ vs
  | v :: vs, h => by
    show (wipe (σ.set i x) vs).set v none = (wipe σ vs).set v none
    by_cases e : i ∈ vs
    · rw [wipe_set e]
    · have : i = v := by
        rcases List.mem_cons.mp h with h | h
        · exact h
        · exact absurd h e
      subst this
      have aux : ∀ (ws : List Nat), (wipe (σ.set i x) ws).set i none = (wipe σ ws).set i none := fun ws => by
        induction ws with
        | nil => show (σ.set i x).set i none = σ.set i none; rw [List.set_set]
        | cons w ws ih =>
          show ((wipe (σ.set i x) ws).set w none).set i none = ((wipe σ ws).set w none).set i none
          by_cases q : w = i
          · subst q; rw [List.set_set, List.set_set, ih]
          · rw [List.set_comm _ _ q, ih, List.set_comm _ _ (Ne.symm q)]
      exact aux vs
mutual
theorem bindP_ok {K : PySem.W.Frag} {F : Addr → Prop} {H : Hp} : ∀ (p : Pat) {d : D} {v : V} {δ δ' : ASt} {σ : L2.St}, bindP p d δ = some δ' → Rep K F H d v → RepS K F H δ σ → ∃ σ', (∀ Q : L2.St → Hp → Prop, Q σ' H → tgOf K p v σ H Q) ∧ RepS K F H δ' σ' ∧ ∀ vs, (∀ i ∈ slP p, i ∈ vs) → wipe σ' vs = wipe σ vs
  | .nm i, d, v, δ, δ', σ, e, r, s => by
    simp only [bindP, Option.some.injEq] at e
    subst e
    exact ⟨σ.set i (some v), fun Q q => by rw [tgOf]; exact q, s.set r i, fun vs h => wipe_set (h i (by simp [slP]))⟩
  | .tp ps, d, v, δ, δ', σ, e, r, s => by
    cases r with
    | tup h r =>
      simp only [bindP] at e
      have hl : ps.length = _ := bindPs_len ps e
      obtain ⟨σ', h1, h2, h3⟩ := bindPs_ok ps e r s
      refine ⟨σ', fun Q q => ?_, h2, fun vs hv => h3 vs (by simpa [slP] using hv)⟩
      rw [tgOf]
      exact ⟨_, _, rfl, h.sq, by rw [hl]; exact r.length.symm, h1 Q q⟩
    | _ => simp only [bindP] at e; cases e
theorem bindPs_ok {K : PySem.W.Frag} {F : Addr → Prop} {H : Hp} : ∀ (ps : List Pat) {ds : List D} {us : List V} {δ δ' : ASt} {σ : L2.St}, bindPs ps ds δ = some δ' → Reps K F H ds us → RepS K F H δ σ → ∃ σ', (∀ Q : L2.St → Hp → Prop, Q σ' H → tgsOf K ps us σ H Q) ∧ RepS K F H δ' σ' ∧ ∀ vs, (∀ i ∈ slPs ps, i ∈ vs) → wipe σ' vs = wipe σ vs
  | [], ds, us, δ, δ', σ, e, r, s => by
    cases r with
    | nil => simp only [bindPs, Option.some.injEq] at e; subst e; exact ⟨σ, fun Q q => by rw [tgsOf]; exact ⟨rfl, q⟩, s, fun _ _ => rfl⟩
    | cons _ _ => simp only [bindPs] at e; cases e
  | p :: ps, ds, us, δ, δ', σ, e, r, s => by
    cases r with
    | nil => simp only [bindPs] at e; cases e
    | cons a r =>
      simp only [bindPs] at e
      split at e
      · rename_i δ1 q
        obtain ⟨σ1, h1, h2, h3⟩ := bindP_ok p q a s
        obtain ⟨σ2, k1, k2, k3⟩ := bindPs_ok ps e r h2
        refine ⟨σ2, fun Q q => ?_, k2, fun vs hv => ?_⟩
        · rw [tgsOf]
          exact ⟨_, _, rfl, h1 (fun σ' H' => tgsOf K ps _ σ' H' Q) (k1 Q q)⟩
        · rw [k3 vs fun i hi => hv i (by simp [slPs, hi]), h3 vs fun i hi => hv i (by simp [slPs, hi])]
      · cases e
theorem bindPs_len : ∀ (ps : List Pat) {ds : List D} {δ δ' : ASt}, bindPs ps ds δ = some δ' → ps.length = ds.length
  | [], [], _, _, _ => rfl
  | [], _ :: _, _, _, e => by simp only [bindPs] at e; cases e
  | _ :: _, [], _, _, e => by simp only [bindPs] at e; cases e
  | p :: ps, d :: ds, δ, δ', e => by
    simp only [bindPs] at e
    split at e
    · rw [List.length_cons, List.length_cons, bindPs_len ps e]
    · cases e
end
def aAsg (te : AE) (p : Pat) : AS := fun D δ A => te δ A (fun d A1 => ∃ δ', bindP p d δ = some δ' ∧ D.nx δ' A1) (fun C fs A1 => D.ex C fs δ A1)
theorem lift_asg {p : Pat} {D : Ends} {σ : L2.St} {H : Hp} (h : liftS X.K W (aAsg te p) D σ H) : tAsg (liftE X.K W te) (tgOf X.K p) D σ H := by
  obtain ⟨F, A, δ, D', R, s, q, e⟩ := h
  refine (st_core (R1 := Rep X.K) R s e q).mono fun y H1 ⟨x, F1, A1, r, R1, s1, ⟨δ', b, q1⟩, e1, x1⟩ => ?_
  obtain ⟨σ', h1, h2, _⟩ := bindP_ok p b r s1
  exact h1 _ (e1.nx _ _ _ _ _ q1 Ext.refl R1 h2)
theorem as_asg {tg : Expr} {p : Pat} (he : PE X e (liftE X.K W te)) (hg : PG X tg (tgOf X.K p)) (hs : swapsWithSole [tg] e pos.line X.env = pure false := by rfl) (hw : swappedStores [tg] e X.env = pure none := by rfl)
    (h1 : (assignEach [tg] X.env).map (·.2) = [assign tg X.env] := by rfl) : PS X (.Assign [tg] e pos) (liftS X.K W (aAsg te p)) := PS.imp (ps_asg he hg hs hw h1) fun D σ H h => lift_asg h
theorem as_set {i : Nat} {x : Str} {pos' : Pos} (hN : X.N.Nodup) (hi : X.N[i]? = some x) (hx : Loc X.env.scope x) (he : PE X e (liftE X.K W te)) (hs : swapsWith e (some (.Name x pos')) pos.line X.env = pure false := by rfl) (hf : X.fn x = true ∨ X.env.scope.names.lookup x = some .local := by first | exact .inl rfl | exact .inr rfl | assumption) :
    PS X (.Assign [.Name x pos'] e pos) (liftS X.K W (aAsg te (.nm i))) := PS.imp (ps_set hN hi hx he hs hf) fun D σ H h => by
  have := lift_asg h
  rw [tgOf] at this
  exact this
def aPar (is : List Nat) (t : AA) : AS := fun D δ A => t δ A (fun ds A1 => ∃ δ', bindPs (is.map .nm) ds δ = some δ' ∧ D.nx δ' A1) (fun C fs A1 => D.ex C fs δ A1)
theorem lift_par2 {i j : Nat} {t : AA} {D : Ends} {σ : L2.St} {H : Hp} (h : liftS X.K W (aPar [i, j] t) D σ H) : tPar i j (liftA X.K W t) D σ H := by
  obtain ⟨F, A, δ, D', R, s, q, e⟩ := h
  refine (st_core (R1 := Reps X.K) R s e q).mono fun y H1 ⟨x, F1, A1, r, R1, s1, ⟨δ', b, q1⟩, e1, x1⟩ => ?_
  have hl := bindPs_len _ b
  match x, y, r, hl with
  | [d1, d2], [v1, v2], .cons r1 (.cons r2 .nil), _ =>
    simp only [List.map, bindPs, bindP, Option.some.injEq] at b
    subst b
    exact ⟨v1, v2, rfl, e1.nx _ _ _ _ _ q1 Ext.refl R1 ((s1.set r1 i).set r2 j)⟩
theorem lift_par3 {i j l : Nat} {t : AA} {D : Ends} {σ : L2.St} {H : Hp} (h : liftS X.K W (aPar [i, j, l] t) D σ H) : tPar3 i j l (liftA X.K W t) D σ H := by
  obtain ⟨F, A, δ, D', R, s, q, e⟩ := h
  refine (st_core (R1 := Reps X.K) R s e q).mono fun y H1 ⟨x, F1, A1, r, R1, s1, ⟨δ', b, q1⟩, e1, x1⟩ => ?_
  have hl := bindPs_len _ b
  match x, y, r, hl with
  | [d1, d2, d3], [v1, v2, v3], .cons r1 (.cons r2 (.cons r3 .nil)), _ =>
    simp only [List.map, bindPs, bindP, Option.some.injEq] at b
    subst b
    exact ⟨v1, v2, v3, rfl, e1.nx _ _ _ _ _ q1 Ext.refl R1 (((s1.set r1 i).set r2 j).set r3 l)⟩
/-! ### iterators -/
structure ItOk (K : PySem.W.Frag) (J : It) (gd : AH → Prop) (ds : List D) (hs : List D) (us : List V) : Prop where
  go : ∀ F A H i, Rel K F A H → gd A → Reps K F H hs us → i < ds.length → J.go i H
  stop : ∀ F A H i, Rel K F A H → gd A → Reps K F H hs us → ds.length ≤ i → J.stop i H
  yld : ∀ F A H i x H', Rel K F A H → gd A → Reps K F H hs us → J.yld i H x H' → i < ds.length → ∃ d, ds[i]? = some d ∧ Ext F A H F A H' ∧ Rel K F A H' ∧ Rep K F H' d x
abbrev IA := (AH → Prop) × List D
/-- .. where something of the heap stays besides -/
structure ItOkP (K : PySem.W.Frag) (J : It) (gd : AH → Prop) (ds : List D) (hs : List D) (us : List V) (φ : (Addr → Prop) → AH → Hp → Prop) : Prop where
  go : ∀ F A H i, Rel K F A H → gd A → Reps K F H hs us → φ F A H → i < ds.length → J.go i H
  stop : ∀ F A H i, Rel K F A H → gd A → Reps K F H hs us → φ F A H → ds.length ≤ i → J.stop i H
  yld : ∀ F A H i x H', Rel K F A H → gd A → Reps K F H hs us → φ F A H → J.yld i H x H' → i < ds.length → ∃ d, ds[i]? = some d ∧ Ext F A H F A H' ∧ Rel K F A H' ∧ Rep K F H' d x
  keep : ∀ F A H F' A' H', Rel K F A H → Ext F A H F' A' H' → φ F A H → φ F' A' H'
def RepI (K : PySem.W.Frag) : RP IA It := fun F H x J => ∃ hs us φ, Reps K F H hs us ∧ (∀ A, Rel K F A H → φ F A H) ∧ ItOkP K J x.1 x.2 hs us φ
theorem RepI.of {K : PySem.W.Frag} {F : Addr → Prop} {H : Hp} {x : IA} {J : It} {hs : List D} {us : List V} (r : Reps K F H hs us) (ok : ItOk K J x.1 x.2 hs us) : RepI K F H x J :=
  ⟨hs, us, fun _ _ _ => True, r, fun _ _ => trivial, fun F A H i R g r _ => ok.go F A H i R g r, fun F A H i R g r _ => ok.stop F A H i R g r, fun F A H i x H' R g r _ => ok.yld F A H i x H' R g r, fun _ _ _ _ _ _ _ _ _ => trivial⟩
abbrev AI := AM IA
abbrev liftI (K : PySem.W.Frag) (W : WX) (t : AI) : TI := lift (RepI K) K W t
def aLoop (gd : AH → Prop) (p : Pat) (tb : AS) (N : AEnds) : List D → ASt → AH → Prop
  | [], δ, A => gd A ∧ N.nx δ A
  | d :: ds, δ, A => gd A ∧ ∃ δ2, bindP p d δ = some δ2 ∧ tb { N with nx := aLoop gd p tb N ds, ct := aLoop gd p tb N ds, bk := N.nx } δ2 A
def aFor (ti : AI) (p : Pat) (tb : AS) : AS := fun D δ A => ti δ A (fun i A1 => aLoop i.1 p tb D i.2 δ A1) (fun C fs A1 => D.ex C fs δ A1)
theorem aLoop_gd {gd : AH → Prop} {p : Pat} {tb : AS} {N : AEnds} {ds : List D} {δ : ASt} {A : AH} (h : aLoop gd p tb N ds δ A) : gd A := by cases ds <;> exact h.1
theorem lift_for {ti : AI} {p : Pat} {tb : AS} {D : Ends} {σ : L2.St} {H : Hp} (h : liftS X.K W (aFor ti p tb) D σ H) : tFor (liftI X.K W ti) (tgOf X.K p) (liftS X.K W tb) D σ H := by
  obtain ⟨F, A, δ, D', R, s, q, e⟩ := h
  refine (st_core (R1 := RepI X.K) R s e q).mono fun J H1 ⟨x, F1, A1, ⟨hs, us, φ, rh, hφ, ok⟩, R1, s1, q1, e1, x1⟩ => ?_
  obtain ⟨gd, ds⟩ := x
  refine ⟨fun i m σ H => m + i = ds.length + 1 ∧ i ≤ ds.length ∧ ∃ F A δ, Rel X.K F A H ∧ RepS X.K F H δ σ ∧ Reps X.K F H hs us ∧ φ F A H ∧ aLoop gd p tb D' (ds.drop i) δ A ∧ EndsOk X.K W F A H D' D, ⟨ds.length + 1, rfl, Nat.zero_le _, F1, A1, δ, R1, s1, rh, hφ A1 R1, q1, e1⟩, ?_⟩
  rintro i m σ H ⟨hm, hi, F, A, δ, R, s, rh, hφ, q, e⟩
  have hgd := aLoop_gd q
  by_cases hl : ds.length ≤ i
  · refine .inl ⟨ok.stop F A H i R hgd rh hφ hl, ?_⟩
    rw [List.drop_eq_nil_of_le hl] at q
    exact e.nx _ _ _ _ _ q.2 Ext.refl R s
  · have hlt : i < ds.length := by omega
    refine .inr ⟨ok.go F A H i R hgd rh hφ hlt, _, fun σ' H' h => ⟨m - 1, by omega, h⟩, fun x H' hy => ?_⟩
    obtain ⟨d, ed, x2, R2, r2⟩ := ok.yld F A H i x H' R hgd rh hφ hy hlt
    rw [List.drop_eq_getElem_cons hlt] at q
    have : ds[i] = d := by
      rw [List.getElem?_eq_getElem hlt] at ed
      exact Option.some.inj ed
    rw [this] at q
    obtain ⟨_, δ2, b, q⟩ := q
    obtain ⟨σ2, h1, h2, _⟩ := bindP_ok p b r2 (s.kept (x2.kept R))
    have rh2 := rh.kept (x2.kept R)
    have hφ2 := ok.keep _ _ _ _ _ _ R x2 hφ
    have e2 := e.step x2
    refine h1 (fun σ2 H2 => liftS X.K W tb { D with nx := _, ct := _, bk := D.nx } σ2 H2) ⟨F, A, δ2, _, R2, h2, q, ?_⟩
    refine ⟨fun δ3 A3 F3 H3 σ3 q3 x3 R3 s3 => ?_, e2.rt, fun δ3 A3 F3 H3 σ3 q3 x3 R3 s3 => e2.nx _ _ _ _ _ q3 x3 R3 s3, fun δ3 A3 F3 H3 σ3 q3 x3 R3 s3 => ?_, e2.ex⟩
    · exact ⟨by omega, by omega, F3, A3, δ3, R3, s3, rh2.kept (x3.kept R2), ok.keep _ _ _ _ _ _ R2 x3 hφ2, q3, e2.step x3⟩
    · exact ⟨by omega, by omega, F3, A3, δ3, R3, s3, rh2.kept (x3.kept R2), ok.keep _ _ _ _ _ _ R2 x3 hφ2, q3, e2.step x3⟩
theorem as_for {tg iter : Expr} {body : List Stmt} {ti : AI} {p : Pat} {tb : AS} (hp : PassesOwn (model X.prog X.w) X.A X.env X.xe) (hc : X.calm = true) (hi : PI X tg iter (liftI X.K W ti)) (hg : PG X tg (tgOf X.K p)) (hb : PSs X body (liftS X.K W tb))
    (hs : ∀ x, foldedSetIterable iter X.env x = pure x := by intro _; rfl) : PS X (.For tg iter body [] pos) (liftS X.K W (aFor ti p tb)) := PS.imp (ps_for hp hc hi hg hb hs) fun D σ H h => lift_for h
def aWhile (c : AT) (tb : AS) : AS := fun D δ A => ∃ V : Nat → ASt → AH → Prop, (∃ m, V m δ A) ∧ ∀ m δ A, V m δ A →
  c δ A (fun b A1 => if b = true then ∃ N : ASt → AH → Prop, (∀ δ' A', N δ' A' → ∃ m', m' < m ∧ V m' δ' A') ∧ tb { D with nx := N, ct := N, bk := D.nx } δ A1 else D.nx δ A1) (fun C fs A1 => D.ex C fs δ A1)
theorem as_while {c : Expr} {body : List Stmt} {tc : AT} {tb : AS} (hp : PassesOwn (model X.prog X.w) X.A X.env X.xe) (hc : PT X c (liftT X.K W tc)) (hb : PSs X body (liftS X.K W tb)) : PS X (.While c body [] pos) (liftS X.K W (aWhile tc tb)) := PS.imp (ps_while hp hc hb) fun D σ H ⟨F, A, δ, D', R, s, q, e⟩ => by
  obtain ⟨V, ⟨m0, v0⟩, turn⟩ := q
  refine ⟨fun m σ H => ∃ F A δ, Rel X.K F A H ∧ RepS X.K F H δ σ ∧ V m δ A ∧ EndsOk X.K W F A H D' D, ⟨m0, F, A, δ, R, s, v0, e⟩, ?_⟩
  rintro m σ H ⟨F, A, δ, R, s, v, e⟩
  refine (st_core (R1 := fun _ _ x y => x = y) R s e (turn m δ A v)).mono fun y H1 ⟨x, F1, A1, r, R1, s1, q1, e1, x1⟩ => ?_
  subst r
  split
  · rw [if_pos (by assumption)] at q1
    obtain ⟨N, hN, q2⟩ := q1
    refine ⟨_, fun σ' H' h => h, F1, A1, δ, _, R1, s1, q2, ?_⟩
    refine ⟨fun δ3 A3 F3 H3 σ3 q3 x3 R3 s3 => ?_, e1.rt, fun δ3 A3 F3 H3 σ3 q3 x3 R3 s3 => e1.nx _ _ _ _ _ q3 x3 R3 s3, fun δ3 A3 F3 H3 σ3 q3 x3 R3 s3 => ?_, e1.ex⟩
    · obtain ⟨m', hm, v'⟩ := hN _ _ q3
      exact ⟨m', hm, F3, A3, δ3, R3, s3, v', e1.step x3⟩
    · obtain ⟨m', hm, v'⟩ := hN _ _ q3
      exact ⟨m', hm, F3, A3, δ3, R3, s3, v', e1.step x3⟩
  · rw [if_neg (by assumption)] at q1; exact e1.nx _ _ _ _ _ q1 Ext.refl R1 s1
end
end Av

set_option Elab.async false
set_option linter.all false
set_option maxRecDepth 100000
set_option maxHeartbeats 4000000
/-! own library Av, part 4: comprehensions, calls, defs, errors -/
namespace Av
open PySem PySem.Spec PyProof.Rows L2 My
abbrev noW : WX := fun _ _ _ _ => False
abbrev noX : AX := fun _ _ _ => False
def wipeA (δ : ASt) : List Nat → ASt
  | [] => δ
  | v :: vs => (wipeA δ vs).set v none
theorem RepS.wipe {K : PySem.W.Frag} {F : Addr → Prop} {H : Hp} {δ : ASt} {σ : L2.St} (s : RepS K F H δ σ) : ∀ vs : List Nat, RepS K F H (wipeA δ vs) (wipe σ vs)
  | [] => s
  | v :: vs => (RepS.wipe s vs).unset v
theorem gx_no {K : PySem.W.Frag} {F : Addr → Prop} {A : AH} {H : Hp} {W : WX} {σ : L2.St} : Gx K W F A H σ noX := fun _ _ _ _ _ _ _ h => h.elim
/-- a new object in the place of a hidden one, over the world where it was not yet -/
theorem show_ok {K : PySem.W.Frag} {F F1 : Addr → Prop} {A A1 : AH} {H H1 : Hp} {Q' : AQ} {Q : VK} {live : Bool} {o : AO} {ho : HO} {p : Addr} (R : Rel K F A H) (x : Ext F1 A1 H1 F A H) (h1 : H1 p = none) (nF : ¬ F p) (nA : A p = none) (e : H p = some ho) (r : RepO K F H o ho) (h : aNew live o A Q') (po : Post K (Rep K) F1 A1 H1 Q' Q) : Q (.ref p) H := by
  cases live with
  | true =>
    refine po _ _ _ _ _ (h p nA) ⟨x.f, fun a u q w => ?_, x.g⟩ (R.showL nF e r) (.ref p)
    rw [put_ne (ne_of_none w h1)]; exact x.k a u q w
  | false =>
    obtain ⟨R2, r2⟩ := R.showF nA e r
    refine po _ _ _ _ _ h ⟨fun a f => .inl (x.f a f), x.k, fun a u q w f => ?_⟩ R2 r2
    rcases f with f | f
    · exact x.g a u q w f
    · rw [f, h1] at w; cases w
section
variable {X : Cx} {W : WX} {pos : Pos}
def aComp (gd : AH → Prop) (p : Pat) (tt : AT) (te : AE) (δ : ASt) : List D → List D → AH → (List D → AH → Prop) → Prop
  | [], acc, A, Q => gd A ∧ Q acc A
  | d :: ds, acc, A, Q => gd A ∧ ∃ δ2, bindP p d δ = some δ2 ∧ tt δ2 A (fun b A1 => if b = true then te δ2 A1 (fun y A2 => acc.length < sizeLine ∧ aComp gd p tt te δ ds (acc ++ [y]) A2 Q) noX else aComp gd p tt te δ ds acc A1 Q) noX
theorem aComp_gd {gd : AH → Prop} {p : Pat} {tt : AT} {te : AE} {δ : ASt} {ds acc : List D} {A : AH} {Q : List D → AH → Prop} (h : aComp gd p tt te δ ds acc A Q) : gd A := by cases ds <;> exact h.1
def aLc (live : Bool) (ti : AI) (p : Pat) (tt : AT) (te : AE) (vs : List Nat) : AE := fun δ A Q E => ti δ A (fun i A1 => aComp i.1 p tt te (wipeA δ vs) i.2 [] A1 (fun xs A2 => aNew live (.lst xs) A2 Q)) E
theorem lift_lc {live : Bool} {ti : AI} {p : Pat} {tt : AT} {te : AE} {vs : List Nat} (hv : ∀ i ∈ slP p, i ∈ vs) {σ : L2.St} {H : Hp} {Q : VK} (h : liftE X.K W (aLc live ti p tt te vs) σ H Q) :
    tLc (liftI X.K W ti) (tgOf X.K p) (liftT X.K noW tt) (liftE X.K noW te) vs σ H Q := by
  obtain ⟨δ, h⟩ := h
  refine (Lf.core (R1 := RepI X.K) (k := fun i A1 Q E => aComp i.1 p tt te (wipeA δ vs) i.2 [] A1 (fun xs A2 => aNew live (.lst xs) A2 Q)) h).mono fun J H1 ⟨x, F1, A1, Q', E', a, ⟨hs, us, φ, rh, hφ, ok⟩, q, po⟩ => ?_
  have hφ := hφ A1 a.rel
  obtain ⟨gd, ds⟩ := x
  intro Dd hDd
  have R0 := a.rel.lay hDd (ho := .lst [])
  have x0 := ext_new a.rel hDd (ho := .lst [])
  have k0 := x0.kept a.rel
  refine ⟨fun i m H => m + i = ds.length + 1 ∧ i ≤ ds.length ∧ ∃ F A acc av, Rel X.K F A H ∧ A Dd = none ∧ ¬ F Dd ∧ H Dd = some (.lst av) ∧ Reps X.K F H acc av ∧ RepS X.K F H (wipeA δ vs) (wipe σ vs) ∧ Reps X.K F H hs us ∧
    aComp gd p tt te (wipeA δ vs) (ds.drop i) acc A (fun xs A2 => aNew live (.lst xs) A2 Q') ∧ Ext F1 A1 H1 F A H, ⟨ds.length + 1, rfl, Nat.zero_le _, F1, A1, [], [], R0, (a.rel.fresh hDd).1, (a.rel.fresh hDd).2, upd_same, .nil, (a.sl.wipe vs).kept k0, rh.kept k0, q, x0⟩, ?_⟩
  rintro i m H ⟨hm, hi, F, A, acc, av, R, nA, nF, eD, ra, s, rh, q, xx⟩
  have hgd := aComp_gd q
  have hφ2 := ok.keep _ _ _ _ _ _ a.rel xx hφ
  by_cases hl : ds.length ≤ i
  · refine .inl ⟨ok.stop F A H i R hgd rh hφ2 hl, ?_⟩
    rw [List.drop_eq_nil_of_le hl] at q
    exact show_ok R xx hDd nF nA eD (.lst ra) q.2 po
  · have hlt : i < ds.length := by omega
    refine .inr ⟨ok.go F A H i R hgd rh hφ2 hlt, _, fun H' h => ⟨m - 1, by omega, h⟩, fun x H' hy => ?_⟩
    obtain ⟨d, ed, x2, R2, r2⟩ := ok.yld F A H i x H' R hgd rh hφ2 hy hlt
    rw [List.drop_eq_getElem_cons hlt] at q
    have : ds[i] = d := by
      rw [List.getElem?_eq_getElem hlt] at ed
      exact Option.some.inj ed
    rw [this] at q
    obtain ⟨_, δ2, b, q⟩ := q
    have k2 := x2.kept R
    obtain ⟨σ2, h1, h2, h3⟩ := bindP_ok p b r2 (s.kept k2)
    have aux : ∀ ws : List Nat, (∀ v ∈ ws, v ∈ vs) → wipe (wipe σ ws) vs = wipe σ vs := fun ws => by
      induction ws with
      | nil => intro _; rfl
      | cons w ws ih =>
        intro hw
        show wipe ((wipe σ ws).set w none) vs = wipe σ vs
        rw [wipe_set (hw w List.mem_cons_self), ih fun v hv => hw v (List.mem_cons_of_mem _ hv)]
    refine h1 _ ⟨(h3 vs hv).trans (aux vs fun _ h => h), ?_⟩
    have eD2 := (x2.kh nA eD nF).2
    refine ⟨δ2, F, A, _, noX, ⟨R2, h2, gx_no, .nil⟩, q, fun bb A3 F3 H3 y q3 x3 R3 ey => ?_⟩
    subst ey
    have k3 := x3.kept R2
    obtain ⟨nA3, eD3⟩ := x3.kh nA eD2 nF
    have nF3 : ¬ F3 Dd := fun z => nF (x3.g Dd _ nA eD2 z)
    have xx3 := (xx.trans x2).trans x3
    split
    · rw [if_pos (by assumption)] at q3
      refine ⟨δ2, F3, A3, _, noX, ⟨R3, h2.kept k3, gx_no, .nil⟩, q3, fun y A4 F4 H4 v ⟨hz, q4⟩ x4 R4 r4 => ?_⟩
      have k4 := x4.kept R3
      obtain ⟨nA4, eD4⟩ := x4.kh nA3 eD3 nF3
      have nF4 : ¬ F4 Dd := fun z => nF3 (x4.g Dd _ nA3 eD3 z)
      have xx4 := xx3.trans x4
      have ra4 := ((ra.kept k2).kept k3).kept k4
      have kh : Kept F4 F4 H4 (upd H4 Dd (.lst (av ++ [v]))) := kept_hid nF4 eD4 (fun _ z => by cases z) (fun _ _ z => by cases z) (fun _ z => by cases z)
      refine ⟨av, eD4, by rw [← ra4.length]; exact hz, by omega, by omega, F4, A4, acc ++ [y], av ++ [v], R4.hid nF4 nA4 eD4 (fun _ z => by cases z) (fun _ _ z => by cases z) (fun _ z => by cases z), nA4, nF4, upd_same, (ra4.append (.cons r4 .nil)).kept kh, ((((s.kept k2).kept k3).kept k4).kept kh), ((((rh.kept k2).kept k3).kept k4).kept kh), q4, xx4.f, fun a o w e => ?_, xx4.g⟩
      rw [upd_ne (ne_of_none e hDd)]
      exact xx4.k a o w e
    · rw [if_neg (by assumption)] at q3
      exact ⟨by omega, by omega, F3, A3, acc, av, R3, nA3, nF3, eD3, (ra.kept k2).kept k3, (s.kept k2).kept k3, (rh.kept k2).kept k3, q3, xx3⟩
end
end Av

set_option Elab.async false
set_option linter.all false
set_option maxRecDepth 100000
set_option maxHeartbeats 4000000
/-! own library Av, part 5: calls, defs, fields, errors, iterators -/
namespace Av
open PySem PySem.Spec PyProof.Rows L2 My
abbrev ASp := List D → AH → AQ → AX → Prop
def liftSp (K : PySem.W.Frag) (asp : ASp) : Sp := fun vs H Q E => ∃ F A ds Q' E', Rel K F A H ∧ Reps K F H ds vs ∧ asp ds A Q' E' ∧ Post K (Rep K) F A H Q' Q ∧ Gx K (fun cls d _ H => E cls d H) F A H [] E'
abbrev anyX : XK := fun _ _ _ => True
/-- a call of a def, by its promise -/
structure Tag {β : Type} (_ : β) : Type where mk ::
def Call (asp : ASp) (ds : List D) (A : AH) (Q : AQ) (E : AX) (_ : Tag (Q, E)) : Prop := asp ds A Q E
def aCall (asp : ASp) (t : AA) : AE := fun δ A Q E => t δ A (fun ds A1 => Call asp ds A1 Q E ⟨⟩) E
section
variable {X : Cx} {CX : CXT} {W : WX} {k : Nat} {f C : Addr} {asp : ASp} {x m fl : Str} {e o : Expr} {es : List Expr} {ta tv : AE} {t : AA} {p pos pos' apos : Pos}
theorem Lf.sp {δ : ASt} {σ : L2.St} {H : Hp} {xs : List D} {vs : List V} {Q : VK} (h : Lf (Rep X.K) X.K W δ xs vs (asp xs) σ H Q) : liftSp X.K asp vs H Q (WE W σ) := by
  obtain ⟨F, A, Q', E', a, q, p⟩ := h
  exact ⟨F, A, xs, Q', E', a.rel, a.held, q, p, a.gx⟩
theorem sp_any {vs : List V} {H : Hp} {Q : VK} {E : XK} {K : PySem.W.Frag} (h : liftSp K asp vs H Q E) : liftSp K asp vs H Q anyX := by
  obtain ⟨F, A, ds, Q', E', a, b, c, d, e⟩ := h
  exact ⟨F, A, ds, Q', E', a, b, c, d, fun _ _ _ _ _ _ _ _ _ _ _ _ => trivial⟩
theorem lift_call {σ : L2.St} {H : Hp} {Q : VK} (h : liftE X.K W (aCall asp t) σ H Q) : liftA X.K W t σ H (fun vs H1 => liftSp X.K asp vs H1 Q (WE W σ)) := by
  obtain ⟨δ, h⟩ := h
  exact (Lf.bindA (k := asp) h).mono fun vs H1 ⟨xs, h1⟩ => by rw [List.append_nil, List.append_nil] at h1; exact h1.sp
theorem ae_callX (F : FnR X.prog X.w X.K X.mg X.base (L2.CX X.prog X.w) k f (liftSp X.K asp)) (hr : Room k X.A) (hg : Gl X x) (hm : X.mg x = some (.ref f)) (hk : PySem.W.keepIn X.K (.ref f) = true) (tk : Takes X W) (ha : PA X (e :: es) (liftA X.K W t))
    (hdb : (x == ("__debug__" : Str)) = false := by decide) (he : starEach (e :: es) X.env = (false, eval e X.env) :: starEach es X.env := by rfl) (hpl : (backTo pos (starEach es X.env)).any (·.1) = false := by rfl) :
    PE X (.Call (.Name x p) (e :: es) [] pos) (liftE X.K W (aCall asp t)) := PE.imp (pe_callX F hr hg hm hk (passAt tk) ha hdb he hpl) fun σ H Q h => lift_call h
theorem ae_callR (F : FnR X.prog X.w X.K X.mg X.base CX0 k f (liftSp X.K asp)) (hr : Room k X.A) (hg : Gl X x) (hm : X.mg x = some (.ref f)) (hk : PySem.W.keepIn X.K (.ref f) = true) (ha : PA X (e :: es) (liftA X.K W t))
    (hdb : (x == ("__debug__" : Str)) = false := by decide) (he : starEach (e :: es) X.env = (false, eval e X.env) :: starEach es X.env := by rfl) (hpl : (backTo pos (starEach es X.env)).any (·.1) = false := by rfl) :
    PE X (.Call (.Name x p) (e :: es) [] pos) (liftE X.K W (aCall asp t)) := PE.imp (pe_callR (E := anyX) F hr hg hm hk pass0 ha hdb he hpl) fun σ H Q h => (lift_call h).mono fun vs H1 h1 => sp_any h1
theorem ae_callR0 (F : FnR X.prog X.w X.K X.mg X.base CX0 k f (liftSp X.K asp)) (hr : Room k X.A) (hg : Gl X x) (hm : X.mg x = some (.ref f)) (hk : PySem.W.keepIn X.K (.ref f) = true)
    (hdb : (x == ("__debug__" : Str)) = false := by decide) : PE X (.Call (.Name x p) [] [] pos) (liftE X.K W (aCall asp aNil)) := PE.imp (pe_callR0 (E := anyX) F hr hg hm hk pass0 hdb) fun σ H Q ⟨δ, h⟩ => sp_any (Lf.sp (W := W) (δ := δ) (σ := σ) h)
theorem ae_callX0 (F : FnR X.prog X.w X.K X.mg X.base (L2.CX X.prog X.w) k f (liftSp X.K asp)) (hr : Room k X.A) (hg : Gl X x) (hm : X.mg x = some (.ref f)) (hk : PySem.W.keepIn X.K (.ref f) = true) (tk : Takes X W)
    (hdb : (x == ("__debug__" : Str)) = false := by decide) : PE X (.Call (.Name x p) [] [] pos) (liftE X.K W (aCall asp aNil)) := PE.imp (pe_callX0 F hr hg hm hk (passAt tk) hdb) fun σ H Q ⟨δ, h⟩ => Lf.sp (W := W) (δ := δ) (σ := σ) h
/-- o.m(..) -/
def aMeth (C : Addr) (m : Str) (asp : ASp) (ta : AE) (t : AA) : AE := fun δ A Q E => ta δ A (fun x A1 => (∃ fs, asO A1 x = some (C, fs) ∧ fs.lookup m = none) ∧ t δ A1 (fun ds A2 => Call asp (x :: ds) A2 Q E ⟨⟩) E) E
theorem reps_mid {K : PySem.W.Frag} {F : Addr → Prop} {H : Hp} {xs : List D} {us : List V} {x : D} {v : V} (r : Reps K F H (xs ++ [x]) (us ++ [v])) (h : xs.length = us.length) : Reps K F H (x :: xs) (v :: us) := by
  have r1 := r.take xs.length
  have r2 := r.drop xs.length
  rw [List.take_left' rfl, h, List.take_left' rfl] at r1
  rw [List.drop_left' rfl, h, List.drop_left' rfl] at r2
  cases r2 with
  | cons a _ => exact .cons a r1
theorem lift_meth {σ : L2.St} {H : Hp} {Q : VK} (h : liftE X.K W (aMeth C m asp ta t) σ H Q) : liftE X.K W ta σ H (fun x H1 => ∃ a dx fs, x = .ref a ∧ H1 a = some (.ins C dx fs) ∧ fs.lookup m = none ∧ liftA X.K W t σ H1 (fun vs H2 => liftSp X.K asp (x :: vs) H2 Q (WE W σ))) := by
  obtain ⟨δ, h⟩ := h
  refine (Lf.bindE (k := fun x A1 Q E => (∃ fs, asO A1 x = some (C, fs) ∧ fs.lookup m = none) ∧ t δ A1 (fun ds A2 => asp (x :: ds) A2 Q E) E) h).mono fun v H1 ⟨x, F, A, Q', E', a, ⟨⟨fs, eo, lo⟩, q⟩, p⟩ => ?_
  cases a.held with
  | cons r0 _ =>
    obtain ⟨b, dx, vs, rfl, eb, rf⟩ := asO_ok a.rel r0 eo
    refine ⟨b, dx, vs, rfl, eb, rf.lookup0 lo, ?_⟩
    refine (Lf.core (R1 := Reps X.K) (k := fun ds A2 Q E => asp (x :: ds) A2 Q E) (ds := [x]) (vs := [V.ref b]) (δ := δ) ⟨F, A, Q', E', ⟨a.rel, a.sl, a.gx, .cons r0 .nil⟩, q, p⟩).mono fun us H2 ⟨ds, F2, A2, Q2, E2, a2, r2, q2, p2⟩ => ?_
    cases a2.held with
    | cons r3 _ => exact ⟨F2, A2, x :: ds, Q2, E2, a2.rel, .cons r3 r2, q2, p2, a2.gx⟩
theorem ae_methX {pl : Sem Bool} (he : PE X o (liftE X.K W ta)) (c : Cls X.K C) (hm : Meth X.K C m f) (F : FnR X.prog X.w X.K X.mg X.base (L2.CX X.prog X.w) k f (liftSp X.K asp)) (hr : Room k X.A) (tk : Takes X W) (ha : PA X (e :: es) (liftA X.K W t))
    (hst : starEach (e :: es) X.env = (false, eval e X.env) :: starEach es X.env := by rfl) (hpl : (backTo pos (starEach es X.env)).any (·.1) = false := by rfl)
    (ht : eval (.Call (.Attribute o m apos) (e :: es) [] pos) X.env = (do
      let ov ← eval o X.env
      standAt apos.atName
      let (f, first) ← holding [ov] (getMethod ov m pl)
      callWith pos f first (backTo pos (starEach (e :: es) X.env)) (backToKw pos (keywordEach [] X.env))) := by rfl) :
    PE X (.Call (.Attribute o m apos) (e :: es) [] pos) (liftE X.K W (aMeth C m asp ta t)) := PE.imp (pe_methX he c hm F hr (passAt tk) ha hst hpl ht) fun σ H Q h => lift_meth h
theorem ae_methX0 {pl : Sem Bool} (he : PE X o (liftE X.K W ta)) (c : Cls X.K C) (hm : Meth X.K C m f) (F : FnR X.prog X.w X.K X.mg X.base (L2.CX X.prog X.w) k f (liftSp X.K asp)) (hr : Room k X.A) (tk : Takes X W)
    (ht : eval (.Call (.Attribute o m apos) [] [] pos) X.env = (do
      let ov ← eval o X.env
      standAt apos.atName
      let (f, first) ← holding [ov] (getMethod ov m pl)
      callWith pos f first (backTo pos (starEach [] X.env)) (backToKw pos (keywordEach [] X.env))) := by rfl) :
    PE X (.Call (.Attribute o m apos) [] [] pos) (liftE X.K W (aMeth C m asp ta aNil)) := PE.imp (pe_methX0 he c hm F hr (passAt tk) ht) fun σ H Q h => (lift_meth h).mono fun x H1 ⟨a, dx, fs, e1, e2, e3, z⟩ => ⟨a, dx, fs, e1, e2, e3, by
      obtain ⟨δ, F, A, Q', E', at_, q, p⟩ := z
      exact p _ _ _ _ _ q Ext.refl at_.rel .nil⟩
theorem ae_methR {pl : Sem Bool} (he : PE X o (liftE X.K W ta)) (c : Cls X.K C) (hm : Meth X.K C m f) (F : FnR X.prog X.w X.K X.mg X.base CX0 k f (liftSp X.K asp)) (hr : Room k X.A) (ha : PA X (e :: es) (liftA X.K W t))
    (hst : starEach (e :: es) X.env = (false, eval e X.env) :: starEach es X.env := by rfl) (hpl : (backTo pos (starEach es X.env)).any (·.1) = false := by rfl)
    (ht : eval (.Call (.Attribute o m apos) (e :: es) [] pos) X.env = (do
      let ov ← eval o X.env
      standAt apos.atName
      let (f, first) ← holding [ov] (getMethod ov m pl)
      callWith pos f first (backTo pos (starEach (e :: es) X.env)) (backToKw pos (keywordEach [] X.env))) := by rfl) :
    PE X (.Call (.Attribute o m apos) (e :: es) [] pos) (liftE X.K W (aMeth C m asp ta t)) := PE.imp (pe_methR (E := anyX) he c hm F hr pass0 ha hst hpl ht) fun σ H Q h => (lift_meth h).mono fun x H1 ⟨a, dx, fs, e1, e2, e3, z⟩ => ⟨a, dx, fs, e1, e2, e3, z.mono fun vs H2 h2 => sp_any h2⟩
theorem ae_methR0 {pl : Sem Bool} (he : PE X o (liftE X.K W ta)) (c : Cls X.K C) (hm : Meth X.K C m f) (F : FnR X.prog X.w X.K X.mg X.base CX0 k f (liftSp X.K asp)) (hr : Room k X.A)
    (ht : eval (.Call (.Attribute o m apos) [] [] pos) X.env = (do
      let ov ← eval o X.env
      standAt apos.atName
      let (f, first) ← holding [ov] (getMethod ov m pl)
      callWith pos f first (backTo pos (starEach [] X.env)) (backToKw pos (keywordEach [] X.env))) := by rfl) :
    PE X (.Call (.Attribute o m apos) [] [] pos) (liftE X.K W (aMeth C m asp ta aNil)) := PE.imp (pe_methR0 (E := anyX) he c hm F hr pass0 ht) fun σ H Q h => (lift_meth h).mono fun x H1 ⟨a, dx, fs, e1, e2, e3, z⟩ => ⟨a, dx, fs, e1, e2, e3, by
      obtain ⟨δ, F, A, Q', E', at_, q, p⟩ := z
      exact sp_any (p _ _ _ _ _ q Ext.refl at_.rel .nil)⟩
/-- a property -/
def aProp (C : Addr) (asp : ASp) (ta : AE) : AE := fun δ A Q E => ta δ A (fun x A1 => (∃ fs, asO A1 x = some (C, fs)) ∧ Call asp [x] A1 Q E ⟨⟩) E
theorem ae_prop {pr g : Addr} (he : PE X e (liftE X.K W ta)) (c : Cls X.K C) (hp : PropOf X.K C fl pr g) (F : FnR X.prog X.w X.K X.mg X.base CX0 k g (liftSp X.K asp)) (hr : Room (k + 1) X.A)
    (hab : attributeBase e fl X.env (eval e X.env) = eval e X.env) : PE X (.Attribute e fl pos) (liftE X.K W (aProp C asp ta)) := PE.imp (pe_propR (E := anyX) he c hp F hr pass0 hab) fun σ H Q ⟨δ, h⟩ => by
  refine (Lf.bindE (k := fun x A1 Q E => (∃ fs, asO A1 x = some (C, fs)) ∧ asp [x] A1 Q E) h).mono fun v H1 ⟨x, F, A, Q', E', a, ⟨⟨fs, eo⟩, q⟩, p⟩ => ?_
  cases a.held with
  | cons r0 _ =>
    obtain ⟨b, dx, vs, rfl, eb, rf⟩ := asO_ok a.rel r0 eo
    exact ⟨b, dx, vs, rfl, eb, sp_any (K := X.K) (E := WE W σ) ⟨F, A, [x], Q', E', a.rel, .cons r0 .nil, q, p, a.gx⟩⟩
/-- a field -/
def aFld (K : PySem.W.Frag) (f : Str) (ta : AE) : AE := fun δ A Q E => ta δ A (fun x A1 => ∃ C fs v, asO A1 x = some (C, fs) ∧ Cls K C ∧ NoAttr K C f ∧ fs.lookup f = some v ∧ Q v A1) E
theorem ae_fld (he : PE X e (liftE X.K W ta)) (hb : attributeBase e fl X.env (eval e X.env) = eval e X.env) : PE X (.Attribute e fl pos) (liftE X.K W (aFld X.K fl ta)) := PE.imp (pe_fld he hb) fun σ H Q ⟨δ, h⟩ => by
  refine (Lf.bindE (k := fun x A1 Q E => ∃ C fs v, asO A1 x = some (C, fs) ∧ Cls X.K C ∧ NoAttr X.K C fl ∧ fs.lookup fl = some v ∧ Q v A1) h).mono fun v H1 ⟨x, F, A, Q', E', a, ⟨C, fs, d, eo, c1, c2, l, q⟩, p⟩ => ?_
  cases a.held with
  | cons r0 _ =>
    obtain ⟨b, dx, vs, rfl, eb, rf⟩ := asO_ok a.rel r0 eo
    obtain ⟨u, lu, ru⟩ := rf.lookup l
    exact ⟨b, C, dx, vs, u, rfl, eb, c1, c2, lu, p _ _ _ _ _ q Ext.refl a.rel ru⟩
def putFA (f : Str) (v : D) : List (Str × D) → List (Str × D)
  | [] => [(f, v)]
  | (g, x) :: r => if g = f then (g, v) :: r else (g, x) :: putFA f v r
theorem RepF.put {K : PySem.W.Frag} {F : Addr → Prop} {H : Hp} {f : Str} {d : D} {v : V} (q : Rep K F H d v) : ∀ {ds : List (Str × D)} {vs : List (Str × V)}, RepF K F H ds vs → RepF K F H (putFA f d ds) (putF f v vs)
  | _, _, .nil => .cons q .nil
  | _, _, .cons (n := n) a r => by
    rw [putFA, putF]
    split
    · exact .cons q r
    · exact .cons a (RepF.put q r)
def aSetFld (K : PySem.W.Frag) (f : Str) (ta tv : AE) : AS := fun D δ A => tv δ A (fun y A1 => ta δ A1 (fun x A2 => ∃ a C fs, x = .ref a ∧ A2 a = some (.ins C fs) ∧ Cls K C ∧ NoAttr K C f ∧ fs.length < 1000 ∧ D.nx δ (put A2 a (.ins C (putFA f y fs)))) (fun C fs A1 => D.ex C fs δ A1)) (fun C fs A1 => D.ex C fs δ A1)
theorem as_fld {value : Expr} (ha : PE X o (liftE X.K W ta)) (hv : PE X value (liftE X.K W tv)) (hs : swapsWith value (some (.Attribute o fl pos')) pos.line X.env = pure false) : PS X (.Assign [.Attribute o fl pos'] value pos) (liftS X.K W (aSetFld X.K fl ta tv)) := PS.imp (ps_fld ha hv hs) fun D σ H ⟨F, A, δ, D', R, s, q, e⟩ => by
  refine (st_core (R1 := Rep X.K) R s e q).mono fun y H1 ⟨dy, F1, A1, r1, R1, s1, q1, e1, x1⟩ => ?_
  refine (st_core (R1 := Rep X.K) R1 s1 e1 q1).mono fun x H2 ⟨dx, F2, A2, r2, R2, s2, ⟨a, C, fs, ex, ea, c1, c2, l, q2⟩, e2, x2⟩ => ?_
  subst ex
  cases r2
  obtain ⟨_, ho, eh, ro⟩ := R2.live a _ ea
  cases ro with
  | ins ro =>
    have ry := r1.kept (x2.kept R1)
    obtain ⟨R3, x3⟩ := R2.put ea (RepO.ins (ro.put ry))
    exact ⟨a, C, _, _, rfl, eh, c1, c2, by rw [← ro.length]; exact l, e2.nx _ _ _ _ _ q2 x3 R3 (s2.kept (x3.kept R2))⟩
/-- o.f op= e, ints -/
def aAugFld (K : PySem.W.Frag) (f : Str) (g : Int → Int → Int) (ta tv : AE) : AS := fun D δ A => ta δ A (fun x A1 => ∃ a C fs i, x = .ref a ∧ A1 a = some (.ins C fs) ∧ Cls K C ∧ NoAttr K C f ∧ fs.lookup f = some (.int i) ∧ tv δ A1 (fun y A2 => ∃ j fs', y = .int j ∧ A2 a = some (.ins C fs') ∧ fs'.length < 1000 ∧ D.nx δ (put A2 a (.ins C (putFA f (.int (g i j)) fs')))) (fun C fs A1 => D.ex C fs δ A1)) (fun C fs A1 => D.ex C fs δ A1)
theorem as_fldaug {g : Int → Int → Int} {op : Operator} {rd : V → V → Hp → VK → Prop} (hrd : ∀ i j H Q, Q (.int (g i j)) H → rd (.int i) (.int j) H Q) (ha : PE X o (liftE X.K W ta)) (hv : PE X e (liftE X.K W tv)) (ho : InOp X op rd) : PS X (.AugAssign (.Attribute o fl pos') op e pos) (liftS X.K W (aAugFld X.K fl g ta tv)) := PS.imp (ps_fldaug ha hv ho) fun D σ H ⟨F, A, δ, D', R, s, q, e⟩ => by
  refine (st_core (R1 := Rep X.K) R s e q).mono fun x H1 ⟨dx, F1, A1, r1, R1, s1, ⟨a, C, fs, i, ex, ea, c1, c2, l, q1⟩, e1, x1⟩ => ?_
  subst ex
  cases r1
  obtain ⟨_, ho, eh, ro⟩ := R1.live a _ ea
  cases ro with
  | ins ro =>
    obtain ⟨u, lu, ru⟩ := ro.lookup l
    cases ru
    refine ⟨a, C, _, _, _, rfl, eh, c1, c2, lu, ?_⟩
    refine (st_core (R1 := Rep X.K) R1 s1 e1 q1).mono fun y H2 ⟨dy, F2, A2, r2, R2, s2, ⟨j, fs', ey, ea2, l2, q2⟩, e2, x2⟩ => ?_
    subst ey
    cases r2
    obtain ⟨_, ho2, eh2, ro2⟩ := R2.live a _ ea2
    cases ro2 with
    | ins ro2 =>
      obtain ⟨R3, x3⟩ := R2.put ea2 (RepO.ins (ro2.put (.int (g i j))))
      exact hrd i j H2 _ ⟨_, _, eh2, by rw [← ro2.length]; exact l2, e2.nx _ _ _ _ _ q2 x3 R3 (s2.kept (x3.kept R2))⟩
/-- x op= e, ints -/
def aAug (i : Nat) (g : Int → Int → Int) (te : AE) : AS := fun D δ A => ∃ z, δ[i]? = some (some (.int z)) ∧ te δ A (fun y A1 => ∃ j, y = .int j ∧ D.nx (δ.set i (some (.int (g z j)))) A1) (fun C fs A1 => D.ex C fs δ A1)
theorem lift_aug {i : Nat} {g : Int → Int → Int} {te : AE} {D : Ends} {σ : L2.St} {H : Hp} (h : liftS X.K W (aAug i g te) D σ H) : tAug i (liftE X.K W te) (ipI g) D σ H := by
  obtain ⟨F, A, δ, D', R, s, ⟨z, ez, q⟩, e⟩ := h
  obtain ⟨v, ev, rv⟩ := s.get ez
  cases rv
  refine ⟨_, ev, (st_core (R1 := Rep X.K) R s e q).mono fun y H1 ⟨d, F1, A1, r1, R1, s1, ⟨j, ey, q1⟩, e1, x1⟩ => ?_⟩
  subst ey
  cases r1
  exact ⟨z, j, rfl, rfl, e1.nx _ _ _ _ _ q1 Ext.refl R1 (s1.set (.int _) i)⟩
/-- raise E(e) -/
def aRaise (C : Addr) (fl : Str) (t : AA) : AS := fun D δ A => t δ A (fun ds A1 => ∃ v, ds = [v] ∧ D.ex C [(fl, v)] δ A1) (fun C fs A1 => D.ex C fs δ A1)
theorem as_raise {a : Expr} {cn : Str} {fI cc cda : Addr} {pos2 : Pos} (hc : X.calm = true) (T : PySem.OwX.OwTxt X.prog X.K X.mg C fI cc cda cn fl) (hr : Room k X.A) (tk : Takes X W) (ha : PA X [a] (liftA X.K W t)) (hg : Gl X cn) (hdb : (cn == ("__debug__" : Str)) = false := by decide)
    (he : starEach (a :: []) X.env = (false, eval a X.env) :: starEach [] X.env := by rfl) (hpl : (backTo pos (starEach [] X.env)).any (·.1) = false := by rfl) :
    PS X (.Raise (some (.Call (.Name cn p) [a] [] pos)) none pos2) (liftS X.K W (aRaise C fl t)) := PS.imp (ps_raiseOw hc T hr tk ha hg hdb he hpl) fun D σ H ⟨F, A, δ, D', R, s, q, e⟩ => by
  refine (st_core (R1 := Reps X.K) R s e q).mono fun vs H1 ⟨ds, F1, A1, r1, R1, s1, ⟨v, ed, q1⟩, e1, x1⟩ => ?_
  subst ed
  match vs, r1 with
  | [u], .cons ru .nil =>
    refine ⟨u, rfl, fun d hd => ?_⟩
    have x2 := ext_new R1 hd (ho := .xd [(fl, u)])
    have k2 := x2.kept R1
    exact e1.ex _ _ _ _ _ _ _ _ _ q1 x2 (R1.lay hd) (s1.kept k2) upd_same (.cons (ru.kept k2) .nil)
/-! ### defs -/
def fin (Q : AQ) : AQ := fun d A' => ∃ A'', (∀ a o, A'' a = some o → A' a = some o) ∧ Q d A''
theorem fin_id {Q : AQ} {d : D} {A : AH} (h : Q d A) : fin Q d A := ⟨A, fun _ _ e => e, h⟩
def aStart (N : List Str) (ds : List D) : ASt := ds.map some ++ List.replicate (N.length - ds.length) none
theorem start_ok {K : PySem.W.Frag} {F : Addr → Prop} {H : Hp} {N : List Str} {ds : List D} {vs : List V} (r : Reps K F H ds vs) : RepS K F H (aStart N ds) (L2.start N vs) := by
  unfold aStart L2.start
  rw [r.length]
  have : ∀ {ds : List D} {vs : List V} (n : Nat), Reps K F H ds vs → RepS K F H (ds.map some ++ List.replicate n none) (vs.map some ++ List.replicate n none) := by
    intro ds vs n r
    induction ds generalizing vs with
    | nil => cases r; exact RepS.nones n _ (by simp)
    | cons d ds ih => cases r with
      | cons a r => exact .yes a (ih r)
  exact this _ r
def endsOf (Q : AQ) (E : AX) : AEnds := { nx := fun _ A' => fin Q .non A', rt := fin Q, ex := fun C fs _ A' => ∃ A'', (∀ a o, A'' a = some o → A' a = some o) ∧ E C fs A'' }
theorem ends_ok {K : PySem.W.Frag} {W : WX} {F : Addr → Prop} {A : AH} {H : Hp} {Q' : AQ} {E' : AX} {Q : VK} {E : XK} (hW : ∀ c d σ H, E c d H → W c d σ H) (p : Post K (Rep K) F A H Q' Q) (g : Gx K (fun cls d _ H => E cls d H) F A H [] E') : EndsOk K W F A H (endsOf Q' E') { nx := fun _ H' => Q .non H', rt := Q } := by
  refine ⟨fun δ A1 F1 H1 σ ⟨A2, hs, q⟩ x R s => ?_, fun d A1 F1 H1 v ⟨A2, hs, q⟩ x R r => ?_, fun _ _ _ _ _ h => h.elim, fun _ _ _ _ _ h => h.elim, fun C fs δ A1 F1 H1 σ dd fv ⟨A2, hs, q⟩ x R s h r => ?_⟩
  · obtain ⟨R2, x2⟩ := R.sub hs
    exact p _ _ _ _ _ q (x.trans x2) R2 .non
  · obtain ⟨R2, x2⟩ := R.sub hs
    exact p _ _ _ _ _ q (x.trans x2) R2 (r.kept (x2.kept R))
  · obtain ⟨R2, x2⟩ := R.sub hs
    exact hW _ _ _ _ (g C fs A2 F1 H1 dd fv q (x.trans x2) R2 h (r.kept (x2.kept R)))
end
section
variable {P : Program} {w : World} {K : PySem.W.Frag} {mg : Str → Option Value} {base : Heap} {x qual : Str} {params : Arguments} {body : List Stmt} {scope : Scope} {dvs : List V} {kws : List (Str × V)} {f : Addr} {fd : FuncData} {N ps : List Str} {k : Nat} {asp : ASp}
/-- a def that raises nothing, by its body -/
theorem bodyR {dd : List V} (hb : ∀ (cdv : Value) (A0 : Around) (outer : List Env) (s : Shared) (H : Hp) (E0 : XK) (ds : List D) (A : AH) (Q : AQ) (E : AX), Room k (A0.deeper (envOfC qual scope s.heap.objs.size f cdv)) → asp ds A Q E →
      ∃ ts, PSs (cxOf CX0 P w K mg base N qual scope f cdv A0 outer s H E0).nox body (liftS K noW ts) ∧ ts (endsOf Q noX) (aStart N ds) A) :
    ∀ (cdv : Value) (A : Around) (outer : List Env) (s : Shared) (H : Hp) (vs : List V) (Q : VK) (E : XK), Room k (A.deeper (envOfC qual scope s.heap.objs.size f cdv)) → liftSp K asp vs H Q E →
      ∃ t, PSs (cxOf CX0 P w K mg base N qual scope f cdv A outer s H E).nox body t ∧ t { nx := fun _ H' => Q .non H', rt := Q } (L2.start N vs) H := by
  intro cdv A0 outer s H vs Q E hr ⟨F, A, ds, Q', E', R, r, q, p, g⟩
  obtain ⟨ts, h1, h2⟩ := hb cdv A0 outer s H E ds A Q' E' hr q
  exact ⟨_, h1, F, A, aStart N ds, endsOf Q' noX, R, start_ok r, h2, ends_ok (E := fun _ _ _ => False) (fun _ _ _ _ h => h) p (fun _ _ _ _ _ _ _ h => h.elim)⟩
theorem bodyX (hb : ∀ (cdv : Value) (A0 : Around) (outer : List Env) (s : Shared) (H : Hp) (E0 : XK) (ds : List D) (A : AH) (Q : AQ) (E : AX), Room k (A0.deeper (envOfC qual scope s.heap.objs.size f cdv)) → asp ds A Q E →
      ∃ ts, PSs (cxOf (L2.CX P w) P w K mg base N qual scope f cdv A0 outer s H E0) body (liftS K (fun c d _ H => E0 c d H) ts) ∧ ts (endsOf Q E) (aStart N ds) A) :
    ∀ (cdv : Value) (A : Around) (outer : List Env) (s : Shared) (H : Hp) (vs : List V) (Q : VK) (E : XK), Room k (A.deeper (envOfC qual scope s.heap.objs.size f cdv)) → liftSp K asp vs H Q E →
      ∃ t, PSs (cxOf (L2.CX P w) P w K mg base N qual scope f cdv A outer s H E) body t ∧ t { nx := fun _ H' => Q .non H', rt := Q } (L2.start N vs) H := by
  intro cdv A0 outer s H vs Q E hr ⟨F, A, ds, Q', E', R, r, q, p, g⟩
  obtain ⟨ts, h1, h2⟩ := hb cdv A0 outer s H E ds A Q' E' hr q
  exact ⟨_, h1, F, A, aStart N ds, endsOf Q' E', R, start_ok r, h2, ends_ok (E := E) (fun _ _ _ _ h => h) p g⟩
theorem liftSp_len {n : Nat} (len : ∀ ds A Q E, asp ds A Q E → ds.length = n) : ∀ vs H Q E, liftSp K asp vs H Q E → vs.length = n := fun vs H Q E ⟨F, A, ds, Q', E', R, r, q, p, g⟩ => by rw [← r.length]; exact len _ _ _ _ q
theorem FunD.AR (F : FunD K x qual params body scope [] kws f fd) (S : FnScope N ps scope) (len : ∀ ds A Q E, asp ds A Q E → ds.length = ps.length)
    (hb : ∀ (kV doc pm : Value) (an : Option Addr) (cdv ct : Value) (us : List Value), us.length = ps.length → bindArgs (PySem.W.fnOf x qual params body scope .none kV doc pm an cdv ct) ⟨us, []⟩ = pure (ps.zip us))
    (hbody : ∀ (cdv : Value) (A0 : Around) (outer : List Env) (s : Shared) (H : Hp) (E0 : XK) (ds : List D) (A : AH) (Q : AQ) (E : AX), Room k (A0.deeper (envOfC qual scope s.heap.objs.size f cdv)) → asp ds A Q E →
      ∃ ts, PSs (cxOf CX0 P w K mg base N qual scope f cdv A0 outer s H E0).nox body (liftS K noW ts) ∧ ts (endsOf Q noX) (aStart N ds) A) : FnR P w K mg base CX0 (k + 1) f (liftSp K asp) :=
  My.FunD.R F S (liftSp_len len) hb (bodyR (dd := []) hbody)
theorem FunD.AX (F : FunD K x qual params body scope [] kws f fd) (S : FnScope N ps scope) (len : ∀ ds A Q E, asp ds A Q E → ds.length = ps.length)
    (hb : ∀ (kV doc pm : Value) (an : Option Addr) (cdv ct : Value) (us : List Value), us.length = ps.length → bindArgs (PySem.W.fnOf x qual params body scope .none kV doc pm an cdv ct) ⟨us, []⟩ = pure (ps.zip us))
    (hbody : ∀ (cdv : Value) (A0 : Around) (outer : List Env) (s : Shared) (H : Hp) (E0 : XK) (ds : List D) (A : AH) (Q : AQ) (E : AX), Room k (A0.deeper (envOfC qual scope s.heap.objs.size f cdv)) → asp ds A Q E →
      ∃ ts, PSs (cxOf (L2.CX P w) P w K mg base N qual scope f cdv A0 outer s H E0) body (liftS K (fun c d _ H => E0 c d H) ts) ∧ ts (endsOf Q E) (aStart N ds) A) : FnR P w K mg base (L2.CX P w) (k + 1) f (liftSp K asp) :=
  My.FunD.RX F S (liftSp_len len) hb (bodyX hbody)
end
end Av

set_option Elab.async false
set_option linter.all false
set_option maxRecDepth 100000
set_option maxHeartbeats 4000000
/-! own library Av, part 6: making objects, iterators, places, operators -/
namespace Av
open PySem PySem.Spec PyProof.Rows L2 My
section
variable {K : PySem.W.Frag} {F : Addr → Prop} {H : Hp}
theorem Reps.one {d : D} {vs : List V} (r : Reps K F H [d] vs) : ∃ v, vs = [v] ∧ Rep K F H d v := by
  cases r with
  | cons a r => cases r; exact ⟨_, rfl, a⟩
theorem Reps.two {d e : D} {vs : List V} (r : Reps K F H [d, e] vs) : ∃ v u, vs = [v, u] ∧ Rep K F H d v ∧ Rep K F H e u := by
  cases r with
  | cons a r => obtain ⟨u, rfl, b⟩ := r.one; exact ⟨_, _, rfl, a, b⟩
theorem Reps.three {d e f : D} {vs : List V} (r : Reps K F H [d, e, f] vs) : ∃ v u w, vs = [v, u, w] ∧ Rep K F H d v ∧ Rep K F H e u ∧ Rep K F H f w := by
  cases r with
  | cons a r => obtain ⟨u, w, rfl, b, c⟩ := r.two; exact ⟨_, _, _, rfl, a, b, c⟩
theorem Reps.none {vs : List V} (r : Reps K F H [] vs) : vs = [] := by cases r; rfl
end
section
variable {X : Cx} {W : WX} {k : Nat} {f C : Addr} {asp : ASp} {x fl : Str} {a b e o : Expr} {es : List Expr} {ta tb te tv : AE} {t : AA} {p pos pos' apos : Pos}
/-! ### C(..) -/
def aMake (live : Bool) (C : Addr) (asp : ASp) (t : AA) : AE := fun δ A Q E => t δ A (fun ds A1 => ∀ x, A1 x = none → Call asp (.ref x :: ds) (put A1 x (.ins C [])) (fun d A2 => d = .non ∧ match live with
  | true => Q (.ref x) A2
  | false => ∃ fs, A2 x = some (.ins C fs) ∧ Q (.obj C fs) (del A2 x)) E ⟨⟩) E
theorem make_ok {live : Bool} {σ : L2.St} {H : Hp} {Q : VK} (h : liftE X.K W (aMake live C asp t) σ H Q) : liftA X.K W t σ H (fun vs H1 => ∀ x dx, H1 x = none → H1 dx = none → dx ≠ x → liftSp X.K asp (V.ref x :: vs) (upd (upd H1 dx (.own x)) x (.ins C dx [])) (fun v H2 => v = .non ∧ Q (.ref x) H2) (WE W σ)) := by
  obtain ⟨δ, h⟩ := h
  refine (Lf.core (R1 := Reps X.K) (k := fun ds A1 Q E => ∀ x, A1 x = none → asp (.ref x :: ds) (put A1 x (.ins C [])) (fun d A2 => d = .non ∧ match live with
    | true => Q (D.ref x) A2
    | false => ∃ fs, A2 x = some (.ins C fs) ∧ Q (D.obj C fs) (del A2 x)) E) h).mono fun vs H1 ⟨ds, F, A, Q', E', a, r, q, po⟩ x dx hx hdx hne => ?_
  have R1 := a.rel.lay hdx (ho := .own x)
  have x1 := ext_new a.rel hdx (ho := .own x)
  have hx1 : upd H1 dx (.own x) x = none := by rw [upd_ne (Ne.symm hne)]; exact hx
  obtain ⟨R2, x2⟩ := R1.newL (o := .ins C []) (ho := .ins C dx []) hx1 (.ins .nil)
  have xx := x1.trans x2
  have k2 := xx.kept a.rel
  refine ⟨F, put A x (.ins C []), .ref x :: ds, _, E', R2, .cons (.ref x) (r.kept k2), q x (a.rel.fresh hx).1, fun d A3 F3 H3 v ⟨ed, q3⟩ x3 R3 r3 => ?_, a.gx.step xx⟩
  subst ed
  cases r3
  refine ⟨rfl, ?_⟩
  cases live with
  | true => exact po _ _ _ _ _ q3 (xx.trans x3) R3 (.ref x)
  | false =>
    obtain ⟨fs, e3, q3⟩ := q3
    obtain ⟨R4, x4, r4⟩ := R3.frz e3
    exact po _ _ _ _ _ q3 ((xx.trans x3).trans x4) R4 r4
theorem ae_makeR (live : Bool) (M : Mk X.K C f) (F : FnR X.prog X.w X.K X.mg X.base CX0 k f (liftSp X.K asp)) (hr : Room (k + 1) X.A) (hg : Gl X x) (hm : X.mg x = some (.ref C)) (ha : PA X (e :: es) (liftA X.K W t)) (hdb : (x == ("__debug__" : Str)) = false := by decide)
    (he : starEach (e :: es) X.env = (false, eval e X.env) :: starEach es X.env := by rfl) (hpl : (backTo pos (starEach es X.env)).any (·.1) = false := by rfl) : PE X (.Call (.Name x p) (e :: es) [] pos) (liftE X.K W (aMake live C asp t)) :=
  PE.imp (StX.pe_makeR (E := anyX) M F hr hg hm pass0 ha hdb he hpl) fun σ H Q h => (make_ok h).mono fun vs H1 z x dx h1 h2 h3 => sp_any (z x dx h1 h2 h3)
theorem ae_makeR0 (live : Bool) (M : Mk X.K C f) (F : FnR X.prog X.w X.K X.mg X.base CX0 k f (liftSp X.K asp)) (hr : Room (k + 1) X.A) (hg : Gl X x) (hm : X.mg x = some (.ref C)) (hdb : (x == ("__debug__" : Str)) = false := by decide) :
    PE X (.Call (.Name x p) [] [] pos) (liftE X.K W (aMake live C asp aNil)) :=
  PE.imp (pe_makeR0 (E := anyX) M F hr hg hm pass0 hdb) fun σ H Q h => by
    obtain ⟨δ, F, A, Q', E', at_, q, po⟩ := (make_ok h).mono fun vs H1 z x dx h1 h2 h3 => sp_any (z x dx h1 h2 h3)
    exact po _ _ _ _ _ q Ext.refl at_.rel .nil
/-! ### iterators -/
def aItL (te : AE) : AI := fun δ A Q E => te δ A (fun d A1 => ∃ xs, asL A1 d = some xs ∧ Q (fun A => asL A d = some xs, xs) A1) E
theorem itOk_list {K : PySem.W.Frag} {d : D} {a : Addr} {xs : List D} : ItOk K (Itl K a) (fun A => asL A d = some xs) xs [d] [V.ref a] where
  go := fun F A H i R g r hi => by
    cases r with
    | cons r0 _ =>
      obtain ⟨a', vs, e, hs, rr⟩ := asL_ok R r0 g
      cases e
      have hl : i < vs.length := by rw [← rr.length]; exact hi
      exact ⟨vs, vs[i], hs, List.getElem?_eq_getElem hl⟩
  stop := fun F A H i R g r hi => by
    cases r with
    | cons r0 _ =>
      obtain ⟨a', vs, e, hs, rr⟩ := asL_ok R r0 g
      cases e
      exact ⟨vs, hs, by rw [← rr.length]; exact hi⟩
  yld := fun F A H i x H' R g r y hi => by
    cases r with
    | cons r0 _ =>
      obtain ⟨a', vs, e, hs, rr⟩ := asL_ok R r0 g
      cases e
      obtain ⟨rfl, hy⟩ := y
      obtain ⟨d', e', r'⟩ := rr.get (hy vs hs)
      exact ⟨d', e', Ext.refl, R, r'⟩
theorem PI.imp {tg iter : Expr} {wi wi' : TI} (h : PI X tg iter wi) (i : ∀ σ H R, wi' σ H R → wi σ H R) : PI X tg iter wi' := ⟨fun pins s σ H R I q => h.run pins s σ H R I (i _ _ _ q)⟩
theorem ai_list {tg : Expr} (he : PE X e (liftE X.K W te)) : PI X tg e (liftI X.K W (aItL te)) := PI.imp (pi_list he) fun σ H R ⟨δ, h⟩ => by
  refine (Lf.bindE (k := fun d A1 Q E => ∃ xs, asL A1 d = some xs ∧ Q (fun A => asL A d = some xs, xs) A1) h).mono fun v H1 ⟨d, F, A, Q', E', a, ⟨xs, g, q⟩, po⟩ => ?_
  cases a.held with
  | cons r0 n =>
    obtain ⟨a', vs, rfl, hs, rr⟩ := asL_ok a.rel r0 g
    exact ⟨a', rfl, ⟨vs, hs⟩, po _ _ _ _ _ q Ext.refl a.rel (RepI.of (hs := [d]) (us := [V.ref a']) (.cons r0 .nil) itOk_list)⟩
def aItT (te : AE) : AI := fun δ A Q E => te δ A (fun d A1 => ∃ xs, asT d = some xs ∧ Q (fun _ => True, xs) A1) E
theorem itOk_tup {K : PySem.W.Frag} {a : Addr} {xs : List D} : ItOk K (Itt K a) (fun _ => True) xs [.tup xs] [V.ref a] where
  go := fun F A H i R g r hi => by
    cases r with
    | cons r0 _ =>
      obtain ⟨a', vs, e, hs, rr⟩ := asT_ok r0 rfl
      cases e
      have hl : i < vs.length := by rw [← rr.length]; exact hi
      exact ⟨vs, vs[i], hs, List.getElem?_eq_getElem hl⟩
  stop := fun F A H i R g r hi => by
    cases r with
    | cons r0 _ =>
      obtain ⟨a', vs, e, hs, rr⟩ := asT_ok r0 rfl
      cases e
      exact ⟨vs, hs, by rw [← rr.length]; exact hi⟩
  yld := fun F A H i x H' R g r y hi => by
    cases r with
    | cons r0 _ =>
      obtain ⟨a', vs, e, hs, rr⟩ := asT_ok r0 rfl
      cases e
      obtain ⟨rfl, hy⟩ := y
      obtain ⟨d', e', r'⟩ := rr.get (hy vs hs)
      exact ⟨d', e', Ext.refl, R, r'⟩
theorem ai_tup {tg : Expr} (he : PE X e (liftE X.K W te)) : PI X tg e (liftI X.K W (aItT te)) := PI.imp (pi_tup he) fun σ H R ⟨δ, h⟩ => by
  refine (Lf.bindE (k := fun d A1 Q E => ∃ xs, asT d = some xs ∧ Q (fun _ => True, xs) A1) h).mono fun v H1 ⟨d, F, A, Q', E', a, ⟨xs, g, q⟩, po⟩ => ?_
  cases a.held with
  | cons r0 n =>
    have : d = .tup xs := by
      cases d <;> simp only [asT] at g <;> first | (cases g; done) | (cases g; rfl)
    subst this
    obtain ⟨a', vs, rfl, hs, rr⟩ := asT_ok r0 g
    exact ⟨a', rfl, ⟨vs, hs⟩, po _ _ _ _ _ q Ext.refl a.rel (RepI.of (hs := [.tup xs]) (us := [V.ref a']) (.cons r0 .nil) itOk_tup)⟩
def rngL (lo : Int) (n : Nat) : List D := (List.range n).map fun (i : Nat) => D.int (lo + (i : Int))
theorem itOk_rng {K : PySem.W.Frag} {lo : Int} {n : Nat} : ItOk K (Itr lo n) (fun _ => True) (rngL lo n) [] [] where
  go := fun F A H i R g r hi => by show i < n; simpa [rngL] using hi
  stop := fun F A H i R g r hi => by show n ≤ i; simpa [rngL] using hi
  yld := fun F A H i x H' R g r y hi => by
    obtain ⟨rfl, rfl⟩ := y
    exact ⟨.int (lo + i), by
      have : i < n := by simpa [rngL] using hi
      simp [rngL, this], Ext.refl, R, .int _⟩
def aRng1 (t : AA) : AI := fun δ A Q E => t δ A (fun ds A1 => ∃ j, ds = [.int j] ∧ -(2 ^ 62) ≤ j ∧ j < 2 ^ 62 ∧ Q (fun _ => True, rngL 0 j.toNat) A1) E
def aRng2 (t : AA) : AI := fun δ A Q E => t δ A (fun ds A1 => ∃ i j, ds = [.int i, .int j] ∧ (-(2 ^ 62) ≤ i ∧ i < 2 ^ 62 ∧ -(2 ^ 62) ≤ j ∧ j < 2 ^ 62) ∧ Q (fun _ => True, rngL i (j - i).toNat) A1) E
theorem ai_range1 {tg : Expr} (hg : Gl X "range") (hm : X.mg "range" = none) (ha : PA X [a] (liftA X.K W t)) (hs : starEach [a] X.env = [(false, eval a X.env)] := by rfl) : PI X tg (.Call (.Name "range" p) [a] [] pos) (liftI X.K W (aRng1 t)) := PI.imp (pi_range1 hg hm ha hs) fun σ H R ⟨δ, h⟩ => by
  refine (Lf.core (R1 := Reps X.K) (k := fun ds A1 Q E => ∃ j, ds = [.int j] ∧ -(2 ^ 62) ≤ j ∧ j < 2 ^ 62 ∧ Q (fun _ => True, rngL 0 j.toNat) A1) h).mono fun vs H1 ⟨ds, F, A, Q', E', a, r, ⟨j, ed, h1, h2, q⟩, po⟩ => ?_
  subst ed
  obtain ⟨v, rfl, r0⟩ := r.one
  · cases r0; exact ⟨j, rfl, h1, h2, po _ _ _ _ _ q Ext.refl a.rel (RepI.of (hs := []) (us := []) (.nil) itOk_rng)⟩
theorem ai_range2 {tg : Expr} (hg : Gl X "range") (hm : X.mg "range" = none) (ha : PA X [a, b] (liftA X.K W t)) (hs : starEach [a, b] X.env = [(false, eval a X.env), (false, eval b X.env)] := by rfl) (hs2 : starEach [b] X.env = [(false, eval b X.env)] := by rfl) : PI X tg (.Call (.Name "range" p) [a, b] [] pos) (liftI X.K W (aRng2 t)) := PI.imp (pi_range2 hg hm ha hs hs2) fun σ H R ⟨δ, h⟩ => by
  refine (Lf.core (R1 := Reps X.K) (k := fun ds A1 Q E => ∃ i j, ds = [.int i, .int j] ∧ (-(2 ^ 62) ≤ i ∧ i < 2 ^ 62 ∧ -(2 ^ 62) ≤ j ∧ j < 2 ^ 62) ∧ Q (fun _ => True, rngL i (j - i).toNat) A1) h).mono fun vs H1 ⟨ds, F, A, Q', E', a, r, ⟨i, j, ed, h1, q⟩, po⟩ => ?_
  subst ed
  obtain ⟨v, u, rfl, r0, r1⟩ := r.two
  · cases r0; cases r1; exact ⟨i, j, rfl, h1, po _ _ _ _ _ q Ext.refl a.rel (RepI.of (hs := []) (us := []) (.nil) itOk_rng)⟩
/-- signs of a text -/
def chL (x : Str) : List D := x.cps.toList.map fun c => .str ⟨#[c]⟩
theorem sOk_ch {x : Str} (h : sOk x) {c : Nat} (hc : c ∈ x.cps.toList) : sOk ⟨#[c]⟩ := by
  unfold sOk PySem.PyData.strOk at *
  have := (Array.all_eq_true'.mp h) c (by simpa using hc)
  simpa using this
theorem itOk_str {K : PySem.W.Frag} {x : Str} (hx : sOk x) : ItOk K (Its x) (fun _ => True) (chL x) [] [] where
  go := fun F A H i R g r hi => by show i < x.cps.size; simpa [chL] using hi
  stop := fun F A H i R g r hi => by show x.cps.size ≤ i; simpa [chL] using hi
  yld := fun F A H i y H' R g r yy hi => by
    obtain ⟨rfl, c, hc, rfl⟩ := yy
    have hc' : x.cps.toList[i]? = some c := by simpa using hc
    exact ⟨.str ⟨#[c]⟩, by simp [chL, hc'], Ext.refl, R, .str (sOk_ch hx (List.mem_of_getElem? hc'))⟩
def aItS (te : AE) : AI := fun δ A Q E => te δ A (fun d A1 => ∃ x, d = .str x ∧ Q (fun _ => True, chL x) A1) E
theorem ai_str {tg : Expr} (he : PE X e (liftE X.K W te)) : PI X tg e (liftI X.K W (aItS te)) := PI.imp (pi_str he) fun σ H R ⟨δ, h⟩ => by
  refine (Lf.bindE (k := fun d A1 Q E => ∃ x, d = .str x ∧ Q (fun _ => True, chL x) A1) h).mono fun v H1 ⟨d, F, A, Q', E', a, ⟨x, g, q⟩, po⟩ => ?_
  subst g
  cases a.held with
  | cons r0 n => cases r0 with
    | str hx => exact ⟨x, rfl, po _ _ _ _ _ q Ext.refl a.rel (RepI.of (hs := []) (us := []) (.nil) (itOk_str hx))⟩
def enumL (xs : List D) : List D := xs.mapIdx fun i d => .tup [.int (i : Nat), d]
theorem itOk_enum {K : PySem.W.Frag} {d : D} {a : Addr} {xs : List D} : ItOk K (Ite K a) (fun A => asL A d = some xs) (enumL xs) [d] [V.ref a] where
  go := fun F A H i R g r hi => (itOk_list (K := K) (d := d) (a := a) (xs := xs)).go F A H i R g r (by simpa [enumL] using hi)
  stop := fun F A H i R g r hi => (itOk_list (K := K) (d := d) (a := a) (xs := xs)).stop F A H i R g r (by simpa [enumL] using hi)
  yld := fun F A H i x H' R g r y hi => by
    cases r with
    | cons r0 _ =>
      obtain ⟨a', vs, e, hs, rr⟩ := asL_ok R r0 g
      cases e
      obtain ⟨T, z, rfl, hT, rfl, hy⟩ := y
      obtain ⟨d', e', r'⟩ := rr.get (hy vs hs)
      obtain ⟨R2, x2, r2⟩ := R.newT (ds := [.int (i : Nat), d']) (vs := [.int (i : Nat), z]) hT (.cons (.int _) (.cons r' .nil))
      exact ⟨_, by simp [enumL, e'], x2, R2, r2⟩
def aEnum (t : AA) : AI := fun δ A Q E => t δ A (fun ds A1 => ∃ d xs, ds = [d] ∧ asL A1 d = some xs ∧ Q (fun A => asL A d = some xs, enumL xs) A1) E
theorem ai_enum {tpos : Pos} {elts : List Expr} {kk : Nat} (hg : Gl X "enumerate") (hm : X.mg "enumerate" = none) (ha : PA X [e] (liftA X.K W t)) (hs : starEach [e] X.env = [(false, eval e X.env)] := by rfl) :
    PI X (.Tuple elts kk tpos) (.Call (.Name "enumerate" p) [e] [] pos) (liftI X.K W (aEnum t)) := PI.imp (pi_enum hg hm ha hs) fun σ H R ⟨δ, h⟩ => by
  refine (Lf.core (R1 := Reps X.K) (k := fun ds A1 Q E => ∃ d xs, ds = [d] ∧ asL A1 d = some xs ∧ Q (fun A => asL A d = some xs, enumL xs) A1) h).mono fun vs H1 ⟨ds, F, A, Q', E', a, r, ⟨d, xs, ed, g, q⟩, po⟩ => ?_
  subst ed
  obtain ⟨v, rfl, r0⟩ := r.one
  · obtain ⟨a', vs, rfl, hs, rr⟩ := asL_ok a.rel r0 g
    exact ⟨a', vs, rfl, hs, po _ _ _ _ _ q Ext.refl a.rel (RepI.of (hs := [d]) (us := [V.ref a']) (.cons r0 .nil) itOk_enum)⟩
def zipL (xs ys : List D) : List D := List.zipWith (fun x y => .tup [x, y]) xs ys
theorem itOk_zip {K : PySem.W.Frag} {d d2 : D} {a b : Addr} {xs ys : List D} : ItOk K (Itz K a b) (fun A => asL A d = some xs ∧ asL A d2 = some ys) (zipL xs ys) [d, d2] [V.ref a, V.ref b] where
  go := fun F A H i R g r hi => by
    match r with
    | .cons r0 (.cons r1 .nil) =>
      obtain ⟨a', vs, e, hs, rr⟩ := asL_ok R r0 g.1
      obtain ⟨b', us, e2, hs2, rr2⟩ := asL_ok R r1 g.2
      cases e; cases e2
      have h1 := rr.length
      have h2 := rr2.length
      simp [zipL] at hi
      have l1 : i < vs.length := by omega
      have l2 : i < us.length := by omega
      exact ⟨vs, us, vs[i], us[i], hs, hs2, List.getElem?_eq_getElem l1, List.getElem?_eq_getElem l2⟩
  stop := fun F A H i R g r hi => by
    match r with
    | .cons r0 (.cons r1 .nil) =>
      obtain ⟨a', vs, e, hs, rr⟩ := asL_ok R r0 g.1
      obtain ⟨b', us, e2, hs2, rr2⟩ := asL_ok R r1 g.2
      cases e; cases e2
      have h1 := rr.length
      have h2 := rr2.length
      simp [zipL] at hi
      exact ⟨vs, us, hs, hs2, by omega⟩
  yld := fun F A H i x H' R g r y hi => by
    match r with
    | .cons r0 (.cons r1 .nil) =>
      obtain ⟨a', vs, e, hs, rr⟩ := asL_ok R r0 g.1
      obtain ⟨b', us, e2, hs2, rr2⟩ := asL_ok R r1 g.2
      cases e; cases e2
      obtain ⟨T, z, z2, rfl, hT, rfl, hy, hy2⟩ := y
      obtain ⟨d', e', r'⟩ := rr.get (hy vs hs)
      obtain ⟨d'', e'', r''⟩ := rr2.get (hy2 us hs2)
      obtain ⟨R2, x2, r2⟩ := R.newT (ds := [d', d'']) (vs := [z, z2]) hT (.cons r' (.cons r'' .nil))
      exact ⟨_, by simp [zipL, List.getElem?_zipWith, e', e''], x2, R2, r2⟩
def aZip (t : AA) : AI := fun δ A Q E => t δ A (fun ds A1 => ∃ d d2 xs ys, ds = [d, d2] ∧ asL A1 d = some xs ∧ asL A1 d2 = some ys ∧ Q (fun A => asL A d = some xs ∧ asL A d2 = some ys, zipL xs ys) A1) E
theorem ai_zip {e2 : Expr} {tpos : Pos} {elts : List Expr} {kk : Nat} (hg : Gl X "zip") (hm : X.mg "zip" = none) (ha : PA X [e, e2] (liftA X.K W t)) (hs : starEach [e, e2] X.env = (false, eval e X.env) :: starEach [e2] X.env := by rfl) (hpl : (backTo pos (starEach [e2] X.env)).any (·.1) = false := by rfl) :
    PI X (.Tuple elts kk tpos) (.Call (.Name "zip" p) [e, e2] [] pos) (liftI X.K W (aZip t)) := PI.imp (pi_zip hg hm ha hs hpl) fun σ H R ⟨δ, h⟩ => by
  refine (Lf.core (R1 := Reps X.K) (k := fun ds A1 Q E => ∃ d d2 xs ys, ds = [d, d2] ∧ asL A1 d = some xs ∧ asL A1 d2 = some ys ∧ Q (fun A => asL A d = some xs ∧ asL A d2 = some ys, zipL xs ys) A1) h).mono fun vs H1 ⟨ds, F, A, Q', E', a, r, ⟨d, d2, xs, ys, ed, g, g2, q⟩, po⟩ => ?_
  subst ed
  obtain ⟨v, u, rfl, r0, r1⟩ := r.two
  · obtain ⟨a', vs, rfl, hs, rr⟩ := asL_ok a.rel r0 g
    obtain ⟨b', us, rfl, hs2, rr2⟩ := asL_ok a.rel r1 g2
    exact ⟨a', b', vs, us, rfl, hs, hs2, po _ _ _ _ _ q Ext.refl a.rel (RepI.of (hs := [d, d2]) (us := [V.ref a', V.ref b']) (.cons r0 (.cons r1 .nil)) itOk_zip)⟩
/-! ### comprehension rules -/
def aYes : AT := fun _ A Q _ => Q true A
theorem PTs.imp {ifs : List Expr} {t t' : TT} (h : PTs X ifs t) (i : ∀ σ H Q, t' σ H Q → t σ H Q) : PTs X ifs t' := ⟨fun pins s σ H Q I q => h.run pins s σ H Q I (i _ _ _ q)⟩
theorem ats_nil : PTs X [] (liftT X.K W aYes) := PTs.imp pts_nil fun σ H Q ⟨δ, F, A, Q', E', a, q, po⟩ => po _ _ _ _ _ q Ext.refl a.rel rfl
theorem ats_one {c : Expr} {t : AT} (h : PT X c (liftT X.K W t)) : PTs X [c] (liftT X.K W t) := pts_one h
theorem ae_lc (live : Bool) {elt tg iter : Expr} {ifs : List Expr} {scope : Scope} {own : List (Str × Nat)} {ti : AI} {pt : Pat} {tt : AT} (hc : X.calm = true) (hN : X.N.Nodup) (hi : PI X tg iter (liftI X.K W ti)) (ok : BlkOk X.N X.env.scope scope own) (hv : ∀ i ∈ slP pt, i ∈ own.map (·.2))
    (hg : ∀ (s : Shared) (H : Hp) (C : Addr) (cl : List (Str × Addr)) (fp : List Addr), PG (X.blk s H scope (compEnvC scope cl C X.env) fp) tg (tgOf X.K pt)) (ht : ∀ (s : Shared) (H : Hp) (C : Addr) (cl : List (Str × Addr)) (fp : List Addr), PTs (X.blk s H scope (compEnvC scope cl C X.env) fp) ifs (liftT X.K noW tt))
    (he : ∀ (s : Shared) (H : Hp) (C : Addr) (cl : List (Str × Addr)) (fp : List Addr), PE (X.blk s H scope (compEnvC scope cl C X.env) fp) elt (liftE X.K noW te)) (hs : ∀ x, foldedSetIterable iter X.env x = pure x := by intro _; rfl) :
    PE X (.ListComp elt [⟨tg, iter, ifs, 0⟩] scope pos) (liftE X.K W (aLc live ti pt tt te (own.map (·.2)))) := PE.imp (pe_lc hc hN hi ok hg ht he hs) fun σ H Q h => lift_lc hv h
theorem as_setLc (live : Bool) {i : Nat} {y : Str} {py : Pos} {elt tg iter : Expr} {ifs : List Expr} {scope : Scope} {own : List (Str × Nat)} {spos : Pos} {ti : AI} {pt : Pat} {tt : AT} (hc : X.calm = true) (hN : X.N.Nodup) (hy : X.N[i]? = some y) (hyl : X.env.scope.names.lookup y = some .local)
    (hsw : swapsWith (.ListComp elt [⟨tg, iter, ifs, 0⟩] scope pos) (some (.Name y py)) spos.line X.env = pure true) (hi : PI X tg iter (liftI X.K W ti)) (ok : BlkOk X.N X.env.scope scope own) (hv : ∀ i ∈ slP pt, i ∈ own.map (·.2))
    (hg : ∀ (s : Shared) (H : Hp) (C : Addr) (cl : List (Str × Addr)) (fp : List Addr), PG (X.blk s H scope (compEnvC scope cl C X.env) fp) tg (tgOf X.K pt)) (ht : ∀ (s : Shared) (H : Hp) (C : Addr) (cl : List (Str × Addr)) (fp : List Addr), PTs (X.blk s H scope (compEnvC scope cl C X.env) fp) ifs (liftT X.K noW tt))
    (he : ∀ (s : Shared) (H : Hp) (C : Addr) (cl : List (Str × Addr)) (fp : List Addr), PE (X.blk s H scope (compEnvC scope cl C X.env) fp) elt (liftE X.K noW te)) (hs : ∀ x, foldedSetIterable iter X.env x = pure x := by intro _; rfl) :
    PS X (.Assign [.Name y py] (.ListComp elt [⟨tg, iter, ifs, 0⟩] scope pos) spos) (liftS X.K W (aAsg (aLc live ti pt tt te (own.map (·.2))) (.nm i))) := PS.imp (ps_setLc hc hN hy hyl hsw hi ok hg ht he hs) fun D σ H h => by
  have h1 := lift_asg h
  rw [tgOf] at h1
  exact lift_lc hv h1
/-! ### general targets -/
abbrev AG := D → ASt → AH → (ASt → AH → Prop) → AX → Prop
def liftG (K : PySem.W.Frag) (W : WX) (g : AG) : TG := fun v σ H Q => ∃ F A δ d Q' E', At K W δ σ H F A E' [d] [v] ∧ g d δ A Q' E' ∧ ∀ δ' A' F' H' σ', Q' δ' A' → Ext F A H F' A' H' → Rel K F' A' H' → RepS K F' H' δ' σ' → Q σ' H'
end
end Av

set_option Elab.async false
set_option linter.all false
set_option maxRecDepth 100000
set_option maxHeartbeats 4000000
/-! own library Av, part 7: try, general targets, operators, dicts -/
namespace Av
open PySem PySem.Spec PyProof.Rows L2 My
/-! ### try -/
abbrev ACl : Type := Option Nat × Value × (Addr → Addr → Addr → List (Str × D) → AS)
def endsAA : Option Nat → AEnds → AEnds
  | none, N => { nx := N.nx, rt := N.rt, bk := N.bk, ct := N.ct }
  | some i, N => { nx := fun δ A => N.nx (δ.set i none) A, rt := N.rt, bk := fun δ A => N.bk (δ.set i none) A, ct := fun δ A => N.ct (δ.set i none) A }
def putAA : Option Nat → D → ASt → ASt
  | none, _, δ => δ
  | some i, d, δ => δ.set i (some d)
def aHandle (K : PySem.W.Frag) (N : AEnds) : List ACl → Addr → List (Str × D) → ASt → AH → Prop
  | [], C, fs, δ, A => N.ex C fs δ A
  | (n, c, ts) :: r, C, fs, δ, A => ∃ b, PySem.W.exmOne K (.ref C) c = some b ∧ (b = true → ∀ a dd, ts a dd C fs (endsAA n N) (putAA n (.exc a dd C fs) δ) A) ∧ (b = false → aHandle K N r C fs δ A)
def aTry (K : PySem.W.Frag) (tb : AS) (l : List ACl) : AS := fun N δ A => tb { N with ex := fun C fs δ A => aHandle K N l C fs δ A } δ A
def vcl (K : PySem.W.Frag) : ACl → Cl := fun c => (c.1, c.2.1, fun a cls d D σ H => ∃ C dd fs, cls = .ref C ∧ d = some dd ∧ liftS K noW (c.2.2 a dd C fs) D σ H)
abbrev ASuite (X : Cx) (body : List Stmt) (ts : Addr → Addr → Addr → List (Str × D) → AS) : Prop :=
  ∀ (a dd C : Addr) (fs : List (Str × D)) (oe : Obj) (pn : List (Addr × Obj)), Zc (.ref C) (some dd) oe → (∃ vs, oe.data = .fields vs) → PSs (X.suite a ((a, oe) :: pn)) body (liftS X.K noW (ts a dd C fs))
theorem ASuite.v {X : Cx} {body : List Stmt} {c : ACl} (h : ASuite X body c.2.2) : SuiteOk X body (vcl X.K c).2.2 := fun a oe cls d pn hz hf => ⟨fun pins s σ H D I ⟨C, dd, fs, e1, e2, q⟩ => by
  subst e1; subst e2
  exact (h a dd C fs oe pn hz hf).run pins s σ H D I q⟩
inductive AClsOk (X : Cx) : List ExceptHandler → List ACl → Prop
  | nil : AClsOk X [] []
  | bare {x : Str} {c : Value} {ts : Addr → Addr → Addr → List (Str × D) → AS} {b₀ : Stmt} {suite : List Stmt} {np pos' : Pos} {hds : List ExceptHandler} {l : List ACl} (hc : Names X x c) (hsu : ASuite X (b₀ :: suite) ts) (r : AClsOk X hds l) :
      AClsOk X (.ExceptHandler (some (.Name x np)) none (b₀ :: suite) pos' :: hds) ((none, c, ts) :: l)
  | as {x n : Str} {i : Nat} {c : Value} {ts : Addr → Addr → Addr → List (Str × D) → AS} {b₀ : Stmt} {suite : List Stmt} {np pos' : Pos} {hds : List ExceptHandler} {l : List ACl} (hc : Names X x c) (hi : X.N[i]? = some n) (hln : X.env.kindOf n = some .local) (hsu : ASuite X (b₀ :: suite) ts) (r : AClsOk X hds l) :
      AClsOk X (.ExceptHandler (some (.Name x np)) (some n) (b₀ :: suite) pos' :: hds) ((some i, c, ts) :: l)
theorem AClsOk.v {X : Cx} : ∀ {hds : List ExceptHandler} {l : List ACl}, AClsOk X hds l → ClsOk X hds (l.map (vcl X.K))
  | _, _, .nil => .nil
  | _, _, .bare hc hsu r => .bare hc (ASuite.v (c := (none, _, _)) hsu) r.v
  | _, _, .as hc hi hln hsu r => .as hc hi hln (ASuite.v (c := (some _, _, _)) hsu) r.v
theorem handle_w {K : PySem.W.Frag} {W : WX} {E : Ends} {N : AEnds} {C dd : Addr} {fs : List (Str × D)} {fv : List (Str × V)} {δ : ASt} {σ : L2.St} {F : Addr → Prop} {A : AH} {H : Hp} (R : Rel K F A H) (s : RepS K F H δ σ) (hd : H dd = some (.xd fv)) (rf : RepF K F H fs fv) (e : EndsOk K W F A H N E) :
    ∀ (l : List ACl), aHandle K N l C fs δ A → wCls K W E (l.map (vcl K)) (.ref C) (some dd) σ H
  | [], h => e.ex _ _ _ _ _ _ _ _ _ h Ext.refl R s hd rf
  | (n, c, ts) :: r, h => by
    obtain ⟨b, hb, hy, hn⟩ := h
    refine ⟨b, hb, fun eb a ha => ?_, fun eb => handle_w R s hd rf e r (hn eb)⟩
    refine ⟨C, dd, fs, rfl, rfl, F, A, putAA n (.exc a dd C fs) δ, endsAA n N, R, ?_, hy eb a dd, ?_⟩
    · cases n with
      | none => exact s
      | some i => exact s.set (.exc hd rf) i
    · cases n with
      | none => exact ⟨e.nx, e.rt, e.bk, e.ct, fun _ _ _ _ _ _ _ _ _ h => h.elim⟩
      | some i => exact ⟨fun δ A1 F1 H1 σ q x R1 s1 => e.nx _ _ _ _ _ q x R1 (s1.unset i), e.rt, fun δ A1 F1 H1 σ q x R1 s1 => e.bk _ _ _ _ _ q x R1 (s1.unset i), fun δ A1 F1 H1 σ q x R1 s1 => e.ct _ _ _ _ _ q x R1 (s1.unset i), fun _ _ _ _ _ _ _ _ _ h => h.elim⟩
section
variable {X : Cx} {W : WX} {k : Nat} {f C : Addr} {asp : ASp} {x fl : Str} {a b e o : Expr} {es : List Expr} {ta tb te tv : AE} {t : AA} {p pos pos' apos : Pos}
theorem as_try {body : List Stmt} {h₀ : ExceptHandler} {hds : List ExceptHandler} {l : List ACl} {tb : AS} (hs : X.stack = X.env :: X.outer) (hf : X.env.frame = some X.env.locals) (hN : X.N.Nodup) (tk : Takes X W)
    (hb : ∀ (W : WX) (pn : List (Addr × Obj)) (xe : Value → Shared → Prop), Takes (X.tr pn xe) W → PassesOwn (model X.prog X.w) X.A X.env xe → PSs (X.tr pn xe) body (liftS X.K W tb))
    (hh : AClsOk X (h₀ :: hds) l) : PS X (.Try body (h₀ :: hds) [] [] pos) (liftS X.K W (aTry X.K tb l)) :=
  PS.imp (ps_tryC (tb := fun W => liftS X.K W tb) hs hf hN tk hb hh.v) fun D σ H ⟨F, A, δ, D', R, s, q, e⟩ =>
    ⟨F, A, δ, _, R, s, q, ⟨e.nx, e.rt, e.bk, e.ct, fun C fs δ1 A1 F1 H1 σ1 dd fv h x R1 s1 hd rf => handle_w R1 s1 hd rf (e.step x) l h⟩⟩
/-- e.f of a caught error -/
def aFldX (a dd C CC : Addr) (fl : Str) (te : AE) : AE := fun δ A Q E => te δ A (fun x A1 => ∃ v, x = .exc a dd C [(fl, v)] ∧ C = CC ∧ Q v A1) E
theorem ae_fldOw {aa dd CC C fI cc cda : Addr} {cn : Str} {oe : Obj} {pn : List (Addr × Obj)} (T : PySem.OwX.OwTxt X.prog X.K X.mg C fI cc cda cn fl) (hz : Zc (.ref CC) (some dd) oe) (hf : ∃ vs, oe.data = .fields vs) (he : PE (X.suite aa ((aa, oe) :: pn)) e (liftE X.K W te))
    (hb : attributeBase e fl X.env (eval e X.env) = eval e X.env) : PE (X.suite aa ((aa, oe) :: pn)) (.Attribute e fl pos) (liftE X.K W (aFldX aa dd CC C fl te)) := PE.imp (pe_fldOw T hz hf he hb) fun σ H Q ⟨δ, h⟩ => by
  refine (Lf.bindE (k := fun x A1 Q E => ∃ v, x = .exc aa dd CC [(fl, v)] ∧ CC = C ∧ Q v A1) h).mono fun v H1 ⟨d, F, A, Q', E', at_, ⟨w, ed, ec, q⟩, po⟩ => ?_
  subst ed
  cases at_.held with
  | cons r0 n => cases r0 with
    | exc h1 h2 => cases h2 with
      | cons r1 r2 => cases r2; exact ⟨rfl, by rw [ec], dd, _, rfl, h1, po _ _ _ _ _ q Ext.refl at_.rel r1⟩
/-! ### operators -/
variable {K : PySem.W.Frag}
def gI (c : Int → Int → Prop) (g : Int → Int → D) : G2 := fun x y A Q _ => ∃ i j, x = .int i ∧ y = .int j ∧ c i j ∧ Q (g i j) A
def gI0 (g : Int → Int → D) : G2 := fun x y A Q _ => ∃ i j, x = .int i ∧ y = .int j ∧ Q (g i j) A
theorem l2_I {c : Int → Int → Prop} {g : Int → Int → D} {gv : Int → Int → V} (h : ∀ i j F H, Rep K F H (g i j) (gv i j)) : Lift2 K (gI c g) (rI c gv) := fun W δ σ H x y v u Q ⟨F, A, Q', E', a, ⟨i, j, e1, e2, hc, q⟩, po⟩ => by
  subst e1; subst e2
  obtain ⟨u', v', e, r1, r2⟩ := a.held.two
  cases e; cases r1; cases r2
  exact ⟨i, j, rfl, rfl, hc, po _ _ _ _ _ q Ext.refl a.rel (h i j _ _)⟩
theorem l2_I0 {g : Int → Int → D} {gv : Int → Int → V} (h : ∀ i j F H, Rep K F H (g i j) (gv i j)) : Lift2 K (gI0 g) (rI0 gv) := fun W δ σ H x y v u Q ⟨F, A, Q', E', a, ⟨i, j, e1, e2, q⟩, po⟩ => by
  subst e1; subst e2
  obtain ⟨u', v', e, r1, r2⟩ := a.held.two
  cases e; cases r1; cases r2
  exact ⟨i, j, rfl, rfl, po _ _ _ _ _ q Ext.refl a.rel (h i j _ _)⟩
def gOr (g h : G2) : G2 := fun x y A Q E => g x y A Q E ∨ h x y A Q E
theorem l2_or {g h : G2} {r s : R2} (a : Lift2 K g r) (b : Lift2 K h s) : Lift2 K (gOr g h) (fun x y H Q => r x y H Q ∨ s x y H Q) := fun W δ σ H x y v u Q ⟨F, A, Q', E', at_, q, po⟩ => by
  rcases q with q | q
  · exact .inl (a W δ σ H x y v u Q ⟨F, A, Q', E', at_, q, po⟩)
  · exact .inr (b W δ σ H x y v u Q ⟨F, A, Q', E', at_, q, po⟩)
theorem sOk_app {x y : Str} (h1 : sOk x) (h2 : sOk y) : sOk (x ++ y) := by
  unfold sOk PySem.PyData.strOk at *
  show (x.cps ++ y.cps).all _ = true
  rw [Array.all_append, h1, h2]; rfl
/-- texts -/
def gCatS : G2 := fun x y A Q _ => ∃ i j, x = .str i ∧ y = .str j ∧ i.length + j.length ≤ sizeLine ∧ Q (.str (i ++ j)) A
theorem l2_catS : Lift2 K gCatS mAddS := fun W δ σ H x y v u Q ⟨F, A, Q', E', a, ⟨i, j, e1, e2, hc, q⟩, po⟩ => by
  subst e1; subst e2
  obtain ⟨u', v', e, r1, r2⟩ := a.held.two
  cases e
  cases r1 with
  | str h1 => cases r2 with
    | str h2 => exact ⟨i, j, rfl, rfl, hc, po _ _ _ _ _ q Ext.refl a.rel (.str (sOk_app h2 h1))⟩
/-- lists -/
def gCatL (live : Bool) : G2 := fun x y A Q _ => ∃ xs ys, asX A x = some xs ∧ asX A y = some ys ∧ xs.length + ys.length ≤ sizeLine ∧ aNew live (.lst (xs ++ ys)) A Q
theorem l2_catL {live : Bool} : Lift2 K (gCatL live) rCat := fun W δ σ H x y v u Q ⟨F, A, Q', E', a, ⟨xs, ys, e1, e2, hc, q⟩, po⟩ => by
  obtain ⟨u', v', e, r1, r2⟩ := a.held.two
  cases e
  obtain ⟨b1, us, rfl, h1, q1⟩ := asX_ok a.rel r2 e1
  obtain ⟨b2, ws, rfl, h2, q2⟩ := asX_ok a.rel r1 e2
  exact ⟨b1, b2, us, ws, rfl, rfl, h1, h2, by rw [← q1.length, ← q2.length]; exact hc, aNew_ok a.rel (.lst (q1.append q2)) q po⟩
/-- tuples -/
def gCatT : G2 := fun x y A Q _ => ∃ xs ys, x = .tup xs ∧ y = .tup ys ∧ xs.length + ys.length ≤ sizeLine ∧ Q (.tup (xs ++ ys)) A
theorem l2_catT : Lift2 K gCatT (rCatA K) := fun W δ σ H x y v u Q ⟨F, A, Q', E', a, ⟨xs, ys, e1, e2, hc, q⟩, po⟩ => by
  subst e1; subst e2
  obtain ⟨u', v', e, r1, r2⟩ := a.held.two
  cases e
  obtain ⟨b1, us, rfl, h1, q1⟩ := asTe_ok r2 rfl
  obtain ⟨b2, ws, rfl, h2, q2⟩ := asTe_ok r1 rfl
  refine ⟨b1, b2, us, ws, rfl, rfl, h1.sq, h2.sq, by rw [← q1.length, ← q2.length]; exact hc, fun z => ?_, fun _ z => ?_, fun _ _ => ?_⟩
  · subst z
    cases q1
    exact po _ _ _ _ _ q Ext.refl a.rel (.tup h2 q2)
  · subst z
    cases q2
    rw [List.append_nil] at q
    exact po _ _ _ _ _ q Ext.refl a.rel (.tup h1 q1)
  · exact tup_ok a.rel (q1.append q2) q po
def gAdd (live : Bool) : G2 := gOr (gI0 fun i j => .int (i + j)) (gOr gCatS (gOr (gCatL live) gCatT))
theorem ae_add (live : Bool) (ha : PE X a (liftE X.K W ta)) (hb : PE X b (liftE X.K W tb)) : PE X (.BinOp a .Add b pos) (liftE X.K W (aOp (gAdd live) ta tb)) :=
  ae_op (l2_or (l2_I0 fun i j _ _ => .int _) (l2_or l2_catS (l2_or l2_catL l2_catT))) (op_add.or (addS.or (op_cat.or op_catA))) ha hb
theorem ae_sub (ha : PE X a (liftE X.K W ta)) (hb : PE X b (liftE X.K W tb)) : PE X (.BinOp a .Sub b pos) (liftE X.K W (aOp (gI0 fun i j => .int (i - j)) ta tb)) := ae_op (l2_I0 fun i j _ _ => .int _) op_sub ha hb
def gRep (live : Bool) : G2 := fun x y A Q _ => ∃ xs n, asX A x = some xs ∧ y = .int n ∧ -(2 ^ 63) ≤ n ∧ n < 2 ^ 63 ∧ xs.length * n.toNat ≤ sizeLine ∧ aNew live (.lst (List.replicate n.toNat xs).flatten) A Q
theorem reps_rep {F : Addr → Prop} {H : Hp} {xs : List D} {us : List V} (r : Reps K F H xs us) : ∀ n : Nat, Reps K F H (List.replicate n xs).flatten (List.replicate n us).flatten
  | 0 => .nil
  | n + 1 => by rw [List.replicate_succ, List.replicate_succ, List.flatten_cons, List.flatten_cons]; exact r.append (reps_rep r n)
theorem l2_rep {live : Bool} : Lift2 K (gRep live) rRep := fun W δ σ H x y v u Q ⟨F, A, Q', E', a, ⟨xs, n, e1, e2, n1, n2, hc, q⟩, po⟩ => by
  subst e2
  obtain ⟨u', v', e, r1, r2⟩ := a.held.two
  cases e; cases r1
  obtain ⟨b1, us, rfl, h1, q1⟩ := asX_ok a.rel r2 e1
  exact ⟨b1, n, us, rfl, rfl, h1, n1, n2, by rw [← q1.length]; exact hc, aNew_ok a.rel (.lst (reps_rep q1 _)) q po⟩
def gMul (live : Bool) : G2 := gOr (gI CMulW fun i j => .int (i * j)) (gRep live)
theorem ae_mul (live : Bool) (ha : PE X a (liftE X.K W ta)) (hb : PE X b (liftE X.K W tb)) : PE X (.BinOp a .Mult b pos) (liftE X.K W (aOp (gMul live) ta tb)) := ae_op (l2_or (l2_I fun i j _ _ => .int _) l2_rep) (op_mulW.or op_rep) ha hb
theorem ae_mod (ha : PE X a (liftE X.K W ta)) (hb : PE X b (liftE X.K W tb)) : PE X (.BinOp a .Mod b pos) (liftE X.K W (aOp (gI (fun _ j => 0 < j) fun i j => .int (i % j)) ta tb)) := ae_op (l2_I fun i j _ _ => .int _) op_mod ha hb
theorem ae_fdiv (ha : PE X a (liftE X.K W ta)) (hb : PE X b (liftE X.K W tb)) : PE X (.BinOp a .FloorDiv b pos) (liftE X.K W (aOp (gI CDivW fun i j => .int (i / j)) ta tb)) := ae_op (l2_I fun i j _ _ => .int _) op_fdivW ha hb
theorem ae_pow (ha : PE X a (liftE X.K W ta)) (hb : PE X b (liftE X.K W tb)) : PE X (.BinOp a .Pow b pos) (liftE X.K W (aOp (gI CPowW fun i j => .int (i ^ j.toNat)) ta tb)) := ae_op (l2_I fun i j _ _ => .int _) op_powW ha hb
def gNeg : G1 := fun x A Q _ => ∃ i, x = .int i ∧ Q (.int (-i)) A
theorem ae_neg (ha : PE X a (liftE X.K W ta)) : PE X (.UnaryOp .USub a pos) (liftE X.K W (aUn gNeg ta)) := ae_un (fun W δ σ H x v Q ⟨F, A, Q', E', a, ⟨i, e1, q⟩, po⟩ => by
  subst e1
  obtain ⟨v', e, r1⟩ := a.held.one
  cases e; cases r1
  exact ⟨i, rfl, po _ _ _ _ _ q Ext.refl a.rel (.int _)⟩) un_neg ha
/-! comparisons -/
def gS (g : Str → Str → Bool) : G2 := fun x y A Q _ => ∃ i j, x = .str i ∧ y = .str j ∧ Q (.bl (g i j)) A
theorem l2_S {g : Str → Str → Bool} : Lift2 K (gS g) (fun x y H Q => ∃ i j, x = .str i ∧ y = .str j ∧ Q (.bl (g i j)) H) := fun W δ σ H x y v u Q ⟨F, A, Q', E', a, ⟨i, j, e1, e2, q⟩, po⟩ => by
  subst e1; subst e2
  obtain ⟨u', v', e, r1, r2⟩ := a.held.two
  cases e
  cases r1; cases r2
  exact ⟨i, j, rfl, rfl, po _ _ _ _ _ q Ext.refl a.rel (.bl _)⟩
def gLt : G2 := gOr (gI0 fun i j => .bl (decide (i < j))) (gS fun i j => decide (i.cps.toList < j.cps.toList))
def gLe : G2 := gOr (gI0 fun i j => .bl (decide (i ≤ j))) (gS fun i j => !decide (j.cps.toList < i.cps.toList))
def gGt : G2 := gOr (gI0 fun i j => .bl (decide (j < i))) (gS fun i j => decide (j.cps.toList < i.cps.toList))
def gGe : G2 := gOr (gI0 fun i j => .bl (decide (j ≤ i))) (gS fun i j => !decide (i.cps.toList < j.cps.toList))
def CmpA (X : Cx) (op : CmpOp) (g : G2) : Prop := ∃ r, Lift2 X.K g r ∧ OpR X (compareOp op) r
theorem cmp_lt : CmpA X .Lt gLt := ⟨_, l2_or (l2_I0 fun i j _ _ => .bl _) l2_S, op_lt.or op_lt_str⟩
theorem cmp_le : CmpA X .LtE gLe := ⟨_, l2_or (l2_I0 fun i j _ _ => .bl _) l2_S, op_le.or op_le_str⟩
theorem cmp_gt : CmpA X .Gt gGt := ⟨_, l2_or (l2_I0 fun i j _ _ => .bl _) l2_S, op_gt.or op_gt_str⟩
theorem cmp_ge : CmpA X .GtE gGe := ⟨_, l2_or (l2_I0 fun i j _ _ => .bl _) l2_S, op_ge.or op_ge_str⟩
theorem ae_cmpA {op : CmpOp} {g : G2} (h : CmpA X op g) (ha : PE X a (liftE X.K W ta)) (hb : PE X b (liftE X.K W tb)) (hm : behindInMarks op b = false) : PE X (.Compare a [op] [b] pos) (liftE X.K W (aOp g ta tb)) := by
  obtain ⟨r, L, ho⟩ := h
  exact ae_cmp L ho ha hb hm
theorem at_cmpA {op : CmpOp} {g : G2} (h : CmpA X op g) (ha : PE X a (liftE X.K W ta)) (hb : PE X b (liftE X.K W tb)) (hm : behindInMarks op b = false) : PT X (.Compare a [op] [b] pos) (liftT X.K W (aB (aOp g ta tb))) := by
  obtain ⟨r, L, ho⟩ := h
  exact at_cmp L ho ha hb hm
/-- x is None, x is not None -/
def isNoD : D → Bool
  | .non => true
  | _ => false
def gIs (neg : Bool) : G2 := fun x y A Q _ => y = .non ∧ Q (.bl (if neg then !isNoD x else isNoD x)) A
theorem isNo_ok2 {F : Addr → Prop} {H : Hp} {d : D} {v : V} (r : Rep K F H d v) : isNoD d = decide (v = .non) := by cases r <;> simp [isNoD]
theorem l2_is : Lift2 K (gIs false) mIsN := fun W δ σ H x y v u Q ⟨F, A, Q', E', a, ⟨e2, q⟩, po⟩ => by
  subst e2
  obtain ⟨u', v', e, r1, r2⟩ := a.held.two
  cases e; cases r1
  refine ⟨rfl, ?_⟩
  rw [← isNo_ok2 r2]
  exact po _ _ _ _ _ q Ext.refl a.rel (.bl _)
theorem l2_isnt : Lift2 K (gIs true) mNotN := fun W δ σ H x y v u Q ⟨F, A, Q', E', a, ⟨e2, q⟩, po⟩ => by
  subst e2
  obtain ⟨u', v', e, r1, r2⟩ := a.held.two
  cases e; cases r1
  refine ⟨rfl, ?_⟩
  rw [← isNo_ok2 r2]
  exact po _ _ _ _ _ q Ext.refl a.rel (.bl _)
/-! equality -/
def scD : D → Option V
  | .non => some .non
  | .bl b => some (.bl b)
  | .int i => some (.int i)
  | .str x => some (.str x)
  | _ => none
theorem scD_ok {F : Addr → Prop} {H : Hp} {d : D} {v u : V} (r : Rep K F H d v) (e : scD d = some u) : v = u := by cases r <;> simp [scD] at e <;> exact e
def gEqS (neg : Bool) : G2 := fun x y A Q _ => ∃ v u, scD x = some v ∧ scD y = some u ∧ scal v u = true ∧ Q (.bl (if neg then !decide (v = u) else decide (v = u))) A
theorem l2_eqS : Lift2 K (gEqS false) rEq := fun W δ σ H x y v u Q ⟨F, A, Q', E', a, ⟨v1, u1, e1, e2, hs, q⟩, po⟩ => by
  obtain ⟨u', v', e, r1, r2⟩ := a.held.two
  cases e
  obtain rfl := scD_ok r1 e2
  obtain rfl := scD_ok r2 e1
  exact ⟨hs, po _ _ _ _ _ q Ext.refl a.rel (.bl _)⟩
theorem l2_neS : Lift2 K (gEqS true) rNe := fun W δ σ H x y v u Q ⟨F, A, Q', E', a, ⟨v1, u1, e1, e2, hs, q⟩, po⟩ => by
  obtain ⟨u', v', e, r1, r2⟩ := a.held.two
  cases e
  obtain rfl := scD_ok r1 e2
  obtain rfl := scD_ok r2 e1
  exact ⟨hs, po _ _ _ _ _ q Ext.refl a.rel (.bl _)⟩
mutual
def toP : D → Option PyData
  | .non => some .none
  | .bl b => some (.bool b)
  | .int i => some (.int i)
  | .str x => some (.str x)
  | .tup xs => (toPs xs).map .tuple
  | .lst xs => (toPs xs).map .list
  | _ => none
def toPs : List D → Option (List PyData)
  | [] => some []
  | d :: ds => match toP d, toPs ds with
    | some x, some xs => some (x :: xs)
    | _, _ => none
end
def topP (A : AH) : D → Option PyData
  | .ref a => match A a with
    | some (.lst xs) => (toPs xs).map .list
    | _ => none
  | d => toP d
mutual
theorem toP_ok {F : Addr → Prop} {H : Hp} : ∀ (d : D) {v : V} {x : PyData}, Rep K F H d v → toP d = some x → Dp K H v x ∧ x.canLay0 = true
  | .non, _, _, r, e => by cases r; cases e; exact ⟨.non, rfl⟩
  | .bl b, _, _, r, e => by cases r; cases e; exact ⟨.bl b, rfl⟩
  | .int i, _, _, r, e => by cases r; cases e; exact ⟨.int i, rfl⟩
  | .str x, _, _, r, e => by
    cases r with
    | str h => cases e; exact ⟨.str x, by rw [PyData.canLay0]; exact h⟩
  | .ty n, _, _, r, e => by cases e
  | .ref a, _, _, r, e => by cases e
  | .tup xs, _, _, r, e => by
    cases r with
    | tup h r =>
      rw [toP] at e
      cases q : toPs xs with
      | none => rw [q] at e; cases e
      | some ys =>
        rw [q] at e; cases e
        obtain ⟨h1, h2⟩ := toPs_ok xs r q
        exact ⟨.tup h.sq h1, by rw [PyData.canLay0]; exact h2⟩
  | .lst xs, _, _, r, e => by
    cases r with
    | lst f h r =>
      rw [toP] at e
      cases q : toPs xs with
      | none => rw [q] at e; cases e
      | some ys =>
        rw [q] at e; cases e
        obtain ⟨h1, h2⟩ := toPs_ok xs r q
        exact ⟨.lst (SqL.of h) h1, by rw [PyData.canLay0]; exact h2⟩
  | .rol _, _, _, r, e => by cases e
  | .dct _, _, _, r, e => by cases e
  | .dtt _, _, _, r, e => by cases e
  | .obj _ _, _, _, r, e => by cases e
  | .exc _ _ _ _, _, _, r, e => by cases e
theorem toPs_ok {F : Addr → Prop} {H : Hp} : ∀ (ds : List D) {vs : List V} {xs : List PyData}, Reps K F H ds vs → toPs ds = some xs → DpAll K H vs xs ∧ PyData.canLayAll0 xs = true
  | [], _, _, r, e => by cases r; cases e; exact ⟨.nil, rfl⟩
  | d :: ds, _, _, r, e => by
    cases r with
    | cons a r =>
      rw [toPs] at e
      split at e
      · rename_i x xs e1 e2
        cases e
        obtain ⟨h1, h2⟩ := toP_ok d a e1
        obtain ⟨h3, h4⟩ := toPs_ok ds r e2
        exact ⟨.cons h1 h3, by rw [PyData.canLayAll0, h2, h4]; rfl⟩
      · cases e
end
theorem topP_ok {F : Addr → Prop} {A : AH} {H : Hp} {d : D} {v : V} {x : PyData} (R : Rel K F A H) (r : Rep K F H d v) (e : topP A d = some x) : Dp K H v x ∧ x.canLay0 = true := by
  cases r with
  | ref a =>
    simp only [topP] at e
    split at e
    · rename_i xs q
      obtain ⟨_, ho, eh, r⟩ := R.live a _ q
      cases r with
      | lst r =>
        cases q : toPs xs with
        | none => rw [q] at e; cases e
        | some ys =>
          rw [q] at e; cases e
          obtain ⟨h1, h2⟩ := toPs_ok xs r q
          exact ⟨.lst (SqL.of eh) h1, by rw [PyData.canLay0]; exact h2⟩
    · cases e
  | non => exact toP_ok (F := F) _ .non e
  | bl b => exact toP_ok (F := F) _ (.bl b) e
  | int i => exact toP_ok (F := F) _ (.int i) e
  | str h => exact toP_ok (F := F) _ (.str h) e
  | ty n => cases e
  | tup h r => exact toP_ok _ (.tup h r) e
  | lst f h r => exact toP_ok _ (.lst f h r) e
  | rol f h r => cases e
  | rolK h r => cases e
  | dk f h r => cases e
  | dt f h r => cases e
  | obj f h r => cases e
  | exc h r => cases e
def gEqP (neg : Bool) : G2 := fun x y A Q _ => ∃ d e, topP A x = some d ∧ topP A y = some e ∧ d.depth ≤ 64 ∧ e.depth ≤ 64 ∧ Q (.bl (if neg then !PyData.eqv d e else PyData.eqv d e)) A
theorem shaped_of {d : PyData} (h : d.canLay0 = true) (h2 : d.depth ≤ 64) : SeqAt.shaped d = true := by
  show (d.canLay0 && decide (d.depth ≤ 64)) = true
  rw [h, decide_eq_true h2]; rfl
theorem l2_eqP : Lift2 K (gEqP false) (rEqD K) := fun W δ σ H x y v u Q ⟨F, A, Q', E', a, ⟨d, e, e1, e2, h1, h2, q⟩, po⟩ => by
  obtain ⟨u', v', e', r1, r2⟩ := a.held.two
  cases e'
  obtain ⟨d1, l1⟩ := topP_ok a.rel r2 e1
  obtain ⟨d2, l2⟩ := topP_ok a.rel r1 e2
  exact ⟨d, e, d1, d2, shaped_of l1 h1, shaped_of l2 h2, po _ _ _ _ _ q Ext.refl a.rel (.bl _)⟩
theorem l2_neP : Lift2 K (gEqP true) (rNeD K) := fun W δ σ H x y v u Q ⟨F, A, Q', E', a, ⟨d, e, e1, e2, h1, h2, q⟩, po⟩ => by
  obtain ⟨u', v', e', r1, r2⟩ := a.held.two
  cases e'
  obtain ⟨d1, l1⟩ := topP_ok a.rel r2 e1
  obtain ⟨d2, l2⟩ := topP_ok a.rel r1 e2
  exact ⟨d, e, d1, d2, shaped_of l1 h1, shaped_of l2 h2, po _ _ _ _ _ q Ext.refl a.rel (.bl _)⟩
def gEq (neg : Bool) : G2 := fun x y A Q E => match scD x, scD y with
  | some v, some u => scal v u = true ∧ Q (.bl (if neg then !decide (v = u) else decide (v = u))) A
  | _, _ => gEqP neg x y A Q E
theorem l2_gEq {neg : Bool} {r s : R2} (h1 : Lift2 K (gEqS neg) r) (h2 : Lift2 K (gEqP neg) s) : Lift2 K (gEq neg) (fun x y H Q => r x y H Q ∨ s x y H Q) := fun W δ σ H x y v u Q ⟨F, A, Q', E', a, q, po⟩ => by
  unfold gEq at q
  split at q
  · rename_i v1 u1 e1 e2
    exact .inl (h1 W δ σ H x y v u Q ⟨F, A, Q', E', a, ⟨v1, u1, e1, e2, q.1, q.2⟩, po⟩)
  · exact .inr (h2 W δ σ H x y v u Q ⟨F, A, Q', E', a, q, po⟩)
theorem cmp_eq (hu : X.A.units + 64 < cLine) : CmpA X .Eq (gEq false) := ⟨_, l2_gEq l2_eqS l2_eqP, op_eq.or (op_eqD hu)⟩
theorem cmp_ne (hu : X.A.units + 64 < cLine) : CmpA X .NotEq (gEq true) := ⟨_, l2_gEq l2_neS l2_neP, op_ne.or (op_neD hu)⟩
theorem cmp_is : CmpA X .Is (gIs false) := ⟨_, l2_is, isN⟩
theorem cmp_isnt : CmpA X .IsNot (gIs true) := ⟨_, l2_isnt, notN⟩
end
end Av

set_option Elab.async false
set_option linter.all false
set_option maxRecDepth 100000
set_option maxHeartbeats 4000000
/-! own library Av, part 8: in, places, slices, dicts, builtins, methods -/
namespace Av
open PySem PySem.Spec PyProof.Rows L2 My
section
variable {X : Cx} {W : WX} {k : Nat} {f C : Addr} {asp : ASp} {x fl : Str} {a b e o : Expr} {es : List Expr} {ta tb te tv : AE} {t : AA} {p pos pos' apos : Pos} {K : PySem.W.Frag}
/-! ### in -/
def scDs : List D → Option (List V)
  | [] => some []
  | d :: ds => match scD d, scDs ds with
    | some v, some vs => some (v :: vs)
    | _, _ => none
theorem scDs_ok {F : Addr → Prop} {H : Hp} : ∀ {ds : List D} {vs us : List V}, Reps K F H ds vs → scDs ds = some us → vs = us
  | _, _, _, .nil, e => by cases e; rfl
  | _, _, _, .cons a r, e => by
    rw [scDs] at e
    split at e
    · rename_i v vs e1 e2
      cases e
      rw [scD_ok a e1, scDs_ok r e2]
    · cases e
theorem scD_flat {d : D} {v : V} (e : scD d = some v) : flatV v = true := by
  cases d <;> simp [scD] at e <;> subst e <;> rfl
theorem scDs_flat : ∀ {ds : List D} {us : List V}, scDs ds = some us → us.all flatV = true
  | [], _, e => by cases e; rfl
  | d :: ds, _, e => by
    rw [scDs] at e
    split at e
    · rename_i v vs e1 e2
      cases e
      rw [List.all_cons, scD_flat e1, scDs_flat e2]; rfl
    · cases e
/-- what stands in a list or a tuple -/
def asQ (A : AH) (d : D) : Option (List D) := match asL A d with
  | some xs => some xs
  | none => asT d
theorem asQ_ok {F : Addr → Prop} {A : AH} {H : Hp} {d : D} {v : V} (R : Rel K F A H) (r : Rep K F H d v) {xs : List D} (e : asQ A d = some xs) : ∃ a vs, v = .ref a ∧ (SqL K H a vs ∨ SqT K H a vs) ∧ Reps K F H xs vs := by
  unfold asQ at e
  split at e
  · rename_i ys q
    cases e
    obtain ⟨a, vs, h1, h2, h3⟩ := asL_ok R r q
    exact ⟨a, vs, h1, .inl h2, h3⟩
  · obtain ⟨a, vs, h1, h2, h3⟩ := asT_ok r e
    exact ⟨a, vs, h1, .inr h2, h3⟩
def gInQ (neg : Bool) : G2 := fun x y A Q _ => ∃ xs v vs, asQ A y = some xs ∧ scD x = some v ∧ scDs xs = some vs ∧ Q (.bl (if neg then !inV v vs else inV v vs)) A
theorem l2_inQ {neg : Bool} : Lift2 K (gInQ neg) (rIn K neg) := fun W δ σ H x y v u Q ⟨F, A, Q', E', a, ⟨xs, v1, vs, e1, e2, e3, q⟩, po⟩ => by
  obtain ⟨u', v', e, r1, r2⟩ := a.held.two
  cases e
  obtain ⟨b1, us, rfl, h1, q1⟩ := asQ_ok a.rel r1 e1
  obtain rfl := scD_ok r2 e2
  obtain rfl := scDs_ok q1 e3
  exact ⟨b1, us, rfl, h1, scD_flat e2, scDs_flat e3, po _ _ _ _ _ q Ext.refl a.rel (.bl _)⟩
def gInS (neg : Bool) : G2 := fun x y A Q _ => ∃ (c : Nat) (z : Str), x = .str ⟨#[c]⟩ ∧ y = .str z ∧ Q (.bl (if neg then !decide (c ∈ z.cps.toList) else decide (c ∈ z.cps.toList))) A
theorem l2_inS : Lift2 K (gInS false) (fun x y H Q => ∃ (c : Nat) (z : Str), x = .str ⟨#[c]⟩ ∧ y = .str z ∧ Q (.bl (decide (c ∈ z.cps.toList))) H) := fun W δ σ H x y v u Q ⟨F, A, Q', E', a, ⟨c, z, e1, e2, q⟩, po⟩ => by
  subst e1; subst e2
  obtain ⟨u', v', e, r1, r2⟩ := a.held.two
  cases e; cases r1; cases r2
  exact ⟨c, z, rfl, rfl, po _ _ _ _ _ q Ext.refl a.rel (.bl _)⟩
theorem l2_notInS : Lift2 K (gInS true) (fun x y H Q => ∃ (c : Nat) (z : Str), x = .str ⟨#[c]⟩ ∧ y = .str z ∧ Q (.bl (!decide (c ∈ z.cps.toList))) H) := fun W δ σ H x y v u Q ⟨F, A, Q', E', a, ⟨c, z, e1, e2, q⟩, po⟩ => by
  subst e1; subst e2
  obtain ⟨u', v', e, r1, r2⟩ := a.held.two
  cases e; cases r1; cases r2
  exact ⟨c, z, rfl, rfl, po _ _ _ _ _ q Ext.refl a.rel (.bl _)⟩
/-! dicts -/
mutual
def keyEq : D → D → Bool
  | .int i, .int j => decide (i = j)
  | .str x, .str y => decide (x = y)
  | .tup xs, .tup ys => keysEq xs ys
  | _, _ => false
def keysEq : List D → List D → Bool
  | [], [] => true
  | x :: xs, y :: ys => keyEq x y && keysEq xs ys
  | _, _ => false
end
def valD (kvs : List (D × D)) (k : D) : Option D := match kvs with
  | [] => none
  | (q, v) :: r => if keyEq q k = true then some v else valD r k
def putD (kvs : List (D × D)) (k v : D) : List (D × D) := if (kvs.any fun p => keyEq p.1 k) = true then kvs.map (fun p => if keyEq p.1 k = true then (p.1, v) else p) else kvs ++ [(k, v)]
theorem keyEq_dK (k q : Key) : keyEq (dK k) (dK q) = decide (k = q) := by
  cases k <;> cases q <;> simp [dK, keyEq]
theorem keyEq_dKs : ∀ (k q : List Key), keysEq (k.map dK) (q.map dK) = decide (k = q)
  | [], [] => by simp [keysEq]
  | [], _ :: _ => by simp [keysEq]
  | _ :: _, [] => by simp [keysEq]
  | x :: k, y :: q => by
    simp only [List.map_cons, keysEq, keyEq_dK, keyEq_dKs k q, List.cons.injEq]
    by_cases h1 : x = y <;> by_cases h2 : k = q <;> simp [h1, h2]
def keyOf : D → Option Key
  | .int i => some (.inl i)
  | .str x => some (.inr x)
  | _ => none
def keysOf : List D → Option (List Key)
  | [] => some []
  | d :: ds => match keyOf d, keysOf ds with
    | some k, some ks => some (k :: ks)
    | _, _ => none
theorem keyOf_dK {d : D} {q : Key} (h : keyOf d = some q) : d = dK q := by
  cases d <;> simp [keyOf] at h <;> subst h <;> rfl
theorem keysOf_dK : ∀ {ds : List D} {q : List Key}, keysOf ds = some q → ds = q.map dK
  | [], _, h => by cases h; rfl
  | d :: ds, _, h => by
    rw [keysOf] at h
    split at h
    · rename_i e1 e2
      cases h
      rw [List.map_cons, ← keyOf_dK e1, ← keysOf_dK e2]
    · cases h
theorem rep_key {F : Addr → Prop} {H : Hp} {q : Key} {v : V} (r : Rep K F H (dK q) v) : v = kV q ∧ okK q := by
  cases q with
  | inl i => cases r; exact ⟨rfl, trivial⟩
  | inr x => cases r with
    | str h => exact ⟨rfl, h⟩
theorem reps_key {F : Addr → Prop} {H : Hp} : ∀ {q : List Key} {vs : List V}, Reps K F H (q.map dK) vs → vs = q.map kV ∧ ∀ x ∈ q, okK x
  | [], _, r => by cases r; exact ⟨rfl, fun _ h => nomatch h⟩
  | x :: q, _, r => by
    cases r with
    | cons a r =>
      obtain ⟨h1, h2⟩ := rep_key a
      obtain ⟨h3, h4⟩ := reps_key r
      refine ⟨by rw [h1, h3]; rfl, fun y hy => ?_⟩
      rcases List.mem_cons.mp hy with rfl | hy
      · exact h2
      · exact h4 y hy
theorem repK_val {F : Addr → Prop} {H : Hp} {q : Key} : ∀ {ds : List (D × D)} {vs : List (Key × V)}, RepK K F H ds vs → (valD ds (dK q) = none ∧ valV vs q = none) ∨ ∃ d v, valD ds (dK q) = some d ∧ valV vs q = some v ∧ Rep K F H d v
  | _, _, .nil => .inl ⟨rfl, rfl⟩
  | _, _, .cons (k := k) o a r => by
    by_cases h : k = q
    · exact .inr ⟨_, _, by rw [valD, keyEq_dK, decide_eq_true h, if_pos rfl], valV_pos h, a⟩
    · have e1 : ∀ {d : D} {ds : List (D × D)}, valD ((dK k, d) :: ds) (dK q) = valD ds (dK q) := by intro d ds; rw [valD, keyEq_dK, decide_eq_false h, if_neg (by decide)]
      rw [e1, valV_neg (p := (k, _)) h]
      exact repK_val r
theorem repT_val {F : Addr → Prop} {H : Hp} {q : List Key} : ∀ {ds : List (D × D)} {vs : List (List Key × V)}, RepT K F H ds vs → (valD ds (.tup (q.map dK)) = none ∧ valV vs q = none) ∨ ∃ d v, valD ds (.tup (q.map dK)) = some d ∧ valV vs q = some v ∧ Rep K F H d v
  | _, _, .nil => .inl ⟨rfl, rfl⟩
  | _, _, .cons (k := k) o a r => by
    by_cases h : k = q
    · exact .inr ⟨_, _, by rw [valD, keyEq, keyEq_dKs, decide_eq_true h, if_pos rfl], valV_pos h, a⟩
    · have e1 : ∀ {d : D} {ds : List (D × D)}, valD ((.tup (k.map dK), d) :: ds) (.tup (q.map dK)) = valD ds (.tup (q.map dK)) := by intro d ds; rw [valD, keyEq, keyEq_dKs, decide_eq_false h, if_neg (by decide)]
      rw [e1, valV_neg (p := (k, _)) h]
      exact repT_val r
theorem repK_any {F : Addr → Prop} {H : Hp} {q : Key} : ∀ {ds : List (D × D)} {vs : List (Key × V)}, RepK K F H ds vs → (ds.any fun p => keyEq p.1 (dK q)) = vs.any fun kv => decide (kv.1 = q)
  | _, _, .nil => rfl
  | _, _, .cons (k := k) o a r => by rw [List.any_cons, List.any_cons, repK_any r, keyEq_dK]
theorem repK_put {F : Addr → Prop} {H : Hp} {q : Key} {d : D} {v : V} (hq : okK q) (r0 : Rep K F H d v) {ds : List (D × D)} {vs : List (Key × V)} (r : RepK K F H ds vs) : RepK K F H (putD ds (dK q) d) (putK vs q v) := by
  have m : ∀ {ds : List (D × D)} {vs : List (Key × V)}, RepK K F H ds vs → RepK K F H (ds.map fun p => if keyEq p.1 (dK q) = true then (p.1, d) else p) (vs.map fun kv => if kv.1 = q then (kv.1, v) else kv) := by
    intro ds vs r
    induction ds generalizing vs with
    | nil => cases r; exact .nil
    | cons p ds ih =>
      cases r with
      | cons o a r =>
        rename_i k d' v' vs'
        simp only [List.map_cons, keyEq_dK]
        by_cases h : k = q
        · simp only [h, decide_true, if_true]; exact .cons hq r0 (ih r)
        · simp only [h, decide_false, if_false, Bool.false_eq_true]; exact .cons o a (ih r)
  have ap : ∀ {ds : List (D × D)} {vs : List (Key × V)}, RepK K F H ds vs → RepK K F H (ds ++ [(dK q, d)]) (vs ++ [(q, v)]) := by
    intro ds vs r
    induction ds generalizing vs with
    | nil => cases r; exact .cons hq r0 .nil
    | cons p ds ih => cases r with
      | cons o a r => exact .cons o a (ih r)
  unfold putD putK
  rw [repK_any r]
  split
  · exact m r
  · exact ap r
theorem repT_any {F : Addr → Prop} {H : Hp} {q : List Key} : ∀ {ds : List (D × D)} {vs : List (List Key × V)}, RepT K F H ds vs → (ds.any fun p => keyEq p.1 (.tup (q.map dK))) = vs.any fun kv => decide (kv.1 = q)
  | _, _, .nil => rfl
  | _, _, .cons (k := k) o a r => by rw [List.any_cons, List.any_cons, repT_any r, keyEq, keyEq_dKs]
theorem repT_put {F : Addr → Prop} {H : Hp} {q : List Key} {d : D} {v : V} (hq : ∀ x ∈ q, okK x) (r0 : Rep K F H d v) {ds : List (D × D)} {vs : List (List Key × V)} (r : RepT K F H ds vs) : RepT K F H (putD ds (.tup (q.map dK)) d) (putK vs q v) := by
  have m : ∀ {ds : List (D × D)} {vs : List (List Key × V)}, RepT K F H ds vs → RepT K F H (ds.map fun p => if keyEq p.1 (.tup (q.map dK)) = true then (p.1, d) else p) (vs.map fun kv => if kv.1 = q then (kv.1, v) else kv) := by
    intro ds vs r
    induction ds generalizing vs with
    | nil => cases r; exact .nil
    | cons p ds ih =>
      cases r with
      | cons o a r =>
        rename_i k d' v' vs'
        simp only [List.map_cons, keyEq, keyEq_dKs]
        by_cases h : k = q
        · simp only [h, decide_true, if_true]; exact .cons hq r0 (ih r)
        · simp only [h, decide_false, if_false, Bool.false_eq_true]; exact .cons o a (ih r)
  have ap : ∀ {ds : List (D × D)} {vs : List (List Key × V)}, RepT K F H ds vs → RepT K F H (ds ++ [(.tup (q.map dK), d)]) (vs ++ [(q, v)]) := by
    intro ds vs r
    induction ds generalizing vs with
    | nil => cases r; exact .cons hq r0 .nil
    | cons p ds ih => cases r with
      | cons o a r => exact .cons o a (ih r)
  unfold putD putK
  rw [repT_any r]
  split
  · exact m r
  · exact ap r
theorem RepK.length {F : Addr → Prop} {H : Hp} : ∀ {ds : List (D × D)} {vs : List (Key × V)}, RepK K F H ds vs → ds.length = vs.length
  | _, _, .nil => rfl
  | _, _, .cons _ _ r => by rw [List.length_cons, List.length_cons, RepK.length r]
theorem RepT.length {F : Addr → Prop} {H : Hp} : ∀ {ds : List (D × D)} {vs : List (List Key × V)}, RepT K F H ds vs → ds.length = vs.length
  | _, _, .nil => rfl
  | _, _, .cons _ _ r => by rw [List.length_cons, List.length_cons, RepT.length r]
theorem dget_ok {F : Addr → Prop} {A : AH} {H : Hp} {d kd : D} {v kv : V} {kvs : List (D × D)} {q : Key} (R : Rel K F A H) (r : Rep K F H d v) (rk : Rep K F H kd kv) (e : asD A d = some kvs) (hk : keyOf kd = some q) : ∃ a o, v = .ref a ∧ DGet H a kv o ∧ IsD H a ∧ ((valD kvs kd = none ∧ o = none) ∨ ∃ d' v', valD kvs kd = some d' ∧ o = some v' ∧ Rep K F H d' v') := by
  obtain ⟨a, vs, rfl, h1, h2⟩ := asD_ok R r e
  have := keyOf_dK hk
  subst this
  obtain ⟨rfl, hok⟩ := rep_key rk
  rcases repK_val (q := q) h2 with ⟨e1, e2⟩ | ⟨d', v', e1, e2, e3⟩
  · exact ⟨a, _, rfl, .inl ⟨vs, q, h1, rfl, rfl⟩, .inl ⟨vs, h1⟩, .inl ⟨e1, e2⟩⟩
  · exact ⟨a, _, rfl, .inl ⟨vs, q, h1, rfl, rfl⟩, .inl ⟨vs, h1⟩, .inr ⟨d', v', e1, e2, e3⟩⟩
/-- d[k] -/
def gDGet : G2 := fun x y A Q _ => ∃ kvs q v, asD A x = some kvs ∧ keyOf y = some q ∧ valD kvs y = some v ∧ Q v A
theorem ae_dget (hu : X.A.units + 1 < cLine) (ha : PE X a (liftE X.K W ta)) (hb : PE X b (liftE X.K W tb)) (hs : NoSl b) : PE X (.Subscript a b pos) (liftE X.K W (aOp gDGet ta tb)) := PE.imp (pe_dget hu ha hb hs) fun σ H Q h => by
  refine lift_op (g := gDGet) (r := fun x y H Q => ∃ a v, x = .ref a ∧ DGet H a y (some v) ∧ Q v H) (fun W δ σ H x y v u Q ⟨F, A, Q', E', a, ⟨kvs, q, w, e1, e2, e3, qq⟩, po⟩ => ?_) h
  obtain ⟨u', v', e, r1, r2⟩ := a.held.two
  cases e
  obtain ⟨b1, o, rfl, g, _, ⟨e4, _⟩ | ⟨d', v2, e4, rfl, r4⟩⟩ := dget_ok a.rel r2 r1 e1 e2
  · rw [e3] at e4; cases e4
  · rw [e3] at e4; cases e4
    exact ⟨b1, v2, rfl, g, po _ _ _ _ _ qq Ext.refl a.rel r4⟩
def gDIn (neg : Bool) : G2 := fun x y A Q _ => ∃ kvs q, asD A y = some kvs ∧ keyOf x = some q ∧ Q (.bl (if neg then !(valD kvs x).isSome else (valD kvs x).isSome)) A
theorem PC.imp {op : CmpOp} {t t' : TE} (h : PC X op a b t) (i : ∀ σ H Q, t' σ H Q → t σ H Q) : PC X op a b t' := ⟨fun pins s σ H Q I q => h.run pins s σ H Q I (i _ _ _ q)⟩
theorem ac_din (hu : X.A.units + 1 < cLine) (ha : PE X a (liftE X.K W ta)) (hb : PE X b (liftE X.K W tb)) : PC X .In a b (liftE X.K W (aOp (gDIn false) ta tb)) := PC.imp (pc_din hu ha hb) fun σ H Q h => by
  refine lift_op (g := gDIn false) (r := fun y x H Q => ∃ a o, x = .ref a ∧ DGet H a y o ∧ Q (.bl o.isSome) H) (fun W δ σ H x y v u Q ⟨F, A, Q', E', a, ⟨kvs, q, e1, e2, qq⟩, po⟩ => ?_) h
  obtain ⟨u', v', e, r1, r2⟩ := a.held.two
  cases e
  obtain ⟨b1, o, rfl, g, _, ⟨e4, rfl⟩ | ⟨d', v2, e4, rfl, r4⟩⟩ := dget_ok a.rel r1 r2 e1 e2
  · rw [e4] at qq; exact ⟨b1, _, rfl, g, po _ _ _ _ _ qq Ext.refl a.rel (.bl _)⟩
  · rw [e4] at qq; exact ⟨b1, _, rfl, g, po _ _ _ _ _ qq Ext.refl a.rel (.bl _)⟩
theorem ac_dnotin (hu : X.A.units + 1 < cLine) (ha : PE X a (liftE X.K W ta)) (hb : PE X b (liftE X.K W tb)) : PC X .NotIn a b (liftE X.K W (aOp (gDIn true) ta tb)) := PC.imp (pc_dnotin hu ha hb) fun σ H Q h => by
  refine lift_op (g := gDIn true) (r := fun y x H Q => ∃ a o, x = .ref a ∧ DGet H a y o ∧ Q (.bl (!o.isSome)) H) (fun W δ σ H x y v u Q ⟨F, A, Q', E', a, ⟨kvs, q, e1, e2, qq⟩, po⟩ => ?_) h
  obtain ⟨u', v', e, r1, r2⟩ := a.held.two
  cases e
  obtain ⟨b1, o, rfl, g, _, ⟨e4, rfl⟩ | ⟨d', v2, e4, rfl, r4⟩⟩ := dget_ok a.rel r1 r2 e1 e2
  · rw [e4] at qq; exact ⟨b1, _, rfl, g, po _ _ _ _ _ qq Ext.refl a.rel (.bl _)⟩
  · rw [e4] at qq; exact ⟨b1, _, rfl, g, po _ _ _ _ _ qq Ext.refl a.rel (.bl _)⟩
theorem at_pc {op : CmpOp} {t : AE} (h : PC X op a b (liftE X.K W t)) (h1 : behindInMarks op b = false := by first | exact nobehind _ (by decide) (by decide) | rfl) : PT X (.Compare a [op] [b] pos) (liftT X.K W (aB t)) := PT.imp (pt_cmp h h1) fun σ H Q h => lift_B h
/-- d[k] = v -/
def aDPut (td ty tv : AE) : AS := fun N δ A => tv δ A (fun v A1 => td δ A1 (fun x A2 => ty δ A2 (fun y A3 => ∃ a kvs q, x = .ref a ∧ A3 a = some (.dct kvs) ∧ keyOf y = some q ∧ kvs.length < sizeLine ∧ N.nx δ (put A3 a (.dct (putD kvs y v)))) (fun C fs A1 => N.ex C fs δ A1)) (fun C fs A1 => N.ex C fs δ A1)) (fun C fs A1 => N.ex C fs δ A1)
theorem as_dput {i value : Expr} {td ty : AE} (hu : X.A.units + 1 < cLine) (ho : PE X o (liftE X.K W td)) (hi : PE X i (liftE X.K W ty)) (hv : PE X value (liftE X.K W tv)) (hs : swapsWith value (some (.Subscript o i pos')) pos.line X.env = pure false) :
    PS X (.Assign [.Subscript o i pos'] value pos) (liftS X.K W (aDPut td ty tv)) := PS.imp (ps_dput hu ho hi hv hs) fun D σ H ⟨F, A, δ, D', R, s, q, e⟩ => by
  refine (st_core (R1 := Rep X.K) R s e q).mono fun v H1 ⟨dv, F1, A1, r1, R1, s1, q1, e1, x1⟩ => ?_
  refine (st_core (R1 := Rep X.K) R1 s1 e1 q1).mono fun x H2 ⟨dx, F2, A2, r2, R2, s2, q2, e2, x2⟩ => ?_
  refine (st_core (R1 := Rep X.K) R2 s2 e2 q2).mono fun y H3 ⟨dy, F3, A3, r3, R3, s3, ⟨a, kvs, q, ex, ea, ek, l, q3⟩, e3, x3⟩ => ?_
  subst ex
  cases r2
  have rv := (r1.kept (x2.kept R1)).kept (x3.kept R2)
  obtain ⟨_, ho, eh, ro⟩ := R3.live a _ ea
  cases ro with
  | dk ro =>
    have := keyOf_dK ek
    subst this
    obtain ⟨rfl, hok⟩ := rep_key r3
    obtain ⟨R4, x4⟩ := R3.put ea (RepO.dk (repK_put hok rv ro))
    exact ⟨a, _, rfl, DPut.k eh (by rw [← ro.length]; exact l), e3.nx _ _ _ _ _ q3 x4 R4 (s3.kept (x4.kept R3))⟩
/-- d.get(k, x) -/
def aDGet2 (td ty tx : AE) : AE := fun δ A Q E => td δ A (fun x A1 => (∃ kvs, asD A1 x = some kvs) ∧ ty δ A1 (fun y A2 => tx δ A2 (fun z A3 => ∃ kvs q, asD A3 x = some kvs ∧ keyOf y = some q ∧ Q ((valD kvs y).getD z) A3) E) E) E
theorem ae_dget2 {td ty tx : AE} {cpos : Pos} {ee f : Expr} (hu : X.A.units + 1 < cLine) (ho : PE X o (liftE X.K W td)) (he : PE X ee (liftE X.K W ty)) (hf : PE X f (liftE X.K W tx)) (m : M2 X o "get" apos ee f cpos) : PE X (.Call (.Attribute o "get" apos) [ee, f] [] cpos) (liftE X.K W (aDGet2 td ty tx)) := PE.imp (pe_dget2 hu ho he hf m) fun σ H Q ⟨δ, h⟩ => by
  refine (Lf.bindE (k := fun x A1 Q E => (∃ kvs, asD A1 x = some kvs) ∧ ty δ A1 (fun y A2 => tx δ A2 (fun z A3 => ∃ kvs q, asD A3 x = some kvs ∧ keyOf y = some q ∧ Q ((valD kvs y).getD z) A3) E) E) h).mono fun v H1 ⟨x, F, A, Q', E', a, ⟨⟨kvs, e1⟩, q⟩, po⟩ => ?_
  cases a.held with
  | cons r0 rn =>
    obtain ⟨b1, vs, rfl, h1, h2⟩ := asD_ok a.rel r0 e1
    refine ⟨b1, rfl, .inl ⟨vs, h1⟩, ?_⟩
    refine (Lf.bindE (k := fun y A2 Q E => tx δ A2 (fun z A3 => ∃ kvs q, asD A3 x = some kvs ∧ keyOf y = some q ∧ Q ((valD kvs y).getD z) A3) E) (ds := [x]) (vs := [V.ref b1]) (δ := δ) ⟨F, A, Q', E', ⟨a.rel, a.sl, a.gx, .cons r0 .nil⟩, q, po⟩).mono fun v2 H2 ⟨y, h2⟩ => ?_
    refine (Lf.bindE (k := fun z A3 Q E => ∃ kvs q, asD A3 x = some kvs ∧ keyOf y = some q ∧ Q ((valD kvs y).getD z) A3) h2).mono fun v3 H3 ⟨z, F3, A3, Q3, E3, a3, ⟨kvs3, q3, e3, e4, q⟩, po3⟩ => ?_
    obtain ⟨w1, w2, w3, ew, rz, ry, rx⟩ := a3.held.three
    cases ew
    obtain ⟨b2, o, eb, g, _, ⟨e5, rfl⟩ | ⟨d', v', e5, rfl, r5⟩⟩ := dget_ok a3.rel rx ry e3 e4
    · cases eb
      rw [e5] at q
      exact ⟨_, g, po3 _ _ _ _ _ q Ext.refl a3.rel rz⟩
    · cases eb
      rw [e5] at q
      exact ⟨_, g, po3 _ _ _ _ _ q Ext.refl a3.rel r5⟩
def aDGet1 (td ty : AE) : AE := fun δ A Q E => td δ A (fun x A1 => (∃ kvs, asD A1 x = some kvs) ∧ ty δ A1 (fun y A3 => ∃ kvs q, asD A3 x = some kvs ∧ keyOf y = some q ∧ Q ((valD kvs y).getD .non) A3) E) E
theorem ae_dget1 {td ty : AE} {cpos : Pos} {ee : Expr} (hu : X.A.units + 1 < cLine) (ho : PE X o (liftE X.K W td)) (he : PE X ee (liftE X.K W ty)) (m : M1 X o "get" apos ee cpos) : PE X (.Call (.Attribute o "get" apos) [ee] [] cpos) (liftE X.K W (aDGet1 td ty)) := PE.imp (pe_dget1 hu ho he m) fun σ H Q ⟨δ, h⟩ => by
  refine (Lf.bindE (k := fun x A1 Q E => (∃ kvs, asD A1 x = some kvs) ∧ ty δ A1 (fun y A3 => ∃ kvs q, asD A3 x = some kvs ∧ keyOf y = some q ∧ Q ((valD kvs y).getD .non) A3) E) h).mono fun v H1 ⟨x, F, A, Q', E', a, ⟨⟨kvs, e1⟩, q⟩, po⟩ => ?_
  cases a.held with
  | cons r0 rn =>
    obtain ⟨b1, vs, rfl, h1, h2⟩ := asD_ok a.rel r0 e1
    refine ⟨b1, rfl, .inl ⟨vs, h1⟩, ?_⟩
    refine (Lf.bindE (k := fun y A3 Q E => ∃ kvs q, asD A3 x = some kvs ∧ keyOf y = some q ∧ Q ((valD kvs y).getD .non) A3) (ds := [x]) (vs := [V.ref b1]) (δ := δ) ⟨F, A, Q', E', ⟨a.rel, a.sl, a.gx, .cons r0 .nil⟩, q, po⟩).mono fun v3 H3 ⟨y, F3, A3, Q3, E3, a3, ⟨kvs3, q3, e3, e4, q⟩, po3⟩ => ?_
    obtain ⟨w1, w2, ew, ry, rx⟩ := a3.held.two
    cases ew
    obtain ⟨b2, o, eb, g, _, ⟨e5, rfl⟩ | ⟨d', v', e5, rfl, r5⟩⟩ := dget_ok a3.rel rx ry e3 e4
    · cases eb
      rw [e5] at q
      exact ⟨_, g, po3 _ _ _ _ _ q Ext.refl a3.rel .non⟩
    · cases eb
      rw [e5] at q
      exact ⟨_, g, po3 _ _ _ _ _ q Ext.refl a3.rel r5⟩
/-! places of lists, tuples, texts -/
def gIx : G2 := fun x y A Q _ => ∃ xs i v, asQ A x = some xs ∧ y = .int i ∧ atI xs i = some v ∧ Q v A
theorem atI_both {α β : Type} {xs : List α} {ys : List β} {i : Int} {x : α} (hl : xs.length = ys.length) (h : atI xs i = some x) : ∃ j : Nat, xs[j]? = some x ∧ ∀ y, ys[j]? = some y → atI ys i = some y := by
  unfold atI at h ⊢
  cases q : ixN xs.length i with
  | none => rw [q] at h; cases h
  | some j => rw [q] at h; exact ⟨j, h, fun y hy => by rw [← hl, q]; exact hy⟩
theorem l2_ix : Lift2 K gIx (fun x y H Q => rIxL K x y H Q ∨ rIxT K x y H Q) := fun W δ σ H x y v u Q ⟨F, A, Q', E', a, ⟨xs, i, w, e1, e2, e3, q⟩, po⟩ => by
  subst e2
  obtain ⟨u', v', e, r1, r2⟩ := a.held.two
  cases e; cases r1
  obtain ⟨b1, us, rfl, h1, q1⟩ := asQ_ok a.rel r2 e1
  obtain ⟨j, hj, hj2⟩ := atI_both (ys := us) q1.length e3
  obtain ⟨v2, hv2, rv2⟩ := q1.get' hj
  rcases h1 with h1 | h1
  · exact .inl ⟨b1, us, i, v2, rfl, rfl, h1, hj2 v2 hv2, po _ _ _ _ _ q Ext.refl a.rel rv2⟩
  · exact .inr ⟨b1, us, i, v2, rfl, rfl, h1, hj2 v2 hv2, po _ _ _ _ _ q Ext.refl a.rel rv2⟩
def gIxS : G2 := fun x y A Q _ => ∃ z i c, x = .str z ∧ y = .int i ∧ z.length ≤ sizeLine ∧ atI z.cps.toList i = some c ∧ Q (.str ⟨#[c]⟩) A
theorem atI_mem2 {α : Type} {xs : List α} {i : Int} {x : α} (h : atI xs i = some x) : x ∈ xs := by
  unfold atI at h
  cases q : ixN xs.length i with
  | none => rw [q] at h; cases h
  | some j => rw [q] at h; exact List.mem_of_getElem? h
theorem l2_ixS : Lift2 K gIxS rIxS := fun W δ σ H x y v u Q ⟨F, A, Q', E', a, ⟨z, i, c, e1, e2, hz, e3, q⟩, po⟩ => by
  subst e1; subst e2
  obtain ⟨u', v', e, r1, r2⟩ := a.held.two
  cases e; cases r1
  cases r2 with
  | str h => exact ⟨z, i, c, rfl, rfl, hz, e3, po _ _ _ _ _ q Ext.refl a.rel (.str (sOk_ch h (atI_mem2 e3)))⟩
def gSubs : G2 := gOr gIx gIxS
theorem ae_subs (ha : PE X a (liftE X.K W ta)) (hb : PE X b (liftE X.K W tb)) (hs : PlainIx b) : PE X (.Subscript a b pos) (liftE X.K W (aOp gSubs ta tb)) := ae_ix (l2_or l2_ix l2_ixS) ((ix_list.or ix_tup).or ix_str) ha hb hs
theorem cmp_in : CmpA X .In (gOr (gInQ false) (gInS false)) := ⟨_, l2_or l2_inQ l2_inS, op_in_seq.or op_in_sign⟩
theorem cmp_notIn : CmpA X .NotIn (gOr (gInQ true) (gInS true)) := ⟨_, l2_or l2_inQ l2_notInS, op_notIn_seq.or op_notIn_sign⟩
/-- x in (..), the tuple written there -/
def aInT (neg : Bool) (ta : AE) (t : AA) : AE := fun δ A Q E => ta δ A (fun x A1 => t δ A1 (fun xs A2 => ∃ v vs, xs.length ≤ sizeLine ∧ scD x = some v ∧ scDs xs = some vs ∧ Q (.bl (if neg then !inV v vs else inV v vs)) A2) E) E
theorem lift_inT {neg : Bool} {σ : L2.St} {H : Hp} {Q : VK} (h : liftE X.K W (aInT neg ta t) σ H Q) : tInT neg (liftE X.K W ta) (liftA X.K W t) σ H Q := by
  obtain ⟨δ, h⟩ := h
  refine (Lf.bindE (k := fun x A1 Q E => t δ A1 (fun xs A2 => ∃ v vs, xs.length ≤ sizeLine ∧ scD x = some v ∧ scDs xs = some vs ∧ Q (D.bl (if neg then !inV v vs else inV v vs)) A2) E) h).mono fun v H1 ⟨x, h1⟩ => ?_
  refine (Lf.core (R1 := Reps X.K) (k := fun xs A2 Q E => ∃ v vs, xs.length ≤ sizeLine ∧ scD x = some v ∧ scDs xs = some vs ∧ Q (D.bl (if neg then !inV v vs else inV v vs)) A2) h1).mono fun vs H2 ⟨xs, F, A, Q', E', a, r, ⟨v1, vs1, hz, e1, e2, q⟩, po⟩ => ?_
  obtain ⟨v', e, r2⟩ := a.held.one
  cases e
  obtain rfl := scD_ok r2 e1
  obtain rfl := scDs_ok r e2
  exact ⟨by rw [← r.length]; exact hz, scD_flat e1, scDs_flat e2, po _ _ _ _ _ q Ext.refl a.rel (.bl _)⟩
theorem ae_inT {x1 : Nat} {p2 : Pos} (ha : PE X a (liftE X.K W ta)) (h : PA X es (liftA X.K W t)) (hm : behindInMarks .In (.Tuple es x1 p2) = false := by rfl) : PE X (.Compare a [.In] [.Tuple es x1 p2] pos) (liftE X.K W (aInT false ta t)) := PE.imp (pe_inT ha h hm) fun σ H Q h => lift_inT h
theorem ae_notInT {x1 : Nat} {p2 : Pos} (ha : PE X a (liftE X.K W ta)) (h : PA X es (liftA X.K W t)) (hm : behindInMarks .NotIn (.Tuple es x1 p2) = false := by rfl) : PE X (.Compare a [.NotIn] [.Tuple es x1 p2] pos) (liftE X.K W (aInT true ta t)) := PE.imp (pe_notInT ha h hm) fun σ H Q h => lift_inT h
theorem at_inT {x1 : Nat} {p2 : Pos} (ha : PE X a (liftE X.K W ta)) (h : PA X es (liftA X.K W t)) (hm : behindInMarks .In (.Tuple es x1 p2) = false := by rfl) : PT X (.Compare a [.In] [.Tuple es x1 p2] pos) (liftT X.K W (aB (aInT false ta t))) := PT.imp (pt_inT ha h hm) fun σ H Q h => by
  have := lift_B h
  exact (show tTest (tInT false (liftE X.K W ta) (liftA X.K W t)) σ H Q from lift_inT this)
theorem at_notInT {x1 : Nat} {p2 : Pos} (ha : PE X a (liftE X.K W ta)) (h : PA X es (liftA X.K W t)) (hm : behindInMarks .NotIn (.Tuple es x1 p2) = false := by rfl) : PT X (.Compare a [.NotIn] [.Tuple es x1 p2] pos) (liftT X.K W (aB (aInT true ta t))) := PT.imp (pt_notInT ha h hm) fun σ H Q h => by
  have := lift_B h
  exact (show tTest (tInT true (liftE X.K W ta) (liftA X.K W t)) σ H Q from lift_inT this)
end
end Av

set_option Elab.async false
set_option linter.all false
set_option maxRecDepth 100000
set_option maxHeartbeats 4000000
/-! own library Av, part 9: builtins, methods, slices, targets -/
namespace Av
open PySem PySem.Spec PyProof.Rows L2 My
section
variable {X : Cx} {W : WX} {k : Nat} {f C : Addr} {asp : ASp} {x fl : Str} {a b e o : Expr} {es : List Expr} {ta tb te tv : AE} {t : AA} {p pos pos' apos cpos : Pos} {K : PySem.W.Frag}
def CallA (X : Cx) (f : Value) (g : GA) : Prop := ∃ r, LiftA X.K g r ∧ CallR X f r
def gaOr (g h : GA) : GA := fun xs A Q E => g xs A Q E ∨ h xs A Q E
theorem CallA.or {f : Value} {g h : GA} (a : CallA X f g) (b : CallA X f h) : CallA X f (gaOr g h) := by
  obtain ⟨r, l1, c1⟩ := a
  obtain ⟨s, l2, c2⟩ := b
  refine ⟨_, fun W δ σ H xs vs Q ⟨F, A, Q', E', at_, q, po⟩ => ?_, c1.or c2⟩
  rcases q with q | q
  · exact .inl (l1 W δ σ H xs vs Q ⟨F, A, Q', E', at_, q, po⟩)
  · exact .inr (l2 W δ σ H xs vs Q ⟨F, A, Q', E', at_, q, po⟩)
theorem ae_callB {id : String} {g : GA} (hc : CallA X (.builtin id) g) (hg : Gl X x) (hm : X.mg x = none) (hv : bootBuiltins x = some (.builtin id)) (ha : PA X (e :: es) (liftA X.K W t)) (hn : x ≠ "__name__" := by decide) (hdb : (x == ("__debug__" : Str)) = false := by decide)
    (he : starEach (e :: es) X.env = (false, eval e X.env) :: starEach es X.env := by rfl) (hpl : (backTo pos (starEach es X.env)).any (·.1) = false := by rfl) : PE X (.Call (.Name x p) (e :: es) [] pos) (liftE X.K W (aCB g t)) := by
  obtain ⟨r, L, c⟩ := hc
  exact PE.imp (pe_callB c hg hm hv ha hn hdb he hpl) fun σ H Q h => lift_cb L h
theorem ae_callTy {T : String} {g : GA} (hc : CallA X (.type T) g) (hg : Gl X x) (hm : X.mg x = none) (hv : bootBuiltins x = some (.type T)) (ha : PA X (e :: es) (liftA X.K W t)) (hn : x ≠ "__name__" := by decide) (hdb : (x == ("__debug__" : Str)) = false := by decide)
    (he : starEach (e :: es) X.env = (false, eval e X.env) :: starEach es X.env := by rfl) (hpl : (backTo pos (starEach es X.env)).any (·.1) = false := by rfl) : PE X (.Call (.Name x p) (e :: es) [] pos) (liftE X.K W (aCB g t)) := by
  obtain ⟨r, L, c⟩ := hc
  exact PE.imp (pe_callTy c hg hm hv ha hn hdb he hpl) fun σ H Q h => lift_cb L h
/-- len -/
def gLenQ : GA := fun xs A Q _ => ∃ d ys, xs = [d] ∧ asQ A d = some ys ∧ Q (.int (ys.length : Int)) A
def gLenS : GA := fun xs A Q _ => ∃ z : Str, xs = [.str z] ∧ z.length ≤ sizeLine ∧ Q (.int (z.length : Int)) A
theorem ca_len : CallA X (.builtin "len") (gaOr gLenQ gLenS) := by
  refine CallA.or ⟨_, fun W δ σ H xs vs Q ⟨F, A, Q', E', a, ⟨d, ys, e1, e2, q⟩, po⟩ => ?_, call_len_seq⟩ ⟨_, fun W δ σ H xs vs Q ⟨F, A, Q', E', a, ⟨z, e1, e2, q⟩, po⟩ => ?_, call_len_str⟩
  · subst e1
    obtain ⟨v, rfl, r⟩ := a.held.one
    obtain ⟨b1, us, rfl, h1, q1⟩ := asQ_ok a.rel r e2
    exact ⟨b1, us, rfl, h1, by rw [← q1.length]; exact po _ _ _ _ _ q Ext.refl a.rel (.int _)⟩
  · subst e1
    obtain ⟨v, rfl, r⟩ := a.held.one
    cases r
    exact ⟨z, rfl, e2, po _ _ _ _ _ q Ext.refl a.rel (.int _)⟩
/-- list(..), tuple(..) of a list or tuple -/
def gList (live : Bool) : GA := fun xs A Q _ => ∃ d ys, xs = [d] ∧ asQ A d = some ys ∧ aNew live (.lst ys) A Q
theorem ca_list (live : Bool) : CallA X (.type "list") (gList live) := ⟨_, fun W δ σ H xs vs Q ⟨F, A, Q', E', a, ⟨d, ys, e1, e2, q⟩, po⟩ => by
  subst e1
  obtain ⟨v, rfl, r⟩ := a.held.one
  obtain ⟨b1, us, rfl, h1, q1⟩ := asQ_ok a.rel r e2
  exact ⟨b1, us, rfl, h1, aNew_ok a.rel (.lst q1) q po⟩, call_list_of⟩
def gTuple : GA := fun xs A Q _ => ∃ d ys, xs = [d] ∧ asQ A d = some ys ∧ Q (.tup ys) A
theorem ca_tuple : CallA X (.type "tuple") gTuple := ⟨_, fun W δ σ H xs vs Q ⟨F, A, Q', E', a, ⟨d, ys, e1, e2, q⟩, po⟩ => by
  subst e1
  obtain ⟨v, rfl, r⟩ := a.held.one
  unfold asQ at e2
  split at e2
  · rename_i zs e3
    cases e2
    obtain ⟨b1, us, rfl, h1, q1⟩ := asL_ok a.rel r e3
    exact ⟨b1, us, rfl, .inl ⟨h1, tup_ok a.rel q1 q po⟩⟩
  · obtain ⟨b1, us, rfl, h1, q1⟩ := asTe_ok r e2
    exact ⟨b1, us, rfl, .inr ⟨h1.sq, po _ _ _ _ _ q Ext.refl a.rel (.tup h1 q1)⟩⟩, call_tuple_of⟩
/-- int(i), int(b) -/
def gInt : GA := fun xs A Q _ => (∃ i, xs = [.int i] ∧ Q (.int i) A) ∨ ∃ b, xs = [.bl b] ∧ Q (.int (if b then 1 else 0)) A
theorem ca_int : CallA X (.type "int") gInt := ⟨_, fun W δ σ H xs vs Q ⟨F, A, Q', E', a, q, po⟩ => by
  rcases q with ⟨i, e1, q⟩ | ⟨b, e1, q⟩
  · subst e1
    obtain ⟨v, rfl, r⟩ := a.held.one
    cases r
    exact .inl ⟨i, rfl, po _ _ _ _ _ q Ext.refl a.rel (.int _)⟩
  · subst e1
    obtain ⟨v, rfl, r⟩ := a.held.one
    cases r
    exact .inr ⟨b, rfl, po _ _ _ _ _ q Ext.refl a.rel (.int _)⟩, CallR.or (int1) (intB)⟩
def gAbs : GA := fun xs A Q _ => ∃ i, xs = [.int i] ∧ Q (.int (if i < 0 then -i else i)) A
theorem ca_abs : CallA X (.builtin "abs") gAbs := ⟨_, fun W δ σ H xs vs Q ⟨F, A, Q', E', a, ⟨i, e1, q⟩, po⟩ => by
  subst e1
  obtain ⟨v, rfl, r⟩ := a.held.one
  cases r
  exact ⟨i, rfl, po _ _ _ _ _ q Ext.refl a.rel (.int _)⟩, abs1⟩
def gMax : GA := fun xs A Q _ => ∃ i j, xs = [.int i, .int j] ∧ Q (.int (if j > i then j else i)) A
def gMin : GA := fun xs A Q _ => ∃ i j, xs = [.int i, .int j] ∧ Q (.int (if j < i then j else i)) A
theorem ca_max (hc : X.calm = true) : CallA X (.builtin "max") gMax := ⟨_, fun W δ σ H xs vs Q ⟨F, A, Q', E', a, ⟨i, j, e1, q⟩, po⟩ => by
  subst e1
  obtain ⟨v, u, rfl, r1, r2⟩ := a.held.two
  cases r1; cases r2
  exact ⟨i, j, rfl, po _ _ _ _ _ q Ext.refl a.rel (.int _)⟩, max2 hc⟩
theorem ca_min (hc : X.calm = true) : CallA X (.builtin "min") gMin := ⟨_, fun W δ σ H xs vs Q ⟨F, A, Q', E', a, ⟨i, j, e1, q⟩, po⟩ => by
  subst e1
  obtain ⟨v, u, rfl, r1, r2⟩ := a.held.two
  cases r1; cases r2
  exact ⟨i, j, rfl, po _ _ _ _ _ q Ext.refl a.rel (.int _)⟩, min2 hc⟩
theorem sOk_small {x : Str} (h : ∀ c ∈ x.cps.toList, c < 128) : sOk x := by
  unfold sOk PySem.PyData.strOk
  rw [Array.all_eq_true']
  intro c hc
  have := h c (by simpa using hc)
  exact decide_eq_true (by omega)
theorem digit_lt (b : Nat) (hb : b ≤ 10) (n : Nat) (h : n < b) : (Nat.digitChar n).toNat < 128 := by
  have : n < 10 := by omega
  have z : ∀ n : Fin 10, (Nat.digitChar n).toNat < 128 := by decide
  exact z ⟨n, this⟩
theorem toDigits_lt {n : Nat} {c : Char} (h : c ∈ Nat.toDigits 10 n) : c.toNat < 128 := by
  have := Nat.isDigit_of_mem_toDigits (by decide) (by decide) h
  unfold Char.isDigit at this
  simp only [Bool.and_eq_true, decide_eq_true_eq] at this
  have h2 : c.val ≤ 57 := this.2
  have : c.val.toNat ≤ 57 := by simpa using UInt32.le_iff_toNat_le.mp h2
  show c.val.toNat < 128
  omega
theorem sOk_int (i : Int) : sOk (Str.ofString (toString i)) := by
  refine sOk_small fun c hc => ?_
  have e : (Str.ofString (toString i)).cps.toList = (toString i).toList.map (·.toNat) := by
    rw [Str.ofString_eq_toList]
  rw [e] at hc
  obtain ⟨ch, h1, rfl⟩ := List.mem_map.mp hc
  cases i with
  | ofNat n =>
    have : (toString (Int.ofNat n)).toList = Nat.toDigits 10 n := by
      show (toString n).toList = _
      simp [toString, Nat.repr]
    rw [this] at h1
    exact toDigits_lt h1
  | negSucc n =>
    have : (toString (Int.negSucc n)).toList = '-' :: Nat.toDigits 10 (n + 1) := by
      show ("-" ++ toString (n + 1)).toList = _
      simp [toString, Nat.repr]
    rw [this] at h1
    rcases List.mem_cons.mp h1 with rfl | h1
    · decide
    · exact toDigits_lt h1
def gStr : GA := fun xs A Q _ => ∃ i : Int, xs = [.int i] ∧ i.natAbs.log2 < 1920 ∧ Q (.str (toString i)) A
theorem ca_str : CallA X (.type "str") gStr := ⟨_, fun W δ σ H xs vs Q ⟨F, A, Q', E', a, ⟨i, e1, hz, q⟩, po⟩ => by
  subst e1
  obtain ⟨v, rfl, r⟩ := a.held.one
  cases r
  exact ⟨i, rfl, hz, po _ _ _ _ _ q Ext.refl a.rel (.str (sOk_int i))⟩, str1⟩
def gBool : GA := fun xs A Q _ => ∃ b, xs = [.bl b] ∧ Q (.bl b) A
theorem ca_bool : CallA X (.type "bool") gBool := ⟨_, fun W δ σ H xs vs Q ⟨F, A, Q', E', a, ⟨b, e1, q⟩, po⟩ => by
  subst e1
  obtain ⟨v, rfl, r⟩ := a.held.one
  cases r
  exact ⟨b, rfl, po _ _ _ _ _ q Ext.refl a.rel (.bl _)⟩, boolB⟩
def blsOf : List D → Option (List Bool)
  | [] => some []
  | .bl b :: ds => (blsOf ds).map (b :: ·)
  | _ => none
theorem bls_ok {F : Addr → Prop} {H : Hp} : ∀ {ds : List D} {vs : List V} {bs : List Bool}, Reps K F H ds vs → blsOf ds = some bs → vs = bs.map V.bl
  | _, _, _, .nil, e => by cases e; rfl
  | _, _, _, .cons a r, e => by
    rename_i d v ds vs
    cases d <;> simp only [blsOf] at e <;> first | (cases e; done) | skip
    rename_i b
    cases q : blsOf ds with
    | none => rw [q] at e; cases e
    | some bs' => rw [q] at e; cases e; cases a; rw [bls_ok r q]; rfl
def gAll : GA := fun xs A Q _ => ∃ d ys bs, xs = [d] ∧ asX A d = some ys ∧ blsOf ys = some bs ∧ Q (.bl (bs.all id)) A
def gAny : GA := fun xs A Q _ => ∃ d ys bs, xs = [d] ∧ asX A d = some ys ∧ blsOf ys = some bs ∧ Q (.bl (bs.any id)) A
theorem ca_all (hc : X.calm = true) : CallA X (.builtin "all") gAll := ⟨_, fun W δ σ H xs vs Q ⟨F, A, Q', E', a, ⟨d, ys, bs, e1, e2, e3, q⟩, po⟩ => by
  subst e1
  obtain ⟨v, rfl, r⟩ := a.held.one
  obtain ⟨b1, us, rfl, h1, q1⟩ := asX_ok a.rel r e2
  exact ⟨b1, us, bs, rfl, h1, bls_ok q1 e3, po _ _ _ _ _ q Ext.refl a.rel (.bl _)⟩, all1 hc⟩
theorem ca_any (hc : X.calm = true) : CallA X (.builtin "any") gAny := ⟨_, fun W δ σ H xs vs Q ⟨F, A, Q', E', a, ⟨d, ys, bs, e1, e2, e3, q⟩, po⟩ => by
  subst e1
  obtain ⟨v, rfl, r⟩ := a.held.one
  obtain ⟨b1, us, rfl, h1, q1⟩ := asX_ok a.rel r e2
  exact ⟨b1, us, bs, rfl, h1, bls_ok q1 e3, po _ _ _ _ _ q Ext.refl a.rel (.bl _)⟩, any1 hc⟩
/-- isinstance -/
def kdD (A : AH) : D → String
  | .non => "NoneType"
  | .bl _ => "bool"
  | .int _ => "int"
  | .str _ => "str"
  | .tup _ => "tuple"
  | .lst _ => "list"
  | .dct _ => "dict"
  | .ref a => match A a with
    | some (.lst _) => "list"
    | some (.dct _) => "dict"
    | _ => "?"
  | _ => "?"
theorem kdD_okty {F : Addr → Prop} {A : AH} {H : Hp} {d : D} {v : V} (R : Rel K F A H) (r : Rep K F H d v) (hh : kdD A d ≠ "?") : TyX K H v (.type (kdD A d)) := by
  cases r with
  | non => exact .base .non
  | bl b => exact .base (.bl b)
  | int i => exact .base (.int i)
  | str h => exact .base (.str _)
  | tup h r =>
    rcases h with h | ⟨o, its, n, h1, h2, h3, h4, h5⟩
    · exact .base (.tup h)
    · exact .kTuple h1 h2
  | lst f h r => exact .base (.lst h)
  | dk f h r =>
    rcases h with h | ⟨o, h⟩
    · exact .base (.dK h)
    · exact .fDict h
  | ref a =>
    simp only [kdD] at hh ⊢
    split at hh <;> rename_i q
    · obtain ⟨_, ho, eh, r⟩ := R.live a _ q
      cases r with
      | lst r => exact .base (.lst eh)
    · obtain ⟨_, ho, eh, r⟩ := R.live a _ q
      cases r with
      | dk r => exact .base (.dK eh)
    · exact absurd rfl hh
  | _ => exact absurd rfl hh
def gIsi : GA := fun xs A Q _ => ∃ (d : D) (n : String), xs = [d, .ty n] ∧ kdD A d ≠ "?" ∧ ∃ b, kitB (kdD A d) n = some b ∧ Q (.bl b) A
def gIsi2 : GA := fun xs A Q _ => ∃ (d : D) (m n : String), xs = [d, .tup [.ty m, .ty n]] ∧ kdD A d ≠ "?" ∧ ∃ b c, kitB (kdD A d) m = some b ∧ kitB (kdD A d) n = some c ∧ Q (.bl (b || c)) A
theorem ca_isi : CallA X (.builtin "isinstance") gIsi := ⟨_, fun W δ σ H xs vs Q ⟨F, A, Q', E', a, ⟨d, n, e1, hk, b, hb, q⟩, po⟩ => by
  subst e1
  obtain ⟨v, u, rfl, r1, r2⟩ := a.held.two
  cases r2
  exact ⟨v, .ty n, _, _, b, rfl, .ty n, kdD_okty a.rel r1 hk, kit_ty hb, po _ _ _ _ _ q Ext.refl a.rel (.bl _)⟩, call_isi⟩
theorem ca_isi2 : CallA X (.builtin "isinstance") gIsi2 := ⟨_, fun W δ σ H xs vs Q ⟨F, A, Q', E', a, ⟨d, m, n, e1, hk, b, c, hb, hc, q⟩, po⟩ => by
  subst e1
  obtain ⟨v, u, rfl, r1, r2⟩ := a.held.two
  obtain ⟨tp, us, rfl, h1, q1⟩ := asTe_ok r2 rfl
  obtain ⟨w1, w2, rfl, s1, s2⟩ := q1.two
  cases s1; cases s2
  have hany : PySem.W.kitAny X.K (.type (kdD A d)) [.type m, .type n] = some (b || c) := by
    refine kitAny_cons (kit_ty hb) (fun e => ?_) (fun e => by rw [e]; rfl)
    refine kitAny_cons (kit_ty hc) (fun e2 => ?_) (fun e2 => by rw [e2, Bool.or_true])
    rw [e, e2]
    exact kitAny_nil
  rcases h1 with h1 | ⟨o, its, nn, k1, k2, k3, k4, k5⟩
  · exact .inl ⟨v, tp, _, _, [.type m, .type n], b || c, rfl, h1, .cons (.ty m) (.cons (.ty n) .nil), kdD_okty a.rel r1 hk, hany, po _ _ _ _ _ q Ext.refl a.rel (.bl _)⟩
  · obtain ⟨oc, od, dt, osl⟩ := o
    have k2' : oc = .type "tuple" := k2
    have k3' : dt = .seq its nn := k3
    subst k2' k3'
    obtain ⟨l⟩ := its
    have k5' : Vals [V.ty m, V.ty n] l := k5
    cases k5' with
    | cons z1 z2 =>
      cases z2 with
      | cons z2 z3 =>
        cases z3
        cases z1; cases z2
        exact .inr ⟨v, tp, od, [.type m, .type n], nn, osl, _, b || c, rfl, k1, kdD_okty a.rel r1 hk, hany, po _ _ _ _ _ q Ext.refl a.rel (.bl _)⟩, call_isiT.or call_isiK⟩
end
end Av

set_option Elab.async false
set_option linter.all false
set_option maxRecDepth 100000
set_option maxHeartbeats 4000000
/-! own library Av, part 10: methods of lists and texts, slices, stores, displays, stars, defaults -/
namespace Av
open PySem PySem.Spec PyProof.Rows L2 My
section
variable {X : Cx} {W : WX} {k : Nat} {f C : Addr} {asp : ASp} {x fl : Str} {a b e o : Expr} {es : List Expr} {ta tb te tv to : AE} {t : AA} {p pos pos' apos cpos : Pos} {K : PySem.W.Frag}
/-! ### methods of a live list -/
abbrev GM := Addr → List D → AK D
def LiftM (K : PySem.W.Frag) (g : GM) (r : V → List V → Hp → VK → Prop) : Prop := ∀ (W : WX) δ σ H l xs vs Q, Lf (Rep K) K W δ (.ref l :: xs) (.ref l :: vs) (g l xs) σ H Q → r (.ref l) vs H Q
def MtA (X : Cx) (id : String) (g : GM) : Prop := ∃ r, LiftM X.K g r ∧ MtR X id r
def aBM (g : GM) (to : AE) (t : AA) : AE := fun δ A Q E => to δ A (fun x A1 => ∃ l, x = .ref l ∧ (∃ ys, A1 l = some (.lst ys)) ∧ t δ A1 (fun ds A2 => g l ds A2 Q E) E) E
theorem lift_bm {g : GM} {r : V → List V → Hp → VK → Prop} (L : LiftM X.K g r) {σ : L2.St} {H : Hp} {Q : VK} (h : liftE X.K W (aBM g to t) σ H Q) : tBM X.K "list" r (liftE X.K W to) (liftA X.K W t) σ H Q := by
  obtain ⟨δ, h⟩ := h
  refine (Lf.bindE (k := fun x A1 Q E => ∃ l, x = .ref l ∧ (∃ ys, A1 l = some (.lst ys)) ∧ t δ A1 (fun ds A2 => g l ds A2 Q E) E) h).mono fun v H1 ⟨x, F, A, Q', E', a, ⟨l, ex, ⟨ys, ey⟩, q⟩, po⟩ => ?_
  subst ex
  cases a.held with
  | cons r0 _ =>
    cases r0
    obtain ⟨_, ho, eh, ro⟩ := a.rel.live l _ ey
    cases ro with
    | lst ro =>
      refine ⟨.inl ⟨rfl, _, SqL.of eh⟩, ?_⟩
      refine (Lf.core (R1 := Reps X.K) (k := fun ds A2 Q E => g l ds A2 Q E) (ds := [.ref l]) (vs := [V.ref l]) (δ := δ) ⟨F, A, Q', E', ⟨a.rel, a.sl, a.gx, .cons (.ref l) .nil⟩, q, po⟩).mono fun us H2 ⟨ds, F2, A2, Q2, E2, a2, r2, q2, p2⟩ => ?_
      exact L W δ σ H2 l ds us Q ⟨F2, A2, Q2, E2, ⟨a2.rel, a2.sl, a2.gx, .cons (.ref l) r2⟩, q2, p2⟩
theorem ae_bm {name : Str} {id : String} {g : GM} (slot : Slot "list" name id) (hty : typeOf (.builtin id) = pure (.type "method_descriptor")) (hm : MtA X id g) (ho : PE X o (liftE X.K W to)) (ha : PA X (e :: es) (liftA X.K W t))
    (hbase : attributeBase o name X.env (eval o X.env) = eval o X.env := by rfl)
    (hfew : ((backTo cpos (starEach (e :: es) X.env)).all (fun x => !x.1) && (backToKw cpos (keywordEach [] X.env)).all (fun x => x.1.isSome)
      && decide ((e :: es).length + ([] : List Keyword).length + (if ([] : List Keyword).isEmpty then 0 else 1) < 30)) = true := by rfl)
    (hline : (apos.endLine == cpos.line) = true := by rfl) (hs : starEach (e :: es) X.env = (false, eval e X.env) :: starEach es X.env := by rfl) (hplain : (backTo cpos (starEach es X.env)).any (·.1) = false := by rfl) :
    PE X (.Call (.Attribute o name apos) (e :: es) [] cpos) (liftE X.K W (aBM g to t)) := by
  obtain ⟨r, L, m⟩ := hm
  exact PE.imp (pe_bm PySem.F.plainAttrs_list slot hty m ho ha hbase hfew hline hs hplain) fun σ H Q h => lift_bm L h
theorem ae_bm0 {name : Str} {id : String} {g : GM} (slot : Slot "list" name id) (hty : typeOf (.builtin id) = pure (.type "method_descriptor")) (hm : MtA X id g) (ho : PE X o (liftE X.K W to))
    (hbase : attributeBase o name X.env (eval o X.env) = eval o X.env := by rfl) (hline : (apos.endLine == cpos.line) = true := by rfl) : PE X (.Call (.Attribute o name apos) [] [] cpos) (liftE X.K W (aBM g to aNil)) := by
  obtain ⟨r, L, m⟩ := hm
  refine PE.imp (pe_bm0 PySem.F.plainAttrs_list slot hty m ho hbase hline) fun σ H Q h => ?_
  refine (show liftE X.K W to σ H _ from lift_bm L h).mono fun v H1 ⟨h1, z⟩ => ⟨h1, ?_⟩
  obtain ⟨δ, F, A, Q', E', at_, q, po⟩ := z
  exact po _ _ _ _ _ q Ext.refl at_.rel .nil
def gmAppend : GM := fun l ds A Q _ => ∃ y ys, ds = [y] ∧ A l = some (.lst ys) ∧ ys.length < sizeLine ∧ Q .non (put A l (.lst (ys ++ [y])))
theorem live_l {F : Addr → Prop} {A : AH} {H : Hp} {l : Addr} {ys : List D} (R : Rel K F A H) (e : A l = some (.lst ys)) : ∃ vs, H l = some (.lst vs) ∧ Reps K F H ys vs := by
  obtain ⟨_, ho, eh, ro⟩ := R.live l _ e
  cases ro with
  | lst ro => exact ⟨_, eh, ro⟩
theorem ma_append : MtA X "list.append" gmAppend := ⟨_, fun W δ σ H l xs vs Q ⟨F, A, Q', E', a, ⟨y, ys, e1, e2, hz, q⟩, po⟩ => by
  subst e1
  cases a.held with
  | cons _ r =>
    obtain ⟨v, rfl, rv⟩ := r.one
    obtain ⟨us, eh, ro⟩ := live_l a.rel e2
    obtain ⟨R2, x2⟩ := a.rel.put e2 (RepO.lst (ro.append (.cons rv .nil)))
    exact ⟨l, us, v, rfl, rfl, eh, by rw [← ro.length]; exact hz, po _ _ _ _ _ q x2 R2 .non⟩, mt_append⟩
def gmPopAt : GM := fun l ds A Q _ => ∃ i ys j y, ds = [.int i] ∧ A l = some (.lst ys) ∧ -(2 ^ 63) ≤ i ∧ i < 2 ^ 63 ∧ seqIndex? i ys.length = some j ∧ ys[j]? = some y ∧ Q y (put A l (.lst (ys.eraseIdx j)))
theorem Reps.erase {F : Addr → Prop} {H : Hp} : ∀ {ds : List D} {vs : List V} (n : Nat), Reps K F H ds vs → Reps K F H (ds.eraseIdx n) (vs.eraseIdx n)
  | _, _, _, .nil => .nil
  | _, _, 0, .cons _ r => r
  | _, _, n + 1, .cons a r => .cons a (Reps.erase n r)
theorem ma_popAt : MtA X "list.pop" gmPopAt := ⟨_, fun W δ σ H l xs vs Q ⟨F, A, Q', E', a, ⟨i, ys, j, y, e1, e2, h1, h2, h3, h4, q⟩, po⟩ => by
  subst e1
  cases a.held with
  | cons _ r =>
    obtain ⟨v, rfl, rv⟩ := r.one
    cases rv
    obtain ⟨us, eh, ro⟩ := live_l a.rel e2
    obtain ⟨y', hy', ry'⟩ := ro.get' h4
    obtain ⟨R2, x2⟩ := a.rel.put e2 (RepO.lst (ro.erase j))
    exact ⟨l, us, i, j, y', rfl, rfl, eh, h1, h2, by rw [← ro.length]; exact h3, hy', po _ _ _ _ _ q x2 R2 (ry'.kept (x2.kept a.rel))⟩, mt_popAt⟩
def gmPop : GM := fun l ds A Q _ => ∃ ys y, ds = [] ∧ A l = some (.lst ys) ∧ ys[ys.length - 1]? = some y ∧ Q y (put A l (.lst ys.dropLast))
theorem ma_pop : MtA X "list.pop" gmPop := ⟨_, fun W δ σ H l xs vs Q ⟨F, A, Q', E', a, ⟨ys, y, e1, e2, h4, q⟩, po⟩ => by
  subst e1
  cases a.held with
  | cons _ r =>
    obtain rfl := r.none
    obtain ⟨us, eh, ro⟩ := live_l a.rel e2
    obtain ⟨y', hy', ry'⟩ := ro.get' h4
    have hd : Reps X.K F H ys.dropLast us.dropLast := by
      rw [List.dropLast_eq_take, List.dropLast_eq_take, ro.length]; exact ro.take _
    obtain ⟨R2, x2⟩ := a.rel.put e2 (RepO.lst hd)
    exact ⟨l, us, y', rfl, rfl, eh, by rw [← ro.length]; exact hy', po _ _ _ _ _ q x2 R2 (ry'.kept (x2.kept a.rel))⟩, mt_pop⟩
/-- extend by a tuple -/
def gmExtT : GM := fun l ds A Q _ => ∃ zs ys, ds = [.tup zs] ∧ A l = some (.lst ys) ∧ ys.length + zs.length ≤ sizeLine ∧ Q .non (put A l (.lst (ys ++ zs)))
theorem ma_extT : MtA X "list.extend" gmExtT := ⟨_, fun W δ σ H l xs vs Q ⟨F, A, Q', E', a, ⟨zs, ys, e1, e2, hz, q⟩, po⟩ => by
  subst e1
  cases a.held with
  | cons _ r =>
    obtain ⟨v, rfl, rv⟩ := r.one
    obtain ⟨tp, ws, rfl, ht, rt⟩ := asT_ok rv rfl
    obtain ⟨us, eh, ro⟩ := live_l a.rel e2
    obtain ⟨R2, x2⟩ := a.rel.put e2 (RepO.lst (ro.append rt))
    exact ⟨l, tp, us, ws, rfl, rfl, eh, ht, by rw [← ro.length, ← rt.length]; exact hz, po _ _ _ _ _ q x2 R2 .non⟩, mt_extendT⟩
/-! ### slices -/
abbrev APt := AM (Option Int)
abbrev liftO (K : PySem.W.Frag) (W : WX) (t : APt) : TO := lift (fun _ _ x y => x = y) K W t
theorem PO.imp {e : Option Expr} {t t' : TO} (h : PO X e t) (i : ∀ σ H Q, t' σ H Q → t σ H Q) : PO X e t' := ⟨fun pins s σ H Q I q => h.run pins s σ H Q I (i _ _ _ q)⟩
def aNoPart : APt := fun _ A Q _ => Q none A
def aPart (te : AE) : APt := fun δ A Q E => te δ A (fun d A1 => ∃ i, d = .int i ∧ Q (some i) A1) E
theorem ao_none : PO X none (liftO X.K W aNoPart) := PO.imp po_none fun σ H Q ⟨δ, F, A, Q', E', a, q, po⟩ => po _ _ _ _ _ q Ext.refl a.rel rfl
theorem ao_some (h : PE X e (liftE X.K W te)) : PO X (some e) (liftO X.K W (aPart te)) := PO.imp (po_some h) fun σ H Q ⟨δ, h⟩ => by
  refine (Lf.bindE (k := fun d A1 Q E => ∃ i, d = .int i ∧ Q (some i) A1) h).mono fun v H1 ⟨d, F, A, Q', E', a, ⟨i, ed, q⟩, po⟩ => ?_
  subst ed
  obtain ⟨v', e, r⟩ := a.held.one
  cases e; cases r
  exact ⟨i, rfl, po _ _ _ _ _ q Ext.refl a.rel rfl⟩
def cutD (xs : List D) (lo hi : Option Int) : List D := (xs.drop (HT.sIx xs.length 0 lo)).take (HT.sIx xs.length xs.length hi - HT.sIx xs.length 0 lo)
theorem reps_cut {F : Addr → Prop} {H : Hp} {xs : List D} {vs : List V} (r : Reps K F H xs vs) (lo hi : Option Int) : Reps K F H (cutD xs lo hi) (cutV vs lo hi) := by
  unfold cutD cutV
  rw [r.length]
  exact (r.drop _).take _
def aSl (g : D → Option Int → Option Int → AK D) (te : AE) (tl th : APt) : AE := fun δ A Q E => te δ A (fun x A1 => tl δ A1 (fun l A2 => th δ A2 (fun u A3 => g x l u A3 Q E) E) E) E
def gSlL (live : Bool) : D → Option Int → Option Int → AK D := fun x lo hi A Q _ => ∃ xs, asL A x = some xs ∧ aNew live (.lst (cutD xs lo hi)) A Q
def gSlS : D → Option Int → Option Int → AK D := fun x lo hi A Q _ => ∃ z, x = .str z ∧ z.length ≤ sizeLine ∧ Q (.str (cutS z lo hi)) A
def gSlT : D → Option Int → Option Int → AK D := fun x lo hi A Q _ => ∃ xs, x = .tup xs ∧ Q (.tup (cutD xs lo hi)) A
def gSl (live : Bool) : D → Option Int → Option Int → AK D := fun x lo hi A Q E => gSlL live x lo hi A Q E ∨ gSlS x lo hi A Q E ∨ gSlT x lo hi A Q E
theorem sOk_cut {z : Str} (h : sOk z) (lo hi : Option Int) : sOk (cutS z lo hi) := by
  unfold sOk PySem.PyData.strOk at *
  rw [Array.all_eq_true'] at h ⊢
  intro c hc
  refine h c ?_
  unfold cutS at hc
  simp only at hc
  have := List.mem_of_mem_drop (List.mem_of_mem_take (List.mem_toArray.mp hc))
  simpa using this
theorem ae_slice (live : Bool) {lo hi : Option Expr} {tl th : APt} {p2 : Pos} (he : PE X e (liftE X.K W te)) (hl : PO X lo (liftO X.K W tl)) (hu : PO X hi (liftO X.K W th)) : PE X (.Subscript e (.Slice lo hi none p2) pos) (liftE X.K W (aSl (gSl live) te tl th)) :=
  PE.imp (pe_slice (sl_list.or (sl_str.or sl_tupA)) he hl hu) fun σ H Q ⟨δ, h⟩ => by
  refine (Lf.bindE (k := fun x A1 Q E => tl δ A1 (fun l A2 => th δ A2 (fun u A3 => gSl live x l u A3 Q E) E) E) h).mono fun v H1 ⟨x, h1⟩ => ?_
  refine (Lf.core (R1 := fun _ _ x y => x = y) (k := fun l A2 Q E => th δ A2 (fun u A3 => gSl live x l u A3 Q E) E) h1).mono fun l H2 ⟨l', F2, A2, Q2, E2, a2, el, q2, p2⟩ => ?_
  subst el
  refine (Lf.core (R1 := fun _ _ x y => x = y) (k := fun u A3 Q E => gSl live x l' u A3 Q E) (δ := δ) ⟨F2, A2, Q2, E2, a2, q2, p2⟩).mono fun u H3 ⟨u', F3, A3, Q3, E3, a3, eu, q3, p3⟩ => ?_
  subst eu
  obtain ⟨v', e, r⟩ := a3.held.one
  cases e
  rcases q3 with ⟨xs, e1, q⟩ | ⟨z, e1, hz, q⟩ | ⟨xs, e1, q⟩
  · obtain ⟨b1, us, rfl, h1, q1⟩ := asL_ok a3.rel r e1
    exact .inl ⟨b1, us, rfl, h1, aNew_ok a3.rel (.lst (reps_cut q1 _ _)) q p3⟩
  · subst e1
    cases r with
    | str hs => exact .inr (.inl ⟨z, rfl, hz, p3 _ _ _ _ _ q Ext.refl a3.rel (.str (sOk_cut hs _ _))⟩)
  · subst e1
    obtain ⟨b1, us, rfl, h1, q1⟩ := asTe_ok r rfl
    refine .inr (.inr ⟨b1, us, rfl, h1.sq, fun hh => ?_, fun _ => tup_ok a3.rel (reps_cut q1 _ _) q p3⟩)
    have : cutD xs l' u' = xs := by
      unfold cutD
      rw [q1.length, hh.1, hh.2, List.drop_zero, ← q1.length]
      exact List.take_of_length_le (by omega)
    rw [this] at q
    exact p3 _ _ _ _ _ q Ext.refl a3.rel (.tup h1 q1)
/-! ### stores -/
def aSetIx (to ti te : AE) : AS := fun N δ A => te δ A (fun v A1 => to δ A1 (fun x A2 => ti δ A2 (fun y A3 => ∃ l i xs j, x = .ref l ∧ y = .int i ∧ A3 l = some (.lst xs) ∧ ixN xs.length i = some j ∧ N.nx δ (put A3 l (.lst (xs.set j v)))) (fun C fs A1 => N.ex C fs δ A1)) (fun C fs A1 => N.ex C fs δ A1)) (fun C fs A1 => N.ex C fs δ A1)
theorem as_setix {i : Expr} {ti : AE} (ho : PE X o (liftE X.K W to)) (hi : PE X i (liftE X.K W ti)) (hv : PE X e (liftE X.K W te))
    (ha : ∀ v, assign (.Subscript o i pos') X.env v = (do
      let ov ← holding [v] (eval o X.env)
      let iv ← holding [v, ov] (eval i X.env)
      standAt pos'
      holding [v, ov, iv] (setItem ov iv v)
      release [v, ov, iv] []) := by intro _; rfl) (hs : swapsWithSole [.Subscript o i pos'] e pos.line X.env = pure false := by rfl) (hw : swappedStores [.Subscript o i pos'] e X.env = pure none := by rfl)
    (h1 : (assignEach [.Subscript o i pos'] X.env).map (·.2) = [assign (.Subscript o i pos') X.env] := by rfl) : PS X (.Assign [.Subscript o i pos'] e pos) (liftS X.K W (aSetIx to ti te)) := PS.imp (ps_asg hv (pg_sub ho hi set_list ha) hs hw h1) fun D σ H ⟨F, A, δ, D', R, s, q, e⟩ => by
  refine (st_core (R1 := Rep X.K) R s e q).mono fun v H1 ⟨dv, F1, A1, r1, R1, s1, q1, e1, x1⟩ => ?_
  refine (st_core (R1 := Rep X.K) R1 s1 e1 q1).mono fun x H2 ⟨dx, F2, A2, r2, R2, s2, q2, e2, x2⟩ => ?_
  refine (st_core (R1 := Rep X.K) R2 s2 e2 q2).mono fun y H3 ⟨dy, F3, A3, r3, R3, s3, ⟨l, i, xs, j, ex, ey, ea, ej, q3⟩, e3, x3⟩ => ?_
  subst ex; subst ey
  cases r2; cases r3
  have rv := (r1.kept (x2.kept R1)).kept (x3.kept R2)
  obtain ⟨us, eh, ro⟩ := live_l R3 ea
  obtain ⟨R4, x4⟩ := R3.put ea (RepO.lst (ro.set rv j))
  exact ⟨l, us, i, j, rfl, rfl, eh, by rw [← ro.length]; exact ej, e3.nx _ _ _ _ _ q3 x4 R4 (s3.kept (x4.kept R3))⟩
/-! ### general targets -/
abbrev AGs := List D → ASt → AH → (ASt → AH → Prop) → AX → Prop
def PostS (K : PySem.W.Frag) (F : Addr → Prop) (A : AH) (H : Hp) (Q' : ASt → AH → Prop) (Q : L2.St → Hp → Prop) : Prop := ∀ δ' A' F' H' σ', Q' δ' A' → Ext F A H F' A' H' → Rel K F' A' H' → RepS K F' H' δ' σ' → Q σ' H'
theorem PostS.step {F F' : Addr → Prop} {A A' : AH} {H H' : Hp} {Q' : ASt → AH → Prop} {Q : L2.St → Hp → Prop} (po : PostS K F A H Q' Q) (x : Ext F A H F' A' H') : PostS K F' A' H' Q' Q := fun δ A2 F2 H2 σ q x2 => po δ A2 F2 H2 σ q (x.trans x2)
/-- errors in targets are not told -/
def liftGs (K : PySem.W.Frag) (W : WX) (g : AGs) : TGs := fun vs σ H Q => ∃ F A δ ds Q', At K W δ σ H F A noX ds vs ∧ g ds δ A Q' noX ∧ PostS K F A H Q' Q
def liftG1 (K : PySem.W.Frag) (W : WX) (g : AG) : TG := fun v σ H Q => ∃ F A δ d Q', At K W δ σ H F A noX [d] [v] ∧ g d δ A Q' noX ∧ PostS K F A H Q' Q
theorem PG.imp' {tg : Expr} {g g' : TG} (h : PG X tg g) (i : ∀ v σ H Q, g' v σ H Q → g v σ H Q) : PG X tg g' := ⟨fun pins s σ H v u Q I r q => h.run pins s σ H v u Q I r (i _ _ _ _ q)⟩
theorem PGs.imp' {tg : List Expr} {g g' : TGs} (h : PGs X tg g) (i : ∀ v σ H Q, g' v σ H Q → g v σ H Q) : PGs X tg g' := ⟨fun pins s σ H v u Q I r q => h.run pins s σ H v u Q I r (i _ _ _ _ q)⟩
def agNm (i : Nat) : AG := fun d δ A Q _ => Q (δ.set i (some d)) A
def agNil : AGs := fun ds δ A Q _ => ds = [] ∧ Q δ A
def agCons (g : AG) (u : AGs) : AGs := fun ds δ A Q E => ∃ d r, ds = d :: r ∧ g d δ A (fun δ1 A1 => u r δ1 A1 Q E) E
def agTp (n : Nat) (g : AGs) : AG := fun d δ A Q E => ∃ ds, d = .tup ds ∧ ds.length = n ∧ g ds δ A Q E
def agDk (to ti : AE) : AG := fun d δ A Q E => to δ A (fun x A1 => ti δ A1 (fun y A2 => ∃ a kvs q, x = .ref a ∧ A2 a = some (.dct kvs) ∧ keyOf y = some q ∧ kvs.length < sizeLine ∧ Q δ (put A2 a (.dct (putD kvs y d)))) E) E
theorem ag_nm {tg : Expr} {i : Nat} (h : PG X tg (gName i)) : PG X tg (liftG1 X.K W (agNm i)) := PG.imp' h fun v σ H Q ⟨F, A, δ, d, Q', a, q, po⟩ => by
  obtain ⟨v', e, r⟩ := a.held.one
  cases e
  exact po _ _ _ _ _ q Ext.refl a.rel (a.sl.set r i)
theorem ags_nil : PGs X [] (liftGs X.K W agNil) := PGs.imp' pgs_nil fun v σ H Q ⟨F, A, δ, d, Q', a, ⟨e, q⟩, po⟩ => by
  subst e
  exact ⟨a.held.none, po _ _ _ _ _ q Ext.refl a.rel a.sl⟩
theorem ags_cons {g : AG} {u : AGs} (h1 : PG X e (liftG1 X.K W g)) (h2 : PGs X es (liftGs X.K W u)) (hs : (assignEach (e :: es) X.env).map (·.2) = assign e X.env :: (assignEach es X.env).map (·.2) := by rfl) : PGs X (e :: es) (liftGs X.K W (agCons g u)) := PGs.imp' (pgs_cons h1 h2 hs) fun vs σ H Q ⟨F, A, δ, ds, Q', a, ⟨d, r, e, q⟩, po⟩ => by
  subst e
  cases hh : a.held with
  | cons r0 r1 =>
    refine ⟨_, _, rfl, F, A, δ, d, _, ⟨a.rel, a.sl, gx_no, .cons r0 .nil⟩, q, fun δ1 A1 F1 H1 σ1 q1 x1 R1 s1 => ?_⟩
    exact ⟨F1, A1, δ1, r, Q', ⟨R1, s1, gx_no, r1.kept (x1.kept a.rel)⟩, q1, po.step x1⟩
theorem ag_tp {kk n : Nat} {g : AGs} (hc : X.calm = true) (h : PGs X es (liftGs X.K W g)) (hn : (assignEach es X.env).length = n := by rfl) (hst : (assignEach es X.env).findIdx? (·.1) = none := by rfl) : PG X (.Tuple es kk pos) (liftG1 X.K W (agTp n g)) := PG.imp' (pg_tup hc h hn hst) fun v σ H Q ⟨F, A, δ, d, Q', a, ⟨ds, e, hl, q⟩, po⟩ => by
  subst e
  obtain ⟨v', e, r⟩ := a.held.one
  cases e
  obtain ⟨b1, us, rfl, h1, q1⟩ := asT_ok r rfl
  exact ⟨b1, us, rfl, h1, by rw [← q1.length]; exact hl, F, A, δ, ds, Q', ⟨a.rel, a.sl, gx_no, q1⟩, q, po⟩
theorem ag_dk {i : Expr} {ti : AE} (hu : X.A.units + 1 < cLine) (ho : PE X o (liftE X.K W to)) (hi : PE X i (liftE X.K W ti))
    (ha : ∀ v, assign (.Subscript o i pos) X.env v = (do
      let ov ← holding [v] (eval o X.env)
      let iv ← holding [v, ov] (eval i X.env)
      standAt pos
      holding [v, ov, iv] (setItem ov iv v)
      release [v, ov, iv] []) := by intro _; rfl) : PG X (.Subscript o i pos) (liftG1 X.K W (agDk to ti)) := PG.imp' (pg_sub ho hi (set_dict hu) ha) fun v σ H Q ⟨F, A, δ, d, Q', a, q, po⟩ => by
  obtain ⟨v', ev, r⟩ := a.held.one
  cases ev
  refine (show liftE X.K W to σ H _ from ⟨δ, F, A, _, noX, ⟨a.rel, a.sl, gx_no, .nil⟩, q, fun x A1 F1 H1 y q1 x1 R1 r1 => ?_⟩)
  refine (show liftE X.K W ti σ H1 _ from ⟨δ, F1, A1, _, noX, ⟨R1, a.sl.kept (x1.kept a.rel), gx_no, .nil⟩, q1, fun x2 A2 F2 H2 y2 ⟨l, kvs, kq, ex, ea, ek, hl, q2⟩ x2' R2 r2 => ?_⟩)
  subst ex
  cases r1
  have rv := (r.kept (x1.kept a.rel)).kept (x2'.kept R1)
  obtain ⟨_, ho, eh, ro⟩ := R2.live l _ ea
  cases ro with
  | dk ro =>
    have := keyOf_dK ek
    subst this
    obtain ⟨rfl, hok⟩ := rep_key r2
    obtain ⟨R4, x4⟩ := R2.put ea (RepO.dk (repK_put hok rv ro))
    have xx := (x1.trans x2').trans x4
    exact ⟨l, _, rfl, DPut.k eh (by rw [← ro.length]; exact hl), po _ _ _ _ _ q2 xx R4 (a.sl.kept (xx.kept a.rel))⟩
def aAsgG (te : AE) (g : AG) : AS := fun N δ A => te δ A (fun d A1 => g d δ A1 N.nx noX) (fun C fs A1 => N.ex C fs δ A1)
theorem as_asgG {tg : Expr} {g : AG} (he : PE X e (liftE X.K W te)) (hg : PG X tg (liftG1 X.K W g)) (hs : swapsWithSole [tg] e pos.line X.env = pure false := by rfl) (hw : swappedStores [tg] e X.env = pure none := by rfl)
    (h1 : (assignEach [tg] X.env).map (·.2) = [assign tg X.env] := by rfl) : PS X (.Assign [tg] e pos) (liftS X.K W (aAsgG te g)) := PS.imp (ps_asg he hg hs hw h1) fun D σ H ⟨F, A, δ, D', R, s, q, e⟩ =>
  (st_core (R1 := Rep X.K) R s e q).mono fun y H1 ⟨x, F1, A1, r, R1, s1, q1, e1, x1⟩ => ⟨F1, A1, δ, x, _, ⟨R1, s1, gx_no, .cons r .nil⟩, q1, e1.nx⟩
/-! ### {..} -/
def aPairs : List (AE × AE) → ASt → AH → (List (D × D) → AH → Prop) → AX → Prop
  | [], _, A, Q, _ => Q [] A
  | (tk, tv) :: r, δ, A, Q, E => tk δ A (fun x A1 => tv δ A1 (fun y A2 => aPairs r δ A2 (fun ps A3 => Q ((x, y) :: ps) A3) E) E) E
inductive RepP (K : PySem.W.Frag) (F : Addr → Prop) (H : Hp) : List (D × D) → List (V × V) → Prop
  | nil : RepP K F H [] []
  | cons {d e : D} {v u : V} {ds : List (D × D)} {vs : List (V × V)} : Rep K F H d v → Rep K F H e u → RepP K F H ds vs → RepP K F H ((d, e) :: ds) ((v, u) :: vs)
theorem RepP.kept {F F' : Addr → Prop} {H H' : Hp} (s : Kept F F' H H') : ∀ {d : List (D × D)} {v : List (V × V)}, RepP K F H d v → RepP K F' H' d v
  | _, _, .nil => .nil
  | _, _, .cons a b r => .cons (a.kept s) (b.kept s) (RepP.kept s r)
theorem pairs_ok {W : WX} {δ : ASt} {σ : L2.St} : ∀ (l : List (AE × AE)) {F : Addr → Prop} {A : AH} {H : Hp} {Q' : List (D × D) → AH → Prop} {E : AX} {Q : List (V × V) → Hp → Prop}, Rel K F A H → RepS K F H δ σ → Gx K W F A H σ E → aPairs l δ A Q' E → (∀ ps A' F' H' us, Q' ps A' → Ext F A H F' A' H' → Rel K F' A' H' → RepP K F' H' ps us → Q us H') →
    tPairs (l.map fun c => (liftE K W c.1, liftE K W c.2)) σ H Q
  | [], F, A, H, Q', E, Q, R, s, g, h, po => po _ _ _ _ _ h Ext.refl R .nil
  | (tk, tv) :: l, F, A, H, Q', E, Q, R, s, g, h, po => by
    refine (show liftE K W tk σ H _ from ⟨δ, F, A, _, E, ⟨R, s, g, .nil⟩, h, fun x A1 F1 H1 y q1 x1 R1 r1 => ?_⟩)
    have s1 := s.kept (x1.kept R)
    refine (show liftE K W tv σ H1 _ from ⟨δ, F1, A1, _, E, ⟨R1, s1, g.step x1, .nil⟩, q1, fun x2 A2 F2 H2 y2 q2 x2' R2 r2 => ?_⟩)
    refine pairs_ok l R2 (s1.kept (x2'.kept R1)) ((g.step x1).step x2') q2 fun ps A3 F3 H3 us q3 x3 R3 r3 => ?_
    exact po _ _ _ _ _ q3 ((x1.trans x2').trans x3) R3 (.cons ((r1.kept (x2'.kept R1)).kept (x3.kept R2)) (r2.kept (x3.kept R2)) r3)
def mergeD (more : List (D × D)) : List (D × D) := more.foldl (fun acc kv => putD acc kv.1 kv.2) []
def keysOk : List (D × D) → Bool
  | [] => true
  | (k, _) :: r => (keyOf k).isSome && keysOk r
theorem merge_ok {F : Addr → Prop} {H : Hp} : ∀ {ps : List (D × D)} {us : List (V × V)} {acc : List (D × D)} {av : List (Key × V)}, RepP K F H ps us → keysOk ps = true → RepK K F H acc av → ∃ kvs : List (Key × V), us = kvs.map (fun kv => (kV kv.1, kv.2)) ∧ kvs.length = ps.length ∧ RepK K F H (ps.foldl (fun acc kv => putD acc kv.1 kv.2) acc) (kvs.foldl (fun acc kv => putK acc kv.1 kv.2) av)
  | _, _, _, _, .nil, _, ra => ⟨[], rfl, rfl, ra⟩
  | _, _, acc, av, .cons (d := d) (u := u) (e := e) a b r, h, ra => by
    simp only [keysOk, Bool.and_eq_true] at h
    obtain ⟨q, hq⟩ := Option.isSome_iff_exists.mp h.1
    have := keyOf_dK hq
    subst this
    obtain ⟨rfl, hok⟩ := rep_key a
    obtain ⟨kvs, e1, e2, e3⟩ := merge_ok (acc := putD acc (dK q) e) (av := putK av q u) r h.2 (repK_put hok b ra)
    exact ⟨(q, u) :: kvs, by rw [e1]; rfl, by rw [List.length_cons, e2]; rfl, e3⟩
def aDisp (live : Bool) (l : List (AE × AE)) : AE := fun δ A Q E => aPairs l δ A (fun ps A1 => keysOk ps = true ∧ ps.length ≤ 15 ∧ aNew live (.dct (mergeD ps)) A1 Q) E
theorem ae_disp (live : Bool) {keys : List (Option Expr)} {values : List Expr} {l : List (AE × AE)} (h : PPs X pos keys values (l.map fun c => (liftE X.K W c.1, liftE X.K W c.2))) (hall : keys.all (·.isSome) = true) (hl : keys.length = values.length) (h0 : keys ≠ [])
    (h15 : keys.length ≤ 15) : PE X (.Dict keys values pos) (liftE X.K W (aDisp live l)) := PE.imp (pe_disp h hall hl h0 h15) fun σ H Q ⟨δ, F, A, Q', E', a, q, po⟩ p hp => by
  have R0 := a.rel.lay hp (ho := .dK [])
  have x0 := ext_new a.rel hp (ho := .dK [])
  refine pairs_ok l R0 (a.sl.kept (x0.kept a.rel)) (a.gx.step x0) q fun ps A1 F1 H1 us ⟨hk, h15, q1⟩ x1 R1 r1 => ?_
  have nA := (a.rel.fresh hp).1
  have nF := (a.rel.fresh hp).2
  obtain ⟨nA1, eD⟩ := x1.kh nA upd_same nF
  have nF1 : ¬ F1 p := fun z => nF (x1.g p _ nA upd_same z)
  refine ⟨eD, ?_⟩
  obtain ⟨kvs, e1, e2, e3⟩ := merge_ok (acc := []) (av := []) r1 hk .nil
  refine ⟨kvs, e1, by rw [e2]; exact h15, ?_⟩
  have kh : Kept F1 F1 H1 (upd H1 p (.dK (mergeK [] kvs))) := kept_hid nF1 eD (fun _ z => by cases z) (fun _ _ z => by cases z) (fun _ z => by cases z)
  have xx := x0.trans x1
  refine show_ok (F1 := F) (A1 := A) (H1 := H) (R1.hid nF1 nA1 eD (fun _ z => by cases z) (fun _ _ z => by cases z) (fun _ z => by cases z)) ⟨xx.f, fun b o w e => ?_, xx.g⟩ hp nF1 nA1 upd_same (RepO.dk (RepK.kept kh e3)) q1 po
  rw [upd_ne (ne_of_none e hp)]
  exact xx.k b o w e
def aDNew (live : Bool) : AE := fun _ A Q _ => aNew live (.dct []) A Q
theorem ae_dnew (live : Bool) {e : Expr} (h : PE X e tDNewK) : PE X e (liftE X.K W (aDNew live)) := PE.imp h fun σ H Q ⟨δ, F, A, Q', E', a, q, po⟩ => aNew_ok a.rel (.dk .nil) q po
/-! ### own __len__, __contains__ -/
def gLenO (C : Addr) (asp : ASp) : GA := fun xs A Q _ => ∃ d fs, xs = [d] ∧ asO A d = some (C, fs) ∧ Call asp [d] A (fun r A' => ∃ n : Int, r = .int n ∧ 0 ≤ n ∧ n < 2 ^ 63 ∧ Q r A') noX ⟨⟩
theorem ca_lenO (F : FnR X.prog X.w X.K X.mg X.base CX0 k f (liftSp X.K asp)) (hr : Room (k + 1) X.A) (S : Spc X.K C "__len__" f) : CallA X (.builtin "len") (gLenO C asp) := ⟨_, fun W δ σ H xs vs Q ⟨F, A, Q', E', a, ⟨d, fs, e1, e2, q⟩, po⟩ => by
  subst e1
  obtain ⟨v, rfl, r⟩ := a.held.one
  obtain ⟨b, dx, vs, rfl, eb, rf⟩ := asO_ok a.rel r e2
  refine ⟨b, dx, vs, rfl, eb, F, A, [d], _, noX, a.rel, .cons r .nil, q, fun x A1 F1 H1 y ⟨n, e, h0, h1, q1⟩ x1 R1 r1 => ?_, fun _ _ _ _ _ _ _ h => h.elim⟩
  subst e
  cases r1
  exact ⟨n, rfl, h0, h1, po _ _ _ _ _ q1 x1 R1 (.int n)⟩, lenO F hr S⟩
def gInO (neg : Bool) (C : Addr) (asp : ASp) : G2 := fun x y A Q _ => ∃ fs, asO A y = some (C, fs) ∧ Call asp [y, x] A (fun r A' => ∃ b : Bool, r = .bl b ∧ Q (.bl (if neg then !b else b)) A') noX ⟨⟩
theorem cmp_inO (F : FnR X.prog X.w X.K X.mg X.base CX0 k f (liftSp X.K asp)) (hr : Room k X.A) (S : Spc X.K C "__contains__" f) : CmpA X .In (gInO false C asp) := ⟨_, fun W δ σ H x y v u Q ⟨F, A, Q', E', a, ⟨fs, e2, q⟩, po⟩ => by
  obtain ⟨u', v', e, r1, r2⟩ := a.held.two
  cases e
  obtain ⟨b, dx, vs, rfl, eb, rf⟩ := asO_ok a.rel r1 e2
  refine ⟨b, dx, vs, rfl, eb, F, A, [y, x], _, noX, a.rel, .cons r1 (.cons r2 .nil), q, fun z A1 F1 H1 w ⟨bb, e, q1⟩ x1 R1 r3 => ?_, fun _ _ _ _ _ _ _ h => h.elim⟩
  subst e
  cases r3
  exact ⟨bb, rfl, po _ _ _ _ _ q1 x1 R1 (.bl bb)⟩, op_inO F hr S⟩
theorem cmp_notInO (F : FnR X.prog X.w X.K X.mg X.base CX0 k f (liftSp X.K asp)) (hr : Room k X.A) (S : Spc X.K C "__contains__" f) : CmpA X .NotIn (gInO true C asp) := ⟨_, fun W δ σ H x y v u Q ⟨F, A, Q', E', a, ⟨fs, e2, q⟩, po⟩ => by
  obtain ⟨u', v', e, r1, r2⟩ := a.held.two
  cases e
  obtain ⟨b, dx, vs, rfl, eb, rf⟩ := asO_ok a.rel r1 e2
  refine ⟨b, dx, vs, rfl, eb, F, A, [y, x], _, noX, a.rel, .cons r1 (.cons r2 .nil), q, fun z A1 F1 H1 w ⟨bb, e, q1⟩ x1 R1 r3 => ?_, fun _ _ _ _ _ _ _ h => h.elim⟩
  subst e
  cases r3
  exact ⟨bb, rfl, po _ _ _ _ _ q1 x1 R1 (.bl _)⟩, op_notInO F hr S⟩
end
end Av

set_option Elab.async false
set_option linter.all false
set_option maxRecDepth 100000
set_option maxHeartbeats 4000000
/-! own library Av, part 11: constants of the module, defs with defaults and stars, small lemmas -/
namespace Av
open PySem PySem.Spec PyProof.Rows L2 My
theorem TupE.all {K : PySem.W.Frag} {a : Addr} {vs : List V} (h : ∀ H, SqT K H a vs) (H : Hp) : TupE K H a vs := by
  rcases h (fun _ => none) with h | h
  · rcases h with h | ⟨o, h⟩ <;> cases h
  · exact .inr h
section
variable {X : Cx} {W : WX} {pos : Pos}
def strsD : List Str → List D := List.map .str
theorem reps_strs {K : PySem.W.Frag} {F : Addr → Prop} {H : Hp} : ∀ {xs : List Str}, (∀ x ∈ xs, sOk x) → Reps K F H (xs.map D.str) (xs.map V.str)
  | [], _ => .nil
  | x :: xs, h => .cons (.str (h x List.mem_cons_self)) (reps_strs fun y hy => h y (List.mem_cons_of_mem _ hy))
theorem ae_gtup {e : Expr} {a : Addr} {xs : List Str} (h : PE X e (tC (.ref a))) (q : ∀ H, SqT X.K H a (xs.map V.str)) (hx : ∀ x ∈ xs, sOk x) : PE X e (liftE X.K W (aC (.tup (xs.map D.str)))) := ae_c h fun F H => .tup (TupE.all q H) (reps_strs hx)
theorem ae_gs {x z : Str} {pos : Pos} (hg : Gl X x) (h : ∃ t, X.mg x = some (.str z t)) (hd : (x == ("__debug__" : Str)) = false := by decide) (hz : sOk z := by unfold sOk; decide +kernel) : PE X (.Name x pos) (liftE X.K W (aC (.str z))) := ae_c (pe_gs hg h hd) fun _ _ => .str hz
theorem ae_gi {x : Str} {i : Int} {pos : Pos} (hg : Gl X x) (h : ∃ t, X.mg x = some (.int i t)) (hd : (x == ("__debug__" : Str)) = false := by decide) : PE X (.Name x pos) (liftE X.K W (aC (.int i))) := ae_c (pe_gi hg h hd) fun _ _ => .int i
end
section
variable {P : Program} {w : World} {K : PySem.W.Frag} {mg : Str → Option Value} {base : Heap} {x qual : Str} {params : Arguments} {body : List Stmt} {scope : Scope} {dvs : List V} {kws : List (Str × V)} {f : Addr} {fd : FuncData} {N ps : List Str} {k : Nat} {asp : ASp}
abbrev BodyR (P : Program) (w : World) (K : PySem.W.Frag) (mg : Str → Option Value) (base : Heap) (qual : Str) (body : List Stmt) (scope : Scope) (f : Addr) (N : List Str) (k : Nat) (asp : ASp) : Prop :=
  ∀ (cdv : Value) (A0 : Around) (outer : List Env) (s : Shared) (H : Hp) (E0 : XK) (ds : List D) (A : AH) (Q : AQ) (E : AX), Room k (A0.deeper (envOfC qual scope s.heap.objs.size f cdv)) → asp ds A Q E →
      ∃ ts, PSs (cxOf CX0 P w K mg base N qual scope f cdv A0 outer s H E0).nox body (liftS K noW ts) ∧ ts (endsOf Q noX) (aStart N ds) A
abbrev BodyX (P : Program) (w : World) (K : PySem.W.Frag) (mg : Str → Option Value) (base : Heap) (qual : Str) (body : List Stmt) (scope : Scope) (f : Addr) (N : List Str) (k : Nat) (asp : ASp) : Prop :=
  ∀ (cdv : Value) (A0 : Around) (outer : List Env) (s : Shared) (H : Hp) (E0 : XK) (ds : List D) (A : AH) (Q : AQ) (E : AX), Room k (A0.deeper (envOfC qual scope s.heap.objs.size f cdv)) → asp ds A Q E →
      ∃ ts, PSs (cxOf (L2.CX P w) P w K mg base N qual scope f cdv A0 outer s H E0) body (liftS K (fun c d _ H => E0 c d H) ts) ∧ ts (endsOf Q E) (aStart N ds) A
theorem FunD.AD (n j : Nat) (dds : List D) (F : FunD K x qual params body scope dvs kws f fd) (S : FnScope N ps scope) (len : ∀ ds A Q E, asp ds A Q E → ds.length = ps.length) (hd : dvs ≠ []) (hn : n + (dvs.length - j) = ps.length)
    (hb : ∀ (T : Addr) (kV doc pm : Value) (an : Option Addr) (cdv ct : Value) (us its : List Value), us.length = n → its.length = dvs.length →
      ∃ k, bindArgs (PySem.W.fnOf x qual params body scope (.ref T) kV doc pm an cdv ct) ⟨us, []⟩ = seqItems? (.ref T) >>= k ∧ k (some its.toArray) = pure (ps.zip (us ++ its.drop j)))
    (hdd : ∀ F H, Reps K F H dds (dvs.drop j)) (hbody : BodyR P w K mg base qual body scope f N k asp) : FnR P w K mg base CX0 (k + 1) f (liftSp K (fun ds A Q E => asp (ds ++ dds) A Q E)) :=
  FnR.imp (My.FunD.Rd n j F S (liftSp_len len) hd hn hb (bodyR (dd := []) hbody)) fun vs H Q E ⟨F, A, ds, Q', E', R, r, q, po, g⟩ => ⟨F, A, ds ++ dds, Q', E', R, r.append (hdd F H), q, po, g⟩
theorem FunD.ADX (n j : Nat) (dds : List D) (F : FunD K x qual params body scope dvs kws f fd) (S : FnScope N ps scope) (len : ∀ ds A Q E, asp ds A Q E → ds.length = ps.length) (hd : dvs ≠ []) (hn : n + (dvs.length - j) = ps.length)
    (hb : ∀ (T : Addr) (kV doc pm : Value) (an : Option Addr) (cdv ct : Value) (us its : List Value), us.length = n → its.length = dvs.length →
      ∃ k, bindArgs (PySem.W.fnOf x qual params body scope (.ref T) kV doc pm an cdv ct) ⟨us, []⟩ = seqItems? (.ref T) >>= k ∧ k (some its.toArray) = pure (ps.zip (us ++ its.drop j)))
    (hdd : ∀ F H, Reps K F H dds (dvs.drop j)) (hbody : BodyX P w K mg base qual body scope f N k asp) : FnR P w K mg base (L2.CX P w) (k + 1) f (liftSp K (fun ds A Q E => asp (ds ++ dds) A Q E)) :=
  FnR.imp (My.FunD.RdX n j F S (liftSp_len len) hd hn hb (bodyX hbody)) fun vs H Q E ⟨F, A, ds, Q', E', R, r, q, po, g⟩ => ⟨F, A, ds ++ dds, Q', E', R, r.append (hdd F H), q, po, g⟩
/-- def f(a, .., *v) -/
theorem Reps.split {F : Addr → Prop} {H : Hp} : ∀ {ds es : List D} {vs : List V}, Reps K F H (ds ++ es) vs → ∃ us ws, vs = us ++ ws ∧ Reps K F H ds us ∧ Reps K F H es ws
  | [], _, vs, r => ⟨[], vs, rfl, .nil, r⟩
  | d :: ds, es, _, r => by
    cases r with
    | cons a r =>
      obtain ⟨us, ws, rfl, r1, r2⟩ := Reps.split r
      exact ⟨_ :: us, ws, rfl, .cons a r1, r2⟩
def starSp (n : Nat) (asp : ASp) : ASp := fun ds A Q E => ∃ ws rest, ds = ws ++ rest ∧ ws.length = n ∧ rest.length ≤ sizeLine ∧ asp (ws ++ [.tup rest]) A Q E
theorem star_lift {vs : List V} {H : Hp} {Q : VK} {E : XK} {n : Nat} (h : liftSp K (starSp n asp) vs H Q E) : ∃ ws rest, vs = ws ++ rest ∧ ws.length = n ∧ rest.length ≤ sizeLine ∧ ∀ p, H p = Option.none → liftSp K asp (ws ++ [V.ref p]) (upd H p (.tup rest)) Q E := by
  obtain ⟨F, A, ds, Q', E', R, r, ⟨ws, rest, rfl, h1, h2, q⟩, po, g⟩ := h
  obtain ⟨us, zs, rfl, r1, r2⟩ := r.split
  refine ⟨us, zs, rfl, by rw [← r1.length]; exact h1, by rw [← r2.length]; exact h2, fun p hp => ?_⟩
  obtain ⟨R2, x2, r3⟩ := R.newT hp r2
  exact ⟨F, A, ws ++ [.tup rest], Q', E', R2, (r1.kept (x2.kept R)).append (.cons r3 .nil), q, po.step x2, g.step x2⟩
theorem FunD.AsX {pv : Str} (F : FunD K x qual params body scope [] kws f fd) (S : FnScope N (ps ++ [pv]) scope)
    (hb : ∀ (kV doc pm : Value) (an : Option Addr) (cdv ct : Value) (us rest : List Value), us.length = ps.length → bindArgs (PySem.W.fnOf x qual params body scope .none kV doc pm an cdv ct) ⟨us ++ rest, []⟩ = (newTuple rest >>= fun t => pure (ps.zip us ++ [(pv, t)])))
    (hbody : BodyX P w K mg base qual body scope f N k asp) : FnR P w K mg base (L2.CX P w) (k + 1) f (liftSp K (starSp ps.length asp)) :=
  FnR.imp (My.FunD.RsX F S hb (bodyX hbody)) fun vs H Q E h => star_lift h
theorem FunD.As {pv : Str} (F : FunD K x qual params body scope [] kws f fd) (S : FnScope N (ps ++ [pv]) scope)
    (hb : ∀ (kV doc pm : Value) (an : Option Addr) (cdv ct : Value) (us rest : List Value), us.length = ps.length → bindArgs (PySem.W.fnOf x qual params body scope .none kV doc pm an cdv ct) ⟨us ++ rest, []⟩ = (newTuple rest >>= fun t => pure (ps.zip us ++ [(pv, t)])))
    (hbody : BodyR P w K mg base qual body scope f N k asp) : FnR P w K mg base CX0 (k + 1) f (liftSp K (starSp ps.length asp)) :=
  FnR.imp (My.FunD.Rs F S hb (bodyR (dd := []) hbody)) fun vs H Q E h => star_lift h
end
section
variable {X : Cx} {W : WX} {pos : Pos}
theorem as_par2 {i j : Nat} {x y : Str} {a b : Expr} {t : AA} {px py pt : Pos} {kt k2 pt2} (hc : X.calm = true) (hN : X.N.Nodup) (hi : X.N[i]? = some x) (hj : X.N[j]? = some y) (hij : i ≠ j)
    (hx : X.env.scope.names.lookup x = some .local) (hy : X.env.scope.names.lookup y = some .local) (ha : PA X [a, b] (liftA X.K W t))
    (hw : swappedStores [.Tuple [.Name x px, .Name y py] kt pt] (.Tuple [a, b] k2 pt2) X.env = pure (some [x, y]))
    (hs : swapsWithSole [.Tuple [.Name x px, .Name y py] kt pt] (.Tuple [a, b] k2 pt2) pos.line X.env = pure false := by rfl) :
    PS X (.Assign [.Tuple [.Name x px, .Name y py] kt pt] (.Tuple [a, b] k2 pt2) pos) (liftS X.K W (aPar [i, j] t)) := PS.imp (ps_par hc hN hi hj hij hx hy ha hw hs) fun D σ H h => lift_par2 h
theorem as_par3 {i j l : Nat} {x y z : Str} {a b c : Expr} {t : AA} {px py pz pt : Pos} {kt k2 pt2} (hc : X.calm = true) (hN : X.N.Nodup) (hi : X.N[i]? = some x) (hj : X.N[j]? = some y) (hl : X.N[l]? = some z) (hij : i ≠ j) (hil : i ≠ l) (hjl : j ≠ l)
    (hx : X.env.scope.names.lookup x = some .local) (hy : X.env.scope.names.lookup y = some .local) (hz : X.env.scope.names.lookup z = some .local) (ha : PA X [a, b, c] (liftA X.K W t))
    (hw : swappedStores [.Tuple [.Name x px, .Name y py, .Name z pz] kt pt] (.Tuple [a, b, c] k2 pt2) X.env = pure (some [x, y, z]))
    (hs : swapsWithSole [.Tuple [.Name x px, .Name y py, .Name z pz] kt pt] (.Tuple [a, b, c] k2 pt2) pos.line X.env = pure false := by rfl) :
    PS X (.Assign [.Tuple [.Name x px, .Name y py, .Name z pz] kt pt] (.Tuple [a, b, c] k2 pt2) pos) (liftS X.K W (aPar [i, j, l] t)) := PS.imp (ps_par3 hc hN hi hj hl hij hil hjl hx hy hz ha hw hs) fun D σ H h => lift_par3 h
theorem as_aug {i : Nat} {x : Str} {e : Expr} {te : AE} {op : Operator} {g : Int → Int → Int} {pos' : Pos} (hN : X.N.Nodup) (hi : X.N[i]? = some x) (hx : Loc X.env.scope x) (he : PE X e (liftE X.K W te)) (ho : PIp X op (ipI g)) (hf : X.fn x = true ∨ X.env.scope.names.lookup x = some .local := by first | exact .inl rfl | exact .inr rfl | assumption) :
    PS X (.AugAssign (.Name x pos') op e pos) (liftS X.K W (aAug i g te)) := PS.imp (ps_aug hN hi hx he ho hf) fun D σ H h => lift_aug h
end
/-- never reached -/
def aNever : AS := fun _ _ _ => False
theorem as_never {X : Cx} {W : WX} {st : Stmt} : PS X st (liftS X.K W aNever) := ⟨fun _ _ _ _ _ _ ⟨_, _, _, _, _, _, h, _⟩ => h.elim⟩
/-! ### heaps -/
section
variable {A A' : AH} {a b p q : Addr} {o u : AO}
theorem sub_refl : ∀ c w, A c = some w → A c = some w := fun _ _ h => h
theorem sub_put (h : A p = none) : ∀ c w, A c = some w → put A p o c = some w := fun c w e => by
  rw [put_ne (fun z => by rw [z, h] at e; cases e)]; exact e
theorem ne_live (h : A a = some o) (hp : A p = none) : a ≠ p := fun z => by rw [z, hp] at h; cases h
theorem ne_live' (h : A a = some o) (hp : A p = none) : p ≠ a := fun z => by rw [← z, hp] at h; cases h
theorem put_comm (h : a ≠ b) : put (put A a o) b u = put (put A b u) a o := by
  funext c
  unfold put
  by_cases h1 : c = b <;> by_cases h2 : c = a
  · subst h1; subst h2; exact absurd rfl h
  · rw [if_pos h1, if_neg h2, if_pos h1]
  · rw [if_neg h1, if_pos h2, if_pos h2]
  · rw [if_neg h1, if_neg h2, if_neg h2, if_neg h1]
theorem del_put_ne (h : a ≠ p) : del (put A a o) p = put (del A p) a o := by
  funext c
  by_cases h1 : c = p <;> by_cases h2 : c = a
  · subst h1; subst h2; exact absurd rfl h
  · simp [del, put, h1, h2]
    intro z; exact absurd (z ▸ h1 ▸ rfl) h2
  · simp [del, put, h1, h2]
    intro z; exact absurd z h
  · simp [del, put, h1, h2]
theorem del_none (h : A p = none) : del A p = A := by
  funext c
  unfold del
  by_cases h1 : c = p
  · rw [if_pos h1, h1, h]
  · rw [if_neg h1]
theorem put_none (h : put A a o p = none) : p ≠ a ∧ A p = none := by
  by_cases e : p = a
  · rw [e, put_same] at h; cases h
  · rw [put_ne e] at h; exact ⟨e, h⟩
theorem put_self (h : A a = some o) : put A a o = A := by
  funext c
  unfold put
  by_cases h1 : c = a
  · rw [if_pos h1, h1, h]
  · rw [if_neg h1]
end
/-! ### cutting a body -/
theorem seq_cut {t u : AS} {N : AEnds} {δ : ASt} {A : AH} (P : ASt → AH → Prop) (h : ∀ R : ASt → AH → Prop, (∀ δ' A', P δ' A' → R δ' A') → t { N with nx := R } δ A) (h2 : ∀ δ' A', P δ' A' → u N δ' A') : aSeq t u N δ A := h _ h2
/-! ### loops -/
/-- a loop by what holds ahead of each turn -/
theorem loop_inv {gd : AH → Prop} {p : Pat} {tb : AS} {N : AEnds} {ds : List D} {δ : ASt} {A : AH} (P : Nat → ASt → AH → Prop) (h0 : P 0 δ A) (hg : ∀ i δ A, i ≤ ds.length → P i δ A → gd A)
    (hs : ∀ i d δ A (R : ASt → AH → Prop), ds[i]? = some d → P i δ A → (∀ δ' A', P (i + 1) δ' A' → R δ' A') → ∃ δ2, bindP p d δ = some δ2 ∧ tb { N with nx := R, ct := R, bk := N.nx } δ2 A)
    (hd : ∀ δ A, P ds.length δ A → N.nx δ A) : aLoop gd p tb N ds δ A := by
  have : ∀ (r : List D) (i : Nat) (δ : ASt) (A : AH), ds.drop i = r → i ≤ ds.length → P i δ A → aLoop gd p tb N r δ A := by
    intro r
    induction r with
    | nil =>
      intro i δ A e hi hp
      have : ds.length ≤ i := by
        have := congrArg List.length e
        simp at this; omega
      obtain rfl : i = ds.length := by omega
      exact ⟨hg _ _ _ hi hp, hd _ _ hp⟩
    | cons d r ih =>
      intro i δ A e hi hp
      have hlt : i < ds.length := by
        have := congrArg List.length e
        simp at this; omega
      rw [List.drop_eq_getElem_cons hlt] at e
      injection e with e1 e2
      obtain ⟨δ2, b, q⟩ := hs i d δ A _ (by rw [List.getElem?_eq_getElem hlt, e1]) hp (fun δ A h => ih (i + 1) δ A e2 (by omega) h)
      exact ⟨hg _ _ _ hi hp, δ2, b, q⟩
  exact this ds 0 δ A (by simp) (Nat.zero_le _) h0
end Av
namespace Av
open PySem PySem.Spec PyProof.Rows L2 My
/-! ### zip of two lists or two tuples -/
theorem itOk_zipT {K : PySem.W.Frag} {a b : Addr} {xs ys : List D} : ItOk K (RZ.ItzT K a b) (fun _ => True) (zipL xs ys) [.tup xs, .tup ys] [V.ref a, V.ref b] where
  go := fun F A H i R g r hi => by
    match r with
    | .cons r0 (.cons r1 .nil) =>
      obtain ⟨a', vs, e, hs, rr⟩ := asT_ok r0 rfl
      obtain ⟨b', us, e2, hs2, rr2⟩ := asT_ok r1 rfl
      cases e; cases e2
      have h1 := rr.length
      have h2 := rr2.length
      simp [zipL] at hi
      have l1 : i < vs.length := by omega
      have l2 : i < us.length := by omega
      exact ⟨vs, us, vs[i], us[i], hs, hs2, List.getElem?_eq_getElem l1, List.getElem?_eq_getElem l2⟩
  stop := fun F A H i R g r hi => by
    match r with
    | .cons r0 (.cons r1 .nil) =>
      obtain ⟨a', vs, e, hs, rr⟩ := asT_ok r0 rfl
      obtain ⟨b', us, e2, hs2, rr2⟩ := asT_ok r1 rfl
      cases e; cases e2
      have h1 := rr.length
      have h2 := rr2.length
      simp [zipL] at hi
      exact ⟨vs, us, hs, hs2, by omega⟩
  yld := fun F A H i x H' R g r y hi => by
    match r with
    | .cons r0 (.cons r1 .nil) =>
      obtain ⟨a', vs, e, hs, rr⟩ := asT_ok r0 rfl
      obtain ⟨b', us, e2, hs2, rr2⟩ := asT_ok r1 rfl
      cases e; cases e2
      obtain ⟨T, z, z2, rfl, hT, rfl, hy, hy2⟩ := y
      obtain ⟨d', e', r'⟩ := rr.get (hy vs hs)
      obtain ⟨d'', e'', r''⟩ := rr2.get (hy2 us hs2)
      obtain ⟨R2, x2, r2⟩ := R.newT (ds := [d', d'']) (vs := [z, z2]) hT (.cons r' (.cons r'' .nil))
      exact ⟨_, by simp [zipL, List.getElem?_zipWith, e', e''], x2, R2, r2⟩
def zipK (A : AH) (d e : D) (k : IA → Prop) : Prop := (∃ xs ys, asL A d = some xs ∧ asL A e = some ys ∧ k (fun A => asL A d = some xs ∧ asL A e = some ys, zipL xs ys)) ∨ ∃ xs ys, d = .tup xs ∧ e = .tup ys ∧ k (fun _ => True, zipL xs ys)
def aZipA (t : AA) : AI := fun δ A Q E => t δ A (fun ds A1 => ∃ d e, ds = [d, e] ∧ zipK A1 d e (fun i => Q i A1)) E
theorem ai_zipA {X : Cx} {W : WX} {e e2 : Expr} {t : AA} {p pos tpos : Pos} {elts : List Expr} {kk : Nat} (hg : Gl X "zip") (hm : X.mg "zip" = none) (ha : PA X [e, e2] (liftA X.K W t)) (hs : starEach [e, e2] X.env = (false, eval e X.env) :: starEach [e2] X.env := by rfl) (hpl : (backTo pos (starEach [e2] X.env)).any (·.1) = false := by rfl) :
    PI X (.Tuple elts kk tpos) (.Call (.Name "zip" p) [e, e2] [] pos) (liftI X.K W (aZipA t)) := PI.imp (RZ.pi_zipA hg hm ha hs hpl) fun σ H R ⟨δ, h⟩ => by
  refine (Lf.core (R1 := Reps X.K) (k := fun ds A1 Q E => ∃ d e, ds = [d, e] ∧ zipK A1 d e (fun i => Q i A1)) h).mono fun vs H1 ⟨ds, F, A, Q', E', a, r, ⟨d, d2, ed, q⟩, po⟩ => ?_
  subst ed
  obtain ⟨v, u, rfl, r0, r1⟩ := r.two
  rcases q with ⟨xs, ys, g, g2, q⟩ | ⟨xs, ys, rfl, rfl, q⟩
  · obtain ⟨a', vs, rfl, hs, rr⟩ := asL_ok a.rel r0 g
    obtain ⟨b', us, rfl, hs2, rr2⟩ := asL_ok a.rel r1 g2
    exact ⟨a', b', vs, us, rfl, .inl ⟨hs, hs2, po _ _ _ _ _ q Ext.refl a.rel (RepI.of (hs := [d, d2]) (us := [V.ref a', V.ref b']) (.cons r0 (.cons r1 .nil)) itOk_zip)⟩⟩
  · obtain ⟨a', vs, rfl, hs, rr⟩ := asT_ok r0 rfl
    obtain ⟨b', us, rfl, hs2, rr2⟩ := asT_ok r1 rfl
    exact ⟨a', b', vs, us, rfl, .inr ⟨hs, hs2, po _ _ _ _ _ q Ext.refl a.rel (RepI.of (hs := _) (us := _) (.cons r0 (.cons r1 .nil)) itOk_zipT)⟩⟩
end Av

set_option Elab.async false
set_option linter.all false
set_option maxRecDepth 100000
set_option maxHeartbeats 4000000
/-! own library Av, part 12: equations by constructors (written by mk12.py) -/
namespace Av
open PySem PySem.Spec PyProof.Rows L2 My
def truO : Option AO → Option Bool
  | some (.lst xs) => some (!xs.isEmpty)
  | _ => none
def lstO : Option AO → Option (List D)
  | some (.lst xs) => some xs
  | _ => none
def dctO : Option AO → Option (List (D × D))
  | some (.dct xs) => some xs
  | _ => none
def insO : Option AO → Option (Addr × List (Str × D))
  | some (.ins C fs) => some (C, fs)
  | _ => none
def kdOO : Option AO → String
  | some (.lst _) => "list"
  | some (.dct _) => "dict"
  | _ => "?"
def topO : Option AO → Option PyData
  | some (.lst xs) => (toPs xs).map .list
  | _ => none
theorem truO_lst {xs : List D} : truO (some (.lst xs)) = some (!xs.isEmpty) := rfl
theorem lstO_lst {xs : List D} : lstO (some (.lst xs)) = some xs := rfl
theorem truO_dct {kvs : List (D × D)} : truO (some (.dct kvs)) = none := rfl
theorem lstO_dct {kvs : List (D × D)} : lstO (some (.dct kvs)) = none := rfl
theorem topO_dct {kvs : List (D × D)} : topO (some (.dct kvs)) = none := rfl
theorem truO_ins {C : Addr} {fs : List (Str × D)} : truO (some (.ins C fs)) = none := rfl
theorem lstO_ins {C : Addr} {fs : List (Str × D)} : lstO (some (.ins C fs)) = none := rfl
theorem topO_ins {C : Addr} {fs : List (Str × D)} : topO (some (.ins C fs)) = none := rfl
theorem dctO_dct {xs : List (D × D)} : dctO (some (.dct xs)) = some xs := rfl
theorem dctO_lst {xs : List D} : dctO (some (.lst xs)) = none := rfl
theorem dctO_ins {C : Addr} {fs : List (Str × D)} : dctO (some (.ins C fs)) = none := rfl
theorem insO_ins {C : Addr} {fs : List (Str × D)} : insO (some (.ins C fs)) = some (C, fs) := rfl
theorem insO_lst {xs : List D} : insO (some (.lst xs)) = none := rfl
theorem insO_dct {xs : List (D × D)} : insO (some (.dct xs)) = none := rfl
theorem kdOO_lst {xs : List D} : kdOO (some (.lst xs)) = "list" := rfl
theorem kdOO_dct {xs : List (D × D)} : kdOO (some (.dct xs)) = "dict" := rfl
theorem topO_lst {xs : List D} : topO (some (.lst xs)) = (toPs xs).map .list := rfl
theorem truD_non {A : AH}  : truD A .non = some false := rfl
theorem truD_bl {A : AH} {b : Bool} : truD A (.bl b) = some b := rfl
theorem truD_int {A : AH} {i : Int} : truD A (.int i) = some (i != 0) := rfl
theorem truD_str {A : AH} {x : Str} : truD A (.str x) = some ((x.length : Int) != 0) := rfl
theorem truD_ty {A : AH} {n : String} : truD A (.ty n) = none := rfl
theorem truD_ref {A : AH} {a : Addr} : truD A (.ref a) = truO (A a) := by unfold truD truO; rfl
theorem truD_tup {A : AH} {xs : List D} : truD A (.tup xs) = some (!xs.isEmpty) := rfl
theorem truD_lst {A : AH} {xs : List D} : truD A (.lst xs) = some (!xs.isEmpty) := rfl
theorem truD_rol {A : AH} {xs : List D} : truD A (.rol xs) = none := rfl
theorem truD_dct {A : AH} {kvs : List (D × D)} : truD A (.dct kvs) = none := rfl
theorem truD_dtt {A : AH} {kvs : List (D × D)} : truD A (.dtt kvs) = none := rfl
theorem truD_obj {A : AH} {C : Addr} {fs : List (Str × D)} : truD A (.obj C fs) = none := rfl
theorem truD_exc {A : AH} {a : Addr} {dd : Addr} {C : Addr} {fs : List (Str × D)} : truD A (.exc a dd C fs) = none := rfl
theorem lenOk_non  : lenOk .non = True := rfl
theorem lenOk_bl {b : Bool} : lenOk (.bl b) = True := rfl
theorem lenOk_int {i : Int} : lenOk (.int i) = True := rfl
theorem lenOk_str {x : Str} : lenOk (.str x) = (x.length ≤ sizeLine) := rfl
theorem lenOk_ty {n : String} : lenOk (.ty n) = True := rfl
theorem lenOk_ref {a : Addr} : lenOk (.ref a) = True := rfl
theorem lenOk_tup {xs : List D} : lenOk (.tup xs) = True := rfl
theorem lenOk_lst {xs : List D} : lenOk (.lst xs) = True := rfl
theorem lenOk_rol {xs : List D} : lenOk (.rol xs) = True := rfl
theorem lenOk_dct {kvs : List (D × D)} : lenOk (.dct kvs) = True := rfl
theorem lenOk_dtt {kvs : List (D × D)} : lenOk (.dtt kvs) = True := rfl
theorem lenOk_obj {C : Addr} {fs : List (Str × D)} : lenOk (.obj C fs) = True := rfl
theorem lenOk_exc {a : Addr} {dd : Addr} {C : Addr} {fs : List (Str × D)} : lenOk (.exc a dd C fs) = True := rfl
theorem asL_non {A : AH}  : asL A .non = none := rfl
theorem asL_bl {A : AH} {b : Bool} : asL A (.bl b) = none := rfl
theorem asL_int {A : AH} {i : Int} : asL A (.int i) = none := rfl
theorem asL_str {A : AH} {x : Str} : asL A (.str x) = none := rfl
theorem asL_ty {A : AH} {n : String} : asL A (.ty n) = none := rfl
theorem asL_ref {A : AH} {a : Addr} : asL A (.ref a) = lstO (A a) := by unfold asL lstO; rfl
theorem asL_tup {A : AH} {xs : List D} : asL A (.tup xs) = none := rfl
theorem asL_lst {A : AH} {xs : List D} : asL A (.lst xs) = some xs := rfl
theorem asL_rol {A : AH} {xs : List D} : asL A (.rol xs) = some xs := rfl
theorem asL_dct {A : AH} {kvs : List (D × D)} : asL A (.dct kvs) = none := rfl
theorem asL_dtt {A : AH} {kvs : List (D × D)} : asL A (.dtt kvs) = none := rfl
theorem asL_obj {A : AH} {C : Addr} {fs : List (Str × D)} : asL A (.obj C fs) = none := rfl
theorem asL_exc {A : AH} {a : Addr} {dd : Addr} {C : Addr} {fs : List (Str × D)} : asL A (.exc a dd C fs) = none := rfl
theorem asX_non {A : AH}  : asX A .non = none := rfl
theorem asX_bl {A : AH} {b : Bool} : asX A (.bl b) = none := rfl
theorem asX_int {A : AH} {i : Int} : asX A (.int i) = none := rfl
theorem asX_str {A : AH} {x : Str} : asX A (.str x) = none := rfl
theorem asX_ty {A : AH} {n : String} : asX A (.ty n) = none := rfl
theorem asX_ref {A : AH} {a : Addr} : asX A (.ref a) = lstO (A a) := by unfold asX lstO; rfl
theorem asX_tup {A : AH} {xs : List D} : asX A (.tup xs) = none := rfl
theorem asX_lst {A : AH} {xs : List D} : asX A (.lst xs) = some xs := rfl
theorem asX_rol {A : AH} {xs : List D} : asX A (.rol xs) = none := rfl
theorem asX_dct {A : AH} {kvs : List (D × D)} : asX A (.dct kvs) = none := rfl
theorem asX_dtt {A : AH} {kvs : List (D × D)} : asX A (.dtt kvs) = none := rfl
theorem asX_obj {A : AH} {C : Addr} {fs : List (Str × D)} : asX A (.obj C fs) = none := rfl
theorem asX_exc {A : AH} {a : Addr} {dd : Addr} {C : Addr} {fs : List (Str × D)} : asX A (.exc a dd C fs) = none := rfl
theorem asT_non  : asT .non = none := rfl
theorem asT_bl {b : Bool} : asT (.bl b) = none := rfl
theorem asT_int {i : Int} : asT (.int i) = none := rfl
theorem asT_str {x : Str} : asT (.str x) = none := rfl
theorem asT_ty {n : String} : asT (.ty n) = none := rfl
theorem asT_ref {a : Addr} : asT (.ref a) = none := rfl
theorem asT_tup {xs : List D} : asT (.tup xs) = some xs := rfl
theorem asT_lst {xs : List D} : asT (.lst xs) = none := rfl
theorem asT_rol {xs : List D} : asT (.rol xs) = none := rfl
theorem asT_dct {kvs : List (D × D)} : asT (.dct kvs) = none := rfl
theorem asT_dtt {kvs : List (D × D)} : asT (.dtt kvs) = none := rfl
theorem asT_obj {C : Addr} {fs : List (Str × D)} : asT (.obj C fs) = none := rfl
theorem asT_exc {a : Addr} {dd : Addr} {C : Addr} {fs : List (Str × D)} : asT (.exc a dd C fs) = none := rfl
theorem asD_non {A : AH}  : asD A .non = none := rfl
theorem asD_bl {A : AH} {b : Bool} : asD A (.bl b) = none := rfl
theorem asD_int {A : AH} {i : Int} : asD A (.int i) = none := rfl
theorem asD_str {A : AH} {x : Str} : asD A (.str x) = none := rfl
theorem asD_ty {A : AH} {n : String} : asD A (.ty n) = none := rfl
theorem asD_ref {A : AH} {a : Addr} : asD A (.ref a) = dctO (A a) := by unfold asD dctO; rfl
theorem asD_tup {A : AH} {xs : List D} : asD A (.tup xs) = none := rfl
theorem asD_lst {A : AH} {xs : List D} : asD A (.lst xs) = none := rfl
theorem asD_rol {A : AH} {xs : List D} : asD A (.rol xs) = none := rfl
theorem asD_dct {A : AH} {kvs : List (D × D)} : asD A (.dct kvs) = some kvs := rfl
theorem asD_dtt {A : AH} {kvs : List (D × D)} : asD A (.dtt kvs) = none := rfl
theorem asD_obj {A : AH} {C : Addr} {fs : List (Str × D)} : asD A (.obj C fs) = none := rfl
theorem asD_exc {A : AH} {a : Addr} {dd : Addr} {C : Addr} {fs : List (Str × D)} : asD A (.exc a dd C fs) = none := rfl
theorem asO_non {A : AH}  : asO A .non = none := rfl
theorem asO_bl {A : AH} {b : Bool} : asO A (.bl b) = none := rfl
theorem asO_int {A : AH} {i : Int} : asO A (.int i) = none := rfl
theorem asO_str {A : AH} {x : Str} : asO A (.str x) = none := rfl
theorem asO_ty {A : AH} {n : String} : asO A (.ty n) = none := rfl
theorem asO_ref {A : AH} {a : Addr} : asO A (.ref a) = insO (A a) := by unfold asO insO; rfl
theorem asO_tup {A : AH} {xs : List D} : asO A (.tup xs) = none := rfl
theorem asO_lst {A : AH} {xs : List D} : asO A (.lst xs) = none := rfl
theorem asO_rol {A : AH} {xs : List D} : asO A (.rol xs) = none := rfl
theorem asO_dct {A : AH} {kvs : List (D × D)} : asO A (.dct kvs) = none := rfl
theorem asO_dtt {A : AH} {kvs : List (D × D)} : asO A (.dtt kvs) = none := rfl
theorem asO_obj {A : AH} {C : Addr} {fs : List (Str × D)} : asO A (.obj C fs) = some (C, fs) := rfl
theorem asO_exc {A : AH} {a : Addr} {dd : Addr} {C : Addr} {fs : List (Str × D)} : asO A (.exc a dd C fs) = none := rfl
theorem asQ_non {A : AH}  : asQ A .non = none := rfl
theorem asQ_bl {A : AH} {b : Bool} : asQ A (.bl b) = none := rfl
theorem asQ_int {A : AH} {i : Int} : asQ A (.int i) = none := rfl
theorem asQ_str {A : AH} {x : Str} : asQ A (.str x) = none := rfl
theorem asQ_ty {A : AH} {n : String} : asQ A (.ty n) = none := rfl
theorem asQ_ref {A : AH} {a : Addr} : asQ A (.ref a) = lstO (A a) := by unfold asQ; show (match lstO (A a) with | some xs => some xs | none => none) = lstO (A a); cases lstO (A a) <;> rfl
theorem asQ_tup {A : AH} {xs : List D} : asQ A (.tup xs) = some xs := rfl
theorem asQ_lst {A : AH} {xs : List D} : asQ A (.lst xs) = some xs := rfl
theorem asQ_rol {A : AH} {xs : List D} : asQ A (.rol xs) = some xs := rfl
theorem asQ_dct {A : AH} {kvs : List (D × D)} : asQ A (.dct kvs) = none := rfl
theorem asQ_dtt {A : AH} {kvs : List (D × D)} : asQ A (.dtt kvs) = none := rfl
theorem asQ_obj {A : AH} {C : Addr} {fs : List (Str × D)} : asQ A (.obj C fs) = none := rfl
theorem asQ_exc {A : AH} {a : Addr} {dd : Addr} {C : Addr} {fs : List (Str × D)} : asQ A (.exc a dd C fs) = none := rfl
theorem isNoD_non  : isNoD .non = true := rfl
theorem isNoD_bl {b : Bool} : isNoD (.bl b) = false := rfl
theorem isNoD_int {i : Int} : isNoD (.int i) = false := rfl
theorem isNoD_str {x : Str} : isNoD (.str x) = false := rfl
theorem isNoD_ty {n : String} : isNoD (.ty n) = false := rfl
theorem isNoD_ref {a : Addr} : isNoD (.ref a) = false := rfl
theorem isNoD_tup {xs : List D} : isNoD (.tup xs) = false := rfl
theorem isNoD_lst {xs : List D} : isNoD (.lst xs) = false := rfl
theorem isNoD_rol {xs : List D} : isNoD (.rol xs) = false := rfl
theorem isNoD_dct {kvs : List (D × D)} : isNoD (.dct kvs) = false := rfl
theorem isNoD_dtt {kvs : List (D × D)} : isNoD (.dtt kvs) = false := rfl
theorem isNoD_obj {C : Addr} {fs : List (Str × D)} : isNoD (.obj C fs) = false := rfl
theorem isNoD_exc {a : Addr} {dd : Addr} {C : Addr} {fs : List (Str × D)} : isNoD (.exc a dd C fs) = false := rfl
theorem scD_non  : scD .non = some .non := rfl
theorem scD_bl {b : Bool} : scD (.bl b) = some (.bl b) := rfl
theorem scD_int {i : Int} : scD (.int i) = some (.int i) := rfl
theorem scD_str {x : Str} : scD (.str x) = some (.str x) := rfl
theorem scD_ty {n : String} : scD (.ty n) = none := rfl
theorem scD_ref {a : Addr} : scD (.ref a) = none := rfl
theorem scD_tup {xs : List D} : scD (.tup xs) = none := rfl
theorem scD_lst {xs : List D} : scD (.lst xs) = none := rfl
theorem scD_rol {xs : List D} : scD (.rol xs) = none := rfl
theorem scD_dct {kvs : List (D × D)} : scD (.dct kvs) = none := rfl
theorem scD_dtt {kvs : List (D × D)} : scD (.dtt kvs) = none := rfl
theorem scD_obj {C : Addr} {fs : List (Str × D)} : scD (.obj C fs) = none := rfl
theorem scD_exc {a : Addr} {dd : Addr} {C : Addr} {fs : List (Str × D)} : scD (.exc a dd C fs) = none := rfl
theorem keyOf_non  : keyOf .non = none := rfl
theorem keyOf_bl {b : Bool} : keyOf (.bl b) = none := rfl
theorem keyOf_int {i : Int} : keyOf (.int i) = some (.inl i) := rfl
theorem keyOf_str {x : Str} : keyOf (.str x) = some (.inr x) := rfl
theorem keyOf_ty {n : String} : keyOf (.ty n) = none := rfl
theorem keyOf_ref {a : Addr} : keyOf (.ref a) = none := rfl
theorem keyOf_tup {xs : List D} : keyOf (.tup xs) = none := rfl
theorem keyOf_lst {xs : List D} : keyOf (.lst xs) = none := rfl
theorem keyOf_rol {xs : List D} : keyOf (.rol xs) = none := rfl
theorem keyOf_dct {kvs : List (D × D)} : keyOf (.dct kvs) = none := rfl
theorem keyOf_dtt {kvs : List (D × D)} : keyOf (.dtt kvs) = none := rfl
theorem keyOf_obj {C : Addr} {fs : List (Str × D)} : keyOf (.obj C fs) = none := rfl
theorem keyOf_exc {a : Addr} {dd : Addr} {C : Addr} {fs : List (Str × D)} : keyOf (.exc a dd C fs) = none := rfl
theorem kdD_non {A : AH}  : kdD A .non = "NoneType" := rfl
theorem kdD_bl {A : AH} {b : Bool} : kdD A (.bl b) = "bool" := rfl
theorem kdD_int {A : AH} {i : Int} : kdD A (.int i) = "int" := rfl
theorem kdD_str {A : AH} {x : Str} : kdD A (.str x) = "str" := rfl
theorem kdD_ty {A : AH} {n : String} : kdD A (.ty n) = "?" := rfl
theorem kdD_ref {A : AH} {a : Addr} : kdD A (.ref a) = kdOO (A a) := by unfold kdD kdOO; rfl
theorem kdD_tup {A : AH} {xs : List D} : kdD A (.tup xs) = "tuple" := rfl
theorem kdD_lst {A : AH} {xs : List D} : kdD A (.lst xs) = "list" := rfl
theorem kdD_rol {A : AH} {xs : List D} : kdD A (.rol xs) = "?" := rfl
theorem kdD_dct {A : AH} {kvs : List (D × D)} : kdD A (.dct kvs) = "dict" := rfl
theorem kdD_dtt {A : AH} {kvs : List (D × D)} : kdD A (.dtt kvs) = "?" := rfl
theorem kdD_obj {A : AH} {C : Addr} {fs : List (Str × D)} : kdD A (.obj C fs) = "?" := rfl
theorem kdD_exc {A : AH} {a : Addr} {dd : Addr} {C : Addr} {fs : List (Str × D)} : kdD A (.exc a dd C fs) = "?" := rfl
theorem topP_non {A : AH}  : topP A .non = toP .non := rfl
theorem topP_bl {A : AH} {b : Bool} : topP A (.bl b) = toP (.bl b) := rfl
theorem topP_int {A : AH} {i : Int} : topP A (.int i) = toP (.int i) := rfl
theorem topP_str {A : AH} {x : Str} : topP A (.str x) = toP (.str x) := rfl
theorem topP_ty {A : AH} {n : String} : topP A (.ty n) = toP (.ty n) := rfl
theorem topP_ref {A : AH} {a : Addr} : topP A (.ref a) = topO (A a) := by unfold topP topO; rfl
theorem topP_tup {A : AH} {xs : List D} : topP A (.tup xs) = toP (.tup xs) := rfl
theorem topP_lst {A : AH} {xs : List D} : topP A (.lst xs) = toP (.lst xs) := rfl
theorem topP_rol {A : AH} {xs : List D} : topP A (.rol xs) = toP (.rol xs) := rfl
theorem topP_dct {A : AH} {kvs : List (D × D)} : topP A (.dct kvs) = toP (.dct kvs) := rfl
theorem topP_dtt {A : AH} {kvs : List (D × D)} : topP A (.dtt kvs) = toP (.dtt kvs) := rfl
theorem topP_obj {A : AH} {C : Addr} {fs : List (Str × D)} : topP A (.obj C fs) = toP (.obj C fs) := rfl
theorem topP_exc {A : AH} {a : Addr} {dd : Addr} {C : Addr} {fs : List (Str × D)} : topP A (.exc a dd C fs) = toP (.exc a dd C fs) := rfl
theorem keyEq_ii {i j : Int} : keyEq (.int i) (.int j) = decide (i = j) := by rw [keyEq]
theorem keyEq_ss {x y : Str} : keyEq (.str x) (.str y) = decide (x = y) := by rw [keyEq]
theorem keyEq_is {i : Int} {y : Str} : keyEq (.int i) (.str y) = false := by rw [keyEq] <;> simp
theorem keyEq_si {i : Int} {y : Str} : keyEq (.str y) (.int i) = false := by rw [keyEq] <;> simp
end Av

set_option Elab.async false
set_option linter.all false
set_option maxRecDepth 100000
set_option maxHeartbeats 4000000
/-! own library Av, part 13: the readings as rules that are used from the outside inwards (written by mk13.py) -/
namespace Av
open PySem PySem.Spec PyProof.Rows L2 My
/-- there is a value, and then -/
def oK {α : Type} (o : Option α) (k : α → Prop) (_ : Tag k) : Prop := ∃ x, o = some x ∧ k x
theorem oK_some {α : Type} {x : α} {k : α → Prop} {w : Tag k} : oK (some x) k w = k x := by simp [oK]
theorem oK_none {α : Type} {k : α → Prop} {w : Tag k} : oK none k w = False := by simp [oK]
theorem oK_mk {α : Type} {o : Option α} {x : α} {k : α → Prop} {w : Tag k} (h : o = some x) (q : k x) : oK o k w := ⟨x, h, q⟩
theorem Call.mk {asp : ASp} {ds : List D} {A : AH} {Q : AQ} {E : AX} (h : asp ds A Q E) : Call asp ds A Q E ⟨⟩ := h
def Loop (gd : AH → Prop) (p : Pat) (tb : AS) (N : AEnds) (ds : List D) (δ : ASt) (A : AH) (_ : Tag (gd, tb, N)) : Prop := aLoop gd p tb N ds δ A
def LoopC (gd : AH → Prop) (p : Pat) (tt : AT) (te : AE) (δ : ASt) (ds acc : List D) (A : AH) (Q : List D → AH → Prop) (_ : Tag (gd, tt, te, Q)) : Prop := aComp gd p tt te δ ds acc A Q
def While (c : AT) (tb : AS) (N : AEnds) (δ : ASt) (A : AH) (_ : Tag (c, tb, N)) : Prop := aWhile c tb N δ A
def bindK (p : Pat) (d : D) (δ : ASt) (k : ASt → Prop) : Prop := ∃ δ', bindP p d δ = some δ' ∧ k δ'
def bindKs (p : List Pat) (d : List D) (δ : ASt) (k : ASt → Prop) : Prop := ∃ δ', bindPs p d δ = some δ' ∧ k δ'
theorem bindK_nm {i : Nat} {d : D} {δ : ASt} {k : ASt → Prop} : bindK (.nm i) d δ k = k (δ.set i (some d)) := by simp [bindK, bindP]
theorem bindK_tp {ps : List Pat} {ds : List D} {δ : ASt} {k : ASt → Prop} : bindK (.tp ps) (.tup ds) δ k = bindKs ps ds δ k := by simp [bindK, bindKs, bindP]
theorem bindKs_nil {δ : ASt} {k : ASt → Prop} : bindKs [] [] δ k = k δ := by simp [bindKs, bindPs]
theorem bindKs_cons {p : Pat} {ps : List Pat} {d : D} {ds : List D} {δ : ASt} {k : ASt → Prop} : bindKs (p :: ps) (d :: ds) δ k = bindK p d δ (fun δ' => bindKs ps ds δ' k) := by
  apply propext
  simp only [bindKs, bindK, bindPs]
  constructor
  · rintro ⟨δ', h, q⟩
    split at h
    · rename_i δ1 e; exact ⟨δ1, e, δ', h, q⟩
    · cases h
  · rintro ⟨δ1, e, δ', h, q⟩
    exact ⟨δ', by rw [e]; exact h, q⟩
def truK (A : AH) (d : D) (k : Bool → Prop) : Prop := lenOk d ∧ ∃ b, truD A d = some b ∧ k b
def oneK (ds : List D) (k : D → Prop) : Prop := ∃ v, ds = [v] ∧ k v
theorem oneK_eq {d : D} {k : D → Prop} : oneK [d] k = k d := by simp [oneK]
def twoK (ds : List D) (k : D → D → Prop) : Prop := ∃ v u, ds = [v, u] ∧ k v u
theorem twoK_eq {d e : D} {k : D → D → Prop} : twoK [d, e] k = k d e := by
  apply propext; constructor
  · rintro ⟨v, u, h, q⟩; cases h; exact q
  · intro h; exact ⟨d, e, rfl, h⟩
def ch1 : D → Option Nat
  | .str ⟨⟨[c]⟩⟩ => some c
  | _ => none
theorem ch1_str {c : Nat} : ch1 (.str ⟨#[c]⟩) = some c := rfl
theorem ch1_some {x : D} {c : Nat} (h : ch1 x = some c) : x = .str ⟨#[c]⟩ := by
  unfold ch1 at h
  split at h
  · cases h; rfl
  · cases h
theorem lstO_some {ob : Option AO} {xs : List D} (h : lstO ob = some xs) : ob = some (.lst xs) := by
  cases ob with
  | none => cases h
  | some u => cases u <;> cases h; rfl
theorem dctO_some {ob : Option AO} {xs : List (D × D)} (h : dctO ob = some xs) : ob = some (.dct xs) := by
  cases ob with
  | none => cases h
  | some u => cases u <;> cases h; rfl
section
variable {A : AH} {Q : AQ} {E : AX} {δ : ASt} {N : AEnds} {k : Bool → Prop}
theorem truK_non  : truK A .non k = k false := by simp [truK, lenOk, truD]
theorem truK_bl {b : Bool} : truK A (.bl b) k = k b := by simp [truK, lenOk, truD]
theorem truK_int {i : Int} : truK A (.int i) k = k (i != 0) := by simp [truK, lenOk, truD]
theorem truK_str {x : Str} : truK A (.str x) k = (x.length ≤ sizeLine ∧ k ((x.length : Int) != 0)) := by simp [truK, lenOk, truD]
theorem truK_tup {xs : List D} : truK A (.tup xs) k = k (!xs.isEmpty) := by
  apply propext
  constructor
  · rintro ⟨_, b, e, h⟩; cases e; exact h
  · intro h; exact ⟨trivial, _, rfl, h⟩
theorem truK_lst {xs : List D} : truK A (.lst xs) k = k (!xs.isEmpty) := by
  apply propext
  constructor
  · rintro ⟨_, b, e, h⟩; cases e; exact h
  · intro h; exact ⟨trivial, _, rfl, h⟩
theorem truK_ref {a : Addr} : truK A (.ref a) k = oK (truO (A a)) k ⟨⟩ := by simp only [truK, lenOk, truD_ref, true_and, oK]
theorem aSeq_eq {t u : AS} : aSeq t u N δ A = t { N with nx := u N } δ A := rfl
theorem aNext_eq  : aNext N δ A = N.nx δ A := rfl
theorem aBrk_eq  : aBrk N δ A = N.bk δ A := rfl
theorem aCont_eq  : aCont N δ A = N.ct δ A := rfl
theorem aDrop_eq {te : AE} : aDrop te N δ A = te δ A (fun _ A1 => N.nx δ A1) (fun C fs A1 => N.ex C fs δ A1) := rfl
theorem aRet_eq {te : AE} : aRet te N δ A = te δ A (fun d A1 => N.rt d A1) (fun C fs A1 => N.ex C fs δ A1) := rfl
theorem aRetN_eq  : aRetN N δ A = N.rt .non A := rfl
theorem aIfS_eq {c : AT} {t u : AS} : aIfS c t u N δ A = c δ A (fun b A1 => if b = true then t N δ A1 else u N δ A1) (fun C fs A1 => N.ex C fs δ A1) := rfl
theorem aAsg_eq {te : AE} {p : Pat} : aAsg te p N δ A = te δ A (fun d A1 => bindK p d δ (fun δ' => N.nx δ' A1)) (fun C fs A1 => N.ex C fs δ A1) := rfl
theorem aPar_eq {is : List Nat} {t : AA} : aPar is t N δ A = t δ A (fun ds A1 => bindKs (is.map .nm) ds δ (fun δ' => N.nx δ' A1)) (fun C fs A1 => N.ex C fs δ A1) := rfl
theorem aFor_eq {ti : AI} {p : Pat} {tb : AS} : aFor ti p tb N δ A = ti δ A (fun i A1 => Loop i.1 p tb N i.2 δ A1 ⟨⟩) (fun C fs A1 => N.ex C fs δ A1) := rfl
theorem aVar_0 {d : D} : aVar 0 (some d :: δ) A Q E = Q d A := by simp [aVar]
theorem aVar_s {d : Option D} {i : Nat} : aVar (i + 1) (d :: δ) A Q E = aVar i δ A Q E := by simp [aVar]
theorem aC_eq {d : D} : aC d δ A Q E = Q d A := rfl
theorem aOp_eq {g : G2} {ta tb : AE} : aOp g ta tb δ A Q E = ta δ A (fun x A1 => tb δ A1 (fun y A2 => g x y A2 Q E) E) E := rfl
theorem aUn_eq {g : G1} {ta : AE} : aUn g ta δ A Q E = ta δ A (fun x A1 => g x A1 Q E) E := rfl
def blK (d : D) (k : Bool → Prop) : Prop := ∃ c, d = .bl c ∧ k c
theorem blK_bl {b : Bool} : blK (.bl b) k = k b := by simp [blK]
theorem aB_eq {t : AE} {Q : Bool → AH → Prop} : aB t δ A Q E = t δ A (fun x A1 => blK x (fun c => Q c A1)) E := rfl
theorem aTru_eq {t : AE} {Q : Bool → AH → Prop} : aTru t δ A Q E = t δ A (fun x A1 => truK A1 x (fun c => Q c A1)) E := rfl
theorem aOrV_eq {ta tb : AE} : aOrV ta tb δ A Q E = ta δ A (fun x A1 => truK A1 x (fun b => if b = true then Q x A1 else tb δ A1 Q E)) E := rfl
theorem aAndV_eq {ta tb : AE} : aAndV ta tb δ A Q E = ta δ A (fun x A1 => truK A1 x (fun b => if b = true then tb δ A1 Q E else Q x A1)) E := rfl
theorem aNotV_eq {ta : AE} : aNotV ta δ A Q E = ta δ A (fun x A1 => truK A1 x (fun b => Q (.bl (!b)) A1)) E := rfl
theorem aAnd_eq {t u : AT} {Q : Bool → AH → Prop} : aAnd t u δ A Q E = t δ A (fun c A1 => if c = true then u δ A1 Q E else Q false A1) E := rfl
theorem aOr_eq {t u : AT} {Q : Bool → AH → Prop} : aOr t u δ A Q E = t δ A (fun c A1 => if c = true then Q true A1 else u δ A1 Q E) E := rfl
theorem aNot_eq {t : AT} {Q : Bool → AH → Prop} : aNot t δ A Q E = t δ A (fun c A1 => Q (!c) A1) E := rfl
theorem aYes_eq {Q : Bool → AH → Prop} : aYes δ A Q E = Q true A := rfl
theorem aIf_eq {t : AT} {ta tb : AE} : aIf t ta tb δ A Q E = t δ A (fun c A1 => if c = true then ta δ A1 Q E else tb δ A1 Q E) E := rfl
theorem aNil_eq {Q : List D → AH → Prop} : aNil δ A Q E = Q [] A := rfl
theorem aCons_eq {te : AE} {t : AA} {Q : List D → AH → Prop} : aCons te t δ A Q E = te δ A (fun x A1 => t δ A1 (fun xs A2 => Q (x :: xs) A2) E) E := rfl
theorem aTup_eq {t : AA} : aTup t δ A Q E = t δ A (fun xs A1 => xs.length ≤ sizeLine ∧ Q (.tup xs) A1) E := rfl
theorem aLst_eq {live : Bool} {t : AA} : aLst live t δ A Q E = t δ A (fun xs A1 => xs.length ≤ sizeLine ∧ aNew live (.lst xs) A1 Q) E := rfl
theorem aNew_t {ob : AO} : aNew true ob A Q = (∀ p, A p = none → Q (.ref p) (put A p ob)) := rfl
theorem aNew_f {ob : AO} : aNew false ob A Q = Q (frz ob) A := rfl
theorem frz_lst {xs : List D} : frz (.lst xs) = .lst xs := rfl
theorem frz_dct {xs : List (D × D)} : frz (.dct xs) = .dct xs := rfl
theorem frz_ins {C : Addr} {fs : List (Str × D)} : frz (.ins C fs) = .obj C fs := rfl
theorem aCB_eq {g : GA} {t : AA} : aCB g t δ A Q E = t δ A (fun xs A1 => g xs A1 Q E) E := rfl
theorem aCall_eq {g : ASp} {t : AA} : aCall g t δ A Q E = t δ A (fun xs A1 => Call g xs A1 Q E ⟨⟩) E := rfl
theorem aMeth_eq {C : Addr} {m : Str} {asp : ASp} {ta : AE} {t : AA} : aMeth C m asp ta t δ A Q E = ta δ A (fun x A1 => oK (asO A1 x) (fun z => z.1 = C ∧ z.2.lookup m = none ∧ t δ A1 (fun ds A2 => Call asp (x :: ds) A2 Q E ⟨⟩) E) ⟨⟩) E := by
  unfold aMeth
  congr 1
  funext x A1
  apply propext
  constructor
  · rintro ⟨⟨fs, e1, e2⟩, h⟩; exact ⟨(C, fs), e1, rfl, e2, h⟩
  · rintro ⟨⟨C', fs⟩, e1, rfl, e2, h⟩; exact ⟨⟨fs, e1, e2⟩, h⟩
theorem aProp_eq {C : Addr} {asp : ASp} {ta : AE} : aProp C asp ta δ A Q E = ta δ A (fun x A1 => oK (asO A1 x) (fun z => z.1 = C ∧ Call asp [x] A1 Q E ⟨⟩) ⟨⟩) E := by
  unfold aProp
  congr 1
  funext x A1
  apply propext
  constructor
  · rintro ⟨⟨fs, e1⟩, h⟩; exact ⟨(C, fs), e1, rfl, h⟩
  · rintro ⟨⟨C', fs⟩, e1, rfl, h⟩; exact ⟨⟨fs, e1⟩, h⟩
theorem aFld_eq {K : PySem.W.Frag} {f : Str} {ta : AE} : aFld K f ta δ A Q E = ta δ A (fun x A1 => oK (asO A1 x) (fun z => Cls K z.1 ∧ NoAttr K z.1 f ∧ oK (z.2.lookup f) (fun v => Q v A1) ⟨⟩) ⟨⟩) E := by
  unfold aFld
  congr 1
  funext x A1
  apply propext
  constructor
  · rintro ⟨C, fs, v, e1, e2, e3, e4, h⟩; exact ⟨(C, fs), e1, e2, e3, v, e4, h⟩
  · rintro ⟨⟨C, fs⟩, e1, e2, e3, v, e4, h⟩; exact ⟨C, fs, v, e1, e2, e3, e4, h⟩
def refK (d : D) (k : Addr → Prop) : Prop := ∃ a, d = .ref a ∧ k a
theorem refK_ref {a : Addr} {k : Addr → Prop} : refK (.ref a) k = k a := by simp [refK]
theorem aSetFld_eq {K : PySem.W.Frag} {f : Str} {ta tv : AE} : aSetFld K f ta tv N δ A = tv δ A (fun y A1 => ta δ A1 (fun x A2 => refK x (fun a => oK (insO (A2 a)) (fun z => Cls K z.1 ∧ NoAttr K z.1 f ∧ z.2.length < 1000 ∧ N.nx δ (put A2 a (.ins z.1 (putFA f y z.2)))) ⟨⟩)) (fun C fs A1 => N.ex C fs δ A1)) (fun C fs A1 => N.ex C fs δ A1) := by
  unfold aSetFld
  congr 1
  funext y A1
  congr 1
  funext x A2
  apply propext
  constructor
  · rintro ⟨a, C, fs, rfl, e1, e2, e3, e4, h⟩; exact ⟨a, rfl, (C, fs), by rw [e1]; rfl, e2, e3, e4, h⟩
  · rintro ⟨a, rfl, ⟨C, fs⟩, e1, e2, e3, e4, h⟩
    refine ⟨a, C, fs, rfl, ?_, e2, e3, e4, h⟩
    cases q : A2 a with
    | none => rw [q] at e1; cases e1
    | some u => rw [q] at e1; cases u <;> cases e1; rfl
theorem aRaise_eq {C : Addr} {fl : Str} {t : AA} : aRaise C fl t N δ A = t δ A (fun ds A1 => oneK ds (fun v => N.ex C [(fl, v)] δ A1)) (fun C fs A1 => N.ex C fs δ A1) := rfl
theorem aMake_t {C : Addr} {asp : ASp} {t : AA} : aMake true C asp t δ A Q E = t δ A (fun ds A1 => ∀ x, A1 x = none → Call asp (.ref x :: ds) (put A1 x (.ins C [])) (fun d A2 => d = .non ∧ Q (.ref x) A2) E ⟨⟩) E := rfl
theorem aMake_f {C : Addr} {asp : ASp} {t : AA} : aMake false C asp t δ A Q E = t δ A (fun ds A1 => ∀ x, A1 x = none → Call asp (.ref x :: ds) (put A1 x (.ins C [])) (fun d A2 => d = .non ∧ ∃ fs, A2 x = some (.ins C fs) ∧ Q (.obj C fs) (del A2 x)) E ⟨⟩) E := rfl
theorem aItL_eq {te : AE} {Q : IA → AH → Prop} : aItL te δ A Q E = te δ A (fun d A1 => oK (asL A1 d) (fun xs => Q (fun A => asL A d = some xs, xs) A1) ⟨⟩) E := rfl
theorem aItT_eq {te : AE} {Q : IA → AH → Prop} : aItT te δ A Q E = te δ A (fun d A1 => oK (asT d) (fun xs => Q (fun _ => True, xs) A1) ⟨⟩) E := rfl
def intK (d : D) (k : Int → Prop) : Prop := ∃ i, d = .int i ∧ k i
theorem intK_int {i : Int} {k : Int → Prop} : intK (.int i) k = k i := by simp [intK]
theorem aRng1_eq {t : AA} {Q : IA → AH → Prop} : aRng1 t δ A Q E = t δ A (fun ds A1 => oneK ds (fun d => intK d (fun j => -(2 ^ 62) ≤ j ∧ j < 2 ^ 62 ∧ Q (fun _ => True, rngL 0 j.toNat) A1))) E := by
  unfold aRng1
  congr 1
  funext ds A1
  apply propext
  constructor
  · rintro ⟨j, rfl, h⟩; exact ⟨_, rfl, j, rfl, h⟩
  · rintro ⟨_, rfl, j, rfl, h⟩; exact ⟨j, rfl, h⟩
theorem aRng2_eq {t : AA} {Q : IA → AH → Prop} : aRng2 t δ A Q E = t δ A (fun ds A1 => twoK ds (fun d e => intK d (fun i => intK e (fun j => (-(2 ^ 62) ≤ i ∧ i < 2 ^ 62 ∧ -(2 ^ 62) ≤ j ∧ j < 2 ^ 62) ∧ Q (fun _ => True, rngL i (j - i).toNat) A1)))) E := by
  unfold aRng2
  congr 1
  funext ds A1
  apply propext
  constructor
  · rintro ⟨i, j, rfl, h⟩; exact ⟨_, _, rfl, i, rfl, j, rfl, h⟩
  · rintro ⟨_, _, rfl, i, rfl, j, rfl, h⟩; exact ⟨i, j, rfl, h⟩
theorem aEnum_eq {t : AA} {Q : IA → AH → Prop} : aEnum t δ A Q E = t δ A (fun ds A1 => oneK ds (fun d => oK (asL A1 d) (fun xs => Q (fun A => asL A d = some xs, enumL xs) A1) ⟨⟩)) E := by
  unfold aEnum
  congr 1
  funext ds A1
  apply propext
  constructor
  · rintro ⟨d, xs, rfl, e, h⟩; exact ⟨_, rfl, xs, e, h⟩
  · rintro ⟨d, rfl, xs, e, h⟩; exact ⟨d, xs, rfl, e, h⟩
theorem aZip_eq {t : AA} {Q : IA → AH → Prop} : aZip t δ A Q E = t δ A (fun ds A1 => twoK ds (fun d e => oK (asL A1 d) (fun xs => oK (asL A1 e) (fun ys => Q (fun A => asL A d = some xs ∧ asL A e = some ys, zipL xs ys) A1) ⟨⟩) ⟨⟩)) E := by
  unfold aZip
  congr 1
  funext ds A1
  apply propext
  constructor
  · rintro ⟨d, e, xs, ys, rfl, e1, e2, h⟩; exact ⟨_, _, rfl, xs, e1, ys, e2, h⟩
  · rintro ⟨d, e, rfl, xs, e1, ys, e2, h⟩; exact ⟨d, e, xs, ys, rfl, e1, e2, h⟩
theorem aZipA_eq {t : AA} {Q : IA → AH → Prop} : aZipA t δ A Q E = t δ A (fun ds A1 => twoK ds (fun d e => zipK A1 d e (fun i => Q i A1))) E := rfl
theorem zipK_l {xs ys : List D} {k : IA → Prop} : zipK A (.lst xs) (.lst ys) k = k (fun A => asL A (.lst xs) = some xs ∧ asL A (.lst ys) = some ys, zipL xs ys) := by
  apply propext
  constructor
  · rintro (⟨_, _, h1, h2, h3⟩ | ⟨_, _, h1, _⟩)
    · cases h1; cases h2; exact h3
    · cases h1
  · intro h; exact .inl ⟨_, _, rfl, rfl, h⟩
theorem zipK_t {xs ys : List D} {k : IA → Prop} : zipK A (.tup xs) (.tup ys) k = k (fun _ => True, zipL xs ys) := by
  apply propext
  constructor
  · rintro (⟨_, _, h1, h2, h3⟩ | ⟨_, _, h1, h2, h3⟩)
    · cases h1
    · cases h1; cases h2; exact h3
  · intro h; exact .inr ⟨_, _, rfl, rfl, h⟩
def strK (d : D) (k : Str → Prop) : Prop := ∃ i, d = .str i ∧ k i
theorem strK_str {i : Str} {k : Str → Prop} : strK (.str i) k = k i := by simp [strK]
theorem aItS_eq {te : AE} {Q : IA → AH → Prop} : aItS te δ A Q E = te δ A (fun d A1 => strK d (fun x => Q (fun _ => True, chL x) A1)) E := rfl
theorem aLc_eq {live : Bool} {ti : AI} {p : Pat} {tt : AT} {te : AE} {vs : List Nat} : aLc live ti p tt te vs δ A Q E = ti δ A (fun i A1 => LoopC i.1 p tt te (wipeA δ vs) i.2 [] A1 (fun xs A2 => aNew live (.lst xs) A2 Q) ⟨⟩) E := rfl
theorem aTry_eq {K : PySem.W.Frag} {tb : AS} {l : List ACl} : aTry K tb l N δ A = tb { N with ex := fun C fs δ A => aHandle K N l C fs δ A } δ A := rfl
theorem aFldX_eq {a dd C CC : Addr} {fl : Str} {te : AE} : aFldX a dd C CC fl te δ A Q E = te δ A (fun x A1 => ∃ v, x = .exc a dd C [(fl, v)] ∧ C = CC ∧ Q v A1) E := rfl
theorem gI_eq {c : Int → Int → Prop} {g : Int → Int → D} {i j : Int} : gI c g (.int i) (.int j) A Q E = (c i j ∧ Q (g i j) A) := by simp [gI]
theorem gI0_eq {g : Int → Int → D} {i j : Int} : gI0 g (.int i) (.int j) A Q E = (Q (g i j) A) := by simp [gI0]
theorem gAdd_i {l : Bool} {i j : Int} : gAdd l (.int i) (.int j) A Q E = Q (.int (i + j)) A := by apply propext; simp [gAdd, gOr, gI0, gCatS, gCatL, gCatT, asX, oK, lstO]
theorem gAdd_s {l : Bool} {i j : Str} : gAdd l (.str i) (.str j) A Q E = (i.length + j.length ≤ sizeLine ∧ Q (.str (i ++ j)) A) := by apply propext; simp [gAdd, gOr, gI0, gCatS, gCatL, gCatT, asX, oK, lstO]
theorem gAdd_t {l : Bool} {i j : List D} : gAdd l (.tup i) (.tup j) A Q E = (i.length + j.length ≤ sizeLine ∧ Q (.tup (i ++ j)) A) := by apply propext; simp [gAdd, gOr, gI0, gCatS, gCatL, gCatT, asX, oK, lstO]
theorem gAdd_l {l : Bool} {i j : List D} : gAdd l (.lst i) (.lst j) A Q E = (i.length + j.length ≤ sizeLine ∧ aNew l (.lst (i ++ j)) A Q) := by apply propext; simp [gAdd, gOr, gI0, gCatS, gCatL, gCatT, asX, oK, lstO]
theorem gAdd_rl {l : Bool} {a : Addr} {j : List D} : gAdd l (.ref a) (.lst j) A Q E = oK (lstO (A a)) (fun i => i.length + j.length ≤ sizeLine ∧ aNew l (.lst (i ++ j)) A Q) ⟨⟩ := by
  apply propext
  simp only [gAdd, gOr, gI0, gCatS, gCatL, gCatT, asX_ref, asX_lst, oK, reduceCtorEq, false_and, exists_false, exists_const, false_or, or_false, Option.some.injEq, exists_and_left, exists_eq_left']
theorem gAdd_lr {l : Bool} {a : Addr} {i : List D} : gAdd l (.lst i) (.ref a) A Q E = oK (lstO (A a)) (fun j => i.length + j.length ≤ sizeLine ∧ aNew l (.lst (i ++ j)) A Q) ⟨⟩ := by
  apply propext
  simp only [gAdd, gOr, gI0, gCatS, gCatL, gCatT, asX_ref, asX_lst, oK, reduceCtorEq, false_and, exists_false, exists_const, false_or, or_false, Option.some.injEq, exists_and_left, exists_eq_left']
theorem gAdd_rr {l : Bool} {a b : Addr} : gAdd l (.ref a) (.ref b) A Q E = oK (lstO (A a)) (fun i => oK (lstO (A b)) (fun j => i.length + j.length ≤ sizeLine ∧ aNew l (.lst (i ++ j)) A Q) ⟨⟩) ⟨⟩ := by
  apply propext
  simp only [gAdd, gOr, gI0, gCatS, gCatL, gCatT, asX_ref, asX_lst, oK, reduceCtorEq, false_and, exists_false, exists_const, false_or, or_false, Option.some.injEq, exists_and_left, exists_eq_left']
theorem gMul_i {l : Bool} {i j : Int} : gMul l (.int i) (.int j) A Q E = (CMulW i j ∧ Q (.int (i * j)) A) := by apply propext; simp [gMul, gOr, gI, gRep, asX]
theorem gMul_l {l : Bool} {xs : List D} {j : Int} : gMul l (.lst xs) (.int j) A Q E = (-(2 ^ 63) ≤ j ∧ j < 2 ^ 63 ∧ xs.length * j.toNat ≤ sizeLine ∧ aNew l (.lst (List.replicate j.toNat xs).flatten) A Q) := by
  apply propext
  simp only [gMul, gOr, gI, gRep, asX_lst, reduceCtorEq, false_and, exists_false, exists_const, false_or, Option.some.injEq, D.int.injEq, exists_and_left, exists_eq_left']
theorem gNeg_eq {i : Int} : gNeg (.int i) A Q E = Q (.int (-i)) A := by simp [gNeg]
theorem gLt_i {i j : Int} : gLt (.int i) (.int j) A Q E = Q (.bl (decide (i < j))) A := by simp [gLt, gOr, gI0, gS]
theorem gLt_s {x y : Str} : gLt (.str x) (.str y) A Q E = Q (.bl (decide (x.cps.toList < y.cps.toList))) A := by simp [gLt, gOr, gI0, gS]
theorem gLe_i {i j : Int} : gLe (.int i) (.int j) A Q E = Q (.bl (decide (i ≤ j))) A := by simp [gLe, gOr, gI0, gS]
theorem gLe_s {x y : Str} : gLe (.str x) (.str y) A Q E = Q (.bl (!decide (y.cps.toList < x.cps.toList))) A := by simp [gLe, gOr, gI0, gS]
theorem gGt_i {i j : Int} : gGt (.int i) (.int j) A Q E = Q (.bl (decide (j < i))) A := by simp [gGt, gOr, gI0, gS]
theorem gGt_s {x y : Str} : gGt (.str x) (.str y) A Q E = Q (.bl (decide (y.cps.toList < x.cps.toList))) A := by simp [gGt, gOr, gI0, gS]
theorem gGe_i {i j : Int} : gGe (.int i) (.int j) A Q E = Q (.bl (decide (j ≤ i))) A := by simp [gGe, gOr, gI0, gS]
theorem gGe_s {x y : Str} : gGe (.str x) (.str y) A Q E = Q (.bl (!decide (x.cps.toList < y.cps.toList))) A := by simp [gGe, gOr, gI0, gS]
theorem gIs_f {x : D} : gIs false x .non A Q E = Q (.bl (isNoD x)) A := by simp [gIs]
theorem gIs_t {x : D} : gIs true x .non A Q E = Q (.bl (!isNoD x)) A := by simp [gIs]
theorem gEq_fii {i j : Int} : gEq false (.int i) (.int j) A Q E = Q (.bl (decide (i = j))) A := by simp [gEq, scD, scal]
theorem gEq_fss {i j : Str} : gEq false (.str i) (.str j) A Q E = Q (.bl (decide (i = j))) A := by simp [gEq, scD, scal]
theorem gEq_fbb {i j : Bool} : gEq false (.bl i) (.bl j) A Q E = Q (.bl (decide (i = j))) A := by simp [gEq, scD, scal]
theorem gEq_fnn  : gEq false .non .non A Q E = Q (.bl true) A := by simp [gEq, scD, scal]
theorem gEq_fns {j : Str} : gEq false .non (.str j) A Q E = Q (.bl false) A := by simp [gEq, scD, scal]
theorem gEq_fsn {j : Str} : gEq false (.str j) .non A Q E = Q (.bl false) A := by simp [gEq, scD, scal]
theorem gEq_fni {j : Int} : gEq false .non (.int j) A Q E = Q (.bl false) A := by simp [gEq, scD, scal]
theorem gEq_fin {j : Int} : gEq false (.int j) .non A Q E = Q (.bl false) A := by simp [gEq, scD, scal]
theorem gEq_fis {i : Int} {j : Str} : gEq false (.int i) (.str j) A Q E = Q (.bl false) A := by simp [gEq, scD, scal]
theorem gEq_fsi {i : Str} {j : Int} : gEq false (.str i) (.int j) A Q E = Q (.bl false) A := by simp [gEq, scD, scal]
theorem gEq_flstlst {xs : List D} {ys : List D} : gEq false (.lst xs) (.lst ys) A Q E = oK (topP A (.lst xs)) (fun d => oK (topP A (.lst ys)) (fun e => d.depth ≤ 64 ∧ e.depth ≤ 64 ∧ Q (.bl (PyData.eqv d e)) A) ⟨⟩) ⟨⟩ := by
  apply propext
  simp only [gEq, scD, gEqP, oK]
  constructor
  · rintro ⟨d, e, h1, h2, h3, h4, h5⟩; exact ⟨d, h1, e, h2, h3, h4, h5⟩
  · rintro ⟨d, h1, e, h2, h3, h4, h5⟩; exact ⟨d, e, h1, h2, h3, h4, h5⟩
theorem gEq_flsttup {xs : List D} {ys : List D} : gEq false (.lst xs) (.tup ys) A Q E = oK (topP A (.lst xs)) (fun d => oK (topP A (.tup ys)) (fun e => d.depth ≤ 64 ∧ e.depth ≤ 64 ∧ Q (.bl (PyData.eqv d e)) A) ⟨⟩) ⟨⟩ := by
  apply propext
  simp only [gEq, scD, gEqP, oK]
  constructor
  · rintro ⟨d, e, h1, h2, h3, h4, h5⟩; exact ⟨d, h1, e, h2, h3, h4, h5⟩
  · rintro ⟨d, h1, e, h2, h3, h4, h5⟩; exact ⟨d, e, h1, h2, h3, h4, h5⟩
theorem gEq_flstref {xs : List D} {b : Addr} : gEq false (.lst xs) (.ref b) A Q E = oK (topP A (.lst xs)) (fun d => oK (topP A (.ref b)) (fun e => d.depth ≤ 64 ∧ e.depth ≤ 64 ∧ Q (.bl (PyData.eqv d e)) A) ⟨⟩) ⟨⟩ := by
  apply propext
  simp only [gEq, scD, gEqP, oK]
  constructor
  · rintro ⟨d, e, h1, h2, h3, h4, h5⟩; exact ⟨d, h1, e, h2, h3, h4, h5⟩
  · rintro ⟨d, h1, e, h2, h3, h4, h5⟩; exact ⟨d, e, h1, h2, h3, h4, h5⟩
theorem gEq_ftuplst {xs : List D} {ys : List D} : gEq false (.tup xs) (.lst ys) A Q E = oK (topP A (.tup xs)) (fun d => oK (topP A (.lst ys)) (fun e => d.depth ≤ 64 ∧ e.depth ≤ 64 ∧ Q (.bl (PyData.eqv d e)) A) ⟨⟩) ⟨⟩ := by
  apply propext
  simp only [gEq, scD, gEqP, oK]
  constructor
  · rintro ⟨d, e, h1, h2, h3, h4, h5⟩; exact ⟨d, h1, e, h2, h3, h4, h5⟩
  · rintro ⟨d, h1, e, h2, h3, h4, h5⟩; exact ⟨d, e, h1, h2, h3, h4, h5⟩
theorem gEq_ftuptup {xs : List D} {ys : List D} : gEq false (.tup xs) (.tup ys) A Q E = oK (topP A (.tup xs)) (fun d => oK (topP A (.tup ys)) (fun e => d.depth ≤ 64 ∧ e.depth ≤ 64 ∧ Q (.bl (PyData.eqv d e)) A) ⟨⟩) ⟨⟩ := by
  apply propext
  simp only [gEq, scD, gEqP, oK]
  constructor
  · rintro ⟨d, e, h1, h2, h3, h4, h5⟩; exact ⟨d, h1, e, h2, h3, h4, h5⟩
  · rintro ⟨d, h1, e, h2, h3, h4, h5⟩; exact ⟨d, e, h1, h2, h3, h4, h5⟩
theorem gEq_ftupref {xs : List D} {b : Addr} : gEq false (.tup xs) (.ref b) A Q E = oK (topP A (.tup xs)) (fun d => oK (topP A (.ref b)) (fun e => d.depth ≤ 64 ∧ e.depth ≤ 64 ∧ Q (.bl (PyData.eqv d e)) A) ⟨⟩) ⟨⟩ := by
  apply propext
  simp only [gEq, scD, gEqP, oK]
  constructor
  · rintro ⟨d, e, h1, h2, h3, h4, h5⟩; exact ⟨d, h1, e, h2, h3, h4, h5⟩
  · rintro ⟨d, h1, e, h2, h3, h4, h5⟩; exact ⟨d, e, h1, h2, h3, h4, h5⟩
theorem gEq_freflst {a : Addr} {ys : List D} : gEq false (.ref a) (.lst ys) A Q E = oK (topP A (.ref a)) (fun d => oK (topP A (.lst ys)) (fun e => d.depth ≤ 64 ∧ e.depth ≤ 64 ∧ Q (.bl (PyData.eqv d e)) A) ⟨⟩) ⟨⟩ := by
  apply propext
  simp only [gEq, scD, gEqP, oK]
  constructor
  · rintro ⟨d, e, h1, h2, h3, h4, h5⟩; exact ⟨d, h1, e, h2, h3, h4, h5⟩
  · rintro ⟨d, h1, e, h2, h3, h4, h5⟩; exact ⟨d, e, h1, h2, h3, h4, h5⟩
theorem gEq_freftup {a : Addr} {ys : List D} : gEq false (.ref a) (.tup ys) A Q E = oK (topP A (.ref a)) (fun d => oK (topP A (.tup ys)) (fun e => d.depth ≤ 64 ∧ e.depth ≤ 64 ∧ Q (.bl (PyData.eqv d e)) A) ⟨⟩) ⟨⟩ := by
  apply propext
  simp only [gEq, scD, gEqP, oK]
  constructor
  · rintro ⟨d, e, h1, h2, h3, h4, h5⟩; exact ⟨d, h1, e, h2, h3, h4, h5⟩
  · rintro ⟨d, h1, e, h2, h3, h4, h5⟩; exact ⟨d, e, h1, h2, h3, h4, h5⟩
theorem gEq_frefref {a : Addr} {b : Addr} : gEq false (.ref a) (.ref b) A Q E = oK (topP A (.ref a)) (fun d => oK (topP A (.ref b)) (fun e => d.depth ≤ 64 ∧ e.depth ≤ 64 ∧ Q (.bl (PyData.eqv d e)) A) ⟨⟩) ⟨⟩ := by
  apply propext
  simp only [gEq, scD, gEqP, oK]
  constructor
  · rintro ⟨d, e, h1, h2, h3, h4, h5⟩; exact ⟨d, h1, e, h2, h3, h4, h5⟩
  · rintro ⟨d, h1, e, h2, h3, h4, h5⟩; exact ⟨d, e, h1, h2, h3, h4, h5⟩
theorem gIn_flst {x : D} {xs : List D} : gOr (gInQ false) (gInS false) x (.lst xs) A Q E = oK (scD x) (fun v => oK (scDs xs) (fun vs => Q (.bl (inV v vs)) A) ⟨⟩) ⟨⟩ := by
  apply propext
  unfold gOr gInQ gInS oK
  constructor
  · rintro (⟨xs', v, vs, h0, h1, h2, h3⟩ | ⟨c, z, h0, h1, h2⟩)
    · cases h0; exact ⟨v, h1, vs, h2, by simpa using h3⟩
    · cases h1
  · rintro ⟨v, h1, vs, h2, h3⟩; exact .inl ⟨xs, v, vs, rfl, h1, h2, by simpa using h3⟩
theorem gIn_ftup {x : D} {xs : List D} : gOr (gInQ false) (gInS false) x (.tup xs) A Q E = oK (scD x) (fun v => oK (scDs xs) (fun vs => Q (.bl (inV v vs)) A) ⟨⟩) ⟨⟩ := by
  apply propext
  unfold gOr gInQ gInS oK
  constructor
  · rintro (⟨xs', v, vs, h0, h1, h2, h3⟩ | ⟨c, z, h0, h1, h2⟩)
    · cases h0; exact ⟨v, h1, vs, h2, by simpa using h3⟩
    · cases h1
  · rintro ⟨v, h1, vs, h2, h3⟩; exact .inl ⟨xs, v, vs, rfl, h1, h2, by simpa using h3⟩
theorem gIn_fref {x : D} {a : Addr} : gOr (gInQ false) (gInS false) x (.ref a) A Q E = oK (lstO (A a)) (fun xs => oK (scD x) (fun v => oK (scDs xs) (fun vs => Q (.bl (inV v vs)) A) ⟨⟩) ⟨⟩) ⟨⟩ := by
  apply propext
  unfold gOr gInQ gInS oK
  constructor
  · rintro (⟨xs', v, vs, h0, h1, h2, h3⟩ | ⟨c, z, h0, h1, h2⟩)
    · rw [asQ_ref] at h0; exact ⟨xs', h0, v, h1, vs, h2, by simpa using h3⟩
    · cases h1
  · rintro ⟨xs, h0, v, h1, vs, h2, h3⟩; exact .inl ⟨xs, v, vs, by rw [asQ_ref]; exact h0, h1, h2, by simpa using h3⟩
theorem gIn_fstr {x : D} {z : Str} : gOr (gInQ false) (gInS false) x (.str z) A Q E = oK (ch1 x) (fun c => Q (.bl (decide (c ∈ z.cps.toList))) A) ⟨⟩ := by
  apply propext
  unfold gOr gInQ gInS oK
  constructor
  · rintro (⟨xs', v, vs, h0, h1, h2, h3⟩ | ⟨c, z', h0, h1, h2⟩)
    · cases h0
    · subst h0; cases h1; exact ⟨c, rfl, by simpa using h2⟩
  · rintro ⟨c, h0, h2⟩; exact .inr ⟨c, z, ch1_some h0, rfl, by simpa using h2⟩
theorem aInT_f {ta : AE} {t : AA} : aInT false ta t δ A Q E = ta δ A (fun x A1 => t δ A1 (fun xs A2 => xs.length ≤ sizeLine ∧ oK (scD x) (fun v => oK (scDs xs) (fun vs => Q (.bl (inV v vs)) A2) ⟨⟩) ⟨⟩) E) E := by
  unfold aInT
  congr 1
  funext x A1
  congr 1
  funext xs A2
  apply propext
  constructor
  · rintro ⟨v, vs, h0, h1, h2, h3⟩; exact ⟨h0, v, h1, vs, h2, by simpa using h3⟩
  · rintro ⟨h0, v, h1, vs, h2, h3⟩; exact ⟨v, vs, h0, h1, h2, by simpa using h3⟩
theorem gDIn_f {x y : D} : gDIn false x y A Q E = oK (asD A y) (fun kvs => oK (keyOf x) (fun _ => Q (.bl ((valD kvs x).isSome)) A) ⟨⟩) ⟨⟩ := by
  apply propext
  unfold gDIn oK
  constructor
  · rintro ⟨kvs, q, h1, h2, h3⟩; exact ⟨kvs, h1, q, h2, by simpa using h3⟩
  · rintro ⟨kvs, h1, q, h2, h3⟩; exact ⟨kvs, q, h1, h2, by simpa using h3⟩
theorem gInO_f {C : Addr} {asp : ASp} {x y : D} : gInO false C asp x y A Q E = oK (asO A y) (fun z => z.1 = C ∧ Call asp [y, x] A (fun r A' => blK r (fun b => Q (.bl (b)) A')) noX ⟨⟩) ⟨⟩ := by
  apply propext
  unfold gInO oK
  constructor
  · rintro ⟨fs, e1, h⟩; exact ⟨(C, fs), e1, rfl, h⟩
  · rintro ⟨⟨C', fs⟩, e1, rfl, h⟩; exact ⟨fs, e1, h⟩
theorem gEq_tii {i j : Int} : gEq true (.int i) (.int j) A Q E = Q (.bl (!decide (i = j))) A := by simp [gEq, scD, scal]
theorem gEq_tss {i j : Str} : gEq true (.str i) (.str j) A Q E = Q (.bl (!decide (i = j))) A := by simp [gEq, scD, scal]
theorem gEq_tbb {i j : Bool} : gEq true (.bl i) (.bl j) A Q E = Q (.bl (!decide (i = j))) A := by simp [gEq, scD, scal]
theorem gEq_tnn  : gEq true .non .non A Q E = Q (.bl false) A := by simp [gEq, scD, scal]
theorem gEq_tns {j : Str} : gEq true .non (.str j) A Q E = Q (.bl true) A := by simp [gEq, scD, scal]
theorem gEq_tsn {j : Str} : gEq true (.str j) .non A Q E = Q (.bl true) A := by simp [gEq, scD, scal]
theorem gEq_tni {j : Int} : gEq true .non (.int j) A Q E = Q (.bl true) A := by simp [gEq, scD, scal]
theorem gEq_tin {j : Int} : gEq true (.int j) .non A Q E = Q (.bl true) A := by simp [gEq, scD, scal]
theorem gEq_tis {i : Int} {j : Str} : gEq true (.int i) (.str j) A Q E = Q (.bl true) A := by simp [gEq, scD, scal]
theorem gEq_tsi {i : Str} {j : Int} : gEq true (.str i) (.int j) A Q E = Q (.bl true) A := by simp [gEq, scD, scal]
theorem gEq_tlstlst {xs : List D} {ys : List D} : gEq true (.lst xs) (.lst ys) A Q E = oK (topP A (.lst xs)) (fun d => oK (topP A (.lst ys)) (fun e => d.depth ≤ 64 ∧ e.depth ≤ 64 ∧ Q (.bl (!PyData.eqv d e)) A) ⟨⟩) ⟨⟩ := by
  apply propext
  simp only [gEq, scD, gEqP, oK]
  constructor
  · rintro ⟨d, e, h1, h2, h3, h4, h5⟩; exact ⟨d, h1, e, h2, h3, h4, h5⟩
  · rintro ⟨d, h1, e, h2, h3, h4, h5⟩; exact ⟨d, e, h1, h2, h3, h4, h5⟩
theorem gEq_tlsttup {xs : List D} {ys : List D} : gEq true (.lst xs) (.tup ys) A Q E = oK (topP A (.lst xs)) (fun d => oK (topP A (.tup ys)) (fun e => d.depth ≤ 64 ∧ e.depth ≤ 64 ∧ Q (.bl (!PyData.eqv d e)) A) ⟨⟩) ⟨⟩ := by
  apply propext
  simp only [gEq, scD, gEqP, oK]
  constructor
  · rintro ⟨d, e, h1, h2, h3, h4, h5⟩; exact ⟨d, h1, e, h2, h3, h4, h5⟩
  · rintro ⟨d, h1, e, h2, h3, h4, h5⟩; exact ⟨d, e, h1, h2, h3, h4, h5⟩
theorem gEq_tlstref {xs : List D} {b : Addr} : gEq true (.lst xs) (.ref b) A Q E = oK (topP A (.lst xs)) (fun d => oK (topP A (.ref b)) (fun e => d.depth ≤ 64 ∧ e.depth ≤ 64 ∧ Q (.bl (!PyData.eqv d e)) A) ⟨⟩) ⟨⟩ := by
  apply propext
  simp only [gEq, scD, gEqP, oK]
  constructor
  · rintro ⟨d, e, h1, h2, h3, h4, h5⟩; exact ⟨d, h1, e, h2, h3, h4, h5⟩
  · rintro ⟨d, h1, e, h2, h3, h4, h5⟩; exact ⟨d, e, h1, h2, h3, h4, h5⟩
theorem gEq_ttuplst {xs : List D} {ys : List D} : gEq true (.tup xs) (.lst ys) A Q E = oK (topP A (.tup xs)) (fun d => oK (topP A (.lst ys)) (fun e => d.depth ≤ 64 ∧ e.depth ≤ 64 ∧ Q (.bl (!PyData.eqv d e)) A) ⟨⟩) ⟨⟩ := by
  apply propext
  simp only [gEq, scD, gEqP, oK]
  constructor
  · rintro ⟨d, e, h1, h2, h3, h4, h5⟩; exact ⟨d, h1, e, h2, h3, h4, h5⟩
  · rintro ⟨d, h1, e, h2, h3, h4, h5⟩; exact ⟨d, e, h1, h2, h3, h4, h5⟩
theorem gEq_ttuptup {xs : List D} {ys : List D} : gEq true (.tup xs) (.tup ys) A Q E = oK (topP A (.tup xs)) (fun d => oK (topP A (.tup ys)) (fun e => d.depth ≤ 64 ∧ e.depth ≤ 64 ∧ Q (.bl (!PyData.eqv d e)) A) ⟨⟩) ⟨⟩ := by
  apply propext
  simp only [gEq, scD, gEqP, oK]
  constructor
  · rintro ⟨d, e, h1, h2, h3, h4, h5⟩; exact ⟨d, h1, e, h2, h3, h4, h5⟩
  · rintro ⟨d, h1, e, h2, h3, h4, h5⟩; exact ⟨d, e, h1, h2, h3, h4, h5⟩
theorem gEq_ttupref {xs : List D} {b : Addr} : gEq true (.tup xs) (.ref b) A Q E = oK (topP A (.tup xs)) (fun d => oK (topP A (.ref b)) (fun e => d.depth ≤ 64 ∧ e.depth ≤ 64 ∧ Q (.bl (!PyData.eqv d e)) A) ⟨⟩) ⟨⟩ := by
  apply propext
  simp only [gEq, scD, gEqP, oK]
  constructor
  · rintro ⟨d, e, h1, h2, h3, h4, h5⟩; exact ⟨d, h1, e, h2, h3, h4, h5⟩
  · rintro ⟨d, h1, e, h2, h3, h4, h5⟩; exact ⟨d, e, h1, h2, h3, h4, h5⟩
theorem gEq_treflst {a : Addr} {ys : List D} : gEq true (.ref a) (.lst ys) A Q E = oK (topP A (.ref a)) (fun d => oK (topP A (.lst ys)) (fun e => d.depth ≤ 64 ∧ e.depth ≤ 64 ∧ Q (.bl (!PyData.eqv d e)) A) ⟨⟩) ⟨⟩ := by
  apply propext
  simp only [gEq, scD, gEqP, oK]
  constructor
  · rintro ⟨d, e, h1, h2, h3, h4, h5⟩; exact ⟨d, h1, e, h2, h3, h4, h5⟩
  · rintro ⟨d, h1, e, h2, h3, h4, h5⟩; exact ⟨d, e, h1, h2, h3, h4, h5⟩
theorem gEq_treftup {a : Addr} {ys : List D} : gEq true (.ref a) (.tup ys) A Q E = oK (topP A (.ref a)) (fun d => oK (topP A (.tup ys)) (fun e => d.depth ≤ 64 ∧ e.depth ≤ 64 ∧ Q (.bl (!PyData.eqv d e)) A) ⟨⟩) ⟨⟩ := by
  apply propext
  simp only [gEq, scD, gEqP, oK]
  constructor
  · rintro ⟨d, e, h1, h2, h3, h4, h5⟩; exact ⟨d, h1, e, h2, h3, h4, h5⟩
  · rintro ⟨d, h1, e, h2, h3, h4, h5⟩; exact ⟨d, e, h1, h2, h3, h4, h5⟩
theorem gEq_trefref {a : Addr} {b : Addr} : gEq true (.ref a) (.ref b) A Q E = oK (topP A (.ref a)) (fun d => oK (topP A (.ref b)) (fun e => d.depth ≤ 64 ∧ e.depth ≤ 64 ∧ Q (.bl (!PyData.eqv d e)) A) ⟨⟩) ⟨⟩ := by
  apply propext
  simp only [gEq, scD, gEqP, oK]
  constructor
  · rintro ⟨d, e, h1, h2, h3, h4, h5⟩; exact ⟨d, h1, e, h2, h3, h4, h5⟩
  · rintro ⟨d, h1, e, h2, h3, h4, h5⟩; exact ⟨d, e, h1, h2, h3, h4, h5⟩
theorem gIn_tlst {x : D} {xs : List D} : gOr (gInQ true) (gInS true) x (.lst xs) A Q E = oK (scD x) (fun v => oK (scDs xs) (fun vs => Q (.bl (!inV v vs)) A) ⟨⟩) ⟨⟩ := by
  apply propext
  unfold gOr gInQ gInS oK
  constructor
  · rintro (⟨xs', v, vs, h0, h1, h2, h3⟩ | ⟨c, z, h0, h1, h2⟩)
    · cases h0; exact ⟨v, h1, vs, h2, by simpa using h3⟩
    · cases h1
  · rintro ⟨v, h1, vs, h2, h3⟩; exact .inl ⟨xs, v, vs, rfl, h1, h2, by simpa using h3⟩
theorem gIn_ttup {x : D} {xs : List D} : gOr (gInQ true) (gInS true) x (.tup xs) A Q E = oK (scD x) (fun v => oK (scDs xs) (fun vs => Q (.bl (!inV v vs)) A) ⟨⟩) ⟨⟩ := by
  apply propext
  unfold gOr gInQ gInS oK
  constructor
  · rintro (⟨xs', v, vs, h0, h1, h2, h3⟩ | ⟨c, z, h0, h1, h2⟩)
    · cases h0; exact ⟨v, h1, vs, h2, by simpa using h3⟩
    · cases h1
  · rintro ⟨v, h1, vs, h2, h3⟩; exact .inl ⟨xs, v, vs, rfl, h1, h2, by simpa using h3⟩
theorem gIn_tref {x : D} {a : Addr} : gOr (gInQ true) (gInS true) x (.ref a) A Q E = oK (lstO (A a)) (fun xs => oK (scD x) (fun v => oK (scDs xs) (fun vs => Q (.bl (!inV v vs)) A) ⟨⟩) ⟨⟩) ⟨⟩ := by
  apply propext
  unfold gOr gInQ gInS oK
  constructor
  · rintro (⟨xs', v, vs, h0, h1, h2, h3⟩ | ⟨c, z, h0, h1, h2⟩)
    · rw [asQ_ref] at h0; exact ⟨xs', h0, v, h1, vs, h2, by simpa using h3⟩
    · cases h1
  · rintro ⟨xs, h0, v, h1, vs, h2, h3⟩; exact .inl ⟨xs, v, vs, by rw [asQ_ref]; exact h0, h1, h2, by simpa using h3⟩
theorem gIn_tstr {x : D} {z : Str} : gOr (gInQ true) (gInS true) x (.str z) A Q E = oK (ch1 x) (fun c => Q (.bl (!decide (c ∈ z.cps.toList))) A) ⟨⟩ := by
  apply propext
  unfold gOr gInQ gInS oK
  constructor
  · rintro (⟨xs', v, vs, h0, h1, h2, h3⟩ | ⟨c, z', h0, h1, h2⟩)
    · cases h0
    · subst h0; cases h1; exact ⟨c, rfl, by simpa using h2⟩
  · rintro ⟨c, h0, h2⟩; exact .inr ⟨c, z, ch1_some h0, rfl, by simpa using h2⟩
theorem aInT_t {ta : AE} {t : AA} : aInT true ta t δ A Q E = ta δ A (fun x A1 => t δ A1 (fun xs A2 => xs.length ≤ sizeLine ∧ oK (scD x) (fun v => oK (scDs xs) (fun vs => Q (.bl (!inV v vs)) A2) ⟨⟩) ⟨⟩) E) E := by
  unfold aInT
  congr 1
  funext x A1
  congr 1
  funext xs A2
  apply propext
  constructor
  · rintro ⟨v, vs, h0, h1, h2, h3⟩; exact ⟨h0, v, h1, vs, h2, by simpa using h3⟩
  · rintro ⟨h0, v, h1, vs, h2, h3⟩; exact ⟨v, vs, h0, h1, h2, by simpa using h3⟩
theorem gDIn_t {x y : D} : gDIn true x y A Q E = oK (asD A y) (fun kvs => oK (keyOf x) (fun _ => Q (.bl (!(valD kvs x).isSome)) A) ⟨⟩) ⟨⟩ := by
  apply propext
  unfold gDIn oK
  constructor
  · rintro ⟨kvs, q, h1, h2, h3⟩; exact ⟨kvs, h1, q, h2, by simpa using h3⟩
  · rintro ⟨kvs, h1, q, h2, h3⟩; exact ⟨kvs, q, h1, h2, by simpa using h3⟩
theorem gInO_t {C : Addr} {asp : ASp} {x y : D} : gInO true C asp x y A Q E = oK (asO A y) (fun z => z.1 = C ∧ Call asp [y, x] A (fun r A' => blK r (fun b => Q (.bl (!b)) A')) noX ⟨⟩) ⟨⟩ := by
  apply propext
  unfold gInO oK
  constructor
  · rintro ⟨fs, e1, h⟩; exact ⟨(C, fs), e1, rfl, h⟩
  · rintro ⟨⟨C', fs⟩, e1, rfl, h⟩; exact ⟨fs, e1, h⟩
theorem gDGet_eq {x y : D} : gDGet x y A Q E = oK (asD A x) (fun kvs => oK (keyOf y) (fun _ => oK (valD kvs y) (fun v => Q v A) ⟨⟩) ⟨⟩) ⟨⟩ := by
  apply propext
  unfold gDGet oK
  constructor
  · rintro ⟨kvs, q, v, h1, h2, h3, h4⟩; exact ⟨kvs, h1, q, h2, v, h3, h4⟩
  · rintro ⟨kvs, h1, q, h2, v, h3, h4⟩; exact ⟨kvs, q, v, h1, h2, h3, h4⟩
theorem aDPut_eq {td ty tv : AE} : aDPut td ty tv N δ A = tv δ A (fun v A1 => td δ A1 (fun x A2 => ty δ A2 (fun y A3 => refK x (fun a => oK (dctO (A3 a)) (fun kvs => oK (keyOf y) (fun _ => kvs.length < sizeLine ∧ N.nx δ (put A3 a (.dct (putD kvs y v)))) ⟨⟩) ⟨⟩)) (fun C fs A1 => N.ex C fs δ A1)) (fun C fs A1 => N.ex C fs δ A1)) (fun C fs A1 => N.ex C fs δ A1) := by
  unfold aDPut
  congr 1
  funext v A1
  congr 1
  funext x A2
  congr 1
  funext y A3
  apply propext
  constructor
  · rintro ⟨a, kvs, q, rfl, h1, h2, h3⟩; exact ⟨a, rfl, kvs, by rw [h1]; rfl, q, h2, h3⟩
  · rintro ⟨a, rfl, kvs, h1, q, h2, h3⟩; exact ⟨a, kvs, q, rfl, dctO_some h1, h2, h3⟩
theorem aDGet2_eq {td ty tx : AE} : aDGet2 td ty tx δ A Q E = td δ A (fun x A1 => oK (asD A1 x) (fun _ => ty δ A1 (fun y A2 => tx δ A2 (fun z A3 => oK (asD A3 x) (fun kvs => oK (keyOf y) (fun _ => Q ((valD kvs y).getD z) A3) ⟨⟩) ⟨⟩) E) E) ⟨⟩) E := by
  unfold aDGet2
  congr 1
  funext x A1
  have e : ∀ (y : D), (fun z A3 => ∃ kvs q, asD A3 x = some kvs ∧ keyOf y = some q ∧ Q ((valD kvs y).getD z) A3) = (fun z A3 => oK (asD A3 x) (fun kvs => oK (keyOf y) (fun _ => Q ((valD kvs y).getD z) A3) ⟨⟩) ⟨⟩) := by
    intro y; funext z A3; apply propext; constructor
    · rintro ⟨kvs, q, h1, h2, h3⟩; exact ⟨kvs, h1, q, h2, h3⟩
    · rintro ⟨kvs, h1, q, h2, h3⟩; exact ⟨kvs, q, h1, h2, h3⟩
  simp only [e]
  apply propext
  constructor
  · rintro ⟨⟨kvs, h1⟩, h2⟩; exact ⟨kvs, h1, h2⟩
  · rintro ⟨kvs, h1, h2⟩; exact ⟨⟨kvs, h1⟩, h2⟩
theorem aDGet1_eq {td ty : AE} : aDGet1 td ty δ A Q E = td δ A (fun x A1 => oK (asD A1 x) (fun _ => ty δ A1 (fun y A3 => oK (asD A3 x) (fun kvs => oK (keyOf y) (fun _ => Q ((valD kvs y).getD .non) A3) ⟨⟩) ⟨⟩) E) ⟨⟩) E := by
  unfold aDGet1
  congr 1
  funext x A1
  have e : (fun y A3 => ∃ kvs q, asD A3 x = some kvs ∧ keyOf y = some q ∧ Q ((valD kvs y).getD .non) A3) = (fun y A3 => oK (asD A3 x) (fun kvs => oK (keyOf y) (fun _ => Q ((valD kvs y).getD .non) A3) ⟨⟩) ⟨⟩) := by
    funext y A3; apply propext; constructor
    · rintro ⟨kvs, q, h1, h2, h3⟩; exact ⟨kvs, h1, q, h2, h3⟩
    · rintro ⟨kvs, h1, q, h2, h3⟩; exact ⟨kvs, q, h1, h2, h3⟩
  simp only [e]
  apply propext
  constructor
  · rintro ⟨⟨kvs, h1⟩, h2⟩; exact ⟨kvs, h1, h2⟩
  · rintro ⟨kvs, h1, h2⟩; exact ⟨⟨kvs, h1⟩, h2⟩
theorem gSubs_lst {xs : List D} {i : Int} : gSubs (.lst xs) (.int i) A Q E = oK (atI xs i) (fun v => Q v A) ⟨⟩ := by
  apply propext
  unfold gSubs gOr gIx gIxS oK
  constructor
  · rintro (⟨xs', i', v, h0, h1, h2, h3⟩ | ⟨z, i', c, h0, h1, h2⟩)
    · cases h0; cases h1; exact ⟨v, h2, h3⟩
    · cases h0
  · rintro ⟨v, h2, h3⟩; exact .inl ⟨xs, i, v, rfl, rfl, h2, h3⟩
theorem gSubs_tup {xs : List D} {i : Int} : gSubs (.tup xs) (.int i) A Q E = oK (atI xs i) (fun v => Q v A) ⟨⟩ := by
  apply propext
  unfold gSubs gOr gIx gIxS oK
  constructor
  · rintro (⟨xs', i', v, h0, h1, h2, h3⟩ | ⟨z, i', c, h0, h1, h2⟩)
    · cases h0; cases h1; exact ⟨v, h2, h3⟩
    · cases h0
  · rintro ⟨v, h2, h3⟩; exact .inl ⟨xs, i, v, rfl, rfl, h2, h3⟩
theorem gSubs_rol {xs : List D} {i : Int} : gSubs (.rol xs) (.int i) A Q E = oK (atI xs i) (fun v => Q v A) ⟨⟩ := by
  apply propext
  unfold gSubs gOr gIx gIxS oK
  constructor
  · rintro (⟨xs', i', v, h0, h1, h2, h3⟩ | ⟨z, i', c, h0, h1, h2⟩)
    · cases h0; cases h1; exact ⟨v, h2, h3⟩
    · cases h0
  · rintro ⟨v, h2, h3⟩; exact .inl ⟨xs, i, v, rfl, rfl, h2, h3⟩
theorem gSubs_ref {a : Addr} {i : Int} : gSubs (.ref a) (.int i) A Q E = oK (lstO (A a)) (fun xs => oK (atI xs i) (fun v => Q v A) ⟨⟩) ⟨⟩ := by
  apply propext
  unfold gSubs gOr gIx gIxS oK
  constructor
  · rintro (⟨xs', i', v, h0, h1, h2, h3⟩ | ⟨z, i', c, h0, h1, h2⟩)
    · rw [asQ_ref] at h0; cases h1; exact ⟨xs', h0, v, h2, h3⟩
    · cases h0
  · rintro ⟨xs, h0, v, h2, h3⟩; exact .inl ⟨xs, i, v, by rw [asQ_ref]; exact h0, rfl, h2, h3⟩
theorem gSubs_str {z : Str} {i : Int} : gSubs (.str z) (.int i) A Q E = (z.length ≤ sizeLine ∧ oK (atI z.cps.toList i) (fun c => Q (.str ⟨#[c]⟩) A) ⟨⟩) := by
  apply propext
  unfold gSubs gOr gIx gIxS oK
  constructor
  · rintro (⟨xs', i', v, h0, h1, h2, h3⟩ | ⟨z', i', c, h0, h1, h2, h3, h4⟩)
    · cases h0
    · cases h0; cases h1; exact ⟨h2, c, h3, h4⟩
  · rintro ⟨h2, c, h3, h4⟩; exact .inr ⟨z, i, c, rfl, rfl, h2, h3, h4⟩
theorem gLen_lst {xs : List D} : gaOr gLenQ gLenS [.lst xs] A Q E = oK (asQ A (.lst xs)) (fun ys => Q (.int (ys.length : Int)) A) ⟨⟩ := by
  apply propext
  unfold gaOr gLenQ gLenS oK
  constructor
  · rintro (⟨d, ys, h0, h1, h2⟩ | ⟨z, h0, h1⟩)
    · cases h0; exact ⟨ys, h1, h2⟩
    · cases h0
  · rintro ⟨ys, h1, h2⟩; exact .inl ⟨_, ys, rfl, h1, h2⟩
theorem gLen_tup {xs : List D} : gaOr gLenQ gLenS [.tup xs] A Q E = oK (asQ A (.tup xs)) (fun ys => Q (.int (ys.length : Int)) A) ⟨⟩ := by
  apply propext
  unfold gaOr gLenQ gLenS oK
  constructor
  · rintro (⟨d, ys, h0, h1, h2⟩ | ⟨z, h0, h1⟩)
    · cases h0; exact ⟨ys, h1, h2⟩
    · cases h0
  · rintro ⟨ys, h1, h2⟩; exact .inl ⟨_, ys, rfl, h1, h2⟩
theorem gLen_rol {xs : List D} : gaOr gLenQ gLenS [.rol xs] A Q E = oK (asQ A (.rol xs)) (fun ys => Q (.int (ys.length : Int)) A) ⟨⟩ := by
  apply propext
  unfold gaOr gLenQ gLenS oK
  constructor
  · rintro (⟨d, ys, h0, h1, h2⟩ | ⟨z, h0, h1⟩)
    · cases h0; exact ⟨ys, h1, h2⟩
    · cases h0
  · rintro ⟨ys, h1, h2⟩; exact .inl ⟨_, ys, rfl, h1, h2⟩
theorem gLen_ref {xs : Addr} : gaOr gLenQ gLenS [.ref xs] A Q E = oK (asQ A (.ref xs)) (fun ys => Q (.int (ys.length : Int)) A) ⟨⟩ := by
  apply propext
  unfold gaOr gLenQ gLenS oK
  constructor
  · rintro (⟨d, ys, h0, h1, h2⟩ | ⟨z, h0, h1⟩)
    · cases h0; exact ⟨ys, h1, h2⟩
    · cases h0
  · rintro ⟨ys, h1, h2⟩; exact .inl ⟨_, ys, rfl, h1, h2⟩
theorem gLen_str {z : Str} : gaOr gLenQ gLenS [.str z] A Q E = (z.length ≤ sizeLine ∧ Q (.int (z.length : Int)) A) := by
  apply propext
  unfold gaOr gLenQ gLenS
  constructor
  · rintro (⟨d, ys, h0, h1, h2⟩ | ⟨z, h0, h1⟩)
    · cases h0; cases h1
    · cases h0; exact h1
  · intro h; exact .inr ⟨_, rfl, h⟩
theorem gList_eq {l : Bool} {d : D} : gList l [d] A Q E = oK (asQ A d) (fun ys => aNew l (.lst ys) A Q) ⟨⟩ := by
  apply propext
  unfold gList oK
  constructor
  · rintro ⟨d, ys, h0, h1, h2⟩; cases h0; exact ⟨ys, h1, h2⟩
  · rintro ⟨ys, h1, h2⟩; exact ⟨_, ys, rfl, h1, h2⟩
theorem gTuple_eq {d : D} : gTuple [d] A Q E = oK (asQ A d) (fun ys => Q (.tup ys) A) ⟨⟩ := by
  apply propext
  unfold gTuple oK
  constructor
  · rintro ⟨d, ys, h0, h1, h2⟩; cases h0; exact ⟨ys, h1, h2⟩
  · rintro ⟨ys, h1, h2⟩; exact ⟨_, ys, rfl, h1, h2⟩
theorem gInt_i {i : Int} : gInt [.int i] A Q E = Q (.int i) A := by simp [gInt]
theorem gInt_b {b : Bool} : gInt [.bl b] A Q E = Q (.int (if b then 1 else 0)) A := by simp [gInt]
theorem gAbs_eq {i : Int} : gAbs [.int i] A Q E = Q (.int (if i < 0 then -i else i)) A := by simp [gAbs]
theorem gMax_eq {i j : Int} : gMax [.int i, .int j] A Q E = Q (.int (if j > i then j else i)) A := by
  apply propext
  constructor
  · rintro ⟨i, j, e, h⟩; cases e; exact h
  · intro h; exact ⟨_, _, rfl, h⟩
theorem gMin_eq {i j : Int} : gMin [.int i, .int j] A Q E = Q (.int (if j < i then j else i)) A := by
  apply propext
  constructor
  · rintro ⟨i, j, e, h⟩; cases e; exact h
  · intro h; exact ⟨_, _, rfl, h⟩
theorem gStr_eq {i : Int} : gStr [.int i] A Q E = (i.natAbs.log2 < 1920 ∧ Q (.str (toString i)) A) := by simp [gStr]
theorem gBool_eq {b : Bool} : gBool [.bl b] A Q E = Q (.bl b) A := by simp [gBool]
theorem gAll_eq {d : D} : gAll [d] A Q E = oK (asX A d) (fun ys => oK (blsOf ys) (fun bs => Q (.bl (bs.all id)) A) ⟨⟩) ⟨⟩ := by
  apply propext
  unfold gAll oK
  constructor
  · rintro ⟨d, ys, bs, h0, h1, h2, h3⟩; cases h0; exact ⟨ys, h1, bs, h2, h3⟩
  · rintro ⟨ys, h1, bs, h2, h3⟩; exact ⟨_, ys, bs, rfl, h1, h2, h3⟩
theorem gAny_eq {d : D} : gAny [d] A Q E = oK (asX A d) (fun ys => oK (blsOf ys) (fun bs => Q (.bl (bs.any id)) A) ⟨⟩) ⟨⟩ := by
  apply propext
  unfold gAny oK
  constructor
  · rintro ⟨d, ys, bs, h0, h1, h2, h3⟩; cases h0; exact ⟨ys, h1, bs, h2, h3⟩
  · rintro ⟨ys, h1, bs, h2, h3⟩; exact ⟨_, ys, bs, rfl, h1, h2, h3⟩
theorem gIsi_eq {d : D} {n : String} : gIsi [d, .ty n] A Q E = (¬ kdD A d = "?" ∧ oK (kitB (kdD A d) n) (fun b => Q (.bl b) A) ⟨⟩) := by
  apply propext
  unfold gIsi oK
  constructor
  · rintro ⟨d, n, h0, h1, h2⟩; cases h0; exact ⟨h1, h2⟩
  · rintro ⟨h1, h2⟩; exact ⟨_, _, rfl, h1, h2⟩
theorem gIsi2_eq {d : D} {m n : String} : gIsi2 [d, .tup [.ty m, .ty n]] A Q E = (¬ kdD A d = "?" ∧ oK (kitB (kdD A d) m) (fun b => oK (kitB (kdD A d) n) (fun c => Q (.bl (b || c)) A) ⟨⟩) ⟨⟩) := by
  apply propext
  unfold gIsi2 oK
  constructor
  · rintro ⟨d, m, n, h0, h1, b, c, h2, h3, h4⟩; cases h0; exact ⟨h1, b, h2, c, h3, h4⟩
  · rintro ⟨h1, b, h2, c, h3, h4⟩; exact ⟨_, _, _, rfl, h1, b, c, h2, h3, h4⟩
theorem aBM_eq {g : GM} {to : AE} {t : AA} : aBM g to t δ A Q E = to δ A (fun x A1 => refK x (fun l => oK (lstO (A1 l)) (fun _ => t δ A1 (fun ds A2 => g l ds A2 Q E) E) ⟨⟩)) E := by
  unfold aBM
  congr 1
  funext x A1
  apply propext
  constructor
  · rintro ⟨l, rfl, ⟨ys, h1⟩, h2⟩; exact ⟨l, rfl, ys, by rw [h1]; rfl, h2⟩
  · rintro ⟨l, rfl, ys, h1, h2⟩; exact ⟨l, rfl, ⟨ys, lstO_some h1⟩, h2⟩
theorem gmAppend_eq {l : Addr} {y : D} : gmAppend l [y] A Q E = oK (lstO (A l)) (fun ys => ys.length < sizeLine ∧ Q .non (put A l (.lst (ys ++ [y])))) ⟨⟩ := by
  apply propext
  unfold gmAppend oK
  constructor
  · rintro ⟨y, ys, h0, h1, h2⟩; cases h0; exact ⟨ys, by rw [h1]; rfl, h2⟩
  · rintro ⟨ys, h1, h2⟩; exact ⟨_, ys, rfl, lstO_some h1, h2⟩
theorem gmPop_eq {l : Addr} : gmPop l [] A Q E = oK (lstO (A l)) (fun ys => oK ys[ys.length - 1]? (fun y => Q y (put A l (.lst ys.dropLast))) ⟨⟩) ⟨⟩ := by
  apply propext
  unfold gmPop oK
  constructor
  · rintro ⟨ys, y, h0, h1, h2, h3⟩; exact ⟨ys, by rw [h1]; rfl, y, h2, h3⟩
  · rintro ⟨ys, h1, y, h2, h3⟩; exact ⟨ys, y, rfl, lstO_some h1, h2, h3⟩
theorem gmPopAt_eq {l : Addr} {i : Int} : gmPopAt l [.int i] A Q E = oK (lstO (A l)) (fun ys => -(2 ^ 63) ≤ i ∧ i < 2 ^ 63 ∧ oK (seqIndex? i ys.length) (fun j => oK ys[j]? (fun y => Q y (put A l (.lst (ys.eraseIdx j)))) ⟨⟩) ⟨⟩) ⟨⟩ := by
  apply propext
  unfold gmPopAt oK
  constructor
  · rintro ⟨i, ys, j, y, h0, h1, h2, h3, h4, h5, h6⟩; cases h0; exact ⟨ys, by rw [h1]; rfl, h2, h3, j, h4, y, h5, h6⟩
  · rintro ⟨ys, h1, h2, h3, j, h4, y, h5, h6⟩; exact ⟨_, ys, j, y, rfl, lstO_some h1, h2, h3, h4, h5, h6⟩
theorem gmExtT_eq {l : Addr} {zs : List D} : gmExtT l [.tup zs] A Q E = oK (lstO (A l)) (fun ys => ys.length + zs.length ≤ sizeLine ∧ Q .non (put A l (.lst (ys ++ zs)))) ⟨⟩ := by
  apply propext
  unfold gmExtT oK
  constructor
  · rintro ⟨zs, ys, h0, h1, h2⟩; cases h0; exact ⟨ys, by rw [h1]; rfl, h2⟩
  · rintro ⟨ys, h1, h2⟩; exact ⟨_, ys, rfl, lstO_some h1, h2⟩
theorem aNoPart_eq {Q : Option Int → AH → Prop} : aNoPart δ A Q E = Q none A := rfl
theorem aPart_eq {te : AE} {Q : Option Int → AH → Prop} : aPart te δ A Q E = te δ A (fun d A1 => intK d (fun i => Q (some i) A1)) E := rfl
theorem aSl_eq {g : D → Option Int → Option Int → AK D} {te : AE} {tl th : APt} : aSl g te tl th δ A Q E = te δ A (fun x A1 => tl δ A1 (fun l A2 => th δ A2 (fun u A3 => g x l u A3 Q E) E) E) E := rfl
theorem gSl_lst {l : Bool} {xs : List D} {lo hi : Option Int} : gSl l (.lst xs) lo hi A Q E = aNew l (.lst (cutD xs lo hi)) A Q := by
  apply propext
  unfold gSl gSlL gSlS gSlT
  constructor
  · rintro (⟨xs', h0, h1⟩ | ⟨z, h0, h1⟩ | ⟨xs', h0, h1⟩)
    · cases h0; exact h1
    · cases h0
    · cases h0
  · intro h; exact .inl ⟨xs, rfl, h⟩
theorem gSl_rol {l : Bool} {xs : List D} {lo hi : Option Int} : gSl l (.rol xs) lo hi A Q E = aNew l (.lst (cutD xs lo hi)) A Q := by
  apply propext
  unfold gSl gSlL gSlS gSlT
  constructor
  · rintro (⟨xs', h0, h1⟩ | ⟨z, h0, h1⟩ | ⟨xs', h0, h1⟩)
    · cases h0; exact h1
    · cases h0
    · cases h0
  · intro h; exact .inl ⟨xs, rfl, h⟩
theorem gSl_tup {l : Bool} {xs : List D} {lo hi : Option Int} : gSl l (.tup xs) lo hi A Q E = Q (.tup (cutD xs lo hi)) A := by
  apply propext
  unfold gSl gSlL gSlS gSlT
  constructor
  · rintro (⟨xs', h0, h1⟩ | ⟨z, h0, h1⟩ | ⟨xs', h0, h1⟩)
    · cases h0
    · cases h0
    · cases h0; exact h1
  · intro h; exact .inr (.inr ⟨xs, rfl, h⟩)
theorem gSl_str {l : Bool} {xs : Str} {lo hi : Option Int} : gSl l (.str xs) lo hi A Q E = (xs.length ≤ sizeLine ∧ Q (.str (cutS xs lo hi)) A) := by
  apply propext
  unfold gSl gSlL gSlS gSlT
  constructor
  · rintro (⟨xs', h0, h1⟩ | ⟨z, h0, h1⟩ | ⟨xs', h0, h1⟩)
    · cases h0
    · cases h0; exact h1
    · cases h0
  · intro h; exact .inr (.inl ⟨xs, rfl, h⟩)
theorem gSl_ref {l : Bool} {a : Addr} {lo hi : Option Int} : gSl l (.ref a) lo hi A Q E = oK (lstO (A a)) (fun xs => aNew l (.lst (cutD xs lo hi)) A Q) ⟨⟩ := by
  apply propext
  unfold gSl gSlL gSlS gSlT oK
  constructor
  · rintro (⟨xs', h0, h1⟩ | ⟨z, h0, h1⟩ | ⟨xs', h0, h1⟩)
    · rw [asL_ref] at h0; exact ⟨xs', h0, h1⟩
    · cases h0
    · cases h0
  · rintro ⟨xs, h0, h⟩; exact .inl ⟨xs, by rw [asL_ref]; exact h0, h⟩
theorem aSetIx_eq {to ti te : AE} : aSetIx to ti te N δ A = te δ A (fun v A1 => to δ A1 (fun x A2 => ti δ A2 (fun y A3 => refK x (fun l => intK y (fun i => oK (lstO (A3 l)) (fun xs => oK (ixN xs.length i) (fun j => N.nx δ (put A3 l (.lst (xs.set j v)))) ⟨⟩) ⟨⟩))) (fun C fs A1 => N.ex C fs δ A1)) (fun C fs A1 => N.ex C fs δ A1)) (fun C fs A1 => N.ex C fs δ A1) := by
  unfold aSetIx
  congr 1
  funext v A1
  congr 1
  funext x A2
  congr 1
  funext y A3
  apply propext
  constructor
  · rintro ⟨l, i, xs, j, rfl, rfl, h1, h2, h3⟩; exact ⟨l, rfl, i, rfl, xs, by rw [h1]; rfl, j, h2, h3⟩
  · rintro ⟨l, rfl, i, rfl, xs, h1, j, h2, h3⟩; exact ⟨l, i, xs, j, rfl, rfl, lstO_some h1, h2, h3⟩
theorem agNm_eq {i : Nat} {d : D} {Q : ASt → AH → Prop} : agNm i d δ A Q E = Q (δ.set i (some d)) A := rfl
theorem agNil_eq {Q : ASt → AH → Prop} : agNil [] δ A Q E = Q δ A := by simp [agNil]
theorem agCons_eq {g : AG} {u : AGs} {d : D} {ds : List D} {Q : ASt → AH → Prop} : agCons g u (d :: ds) δ A Q E = g d δ A (fun δ1 A1 => u ds δ1 A1 Q E) E := by
  apply propext
  constructor
  · rintro ⟨d, r, e, h⟩; cases e; exact h
  · intro h; exact ⟨_, _, rfl, h⟩
theorem agTp_eq {n : Nat} {g : AGs} {ds : List D} {Q : ASt → AH → Prop} : agTp n g (.tup ds) δ A Q E = (ds.length = n ∧ g ds δ A Q E) := by simp [agTp]
theorem agDk_eq {to ti : AE} {d : D} {Q : ASt → AH → Prop} : agDk to ti d δ A Q E = to δ A (fun x A1 => ti δ A1 (fun y A2 => refK x (fun a => oK (dctO (A2 a)) (fun kvs => oK (keyOf y) (fun _ => kvs.length < sizeLine ∧ Q δ (put A2 a (.dct (putD kvs y d)))) ⟨⟩) ⟨⟩)) E) E := by
  unfold agDk
  congr 1
  funext x A1
  congr 1
  funext y A2
  apply propext
  constructor
  · rintro ⟨a, kvs, q, rfl, h1, h2, h3⟩; exact ⟨a, rfl, kvs, by rw [h1]; rfl, q, h2, h3⟩
  · rintro ⟨a, rfl, kvs, h1, q, h2, h3⟩; exact ⟨a, kvs, q, rfl, dctO_some h1, h2, h3⟩
theorem aAsgG_eq {te : AE} {g : AG} : aAsgG te g N δ A = te δ A (fun d A1 => g d δ A1 N.nx noX) (fun C fs A1 => N.ex C fs δ A1) := rfl
theorem aPairs_nil {Q : List (D × D) → AH → Prop} : aPairs [] δ A Q E = Q [] A := by rw [aPairs]
theorem aPairs_cons {tk tv : AE} {r : List (AE × AE)} {Q : List (D × D) → AH → Prop} : aPairs ((tk, tv) :: r) δ A Q E = tk δ A (fun x A1 => tv δ A1 (fun y A2 => aPairs r δ A2 (fun ps A3 => Q ((x, y) :: ps) A3) E) E) E := by rw [aPairs]
theorem aDisp_eq {l : Bool} {r : List (AE × AE)} : aDisp l r δ A Q E = aPairs r δ A (fun ps A1 => keysOk ps = true ∧ ps.length ≤ 15 ∧ aNew l (.dct (mergeD ps)) A1 Q) E := rfl
theorem aDNew_eq {l : Bool} : aDNew l δ A Q E = aNew l (.dct []) A Q := rfl
theorem gLenO_eq {C : Addr} {asp : ASp} {d : D} : gLenO C asp [d] A Q E = oK (asO A d) (fun z => z.1 = C ∧ Call asp [d] A (fun r A' => intK r (fun n => 0 ≤ n ∧ n < 2 ^ 63 ∧ Q (.int n) A')) noX ⟨⟩) ⟨⟩ := by
  apply propext
  unfold gLenO oK
  constructor
  · rintro ⟨d, fs, h0, e1, h⟩; cases h0; refine ⟨(C, fs), e1, rfl, ?_⟩; have e : (fun r A' => ∃ n : Int, r = .int n ∧ 0 ≤ n ∧ n < 2 ^ 63 ∧ Q r A') = (fun r A' => intK r (fun n => 0 ≤ n ∧ n < 2 ^ 63 ∧ Q (.int n) A')) := (by funext r A'; apply propext; constructor <;> (rintro ⟨n, rfl, h1, h2, h3⟩; exact ⟨n, rfl, h1, h2, h3⟩)); rw [← e]; exact h
  · rintro ⟨⟨C', fs⟩, e1, rfl, h⟩; refine ⟨_, fs, rfl, e1, ?_⟩; have e : (fun r A' => ∃ n : Int, r = .int n ∧ 0 ≤ n ∧ n < 2 ^ 63 ∧ Q r A') = (fun r A' => intK r (fun n => 0 ≤ n ∧ n < 2 ^ 63 ∧ Q (.int n) A')) := (by funext r A'; apply propext; constructor <;> (rintro ⟨n, rfl, h1, h2, h3⟩; exact ⟨n, rfl, h1, h2, h3⟩)); rw [e]; exact h
theorem aFrz_eq {te : AE} : aFrz te δ A Q E = te δ A (fun d A1 => refK d (fun a => oK (A1 a) (fun ob => Q (frz ob) (del A1 a)) ⟨⟩)) E := by
  unfold aFrz
  congr 1
  funext d A1
  apply propext
  constructor
  · rintro ⟨a, ob, rfl, h1, h2⟩; exact ⟨a, rfl, ob, h1, h2⟩
  · rintro ⟨a, rfl, ob, h1, h2⟩; exact ⟨a, ob, rfl, h1, h2⟩
theorem endsOf_nx {x : ASt} : (endsOf Q E).nx x A = fin Q .non A := rfl
theorem endsOf_rt {d : D} : (endsOf Q E).rt d A = fin Q d A := rfl
theorem endsOf_ex {C : Addr} {fs : List (Str × D)} {x : ASt} : (endsOf Q E).ex C fs x A = ∃ A'', (∀ a o, A'' a = some o → A a = some o) ∧ E C fs A'' := rfl
end
end Av

set_option Elab.async false
set_option linter.all false
set_option maxRecDepth 100000
set_option maxHeartbeats 4000000
/-! own library Av, part 14: loops and comprehensions by invariants -/
namespace Av
open PySem PySem.Spec PyProof.Rows L2 My
theorem comp_inv {gd : AH → Prop} {p : Pat} {tt : AT} {te : AE} {δ : ASt} {ds acc : List D} {A : AH} {Q : List D → AH → Prop} (P : Nat → List D → AH → Prop) (h0 : P 0 acc A) (hg : ∀ i acc A, i ≤ ds.length → P i acc A → gd A)
    (hs : ∀ i d acc A (R : List D → AH → Prop), ds[i]? = some d → P i acc A → (∀ acc' A', P (i + 1) acc' A' → R acc' A') → bindK p d δ (fun δ2 => tt δ2 A (fun b A1 => if b = true then te δ2 A1 (fun y A2 => acc.length < sizeLine ∧ R (acc ++ [y]) A2) noX else R acc A1) noX))
    (hd : ∀ acc A, P ds.length acc A → Q acc A) : aComp gd p tt te δ ds acc A Q := by
  have : ∀ (r : List D) (i : Nat) (acc : List D) (A : AH), ds.drop i = r → i ≤ ds.length → P i acc A → aComp gd p tt te δ r acc A Q := by
    intro r
    induction r with
    | nil =>
      intro i acc A e hi hp
      have : ds.length ≤ i := by
        have := congrArg List.length e
        simp at this; omega
      obtain rfl : i = ds.length := by omega
      exact ⟨hg _ _ _ hi hp, hd _ _ hp⟩
    | cons d r ih =>
      intro i acc A e hi hp
      have hlt : i < ds.length := by
        have := congrArg List.length e
        simp at this; omega
      rw [List.drop_eq_getElem_cons hlt] at e
      injection e with e1 e2
      exact ⟨hg _ _ _ hi hp, hs i d acc A _ (by rw [List.getElem?_eq_getElem hlt, e1]) hp (fun acc' A' h => ih (i + 1) acc' A' e2 (by omega) h)⟩
  exact this ds 0 acc A (by simp) (Nat.zero_le _) h0
/-- nothing is changed: a map -/
theorem comp_map {gd : AH → Prop} {p : Pat} {te : AE} {δ : ASt} {A : AH} {Q : List D → AH → Prop} (f : D → D) (hg : gd A) : ∀ (ds acc : List D), acc.length + ds.length ≤ sizeLine → (∀ d ∈ ds, ∀ R : D → AH → Prop, R (f d) A → bindK p d δ (fun δ2 => te δ2 A R noX)) → Q (acc ++ ds.map f) A → aComp gd p aYes te δ ds acc A Q
  | [], acc, _, _, q => ⟨hg, by simpa using q⟩
  | d :: ds, acc, hl, h, q => by
    refine ⟨hg, ?_⟩
    show bindK p d δ (fun δ2 => aYes δ2 A (fun b A1 => if b = true then te δ2 A1 (fun y A2 => acc.length < sizeLine ∧ aComp gd p aYes te δ ds (acc ++ [y]) A2 Q) noX else aComp gd p aYes te δ ds acc A1 Q) noX)
    simp only [aYes_eq, if_true]
    refine h d List.mem_cons_self _ ⟨?_, comp_map f hg ds (acc ++ [f d]) ?_ (fun x hx => h x (List.mem_cons_of_mem _ hx)) ?_⟩
    · rw [List.length_cons] at hl; omega
    · rw [List.length_append, List.length_cons, List.length_nil]; rw [List.length_cons] at hl; omega
    · rw [List.append_assoc]; exact q
/-- nothing is changed: a map of those that pass -/
theorem comp_filter {gd : AH → Prop} {p : Pat} {tt : AT} {te : AE} {δ : ASt} {A : AH} {Q : List D → AH → Prop} (c : D → Bool) (f : D → D) (hg : gd A) : ∀ (ds acc : List D), acc.length + ds.length ≤ sizeLine → (∀ d ∈ ds, ∀ (R : D → AH → Prop) (S : AH → Prop), (c d = true → R (f d) A) → (c d = false → S A) → bindK p d δ (fun δ2 => tt δ2 A (fun b A1 => if b = true then te δ2 A1 R noX else S A1) noX)) → Q (acc ++ (ds.filter c).map f) A → aComp gd p tt te δ ds acc A Q
  | [], acc, _, _, q => ⟨hg, by simpa using q⟩
  | d :: ds, acc, hl, h, q => by
    refine ⟨hg, ?_⟩
    rw [List.length_cons] at hl
    refine h d List.mem_cons_self (fun y A2 => acc.length < sizeLine ∧ aComp gd p tt te δ ds (acc ++ [y]) A2 Q) (fun A1 => aComp gd p tt te δ ds acc A1 Q) (fun hc => ⟨by omega, comp_filter c f hg ds (acc ++ [f d]) ?_ (fun x hx => h x (List.mem_cons_of_mem _ hx)) ?_⟩) (fun hc => comp_filter c f hg ds acc (by omega) (fun x hx => h x (List.mem_cons_of_mem _ hx)) ?_)
    · rw [List.length_append, List.length_cons, List.length_nil]; omega
    · rw [List.append_assoc]
      rw [List.filter_cons_of_pos hc] at q; exact q
    · rw [List.filter_cons_of_neg (by rw [hc]; decide)] at q; exact q
theorem loop_for {gd : AH → Prop} {p : Pat} {tb : AS} {N : AEnds} {ds : List D} {δ : ASt} {A : AH} (P : Nat → ASt → AH → Prop) (h0 : P 0 δ A) (hg : ∀ i δ A, i ≤ ds.length → P i δ A → gd A)
    (hs : ∀ i d δ A (R : ASt → AH → Prop), ds[i]? = some d → P i δ A → (∀ δ' A', P (i + 1) δ' A' → R δ' A') → bindK p d δ (fun δ2 => tb { N with nx := R, ct := R, bk := N.nx } δ2 A))
    (hd : ∀ δ A, P ds.length δ A → N.nx δ A) : aLoop gd p tb N ds δ A := loop_inv P h0 hg (fun i d δ A R h1 h2 h3 => hs i d δ A R h1 h2 h3) hd
theorem rngL_get {lo : Int} {n i : Nat} {d : D} (h : (rngL lo n)[i]? = some d) : i < n ∧ d = .int (lo + i) := by
  unfold rngL at h
  rw [List.getElem?_map] at h
  cases e : (List.range n)[i]? with
  | none => rw [e] at h; cases h
  | some j =>
    rw [e] at h
    obtain ⟨h1, h2⟩ := List.getElem?_eq_some_iff.mp e
    simp at h1 h2
    subst h2
    exact ⟨h1, (Option.some.inj h).symm⟩
theorem rngL_len {lo : Int} {n : Nat} : (rngL lo n).length = n := by simp [rngL]
def putM (kvs : List (D × D)) (k v : D) : List (D × D) := putD kvs k v
theorem putM_eq {kvs : List (D × D)} {k v : D} : putM kvs k v = if (kvs.any fun p => keyEq p.1 k) = true then kvs.map (fun p => if keyEq p.1 k = true then (p.1, v) else p) else kvs ++ [(k, v)] := rfl
theorem mergeD_eq {l : List (D × D)} : mergeD l = l.foldl (fun acc kv => putM acc kv.1 kv.2) [] := rfl
theorem valD_nil {k : D} : valD [] k = none := rfl
theorem valD_cons {q v k : D} {r : List (D × D)} : valD ((q, v) :: r) k = if keyEq q k = true then some v else valD r k := by rw [valD]
theorem fin_sub {Q : AQ} {d : D} {A A' : AH} (s : ∀ a o, A a = some o → A' a = some o) (h : Q d A) : fin Q d A' := ⟨A, s, h⟩
theorem bls_map (f : D → Bool) : ∀ ds : List D, blsOf (ds.map fun d => .bl (f d)) = some (ds.map f)
  | [] => rfl
  | d :: ds => by rw [List.map_cons, blsOf, bls_map f ds]; rfl
end Av

set_option Elab.async false
set_option linter.all false
set_option maxRecDepth 100000
set_option maxHeartbeats 4000000
/-! own library Av, part 15: calls with keywords -/
namespace Av
open PySem PySem.Spec PyProof.Rows L2 My
section
variable {X : Cx} {W : WX} {k n : Nat} {f C : Addr} {asp : ASp} {x m nm : Str} {e o : Expr} {es : List Expr} {ks : List Str} {kws : List Keyword} {ta te : AE} {t : AA} {kpos p pos apos : Pos} {nmo : Option Str}
theorem PK.imp {t t' : TA} (h : PK X kws t) (i : ∀ σ H Q, t' σ H Q → t σ H Q) : PK X kws t' := ⟨fun pos pins s σ H Q I q => h.run pos pins s σ H Q I (i _ _ _ q)⟩
theorem ak_nil : PK X [] (liftA X.K W aNil) := PK.imp pk_nil fun σ H Q ⟨δ, F, A, Q', E', a, q, p⟩ => p _ _ _ _ _ q Ext.refl a.rel .nil
theorem ak_cons (ha : PE X e (liftE X.K W te)) (hr : PK X kws (liftA X.K W t)) : PK X (⟨nmo, e, kpos⟩ :: kws) (liftA X.K W (aCons te t)) := PK.imp (pk_cons ha hr) fun σ H Q ⟨δ, h⟩ =>
  (Lf.bindE (k := fun x A1 Q E => t δ A1 (fun xs A2 => Q (x :: xs) A2) E) h).mono fun v1 H1 ⟨x1, h1⟩ => (Lf.core (R1 := Reps X.K) (k := fun xs A2 Q E => Q (x1 :: xs) A2) h1).mono fun vs H2 ⟨xs, F, A, Q', E', a, r, q, p⟩ => by
    cases a.held with
    | cons r0 _ => exact p _ _ _ _ _ q Ext.refl a.rel (.cons r0 r)
/-- a promise for n values in all -/
def lenSp (n : Nat) (asp : ASp) : ASp := fun ds A Q E => ds.length = n ∧ asp ds A Q E
theorem lenSp_ok {K : PySem.W.Frag} {vs : List V} {H : Hp} {Q : VK} {E : XK} (h : liftSp K (lenSp n asp) vs H Q E) : vs.length = n ∧ liftSp K asp vs H Q E := by
  obtain ⟨F, A, ds, Q', E', R, r, ⟨l, q⟩, po, g⟩ := h
  exact ⟨by rw [← r.length]; exact l, F, A, ds, Q', E', R, r, q, po, g⟩
/-- the promise of a def that is called with keywords: those behind the others -/
abbrev FnKA (P : Program) (w : World) (K : PySem.W.Frag) (mg : Str → Option Value) (base : Heap) (CX : CXT) (k : Nat) (f : Addr) (n : Nat) (ks : List Str) (asp : ASp) : Prop := FnK P w K mg base CX k f n ks (fun vs zs => liftSp K asp (vs ++ zs))
theorem ae_methK0R {pl : Sem Bool} (he : PE X o (liftE X.K W ta)) (c : Cls X.K C) (hm : Meth X.K C m f) (F : FnKA X.prog X.w X.K X.mg X.base CX0 k f 1 ks asp) (hr : Room k X.A) (hkw : PK X kws (liftA X.K W t))
    (hall : (backToKw pos (keywordEach kws X.env)).all (·.1.isSome) = true := by rfl) (hks : (backToKw pos (keywordEach kws X.env)).filterMap (·.1) = ks := by rfl)
    (hpl : ((backTo pos (starEach [] X.env)).any (·.1) || (backToKw pos (keywordEach kws X.env)).any (·.1.isNone)) = false := by rfl)
    (ht : eval (.Call (.Attribute o m apos) [] kws pos) X.env = (do
      let ov ← eval o X.env
      standAt apos.atName
      let (f, first) ← holding [ov] (getMethod ov m pl)
      callWith pos f first (backTo pos (starEach [] X.env)) (backToKw pos (keywordEach kws X.env))) := by rfl) :
    PE X (.Call (.Attribute o m apos) [] kws pos) (liftE X.K W (aMeth C m (lenSp (ks.length + 1) asp) ta t)) := PE.imp (pe_methKW0 (E := fun _ => anyX) he c hm F hr (fun σ pins => pass0 pins σ) hkw hall hks hpl ht) fun σ H Q h => (lift_meth h).mono fun x H1 ⟨a, dx, fs, e1, e2, e3, z⟩ => ⟨a, dx, fs, e1, e2, e3, z.mono fun vs H2 h2 => by
      obtain ⟨l, h3⟩ := lenSp_ok h2
      exact ⟨rfl, Nat.succ.inj l, sp_any h3⟩⟩
end
section
variable {P : Program} {w : World} {K : PySem.W.Frag} {mg : Str → Option Value} {base : Heap} {x qual : Str} {params : Arguments} {body : List Stmt} {scope : Scope} {dvs : List V} {kws : List (Str × V)} {f : Addr} {fd : FuncData} {N ps ks : List Str} {k : Nat} {asp : ASp}
/-- def f(a, b = d) called f(a, b = v): every default is given -/
theorem FunD.AK (n : Nat) (ks : List Str) (F : FunD K x qual params body scope dvs kws f fd) (S : FnScope N ps scope) (len : ∀ ds A Q E, asp ds A Q E → ds.length = ps.length) (hd : dvs ≠ [])
    (hb : ∀ (T : Addr) (kV doc pm : Value) (an : Option Addr) (cdv ct : Value) (us its ws : List Value), us.length = n → its.length = dvs.length → ws.length = ks.length →
      ∃ k, bindArgs (PySem.W.fnOf x qual params body scope (.ref T) kV doc pm an cdv ct) ⟨us, ks.zip ws⟩ = seqItems? (.ref T) >>= k ∧ k (some its.toArray) = pure (ps.zip (us ++ ws)))
    (hbody : BodyR P w K mg base qual body scope f N k asp) : FnKA P w K mg base CX0 (k + 1) f n ks asp := by
  obtain ⟨its, hB⟩ := FunD.kbindsD (ps := ps) F n ks (fun us _ ws => us ++ ws) hd (fun r1 _ r3 => r1.append r3) hb
  refine FnK.of (sp := liftSp K asp) (FunD.ok F S (liftSp_len len) fun cdv A outer s H vs Q E hr h => ?_) hB
  obtain ⟨t, ht, hq⟩ := bodyR (dd := []) hbody cdv A outer s H vs Q E hr h
  exact ⟨t, ht.nox, hq⟩
end
end Av

set_option Elab.async false
set_option linter.all false
set_option maxRecDepth 100000
set_option maxHeartbeats 4000000
/-! own library Av, part 16: a law's script -/
namespace Av
open PySem PySem.Spec PyProof.Rows L2 My
theorem reps_ints {K : PySem.W.Frag} {F : Addr → Prop} {H : Hp} : ∀ ns : List Int, Reps K F H (ns.map D.int) (ns.map V.int)
  | [] => .nil
  | n :: ns => .cons (.int n) (reps_ints ns)
/-- a local that no one changes from here on is told by value -/
def aFrzS (i : Nat) (t : AS) : AS := fun N δ A => ∃ p o, δ[i]? = some (some (.ref p)) ∧ A p = some o ∧ t N (δ.set i (some (frz o))) (del A p)
theorem as_frz {X : Cx} {W : WX} {st : Stmt} {t : AS} (i : Nat) (h : PS X st (liftS X.K W t)) : PS X st (liftS X.K W (aFrzS i t)) := PS.imp h fun D σ H ⟨F, A, δ, D', R, s, ⟨p, o, e1, e2, q⟩, e⟩ => by
  obtain ⟨R2, x2, r2⟩ := R.frz e2
  refine ⟨_, _, δ.set i (some (frz o)), D', R2, ?_, q, e.step x2⟩
  obtain ⟨v, hv, rv⟩ := s.get e1
  cases rv
  have s2 := (s.kept (x2.kept R)).set r2 i
  have e3 : σ.set i (some (V.ref p)) = σ := by
    obtain ⟨hl, hv⟩ := List.getElem?_eq_some_iff.mp hv
    rw [← hv]; exact List.set_getElem_self hl
  rw [e3] at s2
  exact s2
theorem aFrzS_eq {i : Nat} {t : AS} {N : AEnds} {δ : ASt} {A : AH} : aFrzS i t N δ A = aVar i δ A (fun d A1 => refK d (fun a => oK (A1 a) (fun o => t N (δ.set i (some (frz o))) (del A1 a)) ⟨⟩)) noX := by
  apply propext
  unfold aFrzS aVar refK oK
  constructor
  · rintro ⟨q, o, h0, h1, h2⟩; exact ⟨_, h0, q, rfl, o, h1, h2⟩
  · rintro ⟨d, h0, q, rfl, o, h1, h2⟩; exact ⟨q, o, h0, h1, h2⟩
/-- the script, nothing else -/
theorem law_lift {K : PySem.W.Frag} {H : Hp} {a : Addr} {ns : List Int} {Q : VK} {E : XK} {asp : ASp} (hS : SqL K H a (ns.map V.int)) (h : ∀ (A : AH) (Q' : AQ), (∀ A', Q' (.bl true) A') → asp [.rol (ns.map D.int)] A Q' noX) (k : ∀ H', Q (.bl true) H') : liftSp K asp [.ref a] H Q E := by
  have po : ∀ {F : Addr → Prop}, Post K (Rep K) F (fun _ => none) H (fun d _ => d = .bl true) Q := fun x A' F' H' y e _ _ r => by
    have e : x = .bl true := e
    subst e
    cases r
    exact k _
  rcases hS with hS | hS
  · refine ⟨fun c => c = a, fun _ => none, _, fun d _ => d = .bl true, noX, ⟨(fun _ _ z => by cases z), fun c e => ?_⟩, .cons (.rol rfl hS (reps_ints ns)) .nil, h _ _ (fun _ => rfl), po, fun C fs A' F' H' dd fv z => z.elim⟩
    subst e
    rcases hS with hS | ⟨o, hS⟩
    · exact ⟨_, hS⟩
    · exact ⟨_, hS⟩
  · exact ⟨fun _ => False, fun _ => none, _, fun d _ => d = .bl true, noX, ⟨(fun _ _ z => by cases z), fun c e => e.elim⟩, .cons (.rolK hS (reps_ints ns)) .nil, h _ _ (fun _ => rfl), po, fun C fs A' F' H' dd fv z => z.elim⟩
theorem Reps.rev {K : PySem.W.Frag} {F : Addr → Prop} {H : Hp} : ∀ {ds : List D} {vs : List V}, Reps K F H ds vs → Reps K F H ds.reverse vs.reverse
  | _, _, .nil => .nil
  | _, _, .cons a r => by rw [List.reverse_cons, List.reverse_cons]; exact (Reps.rev r).append (.cons a .nil)
def gmRev : GM := fun l ds A Q _ => ∃ ys, ds = [] ∧ A l = some (.lst ys) ∧ Q .non (put A l (.lst ys.reverse))
theorem ma_reverse {X : Cx} : MtA X "list.reverse" gmRev := ⟨_, fun W δ σ H l xs vs Q ⟨F, A, Q', E', a, ⟨ys, e1, e2, q⟩, po⟩ => by
  subst e1
  cases a.held with
  | cons _ r =>
    obtain rfl := r.none
    obtain ⟨us, eh, ro⟩ := live_l a.rel e2
    obtain ⟨R2, x2⟩ := a.rel.put e2 (RepO.lst (Reps.rev ro))
    exact ⟨l, us, rfl, rfl, eh, po _ _ _ _ _ q x2 R2 .non⟩, mt_reverse⟩
theorem gmRev_eq {A : AH} {Q : AQ} {E : AX} {l : Addr} : gmRev l [] A Q E = oK (lstO (A l)) (fun ys => Q .non (put A l (.lst ys.reverse))) ⟨⟩ := by
  apply propext
  unfold gmRev oK
  constructor
  · rintro ⟨ys, h0, h1, h2⟩; exact ⟨ys, by rw [h1]; rfl, h2⟩
  · rintro ⟨ys, h1, h2⟩; exact ⟨ys, rfl, lstO_some h1, h2⟩
end Av

set_option Elab.async false
set_option linter.all false
set_option maxRecDepth 100000
set_option maxHeartbeats 4000000
/-! own library Aw, part 1: texts in order -/
namespace Av
open PySem PySem.Spec PyProof.Rows L2 My
def leS (a b : Str) : Bool := decide (a.cps.toList ≤ b.cps.toList)
theorem leS_of {a b : Str} : leS a b = !ltCps b.cps.toList a.cps.toList := by
  unfold leS
  rw [ltCps_eq]
  by_cases h : b.cps.toList < a.cps.toList
  · have : ¬ a.cps.toList ≤ b.cps.toList := fun z => absurd h (List.not_lt.mpr z)
    simp [h, this]
  · have : a.cps.toList ≤ b.cps.toList := List.not_lt.mp h
    simp [h, this]
theorem leS_trans (a b c : Str) (h1 : leS a b = true) (h2 : leS b c = true) : leS a c = true := by
  unfold leS at *
  exact decide_eq_true (List.le_trans (of_decide_eq_true h1) (of_decide_eq_true h2))
theorem leS_total (a b : Str) : (leS a b || leS b a) = true := by
  unfold leS
  rcases List.le_total a.cps.toList b.cps.toList with h | h
  · simp [h]
  · simp [h]
theorem leS_anti {a b : Str} (h1 : leS a b = true) (h2 : leS b a = true) : a = b := by
  unfold leS at *
  have := List.le_antisymm (of_decide_eq_true h1) (of_decide_eq_true h2)
  cases a; cases b
  congr 1
  exact Array.toList_inj.mp this
theorem rising_pw : ∀ (p : Str) (l : List Str), risingS p l = true → (p :: l).Pairwise (fun a b => leS a b = true)
  | p, [], _ => by simp
  | p, x :: r, h => by
    have h : (!ltCps x.cps.toList p.cps.toList && risingS x r) = true := h
    rw [Bool.and_eq_true, ← leS_of] at h
    have ih := rising_pw x r h.2
    refine List.pairwise_cons.mpr ⟨fun y hy => ?_, ih⟩
    rcases List.mem_cons.mp hy with rfl | hy
    · exact h.1
    · exact leS_trans _ _ _ h.1 ((List.pairwise_cons.mp ih).1 y hy)
theorem sorted_pw : ∀ (l : List Str), sortedS l = true → l.Pairwise (fun a b => leS a b = true)
  | [], _ => .nil
  | x :: r, h => rising_pw x r h
theorem eq_of_sorted : ∀ {l m : List Str}, l.Perm m → l.Pairwise (fun a b => leS a b = true) → m.Pairwise (fun a b => leS a b = true) → l = m
  | [], m, p, _, _ => by rw [List.Perm.nil_eq p]
  | x :: l, [], p, _, _ => by have := p.length_eq; simp at this
  | x :: l, y :: m, p, h1, h2 => by
    obtain ⟨a1, a2⟩ := List.pairwise_cons.mp h1
    obtain ⟨b1, b2⟩ := List.pairwise_cons.mp h2
    have e : x = y := by
      have hx : x ∈ y :: m := p.subset (.head _)
      have hy : y ∈ x :: l := p.symm.subset (.head _)
      rcases List.mem_cons.mp hx with e | hx
      · exact e
      · rcases List.mem_cons.mp hy with e | hy
        · exact e.symm
        · exact leS_anti (a1 y hy) (b1 x hx)
    subst e
    rw [eq_of_sorted ((List.perm_cons x).mp p) a2 b2]
/-- the texts in order -/
def srt (l : List Str) : List Str := l.mergeSort leS
theorem srt_perm (l : List Str) : (srt l).Perm l := List.mergeSort_perm l leS
theorem srt_pw (l : List Str) : (srt l).Pairwise (fun a b => leS a b = true) := List.pairwise_mergeSort leS_trans leS_total l
theorem srt_eq {l m : List Str} (p : m.Perm l) (h : sortedS m = true) : m = srt l := eq_of_sorted (p.trans (srt_perm l).symm) (sorted_pw m h) (srt_pw l)
theorem srt_of_perm {l m : List Str} (p : l.Perm m) : srt l = srt m := eq_of_sorted (((srt_perm l).trans p).trans (srt_perm m).symm) (srt_pw l) (srt_pw m)
theorem srt_mem {l : List Str} {x : Str} : x ∈ srt l ↔ x ∈ l := (srt_perm l).mem_iff
theorem srt_length {l : List Str} : (srt l).length = l.length := (srt_perm l).length_eq
theorem srt_nodup {l : List Str} : (srt l).Nodup ↔ l.Nodup := (srt_perm l).nodup_iff
theorem srt_filter (p : Str → Bool) (l : List Str) : (srt l).filter p = srt (l.filter p) := eq_of_sorted (((srt_perm l).filter p).trans (srt_perm _).symm) ((srt_pw l).filter p) (srt_pw _)
/-! ### sorted(d), sorted(l) -/
section
variable {X : Cx} {K : PySem.W.Frag}
def gSortD (live : Bool) : GA := fun xs A Q _ => ∃ d kvs ks, xs = [d] ∧ asD A d = some kvs ∧ kvs.map (·.1) = ks.map D.str ∧ ks.length < 64 ∧ aNew live (.lst ((srt ks).map D.str)) A Q
def gSortL (live : Bool) : GA := fun xs A Q _ => ∃ d ks, xs = [d] ∧ asX A d = some (ks.map D.str) ∧ ks.length < 64 ∧ aNew live (.lst ((srt ks).map D.str)) A Q
theorem repK_strs {F : Addr → Prop} {H : Hp} : ∀ {kvs : List (D × D)} {vs : List (Key × V)} {ks : List Str}, RepK K F H kvs vs → kvs.map (·.1) = ks.map D.str → vs.map (·.1) = ks.map Sum.inr ∧ ∀ x ∈ ks, sOk x
  | _, _, [], .nil, _ => ⟨rfl, fun x hx => by cases hx⟩
  | _, _, x :: ks, .nil, e => by cases e
  | _, _, [], .cons _ _ _, e => by cases e
  | _, _, x :: ks, .cons (k := k) o a r, e => by
    rw [List.map_cons, List.map_cons] at e
    injection e with e1 e2
    obtain ⟨h1, h2⟩ := repK_strs r e2
    cases k with
    | inl i => cases e1
    | inr y =>
      cases e1
      exact ⟨by rw [List.map_cons, List.map_cons, h1], fun z hz => by
        rcases List.mem_cons.mp hz with rfl | hz
        · exact o
        · exact h2 z hz⟩
theorem reps_strs' {F : Addr → Prop} {H : Hp} : ∀ {ks : List Str} {vs : List V}, Reps K F H (ks.map D.str) vs → vs = ks.map V.str ∧ ∀ x ∈ ks, sOk x
  | [], _, .nil => ⟨rfl, fun x hx => by cases hx⟩
  | x :: ks, _, .cons a r => by
    obtain ⟨h1, h2⟩ := reps_strs' (ks := ks) r
    cases a with
    | str h => exact ⟨by rw [h1]; rfl, fun z hz => by
        rcases List.mem_cons.mp hz with rfl | hz
        · exact h
        · exact h2 z hz⟩
theorem ca_sorted (hc : X.calm = true) (live : Bool) : CallA X (.builtin "sorted") (gaOr (gSortD live) (gSortL live)) := by
  refine CallA.or ⟨_, fun W δ σ H xs vs Q ⟨F, A, Q', E', a, ⟨d, kvs, ks, e1, e2, e3, h64, q⟩, po⟩ => ?_, call_sortedD hc⟩ ⟨_, fun W δ σ H xs vs Q ⟨F, A, Q', E', a, ⟨d, ks, e1, e2, h64, q⟩, po⟩ => ?_, cr_sortedS⟩
  · subst e1
    obtain ⟨v, rfl, r⟩ := a.held.one
    obtain ⟨b1, us, rfl, h1, q1⟩ := asD_ok a.rel r e2
    obtain ⟨k1, k2⟩ := repK_strs q1 e3
    refine ⟨b1, us, ks, rfl, h1, k1, h64, fun ys p py sy hp => ?_⟩
    obtain rfl := srt_eq py sy
    exact aNew_ok a.rel (.lst (reps_strs fun x hx => k2 x (srt_mem.mp hx))) q po p hp
  · subst e1
    obtain ⟨v, rfl, r⟩ := a.held.one
    obtain ⟨b1, us, rfl, h1, q1⟩ := asX_ok a.rel r e2
    obtain ⟨rfl, k2⟩ := reps_strs' q1
    refine ⟨b1, ks, rfl, SqL.of h1, h64, fun ys p py sy hp => ?_⟩
    obtain rfl := srt_eq py sy
    exact aNew_ok a.rel (.lst (reps_strs fun x hx => k2 x (srt_mem.mp hx))) q po p hp
end
end Av

set_option Elab.async false
set_option linter.all false
set_option maxRecDepth 100000
set_option maxHeartbeats 4000000
/-! own library Aw, part 2: dicts gone through, dicts made by a comprehension -/
namespace Av
open PySem PySem.Spec PyProof.Rows L2 My
/-- behind the value one thing may be locked for good -/
def lkV (td : TE) : TE := fun σ H Q => td σ H fun x H1 => Q x H1 ∨ ∃ d u, Mut (some u) ∧ H1 d = some u ∧ ∀ od, Q x (upd H1 d (.frz od u))
theorem pe_lkV {X : Cx} {e : Expr} {td : TE} (h : PE X e td) : PE X e (lkV td) := by
  refine ⟨fun pins s σ H Q I hw => ?_⟩
  refine thn (h.run pins s σ H _ I hw) fun v s1 ⟨x, H1, I1, r, q⟩ => ?_
  rcases q with q | ⟨d, u, mu, hd, q⟩
  · exact ⟨x, H1, I1, r, q⟩
  · obtain ⟨od, I2⟩ := I1.lock hd mu
    exact ⟨x, _, I2, r, q od⟩
section
variable {K : PySem.W.Frag} {F : Addr → Prop} {A : AH} {H : Hp}
theorem lock_ok {a : Addr} {vs : List (Key × V)} {od : Obj} (R : Rel K F A H) (f : F a) (h : H a = some (.dK vs)) : Rel K F A (upd H a (.frz od (.dK vs))) ∧ Ext F A H F A (upd H a (.frz od (.dK vs))) := by
  have x : Ext F A H F A (upd H a (.frz od (.dK vs))) := by
    refine ⟨fun _ h => h, fun b o hA e => ⟨hA, ?_⟩, fun _ _ _ _ h => h⟩
    by_cases z : b = a
    · subst z
      rw [h] at e; cases e
      exact .inr ⟨f, trivial, od, upd_same⟩
    · exact .inl (by rw [upd_ne z]; exact e)
  have k := x.kept R
  refine ⟨⟨fun b o e => ?_, fun b fb => ?_⟩, x⟩
  · obtain ⟨n, ho, eh, r⟩ := R.live b o e
    have z : b ≠ a := fun z => n (z ▸ f)
    exact ⟨n, ho, by rw [upd_ne z]; exact eh, r.kept k⟩
  · by_cases z : b = a
    · exact ⟨_, by rw [z]; exact upd_same⟩
    · rw [upd_ne z]; exact R.there b fb
theorem repK_get {kvs : List (D × D)} {vs : List (Key × V)} : RepK K F H kvs vs → ∀ {i : Nat} {k : Key} {v : V}, vs[i]? = some (k, v) → ∃ d, kvs[i]? = some (dK k, d) ∧ okK k ∧ Rep K F H d v := by
  intro r
  induction kvs generalizing vs with
  | nil => cases r; intro i k v h; cases i <;> cases h
  | cons p kvs ih =>
    cases r with
    | cons o a r =>
      intro i k v h
      cases i with
      | zero => injection h with h; cases h; exact ⟨_, rfl, o, a⟩
      | succ i => exact ih r h
theorem rep_dK {k : Key} (o : okK k) : Rep K F H (dK k) (kV k) := by
  cases k with
  | inl i => exact .int i
  | inr x => exact .str o
/-- the locked dict of which an iterator goes through the keys -/
def LkD (K : PySem.W.Frag) (a : Addr) (o : Obj) (kvs : List (D × D)) (vs : List (Key × V)) : (Addr → Prop) → AH → Hp → Prop := fun F _ H => F a ∧ H a = some (.frz o (.dK vs)) ∧ RepK K F H kvs vs
theorem lkD_keep {a : Addr} {o : Obj} {kvs : List (D × D)} {vs : List (Key × V)} : ∀ F A H F' A' H', Rel K F A H → Ext F A H F' A' H' → LkD K a o kvs vs F A H → LkD K a o kvs vs F' A' H' := fun F A H F' A' H' R x ⟨f, e, r⟩ =>
  ⟨x.f _ f, (x.kn (R.dead f) e (fun d => d)).2, r.kept (x.kept R)⟩
theorem itOk_keys {a : Addr} {o : Obj} {kvs : List (D × D)} {vs : List (Key × V)} : ItOkP K (Itk a o vs) (fun _ => True) (kvs.map (·.1)) [] [] (LkD K a o kvs vs) where
  go := fun F A H i R _ _ ⟨f, e, r⟩ hi => ⟨e, by rw [List.length_map, r.length] at hi; exact hi⟩
  stop := fun F A H i R _ _ ⟨f, e, r⟩ hi => ⟨e, by rw [List.length_map, r.length] at hi; exact hi⟩
  yld := fun F A H i x H' R _ _ ⟨f, e, r⟩ hy hi => by
    obtain ⟨rfl, k, v, hk, rfl⟩ := hy
    obtain ⟨d, hd, ok, _⟩ := repK_get r hk
    exact ⟨dK k, by rw [List.getElem?_map, hd]; rfl, Ext.refl, R, rep_dK ok⟩
  keep := lkD_keep
def itemsL (kvs : List (D × D)) : List D := kvs.map fun p => .tup [p.1, p.2]
theorem itOk_items {a : Addr} {o : Obj} {kvs : List (D × D)} {vs : List (Key × V)} : ItOkP K (Iti a o vs) (fun _ => True) (itemsL kvs) [] [] (LkD K a o kvs vs) where
  go := fun F A H i R _ _ ⟨f, e, r⟩ hi => ⟨e, by unfold itemsL at hi; rw [List.length_map, r.length] at hi; exact hi⟩
  stop := fun F A H i R _ _ ⟨f, e, r⟩ hi => ⟨e, by unfold itemsL at hi; rw [List.length_map, r.length] at hi; exact hi⟩
  yld := fun F A H i x H' R _ _ ⟨f, e, r⟩ hy hi => by
    obtain ⟨T, k, v, hk, rfl, hT, rfl⟩ := hy
    obtain ⟨d, hd, ok, rd⟩ := repK_get r hk
    obtain ⟨R2, x2, r2⟩ := R.newT (ds := [dK k, d]) (vs := [kV k, v]) hT (.cons (rep_dK ok) (.cons rd .nil))
    exact ⟨.tup [dK k, d], by unfold itemsL; rw [List.getElem?_map, hd]; rfl, x2, R2, r2⟩
  keep := lkD_keep
end
section
variable {X : Cx} {W : WX} {e tg : Expr} {te : AE} {pos apos cpos : Pos}
def dctD : D → Option (List (D × D))
  | .dct kvs => some kvs
  | _ => none
def aItK (te : AE) : AI := fun δ A Q E => te δ A (fun d A1 => ∃ kvs, d = .dct kvs ∧ Q (fun _ => True, kvs.map (·.1)) A1) E
def aItI (te : AE) : AI := fun δ A Q E => te δ A (fun d A1 => ∃ kvs, d = .dct kvs ∧ Q (fun _ => True, itemsL kvs) A1) E
theorem dctD_some {d : D} {kvs : List (D × D)} (h : dctD d = some kvs) : d = .dct kvs := by
  cases d <;> first | (cases h; rfl) | cases h
theorem ai_keys (he : PE X e (liftE X.K W te)) : PI X tg e (liftI X.K W (aItK te)) := PI.imp (pi_keys (pe_lkV he)) fun σ H R ⟨δ, h⟩ => by
  refine (Lf.bindE (k := fun (d : D) (A1 : AH) (Q : IA → AH → Prop) (E : AX) => ∃ kvs, d = .dct kvs ∧ Q (fun _ => True, kvs.map (·.1)) A1) h).mono fun v H1 ⟨d, F, A, Q', E', a, ⟨kvs, hd, q⟩, po⟩ => ?_
  subst hd
  cases a.held with
  | cons r0 n =>
    cases r0 with
    | dk f h r =>
      rename_i b vs _
      rcases h with h | ⟨o, h⟩
      · refine .inr ⟨b, .dK vs, trivial, h, fun od => ⟨b, od, rfl, .inl ⟨vs, upd_same, ?_⟩⟩⟩
        obtain ⟨R2, x2⟩ := lock_ok (od := od) a.rel f h
        exact po _ _ _ _ _ q x2 R2 ⟨[], [], LkD X.K b od kvs vs, .nil, fun A R => ⟨f, upd_same, r.kept (x2.kept a.rel)⟩, itOk_keys⟩
      · exact .inl ⟨b, o, rfl, .inl ⟨vs, h, po _ _ _ _ _ q Ext.refl a.rel ⟨[], [], LkD X.K b o kvs vs, .nil, fun A R => ⟨f, h, r⟩, itOk_keys⟩⟩⟩
theorem ai_items {elts : List Expr} {kk : Nat} {tpos : Pos} (he : PE X e (liftE X.K W te)) (hbase : attributeBase e "items" X.env (eval e X.env) = eval e X.env := by rfl) (hline : (apos.endLine == cpos.line) = true := by rfl) :
    PI X (.Tuple elts kk tpos) (.Call (.Attribute e "items" apos) [] [] cpos) (liftI X.K W (aItI te)) := PI.imp (pi_items (pe_lkV he) hbase hline) fun σ H R ⟨δ, h⟩ => by
  refine (Lf.bindE (k := fun (d : D) (A1 : AH) (Q : IA → AH → Prop) (E : AX) => ∃ kvs, d = .dct kvs ∧ Q (fun _ => True, itemsL kvs) A1) h).mono fun v H1 ⟨d, F, A, Q', E', a, ⟨kvs, hd, q⟩, po⟩ => ?_
  subst hd
  cases a.held with
  | cons r0 n =>
    cases r0 with
    | dk f h r =>
      rename_i b vs _
      rcases h with h | ⟨o, h⟩
      · refine .inr ⟨b, .dK vs, trivial, h, fun od => ⟨b, od, vs, rfl, upd_same, ?_⟩⟩
        obtain ⟨R2, x2⟩ := lock_ok (od := od) a.rel f h
        exact po _ _ _ _ _ q x2 R2 ⟨[], [], LkD X.K b od kvs vs, .nil, fun A R => ⟨f, upd_same, r.kept (x2.kept a.rel)⟩, itOk_items⟩
      · exact .inl ⟨b, o, vs, rfl, h, po _ _ _ _ _ q Ext.refl a.rel ⟨[], [], LkD X.K b o kvs vs, .nil, fun A R => ⟨f, h, r⟩, itOk_items⟩⟩
/-! ### {k: v for ..} -/
def aDComp (gd : AH → Prop) (p : Pat) (tt : AT) (tk tv : AE) (δ : ASt) : List D → List (D × D) → AH → (List (D × D) → AH → Prop) → Prop
  | [], acc, A, Q => gd A ∧ Q acc A
  | d :: ds, acc, A, Q => gd A ∧ ∃ δ2, bindP p d δ = some δ2 ∧ tt δ2 A (fun b A1 => if b = true then tk δ2 A1 (fun y A2 => tv δ2 A2 (fun z A3 => (keyOf y).isSome = true ∧ acc.length < sizeLine ∧ aDComp gd p tt tk tv δ ds (putD acc y z) A3 Q) noX) noX else aDComp gd p tt tk tv δ ds acc A1 Q) noX
theorem aDComp_gd {gd : AH → Prop} {p : Pat} {tt : AT} {tk tv : AE} {δ : ASt} {ds : List D} {acc : List (D × D)} {A : AH} {Q : List (D × D) → AH → Prop} (h : aDComp gd p tt tk tv δ ds acc A Q) : gd A := by cases ds <;> exact h.1
def aDc (live : Bool) (ti : AI) (p : Pat) (tt : AT) (tk tv : AE) (vs : List Nat) : AE := fun δ A Q E => ti δ A (fun i A1 => aDComp i.1 p tt tk tv (wipeA δ vs) i.2 [] A1 (fun xs A2 => aNew live (.dct xs) A2 Q)) E
theorem lift_dc {live : Bool} {ti : AI} {p : Pat} {tt : AT} {tk tv : AE} {vs : List Nat} (hv : ∀ i ∈ slP p, i ∈ vs) {σ : L2.St} {H : Hp} {Q : VK} (h : liftE X.K W (aDc live ti p tt tk tv vs) σ H Q) :
    tDc (liftI X.K W ti) (tgOf X.K p) (liftT X.K noW tt) (liftE X.K noW tk) (liftE X.K noW tv) vs σ H Q := by
  obtain ⟨δ, h⟩ := h
  refine (Lf.core (R1 := RepI X.K) (k := fun i A1 Q E => aDComp i.1 p tt tk tv (wipeA δ vs) i.2 [] A1 (fun xs A2 => aNew live (.dct xs) A2 Q)) h).mono fun J H1 ⟨x, F1, A1, Q', E', a, ⟨hs, us, φ, rh, hφ, ok⟩, q, po⟩ => ?_
  have hφ := hφ A1 a.rel
  obtain ⟨gd, ds⟩ := x
  intro Dd hDd
  have R0 := a.rel.lay hDd (ho := .dK [])
  have x0 := ext_new a.rel hDd (ho := .dK [])
  have k0 := x0.kept a.rel
  refine ⟨fun i m H => m + i = ds.length + 1 ∧ i ≤ ds.length ∧ ∃ F A acc av, Rel X.K F A H ∧ A Dd = none ∧ ¬ F Dd ∧ H Dd = some (.dK av) ∧ RepK X.K F H acc av ∧ RepS X.K F H (wipeA δ vs) (wipe σ vs) ∧ Reps X.K F H hs us ∧
    aDComp gd p tt tk tv (wipeA δ vs) (ds.drop i) acc A (fun xs A2 => aNew live (.dct xs) A2 Q') ∧ Ext F1 A1 H1 F A H, ⟨ds.length + 1, rfl, Nat.zero_le _, F1, A1, [], [], R0, (a.rel.fresh hDd).1, (a.rel.fresh hDd).2, upd_same, .nil, (a.sl.wipe vs).kept k0, rh.kept k0, q, x0⟩, ?_⟩
  rintro i m H ⟨hm, hi, F, A, acc, av, R, nA, nF, eD, ra, s, rh, q, xx⟩
  have hgd := aDComp_gd q
  have hφ2 := ok.keep _ _ _ _ _ _ a.rel xx hφ
  by_cases hl : ds.length ≤ i
  · refine .inl ⟨ok.stop F A H i R hgd rh hφ2 hl, ?_⟩
    rw [List.drop_eq_nil_of_le hl] at q
    exact show_ok R xx hDd nF nA eD (.dk ra) q.2 po
  · have hlt : i < ds.length := by omega
    refine .inr ⟨ok.go F A H i R hgd rh hφ2 hlt, _, fun H' h => ⟨m - 1, by omega, h⟩, fun x H' hy => ?_⟩
    obtain ⟨d, ed, x2, R2, r2⟩ := ok.yld F A H i x H' R hgd rh hφ2 hy hlt
    rw [List.drop_eq_getElem_cons hlt] at q
    have : ds[i] = d := by
      rw [List.getElem?_eq_getElem hlt] at ed
      exact Option.some.inj ed
    rw [this] at q
    obtain ⟨_, δ2, b, q⟩ := q
    have k2 := x2.kept R
    obtain ⟨σ2, h1, h2, h3⟩ := bindP_ok p b r2 (s.kept k2)
    have aux : ∀ ws : List Nat, (∀ v ∈ ws, v ∈ vs) → wipe (wipe σ ws) vs = wipe σ vs := fun ws => by
      induction ws with
      | nil => intro _; rfl
      | cons w ws ih =>
        intro hw
        show wipe ((wipe σ ws).set w none) vs = wipe σ vs
        rw [wipe_set (hw w List.mem_cons_self), ih fun v hv => hw v (List.mem_cons_of_mem _ hv)]
    refine h1 _ ⟨(h3 vs hv).trans (aux vs fun _ h => h), ?_⟩
    have eD2 := (x2.kh nA eD nF).2
    refine ⟨δ2, F, A, _, noX, ⟨R2, h2, gx_no, .nil⟩, q, fun bb A3 F3 H3 y q3 x3 R3 ey => ?_⟩
    subst ey
    have k3 := x3.kept R2
    obtain ⟨nA3, eD3⟩ := x3.kh nA eD2 nF
    have nF3 : ¬ F3 Dd := fun z => nF (x3.g Dd _ nA eD2 z)
    have xx3 := (xx.trans x2).trans x3
    split
    · rw [if_pos (by assumption)] at q3
      refine ⟨δ2, F3, A3, _, noX, ⟨R3, h2.kept k3, gx_no, .nil⟩, q3, fun y A4 F4 H4 v q4 x4 R4 r4 => ?_⟩
      have k4 := x4.kept R3
      obtain ⟨nA4, eD4⟩ := x4.kh nA3 eD3 nF3
      have nF4 : ¬ F4 Dd := fun z => nF3 (x4.g Dd _ nA3 eD3 z)
      have xx4 := xx3.trans x4
      refine ⟨δ2, F4, A4, _, noX, ⟨R4, (h2.kept k3).kept k4, gx_no, .nil⟩, q4, fun z A5 F5 H5 w ⟨hk, hz, q5⟩ x5 R5 r5 => ?_⟩
      have k5 := x5.kept R4
      obtain ⟨nA5, eD5⟩ := x5.kh nA4 eD4 nF4
      have nF5 : ¬ F5 Dd := fun z => nF4 (x5.g Dd _ nA4 eD4 z)
      have xx5 := xx4.trans x5
      have ra5 := (((ra.kept k2).kept k3).kept k4).kept k5
      obtain ⟨kq, hkq⟩ := Option.isSome_iff_exists.mp hk
      have := keyOf_dK hkq
      subst this
      obtain ⟨rfl, hok⟩ := rep_key (r4.kept k5)
      have kh : Kept F5 F5 H5 (upd H5 Dd (.dK (putK av kq w))) := kept_hid nF5 eD5 (fun _ z => by cases z) (fun _ _ z => by cases z) (fun _ z => by cases z)
      refine ⟨av, kq, rfl, eD5, by rw [← ra5.length]; exact hz, by omega, by omega, F5, A5, putD acc (dK kq) z, putK av kq w, R5.hid nF5 nA5 eD5 (fun _ z => by cases z) (fun _ _ z => by cases z) (fun _ z => by cases z), nA5, nF5, upd_same, (repK_put hok r5 ra5).kept kh, ((((((s.kept k2).kept k3).kept k4).kept k5).kept kh)), ((((((rh.kept k2).kept k3).kept k4).kept k5).kept kh)), q5, xx5.f, fun a o w e => ?_, xx5.g⟩
      rw [upd_ne (ne_of_none e hDd)]
      exact xx5.k a o w e
    · rw [if_neg (by assumption)] at q3
      exact ⟨by omega, by omega, F3, A3, acc, av, R3, nA3, nF3, eD3, (ra.kept k2).kept k3, (s.kept k2).kept k3, (rh.kept k2).kept k3, q3, xx3⟩
end
end Av

set_option Elab.async false
set_option linter.all false
set_option maxRecDepth 100000
set_option maxHeartbeats 4000000
/-! own library Aw, part 3: comprehensions to dicts, dict(..), list(d), [*d], own operators, C(**d), classmethods -/
namespace Av
open PySem PySem.Spec PyProof.Rows L2 My
section
variable {X : Cx} {W : WX} {k n : Nat} {f r C g : Addr} {asp : ASp} {x m : Str} {a b e o fe kd : Expr} {es : List Expr} {ta tb te tf tk tv : AE} {t : AA} {p pos pos' apos kp : Pos} {K : PySem.W.Frag} {op : Operator} {bad ks : List Str} {kws : List Keyword}
theorem ae_dc (live : Bool) {kx vx tg iter : Expr} {ifs : List Expr} {scope : Scope} {own : List (Str × Nat)} {ti : AI} {pt : Pat} {tt : AT} (hc : X.calm = true) (hN : X.N.Nodup) (hi : PI X tg iter (liftI X.K W ti)) (ok : BlkOk X.N X.env.scope scope own) (hv : ∀ i ∈ slP pt, i ∈ own.map (·.2))
    (hg : ∀ (s : Shared) (H : Hp) (C : Addr) (cl : List (Str × Addr)) (fp : List Addr), PG (X.blk s H scope (compEnvC scope cl C X.env) fp) tg (tgOf X.K pt)) (ht : ∀ (s : Shared) (H : Hp) (C : Addr) (cl : List (Str × Addr)) (fp : List Addr), PTs (X.blk s H scope (compEnvC scope cl C X.env) fp) ifs (liftT X.K noW tt))
    (hk : ∀ (s : Shared) (H : Hp) (C : Addr) (cl : List (Str × Addr)) (fp : List Addr), PE (X.blk s H scope (compEnvC scope cl C X.env) fp) kx (liftE X.K noW tk))
    (he : ∀ (s : Shared) (H : Hp) (C : Addr) (cl : List (Str × Addr)) (fp : List Addr), PE (X.blk s H scope (compEnvC scope cl C X.env) fp) vx (liftE X.K noW tv)) (hs : ∀ x, foldedSetIterable iter X.env x = pure x := by intro _; rfl) :
    PE X (.DictComp kx vx [⟨tg, iter, ifs, 0⟩] scope pos) (liftE X.K W (aDc live ti pt tt tk tv (own.map (·.2)))) := PE.imp (pe_dc hc hN hi ok hg ht hk he hs) fun σ H Q h => lift_dc hv h
theorem as_setDc (live : Bool) {i : Nat} {y : Str} {py : Pos} {kx vx tg iter : Expr} {ifs : List Expr} {scope : Scope} {own : List (Str × Nat)} {spos : Pos} {ti : AI} {pt : Pat} {tt : AT} (hc : X.calm = true) (hN : X.N.Nodup) (hy : X.N[i]? = some y) (hyl : X.env.scope.names.lookup y = some .local)
    (hsw : swapsWith (.DictComp kx vx [⟨tg, iter, ifs, 0⟩] scope pos) (some (.Name y py)) spos.line X.env = pure true) (hi : PI X tg iter (liftI X.K W ti)) (ok : BlkOk X.N X.env.scope scope own) (hv : ∀ i ∈ slP pt, i ∈ own.map (·.2))
    (hg : ∀ (s : Shared) (H : Hp) (C : Addr) (cl : List (Str × Addr)) (fp : List Addr), PG (X.blk s H scope (compEnvC scope cl C X.env) fp) tg (tgOf X.K pt)) (ht : ∀ (s : Shared) (H : Hp) (C : Addr) (cl : List (Str × Addr)) (fp : List Addr), PTs (X.blk s H scope (compEnvC scope cl C X.env) fp) ifs (liftT X.K noW tt))
    (hk : ∀ (s : Shared) (H : Hp) (C : Addr) (cl : List (Str × Addr)) (fp : List Addr), PE (X.blk s H scope (compEnvC scope cl C X.env) fp) kx (liftE X.K noW tk))
    (he : ∀ (s : Shared) (H : Hp) (C : Addr) (cl : List (Str × Addr)) (fp : List Addr), PE (X.blk s H scope (compEnvC scope cl C X.env) fp) vx (liftE X.K noW tv)) (hs : ∀ x, foldedSetIterable iter X.env x = pure x := by intro _; rfl) :
    PS X (.Assign [.Name y py] (.DictComp kx vx [⟨tg, iter, ifs, 0⟩] scope pos) spos) (liftS X.K W (aAsg (aDc live ti pt tt tk tv (own.map (·.2))) (.nm i))) := PS.imp (ps_setDc hc hN hy hyl hsw hi ok hg ht hk he hs) fun D σ H h => by
  have h1 := lift_asg h
  rw [tgOf] at h1
  exact lift_dc hv h1
/-- a field of a local -/
theorem ae_fldV {i : Nat} {fl : Str} (h : PE X (.Name x p) (tVar i)) : PE X (.Attribute (.Name x p) fl pos) (liftE X.K W (aFld X.K fl (aVar i))) := ae_fld (ae_var h) rfl
theorem ae_fldVK {i : Nat} {fl : Str} {K : PySem.W.Frag} (hK : X.K = K) (h : PE X (.Name x p) (tVar i)) : PE X (.Attribute (.Name x p) fl pos) (liftE X.K W (aFld K fl (aVar i))) := by
  subst hK
  exact ae_fld (ae_var h) rfl
/-! ### dict([..]), list(d) -/
def pairsD : List (D × D) → List D := List.map fun p => .tup [p.1, p.2]
theorem reps_pairs {F : Addr → Prop} {H : Hp} : ∀ {ps : List (D × D)} {vs : List V}, Reps K F H (pairsD ps) vs → keysOk ps = true → ∃ as kvs, vs = as.map V.ref ∧ Paired (fun p (kv : Key × V) => SqT K H p [kV kv.1, kv.2]) as kvs ∧ RepP K F H ps (kvs.map fun kv => (kV kv.1, kv.2))
  | [], _, .nil, _ => ⟨[], [], rfl, .nil, .nil⟩
  | (d, e) :: ps, _, .cons q r, h => by
    simp only [keysOk, Bool.and_eq_true] at h
    obtain ⟨as, kvs, rfl, h1, h2⟩ := reps_pairs (ps := ps) r h.2
    obtain ⟨c, us, rfl, ht, ru⟩ := asTe_ok q rfl
    obtain ⟨w1, w2, rfl, s1, s2⟩ := ru.two
    obtain ⟨kq, hkq⟩ := Option.isSome_iff_exists.mp h.1
    have := keyOf_dK hkq
    subst this
    obtain ⟨rfl, hok⟩ := rep_key s1
    exact ⟨c :: as, (kq, w2) :: kvs, rfl, .cons ht.sq h1, .cons s1 s2 h2⟩
def gDictP (live : Bool) : GA := fun xs A Q _ => ∃ d ps, xs = [d] ∧ asL A d = some (pairsD ps) ∧ keysOk ps = true ∧ aNew live (.dct (mergeD ps)) A Q
theorem ca_dictP (hc : X.calm = true) (live : Bool) : CallA X (.type "dict") (gDictP live) := ⟨_, fun W δ σ H xs vs Q ⟨F, A, Q', E', a, ⟨d, ps, e1, e2, e3, q⟩, po⟩ => by
  subst e1
  obtain ⟨v, rfl, r⟩ := a.held.one
  obtain ⟨b1, us, rfl, h1, q1⟩ := asL_ok a.rel r e2
  obtain ⟨as, kvs, rfl, h2, h3⟩ := reps_pairs q1 e3
  obtain ⟨kvs', e4, e5, e6⟩ := merge_ok (acc := []) (av := []) h3 e3 .nil
  have : kvs' = kvs := by
    have inj : ∀ (l m : List (Key × V)), l.map (fun kv => (kV kv.1, kv.2)) = m.map (fun kv => (kV kv.1, kv.2)) → l = m := by
      intro l
      induction l with
      | nil => intro m h; cases m with
        | nil => rfl
        | cons _ _ => cases h
      | cons p l ih =>
        intro m h
        cases m with
        | nil => cases h
        | cons q m =>
          rw [List.map_cons, List.map_cons] at h
          injection h with h1 h2
          rw [ih m h2]
          obtain ⟨k1, v1⟩ := p
          obtain ⟨k2, v2⟩ := q
          simp only [Prod.mk.injEq] at h1
          obtain ⟨h3, rfl⟩ := h1
          have : k1 = k2 := by
            cases k1 <;> cases k2 <;> simp only [kV] at h3 <;> cases h3 <;> rfl
          rw [this]
    exact (inj _ _ e4).symm
  subst this
  exact ⟨b1, as, kvs', rfl, h1, h2, aNew_ok a.rel (.dk e6) q po⟩, call_dictP hc⟩
def gListD (live : Bool) : GA := fun xs A Q _ => ∃ d kvs, xs = [d] ∧ asD A d = some kvs ∧ aNew live (.lst (kvs.map (·.1))) A Q
theorem repK_keys {F : Addr → Prop} {H : Hp} : ∀ {kvs : List (D × D)} {vs : List (Key × V)}, RepK K F H kvs vs → ∀ {F' : Addr → Prop} {H' : Hp}, Reps K F' H' (kvs.map (·.1)) (vs.map fun kv => kV kv.1)
  | _, _, .nil, _, _ => .nil
  | _, _, .cons o a r, _, _ => .cons (rep_dK o) (repK_keys r)
theorem ca_listD (hc : X.calm = true) (live : Bool) : CallA X (.type "list") (gListD live) := ⟨_, fun W δ σ H xs vs Q ⟨F, A, Q', E', a, ⟨d, kvs, e1, e2, q⟩, po⟩ => by
  subst e1
  obtain ⟨v, rfl, r⟩ := a.held.one
  obtain ⟨b1, us, rfl, h1, q1⟩ := asD_ok a.rel r e2
  exact ⟨b1, us, rfl, h1, aNew_ok a.rel (.lst (repK_keys q1)) q po⟩, call_listD2 hc⟩
def aStarD (te : AE) (t : AA) : AA := fun δ A Q E => te δ A (fun d A1 => ∃ kvs, asD A1 d = some kvs ∧ t δ A1 (fun xs A2 => Q (kvs.map (·.1) ++ xs) A2) E) E
theorem aa_starD (hc : X.calm = true) (he : PE X e (liftE X.K W te)) (hr : PA X es (liftA X.K W t)) (hs : starEach (.Starred e p :: es) X.env = (true, eval e X.env) :: starEach es X.env := by rfl) : PA X (.Starred e p :: es) (liftA X.K W (aStarD te t)) := PA.imp (pa_starD hc he hr hs) fun σ H Q ⟨δ, h⟩ => by
  refine (Lf.bindE (k := fun d A1 Q E => ∃ kvs, asD A1 d = some kvs ∧ t δ A1 (fun xs A2 => Q (kvs.map (·.1) ++ xs) A2) E) h).mono fun v H1 ⟨d, F, A, Q', E', a, ⟨kvs, e1, q⟩, po⟩ => ?_
  obtain ⟨v', ev, r⟩ := a.held.one
  cases ev
  obtain ⟨b1, us, rfl, h1, q1⟩ := asD_ok a.rel r e1
  refine ⟨b1, us, rfl, h1, δ, F, A, _, E', ⟨a.rel, a.sl, a.gx, .nil⟩, q, fun xs A2 F2 H2 ws q2 x2 R2 r2 => ?_⟩
  exact po _ _ _ _ _ q2 x2 R2 ((repK_keys q1).append r2)
/-! ### own operators -/
def isO (C : Addr) (A : AH) (d : D) : Prop := ∃ fs, asO A d = some (C, fs)
theorem isO_ok {F : Addr → Prop} {A : AH} {H : Hp} {d : D} {v : V} (R : Rel K F A H) (r : Rep K F H d v) (h : isO C A d) : ∃ a, v = .ref a ∧ InsAt C H a := by
  obtain ⟨fs, e⟩ := h
  obtain ⟨b, dx, vs, rfl, eb, _⟩ := asO_ok R r e
  exact ⟨b, rfl, dx, vs, eb⟩
def gOwnL (C : Addr) (asp : ASp) : G2 := fun x y A Q _ => isO C A x ∧ (isO C A y ∨ ∃ i, y = .int i) ∧ Call asp [x, y] A Q noX ⟨⟩
def gOwnR (C : Addr) (asp : ASp) : G2 := fun x y A Q _ => (∃ i, x = .int i) ∧ isO C A y ∧ Call asp [y, x] A Q noX ⟨⟩
theorem l2_ownL : Lift2 K (gOwnL C asp) (rOpL C (liftSp K asp)) := fun W δ σ H x y v u Q ⟨F, A, Q', E', a, ⟨h1, h2, q⟩, po⟩ => by
  obtain ⟨u', v', e, r1, r2⟩ := a.held.two
  cases e
  obtain ⟨b, rfl, hb⟩ := isO_ok a.rel r2 h1
  refine ⟨b, rfl, hb, ?_, F, A, [x, y], Q', noX, a.rel, .cons r2 (.cons r1 .nil), q, po, fun _ _ _ _ _ _ _ h => h.elim⟩
  rcases h2 with h2 | ⟨i, rfl⟩
  · obtain ⟨c, rfl, hc⟩ := isO_ok a.rel r1 h2
    exact .inl ⟨c, rfl, hc⟩
  · cases r1; exact .inr ⟨i, rfl⟩
theorem l2_ownR : Lift2 K (gOwnR C asp) (rOpR C (liftSp K asp)) := fun W δ σ H x y v u Q ⟨F, A, Q', E', a, ⟨⟨i, hx⟩, h2, q⟩, po⟩ => by
  subst hx
  obtain ⟨u', v', e, r1, r2⟩ := a.held.two
  cases e
  cases r2
  obtain ⟨b, rfl, hb⟩ := isO_ok a.rel r1 h2
  exact ⟨i, b, rfl, rfl, hb, F, A, [y, .int i], Q', noX, a.rel, .cons r1 (.cons (.int i) .nil), q, po, fun _ _ _ _ _ _ _ h => h.elim⟩
theorem ae_ownL (O : OwnOp X.K C f r op) (F : FnR X.prog X.w X.K X.mg X.base CX0 k f (liftSp X.K asp)) (hr : Room k X.A) (ha : PE X a (liftE X.K W ta)) (hb : PE X b (liftE X.K W tb)) : PE X (.BinOp a op b pos) (liftE X.K W (aOp (gOwnL C asp) ta tb)) := ae_op l2_ownL (op_ownL O F hr) ha hb
theorem ae_ownRadd (O : OwnOp X.K C f r .Add) (F : FnR X.prog X.w X.K X.mg X.base CX0 k r (liftSp X.K asp)) (hr : Room k X.A) (ha : PE X a (liftE X.K W ta)) (hb : PE X b (liftE X.K W tb)) : PE X (.BinOp a .Add b pos) (liftE X.K W (aOp (gOwnR C asp) ta tb)) := ae_op l2_ownR (op_ownR_add O F hr) ha hb
theorem ae_ownRsub (O : OwnOp X.K C f r .Sub) (F : FnR X.prog X.w X.K X.mg X.base CX0 k r (liftSp X.K asp)) (hr : Room k X.A) (ha : PE X a (liftE X.K W ta)) (hb : PE X b (liftE X.K W tb)) : PE X (.BinOp a .Sub b pos) (liftE X.K W (aOp (gOwnR C asp) ta tb)) := ae_op l2_ownR (op_ownR_sub O F hr) ha hb
theorem ae_ownRmul (O : OwnOp X.K C f r .Mult) (F : FnR X.prog X.w X.K X.mg X.base CX0 k r (liftSp X.K asp)) (hr : Room k X.A) (ha : PE X a (liftE X.K W ta)) (hb : PE X b (liftE X.K W tb)) : PE X (.BinOp a .Mult b pos) (liftE X.K W (aOp (gOwnR C asp) ta tb)) := ae_op l2_ownR (op_ownR_mul O F hr) ha hb
def gNegO (C : Addr) (asp : ASp) : G1 := fun x A Q _ => isO C A x ∧ Call asp [x] A Q noX ⟨⟩
theorem ae_negO (S : Spc X.K C "__neg__" f) (F : FnR X.prog X.w X.K X.mg X.base CX0 k f (liftSp X.K asp)) (hr : Room k X.A) (ha : PE X a (liftE X.K W ta)) : PE X (.UnaryOp .USub a pos) (liftE X.K W (aUn (gNegO C asp) ta)) :=
  ae_un (fun W δ σ H x v Q ⟨F, A, Q', E', a, ⟨h1, q⟩, po⟩ => by
    obtain ⟨v', e, r1⟩ := a.held.one
    cases e
    obtain ⟨b, rfl, hb⟩ := isO_ok a.rel r1 h1
    exact ⟨b, rfl, hb, F, A, [x], Q', noX, a.rel, .cons r1 .nil, q, po, fun _ _ _ _ _ _ _ h => h.elim⟩) (un_ownNeg S F hr) ha
def gIxO (C : Addr) (asp : ASp) : G2 := fun x y A Q _ => isO C A x ∧ Call asp [x, y] A Q noX ⟨⟩
theorem ae_ixO (S : Spc X.K C "__getitem__" f) (hfn : PySem.W.fnIn X.K f = true) (F : FnR X.prog X.w X.K X.mg X.base CX0 k f (liftSp X.K asp)) (hr : Room (k + 1) X.A) (ha : PE X a (liftE X.K W ta)) (hb : PE X b (liftE X.K W tb))
    (hs : ∀ v u, subscripted b true v u = runValue (.builtin "lifetime.subscript" ⟨[v, u], []⟩) := by intro _ _; with_unfolding_all rfl) : PE X (.Subscript a b pos) (liftE X.K W (aOp (gIxO C asp) ta tb)) := PE.imp (pe_ixO S hfn F hr ha hb hs) fun σ H Q h =>
  lift_op (g := gIxO C asp) (fun W δ σ H x y v u Q ⟨F, A, Q', E', a, ⟨h1, q⟩, po⟩ => by
    obtain ⟨u', v', e, r1, r2⟩ := a.held.two
    cases e
    obtain ⟨b, rfl, hb⟩ := isO_ok a.rel r2 h1
    exact ⟨b, rfl, hb, F, A, [x, y], Q', noX, a.rel, .cons r2 (.cons r1 .nil), q, po, fun _ _ _ _ _ _ _ h => h.elim⟩) h
/-- x op= e, own instances -/
def aAugO (i : Nat) (g : G2) (te : AE) : AS := fun D δ A => ∃ z, δ[i]? = some (some z) ∧ te δ A (fun y A1 => g z y A1 (fun r A2 => D.nx (δ.set i (some r)) A2) noX) (fun C fs A1 => D.ex C fs δ A1)
theorem as_augO {i : Nat} {x : Str} (O : OwnOp X.K C f r op) (N : NoIn X.K C op) (F : FnR X.prog X.w X.K X.mg X.base CX0 k f (liftSp X.K asp)) (hr : Room k X.A) (hN : X.N.Nodup) (hi : X.N[i]? = some x) (hx : Loc X.env.scope x) (he : PE X e (liftE X.K W te))
    (hf : X.fn x = true ∨ X.env.scope.names.lookup x = some .local := by first | exact .inl rfl | exact .inr rfl | assumption) : PS X (.AugAssign (.Name x pos') op e pos) (liftS X.K W (aAugO i (gOwnL C asp) te)) := PS.imp (ps_aug hN hi hx he (ip_own O N F hr) hf) fun D σ H ⟨F, A, δ, D', R, s, ⟨z, ez, q⟩, en⟩ => by
  obtain ⟨v, ev, rv⟩ := s.get ez
  refine ⟨v, ev, (st_core (R1 := Rep X.K) R s en q).mono fun y H1 ⟨d, F1, A1, r1, R1, s1, ⟨h1, h2, q1⟩, e1, x1⟩ => ?_⟩
  have rv1 := rv.kept (x1.kept R)
  obtain ⟨b, rfl, hb⟩ := isO_ok R1 rv1 h1
  refine ⟨b, rfl, hb, ?_, F1, A1, [z, d], _, noX, R1, .cons rv1 (.cons r1 .nil), q1, fun w A2 F2 H2 u q2 x2 R2 r2 => e1.nx _ _ _ _ _ q2 x2 R2 ((s1.kept (x2.kept R1)).set r2 i), fun _ _ _ _ _ _ _ h => h.elim⟩
  rcases h2 with h2 | ⟨j, rfl⟩
  · obtain ⟨c, rfl, hc⟩ := isO_ok R1 r1 h2
    exact .inl ⟨c, rfl, hc⟩
  · cases r1; exact .inr ⟨j, rfl⟩
/-- f(e, ..), f an instance -/
def aCallO (C : Addr) (asp : ASp) (tf : AE) (t : AA) : AE := fun δ A Q E => tf δ A (fun x A1 => isO C A1 x ∧ t δ A1 (fun ds A2 => isO C A2 x ∧ Call asp (x :: ds) A2 Q noX ⟨⟩) E) E
theorem ae_callO (c : StX.CallO X.K C g) (F : FnR X.prog X.w X.K X.mg X.base CX0 k g (liftSp X.K asp)) (hr : Room k X.A) (hf : PE X fe (liftE X.K W tf)) (ha : PA X (e :: es) (liftA X.K W t))
    (ht : eval (.Call fe (e :: es) [] pos) X.env = (do callWith pos (← eval fe X.env) [] (backTo pos (starEach (e :: es) X.env)) (backToKw pos (keywordEach [] X.env))) := by rfl)
    (he : starEach (e :: es) X.env = (false, eval e X.env) :: starEach es X.env := by rfl) (hpl : (backTo pos (starEach es X.env)).any (·.1) = false := by rfl) : PE X (.Call fe (e :: es) [] pos) (liftE X.K W (aCallO C asp tf t)) := PE.imp (StX.pe_callO (E := anyX) hf c F hr pass0 ha ht he hpl) fun σ H Q ⟨δ, h⟩ => by
  refine (Lf.bindE (k := fun x A1 Q E => isO C A1 x ∧ t δ A1 (fun ds A2 => isO C A2 x ∧ Call asp (x :: ds) A2 Q noX ⟨⟩) E) h).mono fun v H1 ⟨x, F, A, Q', E', a, ⟨h1, q⟩, po⟩ => ?_
  obtain ⟨v', ev, r1⟩ := a.held.one
  cases ev
  obtain ⟨b, rfl, hb⟩ := isO_ok a.rel r1 h1
  refine ⟨b, rfl, δ, F, A, _, E', ⟨a.rel, a.sl, a.gx, .nil⟩, q, fun ds A2 F2 H2 us ⟨h2, q2⟩ x2 R2 r2 => ?_⟩
  have r3 := r1.kept (x2.kept a.rel)
  obtain ⟨b', eb, hb'⟩ := isO_ok R2 r3 h2
  cases eb
  obtain ⟨dx, fs, e3⟩ := hb'
  exact ⟨.inr ⟨dx, fs, e3⟩, F2, A2, x :: ds, Q', noX, R2, .cons r3 r2, q2, fun w A3 F3 H3 u q3 x3 R3 r4 => po _ _ _ _ _ q3 (x2.trans x3) R3 r4, fun _ _ _ _ _ _ _ h => h.elim⟩
/-- C.m(e, ..), m a classmethod -/
def aCMeth (C : Addr) (asp : ASp) (ta : AE) (t : AA) : AE := fun δ A Q E => ta δ A (fun x A1 => x = .ref C ∧ t δ A1 (fun ds A2 => Call asp (.ref C :: ds) A2 Q noX ⟨⟩) E) E
theorem ae_cmeth {mc : Value} {pa : Addr} {pl : Sem Bool} (he : PE X o (liftE X.K W ta)) (rd : ClX.CRead X.K C mc) (c : ClX.CMet X.K C mc m pa g) (F : FnR X.prog X.w X.K X.mg X.base CX0 k g (liftSp X.K asp)) (hr : Room k X.A) (ha : PA X (e :: es) (liftA X.K W t))
    (hst : starEach (e :: es) X.env = (false, eval e X.env) :: starEach es X.env := by rfl) (hpl : (backTo pos (starEach es X.env)).any (·.1) = false := by rfl)
    (ht : eval (.Call (.Attribute o m apos) (e :: es) [] pos) X.env = (do
      let ov ← eval o X.env
      standAt apos.atName
      let (f, first) ← holding [ov] (getMethod ov m pl)
      callWith pos f first (backTo pos (starEach (e :: es) X.env)) (backToKw pos (keywordEach [] X.env))) := by rfl) :
    PE X (.Call (.Attribute o m apos) (e :: es) [] pos) (liftE X.K W (aCMeth C asp ta t)) := PE.imp (ClX.pe_cmeth (E := anyX) he rd c F hr pass0 ha hst hpl ht) fun σ H Q ⟨δ, h⟩ => by
  refine (Lf.bindE (k := fun x A1 Q E => x = .ref C ∧ t δ A1 (fun ds A2 => Call asp (.ref C :: ds) A2 Q noX ⟨⟩) E) h).mono fun v H1 ⟨x, F, A, Q', E', a, ⟨h1, q⟩, po⟩ => ?_
  subst h1
  obtain ⟨v', ev, r1⟩ := a.held.one
  cases ev
  cases r1
  refine ⟨rfl, δ, F, A, _, E', ⟨a.rel, a.sl, a.gx, .nil⟩, q, fun ds A2 F2 H2 us q2 x2 R2 r2 => ?_⟩
  exact ⟨F2, A2, .ref C :: ds, Q', noX, R2, .cons (.ref C) r2, q2, fun w A3 F3 H3 u q3 x3 R3 r4 => po _ _ _ _ _ q3 (x2.trans x3) R3 r4, fun _ _ _ _ _ _ _ h => h.elim⟩
/-! ### isinstance of an own class -/
def gIsiC (K : PySem.W.Frag) (C : Addr) : GA := fun xs A Q _ => ∃ d, xs = [d, .ref C] ∧ ((isO C A d ∧ Q (.bl true) A) ∨ (kdD A d ≠ "?" ∧ PySem.W.kitOne K (.type (kdD A d)) (.ref C) = some false ∧ Q (.bl false) A))
/-- what isinstance asks of an own class -/
structure IsC (K : PySem.W.Frag) (C : Addr) : Prop where
  cl : Cls K C
  ca : PySem.W.findIn K (.ref C) "__class__" = some (some (.builtin "object.__class__"))
  cn : PySem.W.specialIn K (.builtin "object.__class__") "__get__" = some (some (.builtin "getset_descriptor.__get__"))
  ct : PySem.W.takesIn K (.builtin "object.__class__") = some true
  cm : PySem.W.mroIn K C (.type "object") = some true
  kt : PySem.W.kitOne K (.ref C) (.ref C) = some true
def isCB (c : Str) : FaB := fun K => (He.Fa.cls c).ok K && (He.eqO (PySem.W.findIn K (.ref (He.ga K c)) "__class__") (some (some (.builtin "object.__class__"))) && (He.eqO (PySem.W.specialIn K (.builtin "object.__class__") "__get__") (some (some (.builtin "getset_descriptor.__get__"))) &&
  (decide (PySem.W.takesIn K (.builtin "object.__class__") = some true) && (decide (PySem.W.mroIn K (He.ga K c) (.type "object") = some true) && decide (PySem.W.kitOne K (.ref (He.ga K c)) (.ref (He.ga K c)) = some true)))))
theorem isCB_ok {c : Str} {K : PySem.W.Frag} (h : isCB c K = true) : IsC K (He.ga K c) := by
  obtain ⟨h1, h⟩ := He.ba h
  obtain ⟨h2, h⟩ := He.ba h
  obtain ⟨h3, h⟩ := He.ba h
  obtain ⟨h4, h⟩ := He.ba h
  obtain ⟨h5, h6⟩ := He.ba h
  exact ⟨He.cls_ok h1, He.eqO_ok h2, He.eqO_ok h3, of_decide_eq_true h4, of_decide_eq_true h5, of_decide_eq_true h6⟩
theorem ca_isiC (hC : IsC X.K C) : CallA X (.builtin "isinstance") (gIsiC X.K C) := ⟨_, fun W δ σ H xs vs Q ⟨F, A, Q', E', a, ⟨d, e1, h⟩, po⟩ => by
  subst e1
  obtain ⟨v, u, rfl, r1, r2⟩ := a.held.two
  cases r2
  rcases h with ⟨h1, q⟩ | ⟨h1, h2, q⟩
  · obtain ⟨b, rfl, dx, fs, hb⟩ := isO_ok a.rel r1 h1
    exact ⟨_, .ref C, .ref C, .ref C, true, rfl, .own C, .base (.ins hb hC.cl hC.ca hC.cn hC.ct hC.cm), hC.kt, po _ _ _ _ _ q Ext.refl a.rel (.bl _)⟩
  · exact ⟨v, .ref C, _, .ref C, false, rfl, .own C, kdD_okty a.rel r1 h1, h2, po _ _ _ _ _ q Ext.refl a.rel (.bl _)⟩, call_isi⟩
/-! ### C(e, .., **d) -/
def aMakeSS (C : Addr) (n : Nat) (bad : List Str) (asp : ASp) (tf : AE) (t : AA) (te : AE) : AE := fun δ A Q E => tf δ A (fun y A0 => y = .ref C ∧ t δ A0 (fun ds A1 => te δ A1 (fun kd A2 => ∃ (kvs : List (D × D)) (ks : List Str), asD A2 kd = some kvs ∧ kvs.map (·.1) = ks.map D.str ∧ (∀ k ∈ ks, k ∉ bad) ∧ ds.length + 1 = n ∧
  ∀ x, A2 x = none → Call asp (.ref x :: ds ++ [.dct kvs]) (put A2 x (.ins C [])) (fun d A3 => d = .non ∧ ∃ fs, A3 x = some (.ins C fs) ∧ Q (.obj C fs) (del A3 x)) noX ⟨⟩) E) E) E
theorem kw_of : ∀ {ks : List Str} {vs : List (Key × V)}, vs.map (·.1) = ks.map Sum.inr → ∃ kvs : List (Str × V), vs = kwK kvs ∧ kvs.map (·.1) = ks
  | [], [], _ => ⟨[], rfl, rfl⟩
  | [], _ :: _, h => by cases h
  | _ :: _, [], h => by cases h
  | k :: ks, (q, v) :: vs, h => by
    rw [List.map_cons, List.map_cons] at h
    injection h with h1 h2
    obtain ⟨kvs, rfl, h3⟩ := kw_of h2
    have h1 : q = Sum.inr k := h1
    subst h1
    exact ⟨(k, v) :: kvs, rfl, by rw [List.map_cons, h3]⟩
/-- the instance and the new dict, then __init__ -/
theorem init_ok {F : Addr → Prop} {A : AH} {H : Hp} {Q' : AQ} {Q : VK} {ds : List D} {vs : List V} {kvs : List (D × D)} {ks : List (Key × V)} {x dx c : Addr} {E : XK} (R : Rel K F A H) (rs : Reps K F H ds vs) (rk : RepK K F H kvs ks) (hx : H x = none) (hdx : H dx = none) (hc : H c = none) (n1 : dx ≠ x) (n2 : c ≠ x) (n3 : c ≠ dx)
    (q : ∀ x, A x = none → asp (.ref x :: ds ++ [.dct kvs]) (put A x (.ins C [])) (fun d A3 => d = .non ∧ ∃ fs, A3 x = some (.ins C fs) ∧ Q' (.obj C fs) (del A3 x)) noX) (po : Post K (Rep K) F A H Q' Q) :
    liftSp K asp (V.ref x :: vs ++ [V.ref c]) (upd (upd (upd H dx (.own x)) x (.ins C dx [])) c (.dK ks)) (fun v H3 => v = .non ∧ Q (.ref x) H3) E := by
  have R1 := R.lay hdx (ho := .own x)
  have x1 := ext_new R hdx (ho := .own x)
  have hx1 : upd H dx (.own x) x = none := by rw [upd_ne (Ne.symm n1)]; exact hx
  obtain ⟨R2, x2⟩ := R1.newL (o := .ins C []) (ho := .ins C dx []) hx1 (.ins .nil)
  have hc2 : upd (upd H dx (.own x)) x (.ins C dx []) c = none := by rw [upd_ne n2, upd_ne n3]; exact hc
  have x12 := x1.trans x2
  have k12 := x12.kept R
  obtain ⟨R3, x3, r3⟩ := R2.newF (o := .dct kvs) (ho := .dK ks) hc2 (.dk (rk.kept k12))
  have xx := x12.trans x3
  have kk := xx.kept R
  refine ⟨_, put A x (.ins C []), .ref x :: ds ++ [.dct kvs], _, noX, R3, .cons (.ref x) ((rs.kept kk).append (.cons r3 .nil)), q x (R.fresh hx).1, fun d A4 F4 H4 v ⟨ed, fs, e4, q4⟩ x4 R4 r4 => ?_, fun _ _ _ _ _ _ _ h => h.elim⟩
  subst ed
  cases r4
  obtain ⟨R5, x5, r5⟩ := R4.frz e4
  exact ⟨rfl, po _ _ _ _ _ q4 ((xx.trans x4).trans x5) R5 r5⟩
theorem ae_makeSS (M : Mk X.K C f) (F : FnSS X.prog X.w X.K X.mg X.base CX0 k f n bad (liftSp X.K asp)) (hr : Room (k + 1) X.A) (hf : PE X (.Name x p) (liftE X.K W tf)) (ha : PA X (e :: es) (liftA X.K W t)) (hk : PE X kd (liftE X.K W te))
    (he : starEach (e :: es) X.env = (false, eval e X.env) :: starEach es X.env := by rfl) : PE X (.Call (.Name x p) (e :: es) [⟨none, kd, kp⟩] pos) (liftE X.K W (aMakeSS C n bad asp tf t te)) := PE.imp (pe_makeSS (E := anyX) M F hr hf pass0 ha hk he) fun σ H Q ⟨δ, F, A, Q', E', a, q, po⟩ => by
  refine ⟨δ, F, A, _, E', ⟨a.rel, a.sl, a.gx, .nil⟩, q, fun y A0 F0 H0 v ⟨ey, q0⟩ x0 R0 r0 => ?_⟩
  subst ey
  cases r0
  have s0 := a.sl.kept (x0.kept a.rel)
  refine ⟨rfl, δ, F0, A0, _, E', ⟨R0, s0, a.gx.step x0, .nil⟩, q0, fun ds A1 F1 H1 vs q1 x1 R1 r1 => ?_⟩
  intro d hd
  have s1 := s0.kept (x1.kept R0)
  have x01 := x0.trans x1
  have Rd := R1.lay hd (ho := .dK [])
  have xd := ext_new R1 hd (ho := .dK [])
  have nA1 := (R1.fresh hd).1
  have nF1 := (R1.fresh hd).2
  refine ⟨δ, F1, A1, _, E', ⟨Rd, s1.kept (xd.kept R1), (a.gx.step x01).step xd, .nil⟩, q1, fun kd A2 F2 H2 v2 ⟨kvs, ks, e1, e2, hbad, hn, q2⟩ x2 R2 r2 => ?_⟩
  obtain ⟨nA2, ed⟩ := x2.kh nA1 upd_same nF1
  have nF2 : ¬ F2 d := fun z => nF1 (x2.g d _ nA1 upd_same z)
  obtain ⟨c, us, rfl, hR, rk⟩ := asD_ok R2 r2 e1
  obtain ⟨hks, _⟩ := repK_strs rk e2
  obtain ⟨kvs', rfl, hn'⟩ := kw_of hks
  have hne : d ≠ c := fun z => by
    subst z
    cases r2 with
    | dk f _ _ => exact nF2 f
    | ref _ =>
      simp only [asD] at e1
      rw [nA2] at e1
      cases e1
    | _ => cases e1
  refine ⟨c, kvs', rfl, hne, hR, ed, by rw [← r1.length]; exact hn, fun p hp => hbad p.1 (by rw [← hn']; exact List.mem_map_of_mem hp), fun x dx c2 hx hdx hc n1 n2 n3 => ?_⟩
  have kh : Kept F2 F2 H2 (upd H2 d (.dK (kwK kvs'))) := kept_hid nF2 ed (fun _ z => by cases z) (fun _ _ z => by cases z) (fun _ z => by cases z)
  have Rh : Rel X.K F2 A2 (upd H2 d (.dK (kwK kvs'))) := R2.hid nF2 nA2 ed (fun _ z => by cases z) (fun _ _ z => by cases z) (fun _ z => by cases z)
  have k12 := (x2.kept Rd)
  have rs := ((r1.kept (xd.kept R1)).kept k12).kept kh
  have xx := xd.trans x2
  have xh : Ext F1 A1 H1 F2 A2 (upd H2 d (.dK (kwK kvs'))) := ⟨xx.f, fun b o w e => by
    rw [upd_ne (ne_of_none e hd)]
    exact xx.k b o w e, xx.g⟩
  have fr : ∀ {b : Addr}, H2 b = none → upd H2 d (.dK (kwK kvs')) b = none := fun {b} hb => by
    have : b ≠ d := fun z => by rw [z, ed] at hb; cases hb
    rw [upd_ne this]; exact hb
  exact init_ok Rh rs (rk.kept kh) (fr hx) (fr hdx) (fr hc) n1 n2 n3 q2 fun w A' F' H' y q' x' => po _ _ _ _ _ q' ((x01.trans xh).trans x')
/-- C(e, .., k = v, ..) -/
def aMakeKS (C : Addr) (n : Nat) (ks : List Str) (asp : ASp) (t tk : AA) : AE := fun δ A Q E => t δ A (fun ds A1 => tk δ A1 (fun zs A2 => ds.length + 1 = n ∧ zs.length = ks.length ∧
  ∀ x, A2 x = none → Call asp (.ref x :: ds ++ [.dct ((ks.map D.str).zip zs)]) (put A2 x (.ins C [])) (fun d A3 => d = .non ∧ ∃ fs, A3 x = some (.ins C fs) ∧ Q (.obj C fs) (del A3 x)) noX ⟨⟩) E) E
theorem repK_zip {F : Addr → Prop} {H : Hp} : ∀ {ks : List Str} {zs : List D} {vs : List V}, (∀ k ∈ ks, sOk k) → Reps K F H zs vs → RepK K F H ((ks.map D.str).zip zs) (kwK (ks.zip vs))
  | [], _, _, _, _ => .nil
  | _ :: _, _, _, _, .nil => .nil
  | k :: ks, _, _, h, .cons a r => .cons (k := .inr k) (h k (.head _)) a (repK_zip (fun x hx => h x (.tail _ hx)) r)
theorem kept_rf {F : Addr → Prop} {H : Hp} : Kept F F H H := ⟨fun _ h => h, fun _ _ h => h, fun _ _ _ h => h, fun _ _ _ h => h, fun _ _ _ h => h, fun _ _ _ h => h, fun _ _ _ _ _ h => h, fun _ _ h => h⟩
theorem makeKS_ok {tk : AA} {σ : L2.St} {H : Hp} {Q : VK} (hsk : ∀ k ∈ ks, sOk k) (h : liftE K W (aMakeKS C n ks asp t tk) σ H Q) : tMakeKS C n bad ks (liftSp K asp) anyX (liftA K W t) (liftA K W tk) σ H Q := by
  obtain ⟨δ, F, A, Q', E', a, q, po⟩ := h
  refine ⟨δ, F, A, _, E', ⟨a.rel, a.sl, a.gx, .nil⟩, q, fun ds A1 F1 H1 vs q1 x1 R1 r1 => ?_⟩
  have s1 := a.sl.kept (x1.kept a.rel)
  refine ⟨δ, F1, A1, _, E', ⟨R1, s1, a.gx.step x1, .nil⟩, q1, fun zs A2 F2 H2 us ⟨hn, hz, q2⟩ x2 R2 r2 => ?_⟩
  refine ⟨by rw [← r1.length]; exact hn, by rw [← r2.length]; exact hz, fun x dx c hx hdx hc n1 n2 n3 => ?_⟩
  exact init_ok R2 (r1.kept (x2.kept R1)) (repK_zip hsk r2) hx hdx hc n1 n2 n3 q2 fun w A' F' H' y q' x' => po _ _ _ _ _ q' ((x1.trans x2).trans x')
theorem ae_makeKS {tk : AA} (M : Mk X.K C f) (F : FnSS X.prog X.w X.K X.mg X.base CX0 k f n bad (liftSp X.K asp)) (hr : Room (k + 1) X.A) (hg : Gl X x) (hm : X.mg x = some (.ref C)) (ha : PA X (e :: es) (liftA X.K W t)) (hkw : PK X kws (liftA X.K W tk)) (hnd : ks.Nodup) (hbad : ∀ k ∈ ks, k ∉ bad) (hsk : ∀ k ∈ ks, sOk k) (hz : ks.length ≤ sizeLine)
    (hall : (backToKw pos (keywordEach kws X.env)).all (·.1.isSome) = true := by rfl) (hks : (backToKw pos (keywordEach kws X.env)).filterMap (·.1) = ks := by rfl)
    (hdb : (x == ("__debug__" : Str)) = false := by decide) (he : starEach (e :: es) X.env = (false, eval e X.env) :: starEach es X.env := by rfl)
    (hpl : ((backTo pos (starEach (e :: es) X.env)).any (·.1) || (backToKw pos (keywordEach kws X.env)).any (·.1.isNone)) = false := by rfl) :
    PE X (.Call (.Name x p) (e :: es) kws pos) (liftE X.K W (aMakeKS C n ks asp t tk)) := PE.imp (pe_makeKS (E := anyX) M F hr hg hm pass0 ha hkw hnd hbad hz hall hks hdb he hpl) fun σ H Q h => makeKS_ok hsk h
theorem ae_makeKS0 {tk : AA} (M : Mk X.K C f) (F : FnSS X.prog X.w X.K X.mg X.base CX0 k f 1 bad (liftSp X.K asp)) (hr : Room (k + 1) X.A) (hg : Gl X x) (hm : X.mg x = some (.ref C)) (hkw : PK X kws (liftA X.K W tk)) (hnd : ks.Nodup) (hbad : ∀ k ∈ ks, k ∉ bad) (hsk : ∀ k ∈ ks, sOk k) (hz : ks.length ≤ sizeLine)
    (hall : (backToKw pos (keywordEach kws X.env)).all (·.1.isSome) = true := by rfl) (hks : (backToKw pos (keywordEach kws X.env)).filterMap (·.1) = ks := by rfl)
    (hdb : (x == ("__debug__" : Str)) = false := by decide)
    (hpl : ((backTo pos (starEach [] X.env)).any (·.1) || (backToKw pos (keywordEach kws X.env)).any (·.1.isNone)) = false := by rfl) :
    PE X (.Call (.Name x p) [] kws pos) (liftE X.K W (aMakeKS C 1 ks asp aNil tk)) := PE.imp (pe_makeKS0 (E := anyX) M F hr hg hm pass0 hkw hnd hbad hz hall hks hdb hpl) fun σ H Q h => by
  obtain ⟨δ, F, A, Q', E', at_, q, po⟩ := makeKS_ok (bad := bad) hsk h
  exact po _ _ _ _ _ q Ext.refl at_.rel .nil
end
end Av

set_option Elab.async false
set_option linter.all false
set_option maxRecDepth 100000
set_option maxHeartbeats 4000000
/-! own library Aw, part 4: defs with **d by their bodies; equations for runs -/
namespace Av
open PySem PySem.Spec PyProof.Rows L2 My StX
section
variable {P : Program} {w : World} {K : PySem.W.Frag} {mg : Str → Option Value} {base : Heap} {CX : CXT} {k n : Nat} {f : Addr} {bad : List Str} {spb spb' : Sp} {asp : ASp}
theorem FnSS.imp (F : FnSS P w K mg base CX k f n bad spb) (h : ∀ vs c H Q E, vs.length = n → spb' (vs ++ [.ref c]) H Q E → spb (vs ++ [.ref c]) H Q E) : FnSS P w K mg base CX k f n bad spb' :=
  fun A outer s H us vs kus kvs Q E hr e0 r hl rk hn hb hz hq => F A outer s H us vs kus kvs Q E hr e0 r hl rk hn hb hz fun c hc => h vs c _ _ _ hl (hq c hc)
def dfl1 (d0 : D) (asp : ASp) : ASp := fun ds A Q E => ∃ x c, ds = [x, c] ∧ asp [x, d0, c] A Q E
variable {x qual : Str} {n1 n2 n3 : Option Expr} {p1 p2 p3 : Pos} {kwd : List (Option Expr)} {df : List Expr} {body : List Stmt} {scope : Scope} {kws : List (Str × V)} {fd : FuncData} {N : List Str} {i : Int}
theorem FunD.ASS2 (F : FunD K x qual ⟨[], [⟨"self", n1, p1⟩, ⟨"constant", n2, p2⟩], none, [], kwd, some ⟨"coefficients", n3, p3⟩, df⟩ body scope [.int i] kws f fd) (S : FnScope N ["self", "constant", "coefficients"] scope) (hbody : BodyR P w K mg base qual body scope f N k asp) :
    FnSS P w K mg base CX0 (k + 1) f 2 ["self", "constant"] (liftSp K asp) := by
  obtain ⟨oc, od, dV, kV, doc, pm, an, cdv, ct, osl, rfl, lk, hcd, hD, hK⟩ := F.ex
  rcases hD with ⟨e, _⟩ | ⟨_, T, o, its, m, rfl, lT, oT, rT⟩
  · cases e
  · obtain ⟨u, rfl, ru⟩ := rT.one
    refine FnSS.imp (fn_ss (ps := ["self", "constant"]) (pd := "coefficients") (dd := []) (dvs := []) (sp := liftSp K asp) lk hcd S cxUp_none (bindSS_2 lT oT) .nil rfl fun A outer s H vs Q E hr h => ?_) fun vs c H Q E hl h => ?_
    · obtain ⟨t, ht, hq⟩ := bodyR (dd := []) hbody cdv A outer s H vs Q E hr h
      exact ⟨t, ht.nox, hq⟩
    · simpa using h
theorem FunD.ASS1 (F : FunD K x qual ⟨[], [⟨"self", n1, p1⟩, ⟨"constant", n2, p2⟩], none, [], kwd, some ⟨"coefficients", n3, p3⟩, df⟩ body scope [.int i] kws f fd) (S : FnScope N ["self", "constant", "coefficients"] scope) (hbody : BodyR P w K mg base qual body scope f N k asp) :
    FnSS P w K mg base CX0 (k + 1) f 1 ["self", "constant"] (liftSp K (dfl1 (.int i) asp)) := by
  obtain ⟨oc, od, dV, kV, doc, pm, an, cdv, ct, osl, rfl, lk, hcd, hD, hK⟩ := F.ex
  rcases hD with ⟨e, _⟩ | ⟨_, T, o, its, m, rfl, lT, oT, rT⟩
  · cases e
  · obtain ⟨u, rfl, ru⟩ := rT.one
    refine FnSS.imp (fn_ss (ps := ["self", "constant"]) (pd := "coefficients") (dd := [u]) (dvs := [.int i]) (sp := liftSp K asp) lk hcd S cxUp_none (bindSS_1 lT oT) (.cons ru .nil) rfl fun A outer s H vs Q E hr h => ?_) fun vs c H Q E hl h => ?_
    · obtain ⟨t, ht, hq⟩ := bodyR (dd := []) hbody cdv A outer s H vs Q E hr h
      exact ⟨t, ht.nox, hq⟩
    · match vs, hl with
      | [v], _ =>
      obtain ⟨F, A, ds, Q', E', R, r, ⟨a, b, rfl, q⟩, po, g⟩ := h
      obtain ⟨w1, w2, ew, r1, r2⟩ := r.two
      cases ew
      exact ⟨F, A, [a, .int i, b], Q', E', R, .cons r1 (.cons (.int i) (.cons r2 .nil)), q, po, g⟩
end
/-! equations -/
section
variable {A : AH} {Q : AQ} {E : AX} {δ : ASt} {N : AEnds}
theorem aItK_eq {te : AE} {Q : IA → AH → Prop} : aItK te δ A Q E = te δ A (fun d A1 => oK (dctD d) (fun kvs => Q (fun _ => True, kvs.map (·.1)) A1) ⟨⟩) E := by
  unfold aItK
  congr 1
  funext d A1
  apply propext
  constructor
  · rintro ⟨kvs, rfl, h⟩; exact ⟨kvs, rfl, h⟩
  · rintro ⟨kvs, e, h⟩; exact ⟨kvs, dctD_some e, h⟩
theorem aItI_eq {te : AE} {Q : IA → AH → Prop} : aItI te δ A Q E = te δ A (fun d A1 => oK (dctD d) (fun kvs => Q (fun _ => True, itemsL kvs) A1) ⟨⟩) E := by
  unfold aItI
  congr 1
  funext d A1
  apply propext
  constructor
  · rintro ⟨kvs, rfl, h⟩; exact ⟨kvs, rfl, h⟩
  · rintro ⟨kvs, e, h⟩; exact ⟨kvs, dctD_some e, h⟩
theorem dctD_dct {kvs : List (D × D)} : dctD (.dct kvs) = some kvs := rfl
def LoopD (gd : AH → Prop) (p : Pat) (tt : AT) (tk tv : AE) (δ : ASt) (ds : List D) (acc : List (D × D)) (A : AH) (Q : List (D × D) → AH → Prop) (_ : Tag (gd, tt, tk, tv, Q)) : Prop := aDComp gd p tt tk tv δ ds acc A Q
theorem aDc_eq {live : Bool} {ti : AI} {p : Pat} {tt : AT} {tk tv : AE} {vs : List Nat} : aDc live ti p tt tk tv vs δ A Q E = ti δ A (fun i A1 => LoopD i.1 p tt tk tv (wipeA δ vs) i.2 [] A1 (fun xs A2 => aNew live (.dct xs) A2 Q) ⟨⟩) E := rfl
/-- nothing is changed: a dict of those that pass -/
theorem dcomp_filter {gd : AH → Prop} {p : Pat} {tt : AT} {tk tv : AE} {δ : ASt} {A : AH} {Q : List (D × D) → AH → Prop} (c : D → Bool) (fk fv : D → D) (hg : gd A) : ∀ (ds : List D) (acc : List (D × D)), acc.length + ds.length ≤ sizeLine →
    (∀ d ∈ ds, ∀ (R : D → D → AH → Prop) (R0 : AH → Prop), (c d = true → R (fk d) (fv d) A) → (c d = false → R0 A) → bindK p d δ (fun δ2 => tt δ2 A (fun b A1 => if b = true then tk δ2 A1 (fun y A2 => tv δ2 A2 (fun z A3 => (keyOf y).isSome = true ∧ R y z A3) noX) noX else R0 A1) noX)) →
    Q ((ds.filter c).foldl (fun acc d => putD acc (fk d) (fv d)) acc) A → aDComp gd p tt tk tv δ ds acc A Q
  | [], acc, _, _, q => ⟨hg, q⟩
  | d :: ds, acc, hl, h, q => by
    refine ⟨hg, ?_⟩
    rw [List.length_cons] at hl
    have hp : ∀ k v, (putD acc k v).length ≤ acc.length + 1 := fun k v => by
      unfold putD
      split
      · rw [List.length_map]; omega
      · rw [List.length_append]; simp
    have key : bindK p d δ (fun δ2 => tt δ2 A (fun b A1 => if b = true then tk δ2 A1 (fun y A2 => tv δ2 A2 (fun z A3 => (keyOf y).isSome = true ∧ acc.length < sizeLine ∧ aDComp gd p tt tk tv δ ds (putD acc y z) A3 Q) noX) noX else aDComp gd p tt tk tv δ ds acc A1 Q) noX) := by
      refine h d List.mem_cons_self (fun y z A3 => acc.length < sizeLine ∧ aDComp gd p tt tk tv δ ds (putD acc y z) A3 Q) (fun A1 => aDComp gd p tt tk tv δ ds acc A1 Q) (fun hc => ?_) (fun hc => ?_)
      · rw [List.filter_cons_of_pos hc, List.foldl_cons] at q
        have := hp (fk d) (fv d)
        exact ⟨by omega, dcomp_filter c fk fv hg ds _ (by omega) (fun x hx => h x (List.mem_cons_of_mem _ hx)) q⟩
      · rw [List.filter_cons_of_neg (by rw [hc]; decide)] at q
        exact dcomp_filter c fk fv hg ds _ (by omega) (fun x hx => h x (List.mem_cons_of_mem _ hx)) q
    exact key
/-- .. of all of them -/
theorem dcomp_map {gd : AH → Prop} {p : Pat} {tk tv : AE} {δ : ASt} {A : AH} {Q : List (D × D) → AH → Prop} (fv : D → D) (hg : gd A) (ds : List D) (hl : ds.length ≤ sizeLine)
    (h : ∀ d ∈ ds, ∀ (R : D → D → AH → Prop), R d (fv d) A → bindK p d δ (fun δ2 => tk δ2 A (fun y A2 => tv δ2 A2 (fun z A3 => (keyOf y).isSome = true ∧ R y z A3) noX) noX))
    (q : Q (ds.foldl (fun acc d => putD acc d (fv d)) []) A) : aDComp gd p aYes tk tv δ ds [] A Q := by
  refine dcomp_filter (fun _ => true) id fv hg ds [] (by simpa using hl) (fun d hd R R0 hR _ => ?_) (by rw [List.filter_eq_self.mpr fun _ _ => rfl]; exact q)
  have := h d hd R (hR rfl)
  simp only [aYes_eq, if_true]
  exact this
theorem gDictP_eq {live : Bool} {d : D} : gDictP live [d] A Q E = oK (asL A d) (fun ys => ∃ ps, ys = pairsD ps ∧ keysOk ps = true ∧ aNew live (.dct (mergeD ps)) A Q) ⟨⟩ := by
  apply propext
  constructor
  · rintro ⟨d', ps, e, h1, h2, h3⟩; cases e; exact ⟨_, h1, ps, rfl, h2, h3⟩
  · rintro ⟨ys, h1, ps, rfl, h2, h3⟩; exact ⟨d, ps, rfl, h1, h2, h3⟩
theorem gListD_eq {live : Bool} {d : D} : gListD live [d] A Q E = oK (asD A d) (fun kvs => aNew live (.lst (kvs.map (·.1))) A Q) ⟨⟩ := by
  apply propext
  constructor
  · rintro ⟨d', kvs, e, h1, h2⟩; cases e; exact ⟨_, h1, h2⟩
  · rintro ⟨kvs, h1, h2⟩; exact ⟨d, kvs, rfl, h1, h2⟩
theorem aStarD_eq {te : AE} {t : AA} {Q : List D → AH → Prop} : aStarD te t δ A Q E = te δ A (fun d A1 => oK (asD A1 d) (fun kvs => t δ A1 (fun xs A2 => Q (kvs.map (·.1) ++ xs) A2) E) ⟨⟩) E := rfl
/-- texts and ints in a dict -/
def kvD (l : List (Str × Int)) : List (D × D) := l.map fun p => (.str p.1, .int p.2)
theorem kvD_keys {l : List (Str × Int)} : (kvD l).map (·.1) = (l.map (·.1)).map D.str := by simp [kvD]
theorem kvD_len {l : List (Str × Int)} : (kvD l).length = l.length := by simp [kvD]
theorem sort_dct {live : Bool} {d : D} {l : List (Str × Int)} (h : asD A d = some (kvD l)) (h64 : l.length < 64) (q : aNew live (.lst ((srt (l.map (·.1))).map D.str)) A Q) : gaOr (gSortD live) (gSortL live) [d] A Q E :=
  .inl ⟨d, _, _, rfl, h, kvD_keys, by rw [List.length_map]; exact h64, q⟩
theorem sort_lst {live : Bool} {d : D} {l : List Str} (h : asX A d = some (l.map D.str)) (h64 : l.length < 64) (q : aNew live (.lst ((srt l).map D.str)) A Q) : gaOr (gSortD live) (gSortL live) [d] A Q E :=
  .inr ⟨d, _, rfl, h, h64, q⟩
theorem isO_obj {C : Addr} {fs : List (Str × D)} : isO C A (.obj C fs) = True := by
  apply propext
  exact ⟨fun _ => trivial, fun _ => ⟨fs, rfl⟩⟩
theorem isO_int {C : Addr} {i : Int} : isO C A (.int i) = False := by
  apply propext
  refine ⟨fun z => ?_, fun z => z.elim⟩
  obtain ⟨_, h⟩ := z
  cases h
theorem gOwnL_eq {C : Addr} {asp : ASp} {x y : D} : gOwnL C asp x y A Q E = (isO C A x ∧ (isO C A y ∨ ∃ i, y = .int i) ∧ Call asp [x, y] A Q noX ⟨⟩) := rfl
theorem gOwnR_eq {C : Addr} {asp : ASp} {x y : D} : gOwnR C asp x y A Q E = ((∃ i, x = .int i) ∧ isO C A y ∧ Call asp [y, x] A Q noX ⟨⟩) := rfl
theorem gNegO_eq {C : Addr} {asp : ASp} {x : D} : gNegO C asp x A Q E = (isO C A x ∧ Call asp [x] A Q noX ⟨⟩) := rfl
theorem gIxO_eq {C : Addr} {asp : ASp} {x y : D} : gIxO C asp x y A Q E = (isO C A x ∧ Call asp [x, y] A Q noX ⟨⟩) := rfl
theorem aAugO_eq {i : Nat} {g : G2} {te : AE} : aAugO i g te N δ A = aVar i δ A (fun z _ => te δ A (fun y A1 => g z y A1 (fun r A2 => N.nx (δ.set i (some r)) A2) noX) (fun C fs A1 => N.ex C fs δ A1)) noX := rfl
theorem aCallO_eq {C : Addr} {asp : ASp} {tf : AE} {t : AA} : aCallO C asp tf t δ A Q E = tf δ A (fun x A1 => isO C A1 x ∧ t δ A1 (fun ds A2 => isO C A2 x ∧ Call asp (x :: ds) A2 Q noX ⟨⟩) E) E := rfl
theorem aCMeth_eq {C : Addr} {asp : ASp} {ta : AE} {t : AA} : aCMeth C asp ta t δ A Q E = ta δ A (fun x A1 => x = .ref C ∧ t δ A1 (fun ds A2 => Call asp (.ref C :: ds) A2 Q noX ⟨⟩) E) E := rfl
theorem gIsiC_eq {K : PySem.W.Frag} {C : Addr} {d : D} : gIsiC K C [d, .ref C] A Q E = ((isO C A d ∧ Q (.bl true) A) ∨ (kdD A d ≠ "?" ∧ PySem.W.kitOne K (.type (kdD A d)) (.ref C) = some false ∧ Q (.bl false) A)) := by
  apply propext
  constructor
  · rintro ⟨d', e, h⟩; cases e; exact h
  · intro h; exact ⟨d, rfl, h⟩
theorem aMakeSS_eq {C : Addr} {n : Nat} {bad : List Str} {asp : ASp} {tf te : AE} {t : AA} : aMakeSS C n bad asp tf t te δ A Q E = tf δ A (fun y A0 => y = .ref C ∧ t δ A0 (fun ds A1 => te δ A1 (fun kd A2 => oK (asD A2 kd) (fun kvs => ∃ ks : List Str, kvs.map (·.1) = ks.map D.str ∧ (∀ k ∈ ks, k ∉ bad) ∧ ds.length + 1 = n ∧
  ∀ x, A2 x = none → Call asp (.ref x :: ds ++ [.dct kvs]) (put A2 x (.ins C [])) (fun d A3 => d = .non ∧ ∃ fs, A3 x = some (.ins C fs) ∧ Q (.obj C fs) (del A3 x)) noX ⟨⟩) ⟨⟩) E) E) E := by
  unfold aMakeSS
  congr 1
  funext y A0
  apply propext
  refine and_congr Iff.rfl ?_
  apply iff_of_eq
  congr 1
  funext ds A1
  congr 1
  funext kd A2
  apply propext
  constructor
  · rintro ⟨kvs, ks, h1, h2⟩; exact ⟨kvs, h1, ks, h2⟩
  · rintro ⟨kvs, h1, ks, h2⟩; exact ⟨kvs, ks, h1, h2⟩
theorem aMakeKS_eq {C : Addr} {n : Nat} {ks : List Str} {asp : ASp} {t tk : AA} : aMakeKS C n ks asp t tk δ A Q E = t δ A (fun ds A1 => tk δ A1 (fun zs A2 => ds.length + 1 = n ∧ zs.length = ks.length ∧
  ∀ x, A2 x = none → Call asp (.ref x :: ds ++ [.dct ((ks.map D.str).zip zs)]) (put A2 x (.ins C [])) (fun d A3 => d = .non ∧ ∃ fs, A3 x = some (.ins C fs) ∧ Q (.obj C fs) (del A3 x)) noX ⟨⟩) E) E := rfl
end
/-! isinstance(x, (T, C)) -/
section
variable {X : Cx} {C : Addr}
def gIsiTC (K : PySem.W.Frag) (n : String) (C : Addr) : GA := fun xs A Q _ => ∃ d, xs = [d, .tup [.ty n, .ref C]] ∧ kdD A d ≠ "?" ∧ ∃ b, kitB (kdD A d) n = some b ∧ PySem.W.kitOne K (.type (kdD A d)) (.ref C) = some false ∧ Q (.bl b) A
def gIsiTO (K : PySem.W.Frag) (n : String) (C : Addr) : GA := fun xs A Q _ => ∃ d, xs = [d, .tup [.ty n, .ref C]] ∧ isO C A d ∧ Q (.bl true) A
theorem tc_two {K : PySem.W.Frag} {F : Addr → Prop} {H : Hp} {n : String} {u : V} (r : Rep K F H (.tup [.ty n, .ref C]) u) : ∃ tp, u = .ref tp ∧ TupE K H tp [.ty n, .ref C] := by
  obtain ⟨tp, us, rfl, h1, q1⟩ := asTe_ok r rfl
  obtain ⟨w1, w2, rfl, s1, s2⟩ := q1.two
  cases s1; cases s2
  exact ⟨tp, rfl, h1⟩
theorem tc_call {n : String} {t : Value} {b : Bool} {v : V} {tp : Addr} {H : Hp} {Q : VK} (h1 : TupE X.K H tp [.ty n, .ref C]) (ht : TyX X.K H v t) (hany : PySem.W.kitAny X.K t [.type n, .ref C] = some b) (q : Q (.bl b) H) : rIsiT X.K [v, .ref tp] H Q ∨ rIsiK X.K [v, .ref tp] H Q := by
  rcases h1 with h1 | ⟨o, its, nn, k1, k2, k3, k4, k5⟩
  · exact .inl ⟨v, tp, _, _, [.type n, .ref C], b, rfl, h1, .cons (.ty n) (.cons (.own C) .nil), ht, hany, q⟩
  · obtain ⟨oc, od, dt, osl⟩ := o
    have k2' : oc = .type "tuple" := k2
    have k3' : dt = .seq its nn := k3
    subst k2' k3'
    obtain ⟨l⟩ := its
    have k5' : Vals [V.ty n, V.ref C] l := k5
    cases k5' with
    | cons z1 z2 =>
      cases z2 with
      | cons z2 z3 =>
        cases z3
        cases z1; cases z2
        exact .inr ⟨v, tp, od, [.type n, .ref C], nn, osl, _, b, rfl, k1, ht, hany, q⟩
theorem ca_isiT {n : String} (hC : IsC X.K C) (hn : PySem.W.kitOne X.K (.ref C) (.type n) = some false) : CallA X (.builtin "isinstance") (gaOr (gIsiTC X.K n C) (gIsiTO X.K n C)) := by
  refine CallA.or ⟨_, fun W δ σ H xs vs Q ⟨F, A, Q', E', a, ⟨d, e1, hk, b, hb, h2, q⟩, po⟩ => ?_, call_isiT.or call_isiK⟩ ⟨_, fun W δ σ H xs vs Q ⟨F, A, Q', E', a, ⟨d, e1, h1, q⟩, po⟩ => ?_, call_isiT.or call_isiK⟩
  · subst e1
    obtain ⟨v, u, rfl, r1, r2⟩ := a.held.two
    obtain ⟨tp, rfl, ht⟩ := tc_two r2
    have hany : PySem.W.kitAny X.K (.type (kdD A d)) [.type n, .ref C] = some b := by
      refine kitAny_cons (kit_ty hb) (fun e => ?_) (fun e => by rw [e])
      refine kitAny_cons h2 (fun e2 => ?_) (fun e2 => by cases e2)
      rw [e]; exact kitAny_nil
    exact tc_call ht (kdD_okty a.rel r1 hk) hany (po _ _ _ _ _ q Ext.refl a.rel (.bl _))
  · subst e1
    obtain ⟨v, u, rfl, r1, r2⟩ := a.held.two
    obtain ⟨tp, rfl, ht⟩ := tc_two r2
    obtain ⟨b, rfl, dx, fs, hb⟩ := isO_ok a.rel r1 h1
    have hany : PySem.W.kitAny X.K (.ref C) [.type n, .ref C] = some true := by
      refine kitAny_cons hn (fun e => ?_) (fun e => by cases e)
      exact kitAny_cons hC.kt (fun e => by cases e) (fun _ => rfl)
    exact tc_call ht (.base (.ins hb hC.cl hC.ca hC.cn hC.ct hC.cm)) hany (po _ _ _ _ _ q Ext.refl a.rel (.bl _))
theorem isiT_int {A : AH} {Q : AQ} {E : AX} {K : PySem.W.Frag} {i : Int} (hk : PySem.W.kitOne K (.type "int") (.ref C) = some false) (q : Q (.bl true) A) : gaOr (gIsiTC K "int" C) (gIsiTO K "int" C) [.int i, .tup [.ty "int", .ref C]] A Q E := .inl ⟨_, rfl, (by show "int" ≠ "?"; decide), true, (by show kitB "int" "int" = some true; decide), hk, q⟩
theorem isiT_own {A : AH} {Q : AQ} {E : AX} {K : PySem.W.Frag} {n : String} {fs : List (Str × D)} (q : Q (.bl true) A) : gaOr (gIsiTC K n C) (gIsiTO K n C) [.obj C fs, .tup [.ty n, .ref C]] A Q E := .inr ⟨_, rfl, ⟨fs, rfl⟩, q⟩
theorem gIsiC_obj {A : AH} {Q : AQ} {E : AX} {K : PySem.W.Frag} {fs : List (Str × D)} : gIsiC K C [.obj C fs, .ref C] A Q E = Q (.bl true) A := by
  rw [gIsiC_eq]
  apply propext
  constructor
  · rintro (⟨_, h⟩ | ⟨h, _⟩)
    · exact h
    · exact absurd rfl h
  · intro h; exact .inl ⟨⟨fs, rfl⟩, h⟩
theorem gIsiC_int {A : AH} {Q : AQ} {E : AX} {K : PySem.W.Frag} {i : Int} : gIsiC K C [.int i, .ref C] A Q E = (PySem.W.kitOne K (.type "int") (.ref C) = some false ∧ Q (.bl false) A) := by
  rw [gIsiC_eq]
  apply propext
  constructor
  · rintro (⟨⟨_, h⟩, _⟩ | ⟨_, h⟩)
    · cases h
    · exact h
  · intro h; exact .inr ⟨(by show "int" ≠ "?"; decide), h⟩
theorem gIsiT_obj {A : AH} {Q : AQ} {E : AX} {K : PySem.W.Frag} {n : String} {fs : List (Str × D)} : gaOr (gIsiTC K n C) (gIsiTO K n C) [.obj C fs, .tup [.ty n, .ref C]] A Q E = Q (.bl true) A := by
  apply propext
  constructor
  · rintro (⟨d, e, h, _⟩ | ⟨d, e, _, h⟩)
    · cases e; exact absurd rfl h
    · exact h
  · intro h; exact isiT_own h
theorem gIsiT_int {A : AH} {Q : AQ} {E : AX} {K : PySem.W.Frag} {i : Int} : gaOr (gIsiTC K "int" C) (gIsiTO K "int" C) [.int i, .tup [.ty "int", .ref C]] A Q E = (PySem.W.kitOne K (.type "int") (.ref C) = some false ∧ Q (.bl true) A) := by
  apply propext
  constructor
  · rintro (⟨d, e, _, b, hb, h1, h2⟩ | ⟨d, e, ⟨_, h⟩, _⟩)
    · cases e
      have : kitB "int" "int" = some b := hb
      rw [show kitB "int" "int" = some true by decide] at this
      cases this
      exact ⟨h1, h2⟩
    · cases e; cases h
  · rintro ⟨h1, h2⟩; exact isiT_int h1 h2
/-- isinstance(x, T), x an own instance or plain -/
def gIsiO (K : PySem.W.Frag) (C : Addr) : GA := fun xs A Q _ => ∃ d n b, xs = [d, .ty n] ∧ isO C A d ∧ PySem.W.kitOne K (.ref C) (.type n) = some b ∧ Q (.bl b) A
theorem ca_isiX (hC : IsC X.K C) : CallA X (.builtin "isinstance") (gaOr gIsi (gIsiO X.K C)) := CallA.or ca_isi ⟨_, fun W δ σ H xs vs Q ⟨F, A, Q', E', a, ⟨d, n, b, e1, h1, h2, q⟩, po⟩ => by
  subst e1
  obtain ⟨v, u, rfl, r1, r2⟩ := a.held.two
  cases r2
  obtain ⟨c, rfl, dx, fs, hb⟩ := isO_ok a.rel r1 h1
  exact ⟨_, .ty n, .ref C, .type n, b, rfl, .ty n, .base (.ins hb hC.cl hC.ca hC.cn hC.ct hC.cm), h2, po _ _ _ _ _ q Ext.refl a.rel (.bl _)⟩, call_isi⟩
theorem gIsiX_obj {A : AH} {Q : AQ} {E : AX} {K : PySem.W.Frag} {n : String} {fs : List (Str × D)} : gaOr gIsi (gIsiO K C) [.obj C fs, .ty n] A Q E = oK (PySem.W.kitOne K (.ref C) (.type n)) (fun b => Q (.bl b) A) ⟨⟩ := by
  apply propext
  constructor
  · rintro (⟨d, m, e, h, _⟩ | ⟨d, m, b, e, _, h1, h2⟩)
    · cases e; exact absurd rfl h
    · cases e; exact ⟨b, h1, h2⟩
  · rintro ⟨b, h1, h2⟩; exact .inr ⟨_, n, b, rfl, ⟨fs, rfl⟩, h1, h2⟩
theorem gIsiX_int {A : AH} {Q : AQ} {E : AX} {K : PySem.W.Frag} {i : Int} : gaOr gIsi (gIsiO K C) [.int i, .ty "int"] A Q E = Q (.bl true) A := by
  apply propext
  constructor
  · rintro (⟨d, m, e, _, b, hb, h⟩ | ⟨d, m, b, e, ⟨_, h⟩, _⟩)
    · cases e
      have : kitB "int" "int" = some b := hb
      rw [show kitB "int" "int" = some true by decide] at this
      cases this
      exact h
    · cases e; cases h
  · intro h; exact .inl ⟨_, _, rfl, (by show "int" ≠ "?"; decide), true, (by show kitB "int" "int" = some true; decide), h⟩
/-- - x, x an int or an own instance -/
def gNegX (C : Addr) (asp : ASp) : G1 := fun x A Q E => (∃ i, x = .int i ∧ Q (.int (-i)) A) ∨ gNegO C asp x A Q E
theorem ae_negX {W : WX} {k : Nat} {f : Addr} {asp : ASp} {a : Expr} {ta : AE} {pos : Pos} (S : Spc X.K C "__neg__" f) (F : FnR X.prog X.w X.K X.mg X.base CX0 k f (liftSp X.K asp)) (hr : Room k X.A) (ha : PE X a (liftE X.K W ta)) : PE X (.UnaryOp .USub a pos) (liftE X.K W (aUn (gNegX C asp) ta)) :=
  ae_un (r := fun x H Q => (∃ i, x = .int i ∧ Q (.int (-i)) H) ∨ rNegO C (liftSp X.K asp) x H Q) (fun W δ σ H x v Q ⟨F, A, Q', E', a, h, po⟩ => by
    obtain ⟨v', e, r1⟩ := a.held.one
    cases e
    rcases h with ⟨i, rfl, q⟩ | ⟨h1, q⟩
    · cases r1; exact .inl ⟨i, rfl, po _ _ _ _ _ q Ext.refl a.rel (.int _)⟩
    · obtain ⟨b, rfl, hb⟩ := isO_ok a.rel r1 h1
      exact .inr ⟨b, rfl, hb, F, A, [x], Q', noX, a.rel, .cons r1 .nil, q, po, fun _ _ _ _ _ _ _ h => h.elim⟩) (fun pins s σ H x v Q I rx h => by
    rcases h with h | h
    · exact un_neg pins s σ H x v Q I rx h
    · exact un_ownNeg S F hr pins s σ H x v Q I rx h) ha
theorem gNegX_int {A : AH} {Q : AQ} {E : AX} {asp : ASp} {i : Int} : gNegX C asp (.int i) A Q E = Q (.int (-i)) A := by
  apply propext
  constructor
  · rintro (⟨j, e, q⟩ | ⟨⟨_, h⟩, _⟩)
    · cases e; exact q
    · cases h
  · intro q; exact .inl ⟨i, rfl, q⟩
theorem gNegX_obj {A : AH} {Q : AQ} {E : AX} {asp : ASp} {fs : List (Str × D)} : gNegX C asp (.obj C fs) A Q E = Call asp [.obj C fs] A Q noX ⟨⟩ := by
  apply propext
  constructor
  · rintro (⟨j, e, q⟩ | ⟨_, q⟩)
    · cases e
    · exact q
  · intro q; exact .inr ⟨⟨fs, rfl⟩, q⟩
end
end Av

set_option Elab.async false
set_option linter.all false
set_option maxRecDepth 100000
set_option maxHeartbeats 4000000
/-! own library Av, part 17: the rules of a run, bundled (printed by mk17.py) -/
namespace Av
open PySem PySem.Spec PyProof.Rows L2 My
def RD := (And.intro (And.intro (And.intro (And.intro (And.intro (And.intro (And.intro @oK_some (And.intro @oK_none @bindK_nm)) (And.intro (And.intro @bindK_tp @bindKs_nil) (And.intro @bindKs_cons @truK_non))) (And.intro (And.intro @truK_bl (And.intro @truK_int @truK_str)) (And.intro (And.intro @truK_tup @truK_lst) (And.intro @truK_ref @aSeq_eq)))) (And.intro (And.intro (And.intro @aNext_eq (And.intro @aBrk_eq @aCont_eq)) (And.intro (And.intro @aDrop_eq @aRet_eq) (And.intro @aRetN_eq @aIfS_eq))) (And.intro (And.intro (And.intro @aAsg_eq @aPar_eq) (And.intro @aFor_eq @aVar_0)) (And.intro (And.intro @aVar_s @aC_eq) (And.intro @aOp_eq @aUn_eq))))) (And.intro (And.intro (And.intro (And.intro @blK_bl (And.intro @aB_eq @aTru_eq)) (And.intro (And.intro @aOrV_eq @aAndV_eq) (And.intro @aNotV_eq @aAnd_eq))) (And.intro (And.intro @aOr_eq (And.intro @aNot_eq @aYes_eq)) (And.intro (And.intro @aIf_eq @aNil_eq) (And.intro @aCons_eq @aTup_eq)))) (And.intro (And.intro (And.intro @aLst_eq (And.intro @aNew_t @aNew_f)) (And.intro (And.intro @frz_lst @frz_dct) (And.intro @frz_ins @aCB_eq))) (And.intro (And.intro (And.intro @aCall_eq @aMeth_eq) (And.intro @aProp_eq @aFld_eq)) (And.intro (And.intro @refK_ref @aSetFld_eq) (And.intro @aRaise_eq @aMake_t)))))) (And.intro (And.intro (And.intro (And.intro (And.intro @aMake_f (And.intro @aItL_eq @aItT_eq)) (And.intro (And.intro @intK_int @aRng1_eq) (And.intro @aRng2_eq @aEnum_eq))) (And.intro (And.intro @aZip_eq (And.intro @aZipA_eq @zipK_l)) (And.intro (And.intro @zipK_t @strK_str) (And.intro @aItS_eq @aLc_eq)))) (And.intro (And.intro (And.intro @aTry_eq (And.intro @aFldX_eq @gI_eq)) (And.intro (And.intro @gI0_eq @gAdd_i) (And.intro @gAdd_s @gAdd_t))) (And.intro (And.intro (And.intro @gAdd_l @gAdd_rl) (And.intro @gAdd_lr @gAdd_rr)) (And.intro (And.intro @gMul_i @gMul_l) (And.intro @gNeg_eq @gLt_i))))) (And.intro (And.intro (And.intro (And.intro @gLt_s (And.intro @gLe_i @gLe_s)) (And.intro (And.intro @gGt_i @gGt_s) (And.intro @gGe_i @gGe_s))) (And.intro (And.intro @gIs_f (And.intro @gIs_t @gEq_fii)) (And.intro (And.intro @gEq_fss @gEq_fbb) (And.intro @gEq_fnn @gEq_fns)))) (And.intro (And.intro (And.intro @gEq_fsn (And.intro @gEq_fni @gEq_fin)) (And.intro (And.intro @gEq_fis @gEq_fsi) (And.intro @gEq_flstlst @gEq_flsttup))) (And.intro (And.intro (And.intro @gEq_flstref @gEq_ftuplst) (And.intro @gEq_ftuptup @gEq_ftupref)) (And.intro (And.intro @gEq_freflst @gEq_freftup) (And.intro @gEq_frefref @gIn_flst))))))) (And.intro (And.intro (And.intro (And.intro (And.intro (And.intro @gIn_ftup (And.intro @gIn_fref @gIn_fstr)) (And.intro (And.intro @aInT_f @gDIn_f) (And.intro @gInO_f @gEq_tii))) (And.intro (And.intro @gEq_tss (And.intro @gEq_tbb @gEq_tnn)) (And.intro (And.intro @gEq_tns @gEq_tsn) (And.intro @gEq_tni @gEq_tin)))) (And.intro (And.intro (And.intro @gEq_tis (And.intro @gEq_tsi @gEq_tlstlst)) (And.intro (And.intro @gEq_tlsttup @gEq_tlstref) (And.intro @gEq_ttuplst @gEq_ttuptup))) (And.intro (And.intro (And.intro @gEq_ttupref @gEq_treflst) (And.intro @gEq_treftup @gEq_trefref)) (And.intro (And.intro @gIn_tlst @gIn_ttup) (And.intro @gIn_tref @gIn_tstr))))) (And.intro (And.intro (And.intro (And.intro @aInT_t (And.intro @gDIn_t @gInO_t)) (And.intro (And.intro @gDGet_eq @aDPut_eq) (And.intro @aDGet2_eq @aDGet1_eq))) (And.intro (And.intro @gSubs_lst (And.intro @gSubs_tup @gSubs_rol)) (And.intro (And.intro @gSubs_ref @gSubs_str) (And.intro @gLen_lst @gLen_tup)))) (And.intro (And.intro (And.intro @gLen_rol (And.intro @gLen_ref @gLen_str)) (And.intro (And.intro @gList_eq @gTuple_eq) (And.intro @gInt_i @gInt_b))) (And.intro (And.intro (And.intro @gAbs_eq @gMax_eq) (And.intro @gMin_eq @gStr_eq)) (And.intro (And.intro @gBool_eq @gAll_eq) (And.intro @gAny_eq @gIsi_eq)))))) (And.intro (And.intro (And.intro (And.intro (And.intro @gIsi2_eq (And.intro @aBM_eq @gmAppend_eq)) (And.intro (And.intro @gmRev_eq @gmPop_eq) (And.intro @gmPopAt_eq @gmExtT_eq))) (And.intro (And.intro @aNoPart_eq (And.intro @aPart_eq @aSl_eq)) (And.intro (And.intro @gSl_lst @gSl_rol) (And.intro @gSl_tup @gSl_str)))) (And.intro (And.intro (And.intro @gSl_ref (And.intro @aSetIx_eq @agNm_eq)) (And.intro (And.intro @agNil_eq @agCons_eq) (And.intro @agTp_eq @agDk_eq))) (And.intro (And.intro (And.intro @aAsgG_eq @aPairs_nil) (And.intro @aPairs_cons @aDisp_eq)) (And.intro (And.intro @aDNew_eq @gLenO_eq) (And.intro @aFrz_eq @aFrzS_eq))))) (And.intro (And.intro (And.intro (And.intro @endsOf_nx (And.intro @endsOf_rt @endsOf_ex)) (And.intro (And.intro @oneK_eq @twoK_eq) (And.intro @ch1_str @aItK_eq))) (And.intro (And.intro @aItI_eq (And.intro @aDc_eq @gDictP_eq)) (And.intro (And.intro @gListD_eq @aStarD_eq) (And.intro @gOwnL_eq @gOwnR_eq)))) (And.intro (And.intro (And.intro @gNegO_eq (And.intro @gIxO_eq @aAugO_eq)) (And.intro (And.intro @aCallO_eq @aCMeth_eq) (And.intro @aMakeSS_eq @aMakeKS_eq))) (And.intro (And.intro (And.intro @gIsiC_obj @gIsiC_int) (And.intro @gIsiT_obj @gIsiT_int)) (And.intro (And.intro @gIsiX_obj @gIsiX_int) (And.intro @gNegX_int @gNegX_obj))))))))
def RU := (And.intro (And.intro (And.intro (And.intro (And.intro (And.intro (And.intro @flatV_str (And.intro @flatV_int @flatV_non)) (And.intro (And.intro @kit_NoneType_bool @kit_NoneType_int) (And.intro @kit_NoneType_str @kit_NoneType_list))) (And.intro (And.intro (And.intro @kit_NoneType_tuple @kit_NoneType_dict) (And.intro @kit_bool_bool @kit_bool_int)) (And.intro (And.intro @kit_bool_str @kit_bool_list) (And.intro @kit_bool_tuple @kit_bool_dict)))) (And.intro (And.intro (And.intro (And.intro @kit_int_bool @kit_int_int) (And.intro @kit_int_str @kit_int_list)) (And.intro (And.intro @kit_int_tuple @kit_int_dict) (And.intro @kit_str_bool @kit_str_int))) (And.intro (And.intro (And.intro @kit_str_str @kit_str_list) (And.intro @kit_str_tuple @kit_str_dict)) (And.intro (And.intro @kit_list_bool @kit_list_int) (And.intro @kit_list_str @kit_list_list))))) (And.intro (And.intro (And.intro (And.intro @kit_list_tuple (And.intro @kit_list_dict @kit_tuple_bool)) (And.intro (And.intro @kit_tuple_int @kit_tuple_str) (And.intro @kit_tuple_list @kit_tuple_tuple))) (And.intro (And.intro (And.intro @kit_tuple_dict @kit_dict_bool) (And.intro @kit_dict_int @kit_dict_str)) (And.intro (And.intro @kit_dict_list @kit_dict_tuple) (And.intro @kit_dict_dict @leS0)))) (And.intro (And.intro (And.intro (And.intro @leS1 @leS2) (And.intro @leS3 @leS4)) (And.intro (And.intro @leS5 @leS6) (And.intro @leS7 @leS8))) (And.intro (And.intro (And.intro @leS9 @leS10) (And.intro @leS11 @leS12)) (And.intro (And.intro @truO_lst @lstO_lst) (And.intro @truO_dct @lstO_dct)))))) (And.intro (And.intro (And.intro (And.intro (And.intro @topO_dct (And.intro @truO_ins @lstO_ins)) (And.intro (And.intro @topO_ins @dctO_dct) (And.intro @dctO_lst @dctO_ins))) (And.intro (And.intro (And.intro @insO_ins @insO_lst) (And.intro @insO_dct @kdOO_lst)) (And.intro (And.intro @kdOO_dct @topO_lst) (And.intro @truD_non @truD_bl)))) (And.intro (And.intro (And.intro (And.intro @truD_int @truD_str) (And.intro @truD_ty @truD_ref)) (And.intro (And.intro @truD_tup @truD_lst) (And.intro @truD_rol @truD_dct))) (And.intro (And.intro (And.intro @truD_dtt @truD_obj) (And.intro @truD_exc @lenOk_non)) (And.intro (And.intro @lenOk_bl @lenOk_int) (And.intro @lenOk_str @lenOk_ty))))) (And.intro (And.intro (And.intro (And.intro @lenOk_ref (And.intro @lenOk_tup @lenOk_lst)) (And.intro (And.intro @lenOk_rol @lenOk_dct) (And.intro @lenOk_dtt @lenOk_obj))) (And.intro (And.intro (And.intro @lenOk_exc @asL_non) (And.intro @asL_bl @asL_int)) (And.intro (And.intro @asL_str @asL_ty) (And.intro @asL_ref @asL_tup)))) (And.intro (And.intro (And.intro (And.intro @asL_lst @asL_rol) (And.intro @asL_dct @asL_dtt)) (And.intro (And.intro @asL_obj @asL_exc) (And.intro @asX_non @asX_bl))) (And.intro (And.intro (And.intro @asX_int @asX_str) (And.intro @asX_ty @asX_ref)) (And.intro (And.intro @asX_tup @asX_lst) (And.intro @asX_rol @asX_dct))))))) (And.intro (And.intro (And.intro (And.intro (And.intro (And.intro @asX_dtt (And.intro @asX_obj @asX_exc)) (And.intro (And.intro @asT_non @asT_bl) (And.intro @asT_int @asT_str))) (And.intro (And.intro (And.intro @asT_ty @asT_ref) (And.intro @asT_tup @asT_lst)) (And.intro (And.intro @asT_rol @asT_dct) (And.intro @asT_dtt @asT_obj)))) (And.intro (And.intro (And.intro (And.intro @asT_exc @asD_non) (And.intro @asD_bl @asD_int)) (And.intro (And.intro @asD_str @asD_ty) (And.intro @asD_ref @asD_tup))) (And.intro (And.intro (And.intro @asD_lst @asD_rol) (And.intro @asD_dct @asD_dtt)) (And.intro (And.intro @asD_obj @asD_exc) (And.intro @asO_non @asO_bl))))) (And.intro (And.intro (And.intro (And.intro @asO_int (And.intro @asO_str @asO_ty)) (And.intro (And.intro @asO_ref @asO_tup) (And.intro @asO_lst @asO_rol))) (And.intro (And.intro (And.intro @asO_dct @asO_dtt) (And.intro @asO_obj @asO_exc)) (And.intro (And.intro @asQ_non @asQ_bl) (And.intro @asQ_int @asQ_str)))) (And.intro (And.intro (And.intro (And.intro @asQ_ty @asQ_ref) (And.intro @asQ_tup @asQ_lst)) (And.intro (And.intro @asQ_rol @asQ_dct) (And.intro @asQ_dtt @asQ_obj))) (And.intro (And.intro (And.intro @asQ_exc @isNoD_non) (And.intro @isNoD_bl @isNoD_int)) (And.intro (And.intro @isNoD_str @isNoD_ty) (And.intro @isNoD_ref @isNoD_tup)))))) (And.intro (And.intro (And.intro (And.intro (And.intro @isNoD_lst (And.intro @isNoD_rol @isNoD_dct)) (And.intro (And.intro @isNoD_dtt @isNoD_obj) (And.intro @isNoD_exc @scD_non))) (And.intro (And.intro (And.intro @scD_bl @scD_int) (And.intro @scD_str @scD_ty)) (And.intro (And.intro @scD_ref @scD_tup) (And.intro @scD_lst @scD_rol)))) (And.intro (And.intro (And.intro (And.intro @scD_dct @scD_dtt) (And.intro @scD_obj @scD_exc)) (And.intro (And.intro @keyOf_non @keyOf_bl) (And.intro @keyOf_int @keyOf_str))) (And.intro (And.intro (And.intro @keyOf_ty @keyOf_ref) (And.intro @keyOf_tup @keyOf_lst)) (And.intro (And.intro @keyOf_rol @keyOf_dct) (And.intro @keyOf_dtt @keyOf_obj))))) (And.intro (And.intro (And.intro (And.intro @keyOf_exc (And.intro @kdD_non @kdD_bl)) (And.intro (And.intro @kdD_int @kdD_str) (And.intro @kdD_ty @kdD_ref))) (And.intro (And.intro (And.intro @kdD_tup @kdD_lst) (And.intro @kdD_rol @kdD_dct)) (And.intro (And.intro @kdD_dtt @kdD_obj) (And.intro @kdD_exc @topP_non)))) (And.intro (And.intro (And.intro (And.intro @topP_bl @topP_int) (And.intro @topP_str @topP_ty)) (And.intro (And.intro @topP_ref @topP_tup) (And.intro @topP_lst @topP_rol))) (And.intro (And.intro (And.intro @topP_dct @topP_dtt) (And.intro @topP_obj @topP_exc)) (And.intro (And.intro @keyEq_ii @keyEq_ss) (And.intro @keyEq_is @keyEq_si))))))))
end Av

set_option Elab.async false
set_option linter.all false
set_option maxRecDepth 100000
set_option maxHeartbeats 4000000
/-! own library Fm: sums of symbols, plain -/
namespace Av
open PySem PySem.Spec PyProof.Rows L2 My
abbrev SL := List (Str × Int)
def keys (l : SL) : List Str := l.map (·.1)
def coef (l : SL) (s : Str) : Int := (l.lookup s).getD 0
def putP (l : SL) (s : Str) (n : Int) : SL := if (l.any fun p => decide (p.1 = s)) = true then l.map (fun p => if p.1 = s then (p.1, n) else p) else l ++ [(s, n)]
theorem keyEq_str {a b : Str} : keyEq (.str a) (.str b) = decide (a = b) := by
  unfold keyEq; rfl
theorem putD_kv {l : SL} {s : Str} {n : Int} : putD (kvD l) (.str s) (.int n) = kvD (putP l s n) := by
  unfold putD putP kvD
  have e1 : ((l.map fun p => (D.str p.1, D.int p.2)).any fun p => keyEq p.1 (.str s)) = l.any fun p => decide (p.1 = s) := by
    rw [List.any_map]
    congr 1
  rw [e1]
  split
  · rw [List.map_map, List.map_map]
    apply List.map_congr_left
    intro p _
    simp only [Function.comp, keyEq_str]
    by_cases h : p.1 = s <;> simp [h]
  · simp
theorem valD_kv {s : Str} : ∀ {l : SL}, valD (kvD l) (.str s) = (l.lookup s).map D.int
  | [] => rfl
  | (a, n) :: l => by
    show (if keyEq (.str a) (.str s) = true then some (D.int n) else valD (kvD l) (.str s)) = _
    rw [keyEq_str, valD_kv (l := l)]
    by_cases h : a = s
    · subst h; simp [List.lookup]
    · have : (s == a) = false := by simp; exact fun e => h e.symm
      simp [h, List.lookup, this]
theorem getD_kv {l : SL} {s : Str} : (valD (kvD l) (.str s)).getD (.int 0) = .int (coef l s) := by
  rw [valD_kv]
  unfold coef
  cases l.lookup s <;> rfl
theorem lookup_some {l : SL} {s : Str} (h : s ∈ keys l) : l.lookup s = some (coef l s) := by
  induction l with
  | nil => cases h
  | cons p l ih =>
    unfold coef
    rw [List.lookup_cons]
    by_cases e : s = p.1
    · simp [e]
    · have : (s == p.1) = false := by simpa using e
      rw [this]
      rcases List.mem_cons.mp h with z | z
      · exact absurd z e
      · have := ih z
        unfold coef at this
        exact this
theorem lookup_none {l : SL} {s : Str} (h : s ∉ keys l) : l.lookup s = none := by
  induction l with
  | nil => rfl
  | cons p l ih =>
    rw [List.lookup_cons]
    have : (s == p.1) = false := by simp; exact fun e => h (by rw [e]; exact .head _)
    rw [this]
    exact ih fun z => h (.tail _ z)
theorem coef_not {l : SL} {s : Str} (h : s ∉ keys l) : coef l s = 0 := by unfold coef; rw [lookup_none h]; rfl
theorem coef_mem {l : SL} {s : Str} (h : coef l s ≠ 0) : s ∈ keys l := Classical.byContradiction fun z => h (coef_not z)
theorem any_keys {l : SL} {s : Str} : (l.any fun p => decide (p.1 = s)) = true ↔ s ∈ keys l := by
  simp [keys]
theorem keys_putP {l : SL} {s : Str} {n : Int} : keys (putP l s n) = if s ∈ keys l then keys l else keys l ++ [s] := by
  unfold putP
  by_cases h : s ∈ keys l
  · rw [if_pos (any_keys.mpr h), if_pos h]
    unfold keys
    rw [List.map_map]
    apply List.map_congr_left
    intro p _
    simp only [Function.comp]
    split <;> rfl
  · rw [if_neg (fun z => h (any_keys.mp z)), if_neg h]
    simp [keys]
theorem mem_putP {l : SL} {s t : Str} {n : Int} : t ∈ keys (putP l s n) ↔ t = s ∨ t ∈ keys l := by
  rw [keys_putP]
  split
  · constructor
    · exact .inr
    · rintro (rfl | h) <;> assumption
  · rw [List.mem_append, List.mem_singleton]
    exact ⟨fun h => h.symm, fun h => h.symm⟩
theorem nodup_putP {l : SL} {s : Str} {n : Int} (h : (keys l).Nodup) : (keys (putP l s n)).Nodup := by
  rw [keys_putP]
  split
  · exact h
  · rename_i hn
    rw [List.nodup_append]
    refine ⟨h, by simp, fun a ha b hb => ?_⟩
    rw [List.mem_singleton.mp hb]
    exact fun e => hn (e ▸ ha)
theorem len_putP {l : SL} {s : Str} {n : Int} : (putP l s n).length ≤ l.length + 1 := by
  unfold putP; split
  · rw [List.length_map]; omega
  · rw [List.length_append]; simp
theorem coef_putP {l : SL} {s t : Str} {n : Int} : coef (putP l s n) t = if t = s then n else coef l t := by
  unfold putP
  split
  · rename_i h
    have hm := any_keys.mp h
    clear h
    induction l with
    | nil => cases hm
    | cons p l ih =>
      unfold coef at ih ⊢
      rw [List.map_cons, List.lookup_cons, List.lookup_cons]
      by_cases e : p.1 = s
      · rw [if_pos e]
        by_cases e2 : t = s
        · subst e2; simp [e]
        · have : (t == p.1) = false := by simp; rw [e]; exact e2
          simp only [this, e2, if_false]
          by_cases hm2 : s ∈ keys l
          · rw [ih hm2, if_neg e2]
          · have : l.map (fun p => if p.1 = s then (p.1, n) else p) = l := by
              have : ∀ p ∈ l, (if p.1 = s then (p.1, n) else p) = p := fun p hp => by
                rw [if_neg fun z => hm2 (by rw [← z]; exact List.mem_map_of_mem hp)]
              exact (List.map_congr_left this).trans (List.map_id _)
            rw [this]
      · rw [if_neg e]
        by_cases e3 : t = p.1
        · have e4 : t ≠ s := by rw [e3]; exact e
          have : (t == p.1) = true := by simpa using e3
          simp [this, e4]
        · have : (t == p.1) = false := by simpa using e3
          simp only [this]
          have hm2 : s ∈ keys l := by
            rcases List.mem_cons.mp hm with z | z
            · exact absurd z.symm e
            · exact z
          exact ih hm2
  · rename_i h
    have hn : s ∉ keys l := fun z => h (any_keys.mpr z)
    unfold coef
    rw [List.lookup_append]
    by_cases e : t = s
    · subst e
      rw [lookup_none hn]; simp
    · have : (t == s) = false := by simpa using e
      simp [List.lookup, this, e]
theorem lookup_map (f : Str → Int) (t : Str) : ∀ xs : List Str, (xs.map fun s => (s, f s)).lookup t = if t ∈ xs then some (f t) else none
  | [] => rfl
  | x :: xs => by
    rw [List.map_cons, List.lookup_cons, lookup_map f t xs]
    by_cases e : t = x
    · subst e; simp
    · have : (t == x) = false := by simpa using e
      simp [this, e]
/-- in order, without zeros -/
def norm (l : SL) : SL := ((srt (keys l)).filter fun s => coef l s != 0).map fun s => (s, coef l s)
theorem coef_norm {l : SL} {s : Str} : coef (norm l) s = coef l s := by
  unfold norm
  show (List.lookup s _).getD 0 = _
  rw [lookup_map]
  by_cases h : coef l s = 0
  · rw [if_neg (by simp [h])]; rw [h]; rfl
  · have : s ∈ (srt (keys l)).filter fun s => coef l s != 0 := by
      rw [List.mem_filter, srt_mem]
      exact ⟨coef_mem h, by simpa using h⟩
    rw [if_pos this]; rfl
theorem keys_norm {l : SL} : keys (norm l) = (srt (keys l)).filter fun s => coef l s != 0 := by simp [keys, norm, Function.comp_def]
theorem mem_norm {l : SL} {s : Str} : s ∈ keys (norm l) ↔ coef l s ≠ 0 := by
  rw [keys_norm, List.mem_filter, srt_mem]
  constructor
  · intro h; simpa using h.2
  · intro h; exact ⟨coef_mem h, by simpa using h⟩
theorem nodup_norm {l : SL} (h : (keys l).Nodup) : (keys (norm l)).Nodup := by
  rw [keys_norm]; exact (srt_nodup.mpr h).filter _
theorem len_norm {l : SL} : (norm l).length ≤ l.length := by
  have : (norm l).length = (keys (norm l)).length := by simp [keys]
  rw [this, keys_norm]
  refine Nat.le_trans (List.length_filter_le _ _) ?_
  rw [srt_length]; simp [keys]
theorem norm_ext {l m : SL} (hl : (keys l).Nodup) (hm : (keys m).Nodup) (h : ∀ s, coef l s = coef m s) : norm l = norm m := by
  have e : ((srt (keys l)).filter fun s => coef l s != 0) = (srt (keys m)).filter fun s => coef m s != 0 := by
    have hf : (fun s => coef l s != 0) = fun s => coef m s != 0 := by funext s; rw [h s]
    rw [hf]
    refine eq_of_sorted ?_ ((srt_pw _).filter _) ((srt_pw _).filter _)
    rw [List.perm_ext_iff_of_nodup ((srt_nodup.mpr hl).filter _) ((srt_nodup.mpr hm).filter _)]
    intro s
    rw [List.mem_filter, List.mem_filter, srt_mem, srt_mem]
    constructor
    · intro z; exact ⟨coef_mem (by simpa using z.2), z.2⟩
    · intro z; exact ⟨coef_mem (by rw [h s]; simpa using z.2), z.2⟩
  unfold norm
  rw [e]
  apply List.map_congr_left
  intro s _
  rw [h s]
theorem norm_norm {l : SL} (h : (keys l).Nodup) : norm (norm l) = norm l := norm_ext (nodup_norm h) h fun _ => coef_norm
theorem norm_zero {l : SL} (h : ∀ s, coef l s = 0) : norm l = [] := by
  unfold norm
  have : ((srt (keys l)).filter fun s => coef l s != 0) = [] := by
    rw [List.filter_eq_nil_iff]
    intro s _
    simp [h s]
  rw [this]; rfl
/-- added one by one -/
def addP (l : SL) (p : Str × Int) : SL := putP l p.1 (coef l p.1 + p.2)
def sums (ps : SL) : SL := ps.foldl addP []
theorem sums_ind {P : SL → Prop} (h0 : P []) (hs : ∀ l p, P l → P (addP l p)) (ps : SL) : P (sums ps) := by
  unfold sums
  have : ∀ (ps : SL) (l : SL), P l → P (ps.foldl addP l) := by
    intro ps
    induction ps with
    | nil => intro l h; exact h
    | cons p ps ih => intro l h; exact ih _ (hs l p h)
  exact this ps [] h0
theorem nodup_sums (ps : SL) : (keys (sums ps)).Nodup := sums_ind (P := fun l => (keys l).Nodup) List.nodup_nil (fun l p h => nodup_putP h) ps
theorem sums_snoc (ps : SL) (p : Str × Int) : sums (ps ++ [p]) = addP (sums ps) p := by simp [sums]
theorem len_sums (ps : SL) : (sums ps).length ≤ ps.length := by
  unfold sums
  have : ∀ (ps : SL) (l : SL), (ps.foldl addP l).length ≤ l.length + ps.length := by
    intro ps
    induction ps with
    | nil => intro l; simp
    | cons p ps ih =>
      intro l
      have := ih (addP l p)
      have h2 : (addP l p).length ≤ l.length + 1 := len_putP
      rw [List.foldl_cons, List.length_cons]; omega
  simpa using this ps []
theorem mem_sums {ps : SL} {s : Str} : s ∈ keys (sums ps) → s ∈ keys ps := by
  unfold sums
  have : ∀ (ps : SL) (l : SL), s ∈ keys (ps.foldl addP l) → s ∈ keys l ∨ s ∈ keys ps := by
    intro ps
    induction ps with
    | nil => intro l h; exact .inl h
    | cons p ps ih =>
      intro l h
      rcases ih (addP l p) h with h | h
      · rcases mem_putP.mp h with rfl | h
        · exact .inr (.head _)
        · exact .inl h
      · exact .inr (.tail _ h)
  intro h
  rcases this ps [] h with h | h
  · cases h
  · exact h
/-- a dict by symbols and their numbers -/
def tab (f : Str → Int) (xs : List Str) : SL := xs.foldl (fun acc s => putP acc s (f s)) []
theorem tab_gen (f : Str → Int) : ∀ (xs : List Str) (l : SL), (keys l).Nodup → (keys (xs.foldl (fun acc s => putP acc s (f s)) l)).Nodup ∧ (∀ t, t ∈ keys (xs.foldl (fun acc s => putP acc s (f s)) l) ↔ t ∈ keys l ∨ t ∈ xs) ∧ (∀ t, coef (xs.foldl (fun acc s => putP acc s (f s)) l) t = if t ∈ xs then f t else coef l t) ∧ (xs.foldl (fun acc s => putP acc s (f s)) l).length ≤ l.length + xs.length
  | [], l, h => ⟨h, fun t => by simp, fun t => by simp, by simp⟩
  | x :: xs, l, h => by
    obtain ⟨h1, h2, h3, h4⟩ := tab_gen f xs (putP l x (f x)) (nodup_putP h)
    refine ⟨h1, fun t => ?_, fun t => ?_, ?_⟩
    · rw [List.foldl_cons, h2, mem_putP, List.mem_cons]
      constructor
      · rintro ((h | h) | h)
        · exact .inr (.inl h)
        · exact .inl h
        · exact .inr (.inr h)
      · rintro (h | h | h)
        · exact .inl (.inr h)
        · exact .inl (.inl h)
        · exact .inr h
    · rw [List.foldl_cons, h3, coef_putP]
      by_cases e1 : t ∈ xs
      · simp [e1]
      · by_cases e2 : t = x
        · subst e2; simp [e1]
        · simp [e1, e2]
    · rw [List.foldl_cons, List.length_cons]
      have := len_putP (l := l) (s := x) (n := f x)
      omega
theorem nodup_tab (f : Str → Int) (xs : List Str) : (keys (tab f xs)).Nodup := (tab_gen f xs [] List.nodup_nil).1
theorem mem_tab {f : Str → Int} {xs : List Str} {t : Str} : t ∈ keys (tab f xs) ↔ t ∈ xs := by
  have := (tab_gen f xs [] List.nodup_nil).2.1 t
  unfold tab
  rw [this]
  exact ⟨fun h => h.elim (fun z => by cases z) id, .inr⟩
theorem coef_tab {f : Str → Int} {xs : List Str} {t : Str} : coef (tab f xs) t = if t ∈ xs then f t else 0 := by
  have := (tab_gen f xs [] List.nodup_nil).2.2.1 t
  exact this
theorem len_tab (f : Str → Int) (xs : List Str) : (tab f xs).length ≤ xs.length := by
  have := (tab_gen f xs [] List.nodup_nil).2.2.2
  simpa [tab] using this
def vD (f : Str → Int) : D → D
  | .str s => .int (f s)
  | _ => .non
def cD (p : Str → Bool) : D → Bool
  | .str s => p s
  | _ => false
theorem tab_kv (f : Str → Int) (xs : List Str) : (xs.map D.str).foldl (fun acc d => putD acc d (vD f d)) [] = kvD (tab f xs) := by
  have : ∀ (xs : List Str) (l : SL), (xs.map D.str).foldl (fun acc d => putD acc d (vD f d)) (kvD l) = kvD (xs.foldl (fun acc s => putP acc s (f s)) l) := by
    intro xs
    induction xs with
    | nil => intro l; rfl
    | cons x xs ih => intro l; rw [List.map_cons, List.foldl_cons, List.foldl_cons]; show List.foldl _ (putD (kvD l) (.str x) (.int (f x))) _ = _; rw [putD_kv, ih]
  exact this xs []
theorem filter_cD (p : Str → Bool) (xs : List Str) : (xs.map D.str).filter (cD p) = (xs.filter p).map D.str := by
  rw [List.filter_map]; rfl
theorem tab_map {f : Str → Int} {xs : List Str} (h : xs.Nodup) : tab f xs = xs.map fun s => (s, f s) := by
  have : ∀ (xs : List Str) (l : SL), xs.Nodup → (∀ x ∈ xs, x ∉ keys l) → xs.foldl (fun acc s => putP acc s (f s)) l = l ++ xs.map fun s => (s, f s) := by
    intro xs
    induction xs with
    | nil => intro l _ _; simp
    | cons x xs ih =>
      intro l hn hd
      obtain ⟨h1, h2⟩ := List.nodup_cons.mp hn
      have hx : x ∉ keys l := hd x (.head _)
      have e : putP l x (f x) = l ++ [(x, f x)] := by
        unfold putP
        rw [if_neg fun z => hx (any_keys.mp z)]
      rw [List.foldl_cons, e, ih _ h2, List.append_assoc]
      · rfl
      · intro y hy z
        rcases List.mem_append.mp (by simpa [keys] using z : y ∈ keys l ++ [x]) with z | z
        · exact hd y (.tail _ hy) z
        · rw [List.mem_singleton.mp z] at hy; exact h1 hy
  exact this xs [] h fun x _ z => by cases z
theorem norm_tab {l : SL} (h : (keys l).Nodup) : tab (coef l) ((srt (keys l)).filter fun s => coef l s != 0) = norm l := tab_map ((srt_nodup.mpr h).filter _)
theorem norm_fold {l : SL} (h : (keys l).Nodup) : (((srt (keys l)).map D.str).filter (cD fun s => coef l s != 0)).foldl (fun acc d => putD acc d (vD (coef l) d)) [] = kvD (norm l) := by
  rw [filter_cD, tab_kv, norm_tab h]
theorem valD_mem {l : SL} {s : Str} (h : s ∈ keys l) : valD (kvD l) (.str s) = some (.int (coef l s)) := by rw [valD_kv, lookup_some h]; rfl
/-- pairs, a form written -/
def prD (l : SL) : List D := l.map fun p => .tup [.str p.1, .int p.2]
def wrD (c : Int) (l : SL) : D := .tup [.int c, .tup (prD l)]
def addL (l m : SL) : SL := tab (fun s => coef l s + coef m s) (keys l ++ keys m)
def negL (l : SL) : SL := tab (fun s => -coef l s) (keys l)
def mulL (k : Int) (l : SL) : SL := tab (fun s => coef l s * k) (keys l)
theorem coef_addL {l m : SL} {s : Str} : coef (addL l m) s = coef l s + coef m s := by
  unfold addL
  rw [coef_tab]
  split
  · rfl
  · rename_i h
    rw [List.mem_append] at h
    rw [coef_not fun z => h (.inl z), coef_not fun z => h (.inr z)]; rfl
theorem coef_negL {l : SL} {s : Str} : coef (negL l) s = -coef l s := by
  unfold negL
  rw [coef_tab]
  split
  · rfl
  · rename_i h
    rw [coef_not h]; rfl
theorem coef_mulL {k : Int} {l : SL} {s : Str} : coef (mulL k l) s = coef l s * k := by
  unfold mulL
  rw [coef_tab]
  split
  · rfl
  · rename_i h
    rw [coef_not h, Int.zero_mul]
theorem keys_len {l : SL} : (keys l).length = l.length := by simp [keys]
theorem asL_put {A : AH} {p : Addr} {o : AO} {d : D} {xs : List D} (h : asL A d = some xs) (hp : A p = none) : asL (put A p o) d = some xs := by
  cases d <;> first | exact h | skip
  rename_i a
  simp only [asL] at h ⊢
  have : a ≠ p := fun z => by rw [z, hp] at h; cases h
  rw [put_ne this]
  exact h
theorem take_succ {α : Type} {l : List α} {i : Nat} {x : α} (h : l[i]? = some x) : l.take (i + 1) = l.take i ++ [x] := by simp [List.take_add_one, h]
theorem tab_snoc (f : Str → Int) (xs : List Str) (x : Str) : tab f (xs ++ [x]) = putP (tab f xs) x (f x) := by simp [tab]
end Av

set_option Elab.async false
set_option linter.all false
set_option maxRecDepth 100000
set_option maxHeartbeats 4000000
/-! own library Fm, part 2: pairs as data -/
namespace Av
open PySem PySem.Spec PyProof.Rows L2 My
def prP (l : SL) : List PyData := l.map fun p => .tuple [.str p.1, .int p.2]
theorem toPs_pr : ∀ {l : SL}, toPs (prD l) = some (prP l)
  | [] => by unfold prD prP; rw [List.map_nil, List.map_nil, toPs]
  | p :: l => by
    have := toPs_pr (l := l)
    unfold prD prP at this ⊢
    rw [List.map_cons, List.map_cons, toPs, this]
    simp [toP, toPs]
def wrP (c : Int) (l : SL) : PyData := .tuple [.int c, .tuple (prP l)]
theorem toP_wr {c : Int} {l : SL} : toP (wrD c l) = some (wrP c l) := by
  unfold wrD wrP
  simp [toP, toPs, toPs_pr]
theorem depthAll_pr : ∀ {l : SL}, PyData.depthAll (prP l) ≤ 2
  | [] => by unfold prP; rw [List.map_nil]; decide
  | p :: l => by
    have := depthAll_pr (l := l)
    unfold prP at this ⊢
    rw [List.map_cons]
    simp only [PyData.depthAll, PyData.depth] at this ⊢
    omega
theorem depth_lst {l : SL} : (PyData.list (prP l)).depth ≤ 64 := by
  have := depthAll_pr (l := l)
  simp only [PyData.depth]; omega
theorem depth_wr {c : Int} {l : SL} : (wrP c l).depth ≤ 64 := by
  have := depthAll_pr (l := l)
  unfold wrP
  simp only [PyData.depth, PyData.depthAll]; omega
theorem eqvAll_pr : ∀ {l : SL}, PyData.eqvAll (prP l) (prP l) = true
  | [] => by unfold prP; rw [List.map_nil]; rfl
  | p :: l => by
    have := eqvAll_pr (l := l)
    unfold prP at this ⊢
    rw [List.map_cons]
    simp only [PyData.eqvAll, PyData.eqv, this]
    simp
theorem eqv_wr {c : Int} {l : SL} : PyData.eqv (wrP c l) (wrP c l) = true := by
  unfold wrP
  simp only [PyData.eqv, PyData.eqvAll, eqvAll_pr]
  simp
theorem eqv_lst {l : SL} : PyData.eqv (.list (prP l)) (.list (prP l)) = true := by
  simp only [PyData.eqv, eqvAll_pr]
theorem eqv_nil {l : SL} : PyData.eqv (.list (prP l)) (.list []) = decide (l = []) := by
  cases l with
  | nil => rfl
  | cons p l => unfold prP; rw [List.map_cons]; simp [PyData.eqv, PyData.eqvAll]
theorem topP_wr {A : AH} {c : Int} {l : SL} : topP A (wrD c l) = some (wrP c l) := by
  unfold wrD
  rw [topP_tup]
  exact toP_wr
section
variable {A : AH} {Q : AQ} {E : AX}
/-- written forms that are the same -/
theorem ne_wr {c c' : Int} {l l' : SL} (hc : c = c') (hl : l = l') (q : Q (.bl false) A) : gEq true (wrD c l) (wrD c' l') A Q E := by
  subst hc hl
  have h := gEq_ttuptup (A := A) (Q := Q) (E := E) (xs := [.int c, .tup (prD l)]) (ys := [.int c, .tup (prD l)])
  refine h.mpr ?_
  refine ⟨_, topP_wr, _, topP_wr, depth_wr, depth_wr, ?_⟩
  rw [eqv_wr]; exact q
theorem eq_wr {c c' : Int} {l l' : SL} (hc : c = c') (hl : l = l') (q : Q (.bl true) A) : gEq false (wrD c l) (wrD c' l') A Q E := by
  subst hc hl
  have h := gEq_ftuptup (A := A) (Q := Q) (E := E) (xs := [.int c, .tup (prD l)]) (ys := [.int c, .tup (prD l)])
  refine h.mpr ?_
  refine ⟨_, topP_wr, _, topP_wr, depth_wr, depth_wr, ?_⟩
  rw [eqv_wr]; exact q
end
end Av

set_option Elab.async false
set_option linter.all false
set_option maxRecDepth 100000
set_option maxHeartbeats 4000000
namespace Av
open PySem PySem.Spec PyProof.Rows L2 My
/-! values of sums -/
/-- the sum of f over names -/
def sumU (U : List Str) (f : Str → Int) : Int := (U.map f).foldr (· + ·) 0
theorem sumU_nil {f : Str → Int} : sumU [] f = 0 := rfl
theorem sumU_cons {x : Str} {U : List Str} {f : Str → Int} : sumU (x :: U) f = f x + sumU U f := rfl
theorem sumU_perm {U V : List Str} {f : Str → Int} (h : U.Perm V) : sumU U f = sumU V f := by
  induction h with
  | nil => rfl
  | cons x _ ih => rw [sumU_cons, sumU_cons, ih]
  | swap x y l => rw [sumU_cons, sumU_cons, sumU_cons, sumU_cons]; omega
  | trans _ _ h1 h2 => rw [h1, h2]
theorem sumU_congr {f g : Str → Int} : ∀ {U : List Str}, (∀ s ∈ U, f s = g s) → sumU U f = sumU U g
  | [], _ => rfl
  | x :: U, h => by rw [sumU_cons, sumU_cons, h x (.head _), sumU_congr fun s hs => h s (.tail _ hs)]
theorem sumU_add {f g : Str → Int} : ∀ {U : List Str}, sumU U (fun s => f s + g s) = sumU U f + sumU U g
  | [] => rfl
  | x :: U => by rw [sumU_cons, sumU_cons, sumU_cons, sumU_add]; omega
theorem sumU_mul {f : Str → Int} {k : Int} : ∀ {U : List Str}, sumU U (fun s => k * f s) = k * sumU U f
  | [] => by rw [sumU_nil, sumU_nil, Int.mul_zero]
  | x :: U => by rw [sumU_cons, sumU_cons, sumU_mul, Int.mul_add]
theorem sumU_zero {f : Str → Int} : ∀ {U : List Str}, (∀ s ∈ U, f s = 0) → sumU U f = 0
  | [], _ => rfl
  | x :: U, h => by rw [sumU_cons, h x (.head _), sumU_zero fun s hs => h s (.tail _ hs)]; rfl
theorem sumU_snoc {x : Str} {f : Str → Int} : ∀ {U : List Str}, sumU (U ++ [x]) f = sumU U f + f x
  | [] => by show f x + 0 = 0 + f x; omega
  | y :: U => by rw [List.cons_append, sumU_cons, sumU_cons, sumU_snoc]; omega
/-- only one name counts -/
theorem sumU_one {x : Str} {k : Int} : ∀ {U : List Str}, U.Nodup → x ∈ U → sumU U (fun s => if s = x then k else 0) = k
  | y :: U, hn, hm => by
    rw [sumU_cons]
    obtain ⟨h1, h2⟩ := List.nodup_cons.mp hn
    by_cases g : y = x
    · subst g
      rw [if_pos rfl, sumU_zero fun s hs => if_neg (fun (e : s = y) => h1 (e ▸ hs))]
      omega
    · rw [if_neg g, sumU_one h2 ((List.mem_cons.mp hm).resolve_left fun e => g e.symm)]
      omega
/-- names without weight do not count -/
theorem sumU_sub {f : Str → Int} : ∀ {V U : List Str}, V.Nodup → U.Nodup → (∀ s ∈ V, s ∈ U) → (∀ s ∈ U, s ∉ V → f s = 0) → sumU V f = sumU U f
  | [], U, _, _, _, h => by rw [sumU_nil, sumU_zero fun s hs => h s hs (by intro z; cases z)]
  | x :: V, U, hv, hu, hs, h => by
    obtain ⟨h1, h2⟩ := List.nodup_cons.mp hv
    have hx : x ∈ U := hs x (.head _)
    rw [sumU_perm (List.perm_cons_erase hx), sumU_cons, sumU_cons]
    rw [sumU_sub (U := U.erase x) h2 (hu.erase x) (fun s hm => (List.mem_erase_of_ne (fun (e : s = x) => h1 (e ▸ hm))).mpr (hs s (.tail _ hm))) (fun s hm hn => ?_)]
    by_cases g : s = x
    · subst g
      exact absurd hm (List.Nodup.not_mem_erase hu)
    · exact h s ((List.mem_erase_of_ne g).mp hm) fun z => (List.mem_cons.mp z).elim g hn
/-- the value of a sum -/
def evL (l : SL) (v : Str → Int) : Int := sumU (keys l) fun s => coef l s * v s
theorem evL_over {l : SL} {U : List Str} {v : Str → Int} (hl : (keys l).Nodup) (hu : U.Nodup) (h : ∀ s ∈ keys l, s ∈ U) : evL l v = sumU U fun s => coef l s * v s :=
  sumU_sub hl hu h fun s _ hn => by rw [coef_not hn, Int.zero_mul]
theorem abs_le {x : Int} {n : Nat} (h : x.natAbs ≤ n) : -(n : Int) ≤ x ∧ x ≤ n := by omega
theorem sumU_bd {f : Str → Int} {B : Nat} : ∀ {U : List Str}, (∀ s ∈ U, (f s).natAbs ≤ B) → (sumU U f).natAbs ≤ U.length * B
  | [], _ => by rw [sumU_nil]; exact Nat.zero_le _
  | x :: U, h => by
    have h1 := h x (.head _)
    have h2 := sumU_bd (U := U) fun s hs => h s (.tail _ hs)
    rw [sumU_cons, List.length_cons, Nat.succ_mul]
    omega
theorem coef_at {s : Str} {n : Int} : ∀ {l : SL}, (keys l).Nodup → (s, n) ∈ l → coef l s = n
  | (t, m) :: l, hn, h => by
    have hn' : t ∉ keys l ∧ (keys l).Nodup := List.nodup_cons.mp hn
    rcases List.mem_cons.mp h with h | h
    · cases h
      unfold coef
      rw [List.lookup_cons_self]; rfl
    · have hs : s ∈ keys l := List.mem_map_of_mem (f := (·.1)) h
      have g : s ≠ t := fun e => hn'.1 (e ▸ hs)
      have : coef ((t, m) :: l) s = coef l s := by
        unfold coef
        rw [List.lookup_cons, beq_false_of_ne g]
      rw [this, coef_at hn'.2 h]
end Av

set_option Elab.async false
set_option linter.all false
set_option maxRecDepth 100000
set_option maxHeartbeats 4000000
namespace V06
open PySem PySem.Spec PyProof.Rows L2 My Av
def top (i : Nat) : Stmt := PySem.Challenge.pw_owedanswers_k06_symbols_replaced.main.body.getD i (.Pass ⟨0, 0, 0, 0⟩)
abbrev s_is_made_of : Stmt := top 7
abbrev s_is_list_name : Stmt := top 8
abbrev s_is_round : Stmt := top 9
abbrev s_is_symbol : Stmt := top 10
abbrev s_Form___init__ : Stmt := inClass (top 12) 0
abbrev s_Form_of : Stmt := inClass (top 12) 1
abbrev s_Form___add__ : Stmt := inClass (top 12) 6
abbrev s_Form___radd__ : Stmt := inClass (top 12) 7
abbrev s_Form___neg__ : Stmt := inClass (top 12) 8
abbrev s_Form___sub__ : Stmt := inClass (top 12) 9
abbrev s_Form___rsub__ : Stmt := inClass (top 12) 10
abbrev s_Form___mul__ : Stmt := inClass (top 12) 11
abbrev s_Form___rmul__ : Stmt := inClass (top 12) 12
abbrev s_Form___call__ : Stmt := inClass (top 12) 13
abbrev s_Form_written : Stmt := inClass (top 12) 16
abbrev s_Form_put : Stmt := inClass (top 12) 17
abbrev s_l_bag : Stmt := top 14
abbrev s_l_take : Stmt := top 15
abbrev s_l_number : Stmt := top 16
abbrev s_l_symbol : Stmt := top 17
abbrev s_l_pairs : Stmt := top 18
abbrev s_l_sums : Stmt := top 19
abbrev s_l_written : Stmt := top 20
abbrev s_l_values : Stmt := top 21
abbrev s_l_value : Stmt := top 22
abbrev s_law : Stmt := top 23
theorem sc_is_made_of : FnScope ["text", "characters", "character"] ["text", "characters"] (defScope s_is_made_of) := ⟨rfl, rfl, rfl, by decide +kernel, rfl, by decide +kernel, by decide +kernel⟩
theorem sc_is_list_name : FnScope ["text"] ["text"] (defScope s_is_list_name) := ⟨rfl, rfl, rfl, by decide +kernel, rfl, by decide +kernel, by decide +kernel⟩
theorem sc_is_round : FnScope ["text", "digits"] ["text"] (defScope s_is_round) := ⟨rfl, rfl, rfl, by decide +kernel, rfl, by decide +kernel, by decide +kernel⟩
theorem sc_is_symbol : FnScope ["text"] ["text"] (defScope s_is_symbol) := ⟨rfl, rfl, rfl, by decide +kernel, rfl, by decide +kernel, by decide +kernel⟩
theorem sc_Form___init__ : FnScope ["self", "constant", "coefficients", "symbol"] ["self", "constant", "coefficients"] (defScope s_Form___init__) := ⟨rfl, rfl, rfl, by decide +kernel, rfl, by decide +kernel, by decide +kernel⟩
theorem sc_Form_of : FnScope ["cls", "constant", "pairs", "found", "symbol", "coefficient"] ["cls", "constant", "pairs"] (defScope s_Form_of) := ⟨rfl, rfl, rfl, by decide +kernel, rfl, by decide +kernel, by decide +kernel⟩
theorem sc_Form___add__ : FnScope ["self", "other", "total", "found", "symbol"] ["self", "other"] (defScope s_Form___add__) := ⟨rfl, rfl, rfl, by decide +kernel, rfl, by decide +kernel, by decide +kernel⟩
theorem sc_Form___radd__ : FnScope ["self", "other"] ["self", "other"] (defScope s_Form___radd__) := ⟨rfl, rfl, rfl, by decide +kernel, rfl, by decide +kernel, by decide +kernel⟩
theorem sc_Form___neg__ : FnScope ["self", "found", "total", "symbol"] ["self"] (defScope s_Form___neg__) := ⟨rfl, rfl, rfl, by decide +kernel, rfl, by decide +kernel, by decide +kernel⟩
theorem sc_Form___sub__ : FnScope ["self", "other"] ["self", "other"] (defScope s_Form___sub__) := ⟨rfl, rfl, rfl, by decide +kernel, rfl, by decide +kernel, by decide +kernel⟩
theorem sc_Form___rsub__ : FnScope ["self", "other"] ["self", "other"] (defScope s_Form___rsub__) := ⟨rfl, rfl, rfl, by decide +kernel, rfl, by decide +kernel, by decide +kernel⟩
theorem sc_Form___mul__ : FnScope ["self", "other", "found", "total", "symbol"] ["self", "other"] (defScope s_Form___mul__) := ⟨rfl, rfl, rfl, by decide +kernel, rfl, by decide +kernel, by decide +kernel⟩
theorem sc_Form___rmul__ : FnScope ["self", "other"] ["self", "other"] (defScope s_Form___rmul__) := ⟨rfl, rfl, rfl, by decide +kernel, rfl, by decide +kernel, by decide +kernel⟩
theorem sc_Form___call__ : FnScope ["self", "values", "total", "symbol", "coefficient"] ["self", "values"] (defScope s_Form___call__) := ⟨rfl, rfl, rfl, by decide +kernel, rfl, by decide +kernel, by decide +kernel⟩
theorem sc_Form_written : FnScope ["self", "symbol"] ["self"] (defScope s_Form_written) := ⟨rfl, rfl, rfl, by decide +kernel, rfl, by decide +kernel, by decide +kernel⟩
theorem sc_Form_put : FnScope ["self", "symbol", "other", "coefficient", "rest", "one"] ["self", "symbol", "other"] (defScope s_Form_put) := ⟨rfl, rfl, rfl, by decide +kernel, rfl, by decide +kernel, by decide +kernel⟩
theorem sc_l_bag : FnScope ["_law_script", "_law_at", "_law_cell", "_law_digits"] ["_law_script", "_law_at"] (defScope s_l_bag) := ⟨rfl, rfl, rfl, by decide +kernel, rfl, by decide +kernel, by decide +kernel⟩
theorem sc_l_take : FnScope ["_law_bag_here", "_law_many", "_law_digit", "_law_mixed"] ["_law_bag_here", "_law_many"] (defScope s_l_take) := ⟨rfl, rfl, rfl, by decide +kernel, rfl, by decide +kernel, by decide +kernel⟩
theorem sc_l_number : FnScope ["_law_bag_here"] ["_law_bag_here"] (defScope s_l_number) := ⟨rfl, rfl, rfl, by decide +kernel, rfl, by decide +kernel, by decide +kernel⟩
theorem sc_l_symbol : FnScope ["_law_bag_here", "_law_letters", "_law_many", "_law_text", "_law_turn"] ["_law_bag_here"] (defScope s_l_symbol) := ⟨rfl, rfl, rfl, by decide +kernel, rfl, by decide +kernel, by decide +kernel⟩
theorem sc_l_pairs : FnScope ["_law_bag_here", "_law_many", "_law_found", "_law_turn", "_law_symbol_here"] ["_law_bag_here", "_law_many"] (defScope s_l_pairs) := ⟨rfl, rfl, rfl, by decide +kernel, rfl, by decide +kernel, by decide +kernel⟩
theorem sc_l_sums : FnScope ["_law_pairs_here", "_law_found", "_law_symbol_here", "_law_number_here"] ["_law_pairs_here"] (defScope s_l_sums) := ⟨rfl, rfl, rfl, by decide +kernel, rfl, by decide +kernel, by decide +kernel⟩
theorem sc_l_written : FnScope ["_law_constant", "_law_sums_here", "_law_symbol_here"] ["_law_constant", "_law_sums_here"] (defScope s_l_written) := ⟨rfl, rfl, rfl, by decide +kernel, rfl, by decide +kernel, by decide +kernel⟩
theorem sc_l_values : FnScope ["_law_bag_here", "_law_symbols", "_law_found", "_law_symbol_here", "_law_turn"] ["_law_bag_here", "_law_symbols"] (defScope s_l_values) := ⟨rfl, rfl, rfl, by decide +kernel, rfl, by decide +kernel, by decide +kernel⟩
theorem sc_l_value : FnScope ["_law_constant", "_law_sums_here", "_law_values_here", "_law_total", "_law_symbol_here"] ["_law_constant", "_law_sums_here", "_law_values_here"] (defScope s_l_value) := ⟨rfl, rfl, rfl, by decide +kernel, rfl, by decide +kernel, by decide +kernel⟩
theorem sc_law : FnScope ["_law_script", "_law_at", "_law_bag_here", "_law_constant", "_law_pairs_here", "_law_second", "_law_others", "_law_sums_here", "_law_more", "_law_symbol_here", "_law_factor", "_law_due", "_law_one", "_law_form", "_law_other", "_law_told", "_law_values_here", "_law_inner"] ["_law_script"] (defScope s_law) := ⟨rfl, rfl, rfl, by decide +kernel, rfl, by decide +kernel, by decide +kernel⟩
def fa : List My.FaB := [fun K => (He.Fa.glo "is_made_of").ok K,
  fun K => (He.Fa.keep "is_made_of").ok K,
  fun K => (He.Fa.glo "is_list_name").ok K,
  fun K => (He.Fa.keep "is_list_name").ok K,
  fun K => (He.Fa.glo "is_round").ok K,
  fun K => (He.Fa.keep "is_round").ok K,
  fun K => (He.Fa.glo "is_symbol").ok K,
  fun K => (He.Fa.keep "is_symbol").ok K,
  fun K => (He.Fa.glo "Form").ok K,
  fun K => (He.Fa.cls "Form").ok K,
  fun K => (He.Fa.noat "Form" "constant").ok K,
  fun K => (He.Fa.noat "Form" "coefficients").ok K,
  fun K => (He.Fa.mkr "Form").ok K,
  fun K => He.eqO (PySem.W.findIn K (.ref (He.ga K "Form")) "__add__") (some (some (.ref (He.ma K (He.ga K "Form") "__add__")))) && PySem.W.isFn K (.ref (He.ma K (He.ga K "Form") "__add__")),
  fun K => He.eqO (PySem.W.findIn K (.ref (He.ga K "Form")) "__radd__") (some (some (.ref (He.ma K (He.ga K "Form") "__radd__")))) && PySem.W.isFn K (.ref (He.ma K (He.ga K "Form") "__radd__")),
  fun K => He.eqO (PySem.W.findIn K (.ref (He.ga K "Form")) "__neg__") (some (some (.ref (He.ma K (He.ga K "Form") "__neg__")))) && PySem.W.isFn K (.ref (He.ma K (He.ga K "Form") "__neg__")),
  fun K => He.eqO (PySem.W.findIn K (.ref (He.ga K "Form")) "__sub__") (some (some (.ref (He.ma K (He.ga K "Form") "__sub__")))) && PySem.W.isFn K (.ref (He.ma K (He.ga K "Form") "__sub__")),
  fun K => He.eqO (PySem.W.findIn K (.ref (He.ga K "Form")) "__rsub__") (some (some (.ref (He.ma K (He.ga K "Form") "__rsub__")))) && PySem.W.isFn K (.ref (He.ma K (He.ga K "Form") "__rsub__")),
  fun K => He.eqO (PySem.W.findIn K (.ref (He.ga K "Form")) "__mul__") (some (some (.ref (He.ma K (He.ga K "Form") "__mul__")))) && PySem.W.isFn K (.ref (He.ma K (He.ga K "Form") "__mul__")),
  fun K => He.eqO (PySem.W.findIn K (.ref (He.ga K "Form")) "__rmul__") (some (some (.ref (He.ma K (He.ga K "Form") "__rmul__")))) && PySem.W.isFn K (.ref (He.ma K (He.ga K "Form") "__rmul__")),
  fun K => He.eqO (PySem.W.findIn K (.ref (He.ga K "Form")) "__call__") (some (some (.ref (He.ma K (He.ga K "Form") "__call__")))) && PySem.W.isFn K (.ref (He.ma K (He.ga K "Form") "__call__")),
  fun K => (He.Fa.meth "Form" "written").ok K,
  fun K => (He.Fa.meth "Form" "put").ok K,
  fun K => (He.Fa.glo "_law_bag").ok K,
  fun K => (He.Fa.keep "_law_bag").ok K,
  fun K => (He.Fa.glo "_law_take").ok K,
  fun K => (He.Fa.keep "_law_take").ok K,
  fun K => (He.Fa.glo "_law_number").ok K,
  fun K => (He.Fa.keep "_law_number").ok K,
  fun K => (He.Fa.glo "_law_symbol").ok K,
  fun K => (He.Fa.keep "_law_symbol").ok K,
  fun K => (He.Fa.glo "_law_pairs").ok K,
  fun K => (He.Fa.keep "_law_pairs").ok K,
  fun K => (He.Fa.glo "_law_sums").ok K,
  fun K => (He.Fa.keep "_law_sums").ok K,
  fun K => (He.Fa.glo "_law_written").ok K,
  fun K => (He.Fa.keep "_law_written").ok K,
  fun K => (He.Fa.glo "_law_values").ok K,
  fun K => (He.Fa.keep "_law_values").ok K,
  fun K => (He.Fa.glo "_law_value").ok K,
  fun K => (He.Fa.keep "_law_value").ok K,
  fun K => (He.Fa.glo "law").ok K,
  fun K => (He.Fa.keep "law").ok K,
  fun K => (He.Fa.free "len").ok K,
  fun K => (He.Fa.free "abs").ok K,
  fun K => (He.Fa.free "int").ok K,
  fun K => (He.Fa.free "str").ok K,
  fun K => (He.Fa.free "list").ok K,
  fun K => (He.Fa.free "isinstance").ok K,
  fun K => (He.Fa.free "range").ok K,
  fun K => (He.Fa.free "max").ok K,
  fun K => (He.Fa.free "min").ok K,
  fun K => (He.Fa.free "all").ok K,
  fun K => (He.Fa.free "tuple").ok K,
  fun K => (He.Fa.free "dict").ok K,
  fun K => (He.Fa.free "sorted").ok K,
  fun K => (He.Fa.str "LETTERS" "abcdefghijklmnopqrstuvwxyz").ok K,
  fun K => (He.Fa.str "DIGITS" "0123456789").ok K,
  fun K => (He.Fa.int "MOST_DIGITS" 60).ok K,
  My.ownOpB "Form" .Add,
  My.noInB "Form" .Add,
  My.ownOpB "Form" .Sub,
  My.noInB "Form" .Sub,
  My.ownOpB "Form" .Mult,
  My.noInB "Form" .Mult,
  Av.isCB "Form",
  fun K => decide (PySem.W.kitOne K (.type "int") (.ref (He.ga K "Form")) = some false),
  fun K => decide (PySem.W.kitOne K (.ref (He.ga K "Form")) (.type "int") = some false),
  fun K => PySem.W.readsIn K (He.ga K "Form") (.type "type") && He.eqO (PySem.W.specialIn K (.ref (He.ga K "Form")) "__getattribute__") (some (some (.builtin "type.__getattribute__"))),
  fun K => He5.wrapB K (He.ga K "Form") "classmethod" "classmethod.__get__" "of" && PySem.W.fnIn K (He5.wf K (He.ga K "Form") "classmethod" "of"),
  fun K => He.eqO (PySem.W.findIn K (.ref (He.ga K "Form")) "__call__") (some (some (.ref (He.ma K (He.ga K "Form") "__call__")))) && (PySem.W.isFn K (.ref (He.ma K (He.ga K "Form") "__call__")) && PySem.W.fnIn K (He.ma K (He.ga K "Form") "__call__"))]
def D_is_made_of : He5.DefA := ⟨My.gloF "is_made_of", "is_made_of", "is_made_of", defArgs s_is_made_of, defBody s_is_made_of, defScope s_is_made_of, [], []⟩
def D_is_list_name : He5.DefA := ⟨My.gloF "is_list_name", "is_list_name", "is_list_name", defArgs s_is_list_name, defBody s_is_list_name, defScope s_is_list_name, [], []⟩
def D_is_round : He5.DefA := ⟨My.gloF "is_round", "is_round", "is_round", defArgs s_is_round, defBody s_is_round, defScope s_is_round, [], []⟩
def D_is_symbol : He5.DefA := ⟨My.gloF "is_symbol", "is_symbol", "is_symbol", defArgs s_is_symbol, defBody s_is_symbol, defScope s_is_symbol, [], []⟩
def D_Form___init__ : He5.DefA := ⟨My.mthF "Form" "__init__", "__init__", "Form.__init__", defArgs s_Form___init__, defBody s_Form___init__, defScope s_Form___init__, [.int 0], []⟩
def D_Form_of : He5.DefA := ⟨(fun K => He5.wf K (He.ga K "Form") "classmethod" "of"), "of", "Form.of", defArgs s_Form_of, defBody s_Form_of, defScope s_Form_of, [], []⟩
def D_Form___add__ : He5.DefA := ⟨My.mthF "Form" "__add__", "__add__", "Form.__add__", defArgs s_Form___add__, defBody s_Form___add__, defScope s_Form___add__, [], []⟩
def D_Form___radd__ : He5.DefA := ⟨My.mthF "Form" "__radd__", "__radd__", "Form.__radd__", defArgs s_Form___radd__, defBody s_Form___radd__, defScope s_Form___radd__, [], []⟩
def D_Form___neg__ : He5.DefA := ⟨My.mthF "Form" "__neg__", "__neg__", "Form.__neg__", defArgs s_Form___neg__, defBody s_Form___neg__, defScope s_Form___neg__, [], []⟩
def D_Form___sub__ : He5.DefA := ⟨My.mthF "Form" "__sub__", "__sub__", "Form.__sub__", defArgs s_Form___sub__, defBody s_Form___sub__, defScope s_Form___sub__, [], []⟩
def D_Form___rsub__ : He5.DefA := ⟨My.mthF "Form" "__rsub__", "__rsub__", "Form.__rsub__", defArgs s_Form___rsub__, defBody s_Form___rsub__, defScope s_Form___rsub__, [], []⟩
def D_Form___mul__ : He5.DefA := ⟨My.mthF "Form" "__mul__", "__mul__", "Form.__mul__", defArgs s_Form___mul__, defBody s_Form___mul__, defScope s_Form___mul__, [], []⟩
def D_Form___rmul__ : He5.DefA := ⟨My.mthF "Form" "__rmul__", "__rmul__", "Form.__rmul__", defArgs s_Form___rmul__, defBody s_Form___rmul__, defScope s_Form___rmul__, [], []⟩
def D_Form___call__ : He5.DefA := ⟨My.mthF "Form" "__call__", "__call__", "Form.__call__", defArgs s_Form___call__, defBody s_Form___call__, defScope s_Form___call__, [], []⟩
def D_Form_written : He5.DefA := ⟨My.mthF "Form" "written", "written", "Form.written", defArgs s_Form_written, defBody s_Form_written, defScope s_Form_written, [], []⟩
def D_Form_put : He5.DefA := ⟨My.mthF "Form" "put", "put", "Form.put", defArgs s_Form_put, defBody s_Form_put, defScope s_Form_put, [], []⟩
def D_l_bag : He5.DefA := ⟨My.gloF "_law_bag", "_law_bag", "_law_bag", defArgs s_l_bag, defBody s_l_bag, defScope s_l_bag, [], []⟩
def D_l_take : He5.DefA := ⟨My.gloF "_law_take", "_law_take", "_law_take", defArgs s_l_take, defBody s_l_take, defScope s_l_take, [], []⟩
def D_l_number : He5.DefA := ⟨My.gloF "_law_number", "_law_number", "_law_number", defArgs s_l_number, defBody s_l_number, defScope s_l_number, [], []⟩
def D_l_symbol : He5.DefA := ⟨My.gloF "_law_symbol", "_law_symbol", "_law_symbol", defArgs s_l_symbol, defBody s_l_symbol, defScope s_l_symbol, [], []⟩
def D_l_pairs : He5.DefA := ⟨My.gloF "_law_pairs", "_law_pairs", "_law_pairs", defArgs s_l_pairs, defBody s_l_pairs, defScope s_l_pairs, [], []⟩
def D_l_sums : He5.DefA := ⟨My.gloF "_law_sums", "_law_sums", "_law_sums", defArgs s_l_sums, defBody s_l_sums, defScope s_l_sums, [], []⟩
def D_l_written : He5.DefA := ⟨My.gloF "_law_written", "_law_written", "_law_written", defArgs s_l_written, defBody s_l_written, defScope s_l_written, [], []⟩
def D_l_values : He5.DefA := ⟨My.gloF "_law_values", "_law_values", "_law_values", defArgs s_l_values, defBody s_l_values, defScope s_l_values, [], []⟩
def D_l_value : He5.DefA := ⟨My.gloF "_law_value", "_law_value", "_law_value", defArgs s_l_value, defBody s_l_value, defScope s_l_value, [], []⟩
def D_law : He5.DefA := ⟨My.gloF "law", "law", "law", defArgs s_law, defBody s_law, defScope s_law, [], []⟩
def fn : List He5.DefA := [D_is_made_of, D_is_list_name, D_is_round, D_is_symbol, D_Form___init__, D_Form_of, D_Form___add__, D_Form___radd__, D_Form___neg__, D_Form___sub__, D_Form___rsub__, D_Form___mul__, D_Form___rmul__, D_Form___call__, D_Form_written, D_Form_put, D_l_bag, D_l_take, D_l_number, D_l_symbol, D_l_pairs, D_l_sums, D_l_written, D_l_values, D_l_value, D_law]
structure Tx (K : PySem.W.Frag) (mg : Str → Option Value) : Prop where
  ex : ∃ h : Heap, K.In h ∧ h.Ns mainGlobals mg
  c : My.SaysM fa fn K
section
variable {K : PySem.W.Frag} {mg : Str → Option Value}
theorem Tx.g_is_made_of (T : Tx K mg) : mg "is_made_of" = some (.ref (He.ga K "is_made_of")) := by obtain ⟨h, X, G⟩ := T.ex; exact He.glo_ok X G (T.c.fact 0)
theorem Tx.k_is_made_of (T : Tx K mg) : PySem.W.keepIn K (.ref (He.ga K "is_made_of")) = true := He.keep_ok (T.c.fact 1)
theorem Tx.g_is_list_name (T : Tx K mg) : mg "is_list_name" = some (.ref (He.ga K "is_list_name")) := by obtain ⟨h, X, G⟩ := T.ex; exact He.glo_ok X G (T.c.fact 2)
theorem Tx.k_is_list_name (T : Tx K mg) : PySem.W.keepIn K (.ref (He.ga K "is_list_name")) = true := He.keep_ok (T.c.fact 3)
theorem Tx.g_is_round (T : Tx K mg) : mg "is_round" = some (.ref (He.ga K "is_round")) := by obtain ⟨h, X, G⟩ := T.ex; exact He.glo_ok X G (T.c.fact 4)
theorem Tx.k_is_round (T : Tx K mg) : PySem.W.keepIn K (.ref (He.ga K "is_round")) = true := He.keep_ok (T.c.fact 5)
theorem Tx.g_is_symbol (T : Tx K mg) : mg "is_symbol" = some (.ref (He.ga K "is_symbol")) := by obtain ⟨h, X, G⟩ := T.ex; exact He.glo_ok X G (T.c.fact 6)
theorem Tx.k_is_symbol (T : Tx K mg) : PySem.W.keepIn K (.ref (He.ga K "is_symbol")) = true := He.keep_ok (T.c.fact 7)
theorem Tx.g_Form (T : Tx K mg) : mg "Form" = some (.ref (He.ga K "Form")) := by obtain ⟨h, X, G⟩ := T.ex; exact He.glo_ok X G (T.c.fact 8)
theorem Tx.c_Form (T : Tx K mg) : Cls K (He.ga K "Form") := He.cls_ok (T.c.fact 9)
theorem Tx.f_Form_constant (T : Tx K mg) : NoAttr K (He.ga K "Form") "constant" := He.noat_ok (T.c.fact 10)
theorem Tx.f_Form_coefficients (T : Tx K mg) : NoAttr K (He.ga K "Form") "coefficients" := He.noat_ok (T.c.fact 11)
theorem Tx.m_Form (T : Tx K mg) : Mk K (He.ga K "Form") (He.ma K (He.ga K "Form") "__init__") := He.mkr_ok (T.c.fact 12)
theorem Tx.s_Form___add__ (T : Tx K mg) : My.Spc K (He.ga K "Form") "__add__" (He.ma K (He.ga K "Form") "__add__") := ⟨He.eqO_ok (He.ba (T.c.fact 13)).1, (He.ba (T.c.fact 13)).2⟩
theorem Tx.s_Form___radd__ (T : Tx K mg) : My.Spc K (He.ga K "Form") "__radd__" (He.ma K (He.ga K "Form") "__radd__") := ⟨He.eqO_ok (He.ba (T.c.fact 14)).1, (He.ba (T.c.fact 14)).2⟩
theorem Tx.s_Form___neg__ (T : Tx K mg) : My.Spc K (He.ga K "Form") "__neg__" (He.ma K (He.ga K "Form") "__neg__") := ⟨He.eqO_ok (He.ba (T.c.fact 15)).1, (He.ba (T.c.fact 15)).2⟩
theorem Tx.s_Form___sub__ (T : Tx K mg) : My.Spc K (He.ga K "Form") "__sub__" (He.ma K (He.ga K "Form") "__sub__") := ⟨He.eqO_ok (He.ba (T.c.fact 16)).1, (He.ba (T.c.fact 16)).2⟩
theorem Tx.s_Form___rsub__ (T : Tx K mg) : My.Spc K (He.ga K "Form") "__rsub__" (He.ma K (He.ga K "Form") "__rsub__") := ⟨He.eqO_ok (He.ba (T.c.fact 17)).1, (He.ba (T.c.fact 17)).2⟩
theorem Tx.s_Form___mul__ (T : Tx K mg) : My.Spc K (He.ga K "Form") "__mul__" (He.ma K (He.ga K "Form") "__mul__") := ⟨He.eqO_ok (He.ba (T.c.fact 18)).1, (He.ba (T.c.fact 18)).2⟩
theorem Tx.s_Form___rmul__ (T : Tx K mg) : My.Spc K (He.ga K "Form") "__rmul__" (He.ma K (He.ga K "Form") "__rmul__") := ⟨He.eqO_ok (He.ba (T.c.fact 19)).1, (He.ba (T.c.fact 19)).2⟩
theorem Tx.s_Form___call__ (T : Tx K mg) : My.Spc K (He.ga K "Form") "__call__" (He.ma K (He.ga K "Form") "__call__") := ⟨He.eqO_ok (He.ba (T.c.fact 20)).1, (He.ba (T.c.fact 20)).2⟩
theorem Tx.m_Form_written (T : Tx K mg) : Meth K (He.ga K "Form") "written" (He.ma K (He.ga K "Form") "written") := He.meth_ok (T.c.fact 21)
theorem Tx.m_Form_put (T : Tx K mg) : Meth K (He.ga K "Form") "put" (He.ma K (He.ga K "Form") "put") := He.meth_ok (T.c.fact 22)
theorem Tx.g__law_bag (T : Tx K mg) : mg "_law_bag" = some (.ref (He.ga K "_law_bag")) := by obtain ⟨h, X, G⟩ := T.ex; exact He.glo_ok X G (T.c.fact 23)
theorem Tx.k__law_bag (T : Tx K mg) : PySem.W.keepIn K (.ref (He.ga K "_law_bag")) = true := He.keep_ok (T.c.fact 24)
theorem Tx.g__law_take (T : Tx K mg) : mg "_law_take" = some (.ref (He.ga K "_law_take")) := by obtain ⟨h, X, G⟩ := T.ex; exact He.glo_ok X G (T.c.fact 25)
theorem Tx.k__law_take (T : Tx K mg) : PySem.W.keepIn K (.ref (He.ga K "_law_take")) = true := He.keep_ok (T.c.fact 26)
theorem Tx.g__law_number (T : Tx K mg) : mg "_law_number" = some (.ref (He.ga K "_law_number")) := by obtain ⟨h, X, G⟩ := T.ex; exact He.glo_ok X G (T.c.fact 27)
theorem Tx.k__law_number (T : Tx K mg) : PySem.W.keepIn K (.ref (He.ga K "_law_number")) = true := He.keep_ok (T.c.fact 28)
theorem Tx.g__law_symbol (T : Tx K mg) : mg "_law_symbol" = some (.ref (He.ga K "_law_symbol")) := by obtain ⟨h, X, G⟩ := T.ex; exact He.glo_ok X G (T.c.fact 29)
theorem Tx.k__law_symbol (T : Tx K mg) : PySem.W.keepIn K (.ref (He.ga K "_law_symbol")) = true := He.keep_ok (T.c.fact 30)
theorem Tx.g__law_pairs (T : Tx K mg) : mg "_law_pairs" = some (.ref (He.ga K "_law_pairs")) := by obtain ⟨h, X, G⟩ := T.ex; exact He.glo_ok X G (T.c.fact 31)
theorem Tx.k__law_pairs (T : Tx K mg) : PySem.W.keepIn K (.ref (He.ga K "_law_pairs")) = true := He.keep_ok (T.c.fact 32)
theorem Tx.g__law_sums (T : Tx K mg) : mg "_law_sums" = some (.ref (He.ga K "_law_sums")) := by obtain ⟨h, X, G⟩ := T.ex; exact He.glo_ok X G (T.c.fact 33)
theorem Tx.k__law_sums (T : Tx K mg) : PySem.W.keepIn K (.ref (He.ga K "_law_sums")) = true := He.keep_ok (T.c.fact 34)
theorem Tx.g__law_written (T : Tx K mg) : mg "_law_written" = some (.ref (He.ga K "_law_written")) := by obtain ⟨h, X, G⟩ := T.ex; exact He.glo_ok X G (T.c.fact 35)
theorem Tx.k__law_written (T : Tx K mg) : PySem.W.keepIn K (.ref (He.ga K "_law_written")) = true := He.keep_ok (T.c.fact 36)
theorem Tx.g__law_values (T : Tx K mg) : mg "_law_values" = some (.ref (He.ga K "_law_values")) := by obtain ⟨h, X, G⟩ := T.ex; exact He.glo_ok X G (T.c.fact 37)
theorem Tx.k__law_values (T : Tx K mg) : PySem.W.keepIn K (.ref (He.ga K "_law_values")) = true := He.keep_ok (T.c.fact 38)
theorem Tx.g__law_value (T : Tx K mg) : mg "_law_value" = some (.ref (He.ga K "_law_value")) := by obtain ⟨h, X, G⟩ := T.ex; exact He.glo_ok X G (T.c.fact 39)
theorem Tx.k__law_value (T : Tx K mg) : PySem.W.keepIn K (.ref (He.ga K "_law_value")) = true := He.keep_ok (T.c.fact 40)
theorem Tx.g_law (T : Tx K mg) : mg "law" = some (.ref (He.ga K "law")) := by obtain ⟨h, X, G⟩ := T.ex; exact He.glo_ok X G (T.c.fact 41)
theorem Tx.k_law (T : Tx K mg) : PySem.W.keepIn K (.ref (He.ga K "law")) = true := He.keep_ok (T.c.fact 42)
theorem Tx.n_len (T : Tx K mg) : mg "len" = none := by obtain ⟨h, X, G⟩ := T.ex; exact He.free_ok X G (T.c.fact 43)
theorem Tx.n_abs (T : Tx K mg) : mg "abs" = none := by obtain ⟨h, X, G⟩ := T.ex; exact He.free_ok X G (T.c.fact 44)
theorem Tx.n_int (T : Tx K mg) : mg "int" = none := by obtain ⟨h, X, G⟩ := T.ex; exact He.free_ok X G (T.c.fact 45)
theorem Tx.n_str (T : Tx K mg) : mg "str" = none := by obtain ⟨h, X, G⟩ := T.ex; exact He.free_ok X G (T.c.fact 46)
theorem Tx.n_list (T : Tx K mg) : mg "list" = none := by obtain ⟨h, X, G⟩ := T.ex; exact He.free_ok X G (T.c.fact 47)
theorem Tx.n_isinstance (T : Tx K mg) : mg "isinstance" = none := by obtain ⟨h, X, G⟩ := T.ex; exact He.free_ok X G (T.c.fact 48)
theorem Tx.n_range (T : Tx K mg) : mg "range" = none := by obtain ⟨h, X, G⟩ := T.ex; exact He.free_ok X G (T.c.fact 49)
theorem Tx.n_max (T : Tx K mg) : mg "max" = none := by obtain ⟨h, X, G⟩ := T.ex; exact He.free_ok X G (T.c.fact 50)
theorem Tx.n_min (T : Tx K mg) : mg "min" = none := by obtain ⟨h, X, G⟩ := T.ex; exact He.free_ok X G (T.c.fact 51)
theorem Tx.n_all (T : Tx K mg) : mg "all" = none := by obtain ⟨h, X, G⟩ := T.ex; exact He.free_ok X G (T.c.fact 52)
theorem Tx.n_tuple (T : Tx K mg) : mg "tuple" = none := by obtain ⟨h, X, G⟩ := T.ex; exact He.free_ok X G (T.c.fact 53)
theorem Tx.n_dict (T : Tx K mg) : mg "dict" = none := by obtain ⟨h, X, G⟩ := T.ex; exact He.free_ok X G (T.c.fact 54)
theorem Tx.n_sorted (T : Tx K mg) : mg "sorted" = none := by obtain ⟨h, X, G⟩ := T.ex; exact He.free_ok X G (T.c.fact 55)
theorem Tx.g_LETTERS (T : Tx K mg) : ∃ t, mg "LETTERS" = some (.str "abcdefghijklmnopqrstuvwxyz" t) := by obtain ⟨h, X, G⟩ := T.ex; exact He.str_ok X G (T.c.fact 56)
theorem Tx.g_DIGITS (T : Tx K mg) : ∃ t, mg "DIGITS" = some (.str "0123456789" t) := by obtain ⟨h, X, G⟩ := T.ex; exact He.str_ok X G (T.c.fact 57)
theorem Tx.g_MOST_DIGITS (T : Tx K mg) : ∃ t, mg "MOST_DIGITS" = some (.int 60 t) := by obtain ⟨h, X, G⟩ := T.ex; exact He.int_ok X G (T.c.fact 58)
theorem Tx.o_Form_Add (T : Tx K mg) : My.OwnOp K (He.ga K "Form") (He.ma K (He.ga K "Form") "__add__") (He.ma K (He.ga K "Form") "__radd__") .Add := My.ownOpB_ok2 (T.c.fact 59) rfl rfl
theorem Tx.ni_Form_Add (T : Tx K mg) : My.NoIn K (He.ga K "Form") .Add := My.noInB_ok (T.c.fact 60)
theorem Tx.o_Form_Sub (T : Tx K mg) : My.OwnOp K (He.ga K "Form") (He.ma K (He.ga K "Form") "__sub__") (He.ma K (He.ga K "Form") "__rsub__") .Sub := My.ownOpB_ok2 (T.c.fact 61) rfl rfl
theorem Tx.ni_Form_Sub (T : Tx K mg) : My.NoIn K (He.ga K "Form") .Sub := My.noInB_ok (T.c.fact 62)
theorem Tx.o_Form_Mult (T : Tx K mg) : My.OwnOp K (He.ga K "Form") (He.ma K (He.ga K "Form") "__mul__") (He.ma K (He.ga K "Form") "__rmul__") .Mult := My.ownOpB_ok2 (T.c.fact 63) rfl rfl
theorem Tx.ni_Form_Mult (T : Tx K mg) : My.NoIn K (He.ga K "Form") .Mult := My.noInB_ok (T.c.fact 64)
theorem Tx.is_Form (T : Tx K mg) : Av.IsC K (He.ga K "Form") := Av.isCB_ok (T.c.fact 65)
theorem Tx.kt_Form (T : Tx K mg) : PySem.W.kitOne K (.type "int") (.ref (He.ga K "Form")) = some false := of_decide_eq_true (T.c.fact 66)
theorem Tx.ki_Form (T : Tx K mg) : PySem.W.kitOne K (.ref (He.ga K "Form")) (.type "int") = some false := of_decide_eq_true (T.c.fact 67)
theorem Tx.cr_Form (T : Tx K mg) : ClX.CRead K (He.ga K "Form") (.type "type") := ⟨(He.ba (T.c.fact 68)).1, He.eqO_ok (He.ba (T.c.fact 68)).2⟩
theorem Tx.cm_Form_of (T : Tx K mg) : ClX.CMet K (He.ga K "Form") (.type "type") "of" (He.ma K (He.ga K "Form") "of") (He5.wf K (He.ga K "Form") "classmethod" "of") := He5.cmet_of (He.ba (T.c.fact 69)).1 (He.ba (T.c.fact 69)).2
theorem Tx.co_Form (T : Tx K mg) : StX.CallO K (He.ga K "Form") (He.ma K (He.ga K "Form") "__call__") := ⟨He.eqO_ok (He.ba (T.c.fact 70)).1, (He.ba (He.ba (T.c.fact 70)).2).1, (He.ba (He.ba (T.c.fact 70)).2).2⟩
theorem Tx.d_is_made_of (T : Tx K mg) : ∃ fd, L2.FunD K D_is_made_of.name D_is_made_of.qual D_is_made_of.params D_is_made_of.body D_is_made_of.scope (D_is_made_of.dvs K) (D_is_made_of.kws K) (He.ga K "is_made_of") fd := T.c.def_ 0 (d := D_is_made_of)
theorem Tx.d_is_list_name (T : Tx K mg) : ∃ fd, L2.FunD K D_is_list_name.name D_is_list_name.qual D_is_list_name.params D_is_list_name.body D_is_list_name.scope (D_is_list_name.dvs K) (D_is_list_name.kws K) (He.ga K "is_list_name") fd := T.c.def_ 1 (d := D_is_list_name)
theorem Tx.d_is_round (T : Tx K mg) : ∃ fd, L2.FunD K D_is_round.name D_is_round.qual D_is_round.params D_is_round.body D_is_round.scope (D_is_round.dvs K) (D_is_round.kws K) (He.ga K "is_round") fd := T.c.def_ 2 (d := D_is_round)
theorem Tx.d_is_symbol (T : Tx K mg) : ∃ fd, L2.FunD K D_is_symbol.name D_is_symbol.qual D_is_symbol.params D_is_symbol.body D_is_symbol.scope (D_is_symbol.dvs K) (D_is_symbol.kws K) (He.ga K "is_symbol") fd := T.c.def_ 3 (d := D_is_symbol)
theorem Tx.d_Form___init__ (T : Tx K mg) : ∃ fd, L2.FunD K D_Form___init__.name D_Form___init__.qual D_Form___init__.params D_Form___init__.body D_Form___init__.scope (D_Form___init__.dvs K) (D_Form___init__.kws K) (He.ma K (He.ga K "Form") "__init__") fd := T.c.def_ 4 (d := D_Form___init__)
theorem Tx.d_Form_of (T : Tx K mg) : ∃ fd, L2.FunD K D_Form_of.name D_Form_of.qual D_Form_of.params D_Form_of.body D_Form_of.scope (D_Form_of.dvs K) (D_Form_of.kws K) (He5.wf K (He.ga K "Form") "classmethod" "of") fd := T.c.def_ 5 (d := D_Form_of)
theorem Tx.d_Form___add__ (T : Tx K mg) : ∃ fd, L2.FunD K D_Form___add__.name D_Form___add__.qual D_Form___add__.params D_Form___add__.body D_Form___add__.scope (D_Form___add__.dvs K) (D_Form___add__.kws K) (He.ma K (He.ga K "Form") "__add__") fd := T.c.def_ 6 (d := D_Form___add__)
theorem Tx.d_Form___radd__ (T : Tx K mg) : ∃ fd, L2.FunD K D_Form___radd__.name D_Form___radd__.qual D_Form___radd__.params D_Form___radd__.body D_Form___radd__.scope (D_Form___radd__.dvs K) (D_Form___radd__.kws K) (He.ma K (He.ga K "Form") "__radd__") fd := T.c.def_ 7 (d := D_Form___radd__)
theorem Tx.d_Form___neg__ (T : Tx K mg) : ∃ fd, L2.FunD K D_Form___neg__.name D_Form___neg__.qual D_Form___neg__.params D_Form___neg__.body D_Form___neg__.scope (D_Form___neg__.dvs K) (D_Form___neg__.kws K) (He.ma K (He.ga K "Form") "__neg__") fd := T.c.def_ 8 (d := D_Form___neg__)
theorem Tx.d_Form___sub__ (T : Tx K mg) : ∃ fd, L2.FunD K D_Form___sub__.name D_Form___sub__.qual D_Form___sub__.params D_Form___sub__.body D_Form___sub__.scope (D_Form___sub__.dvs K) (D_Form___sub__.kws K) (He.ma K (He.ga K "Form") "__sub__") fd := T.c.def_ 9 (d := D_Form___sub__)
theorem Tx.d_Form___rsub__ (T : Tx K mg) : ∃ fd, L2.FunD K D_Form___rsub__.name D_Form___rsub__.qual D_Form___rsub__.params D_Form___rsub__.body D_Form___rsub__.scope (D_Form___rsub__.dvs K) (D_Form___rsub__.kws K) (He.ma K (He.ga K "Form") "__rsub__") fd := T.c.def_ 10 (d := D_Form___rsub__)
theorem Tx.d_Form___mul__ (T : Tx K mg) : ∃ fd, L2.FunD K D_Form___mul__.name D_Form___mul__.qual D_Form___mul__.params D_Form___mul__.body D_Form___mul__.scope (D_Form___mul__.dvs K) (D_Form___mul__.kws K) (He.ma K (He.ga K "Form") "__mul__") fd := T.c.def_ 11 (d := D_Form___mul__)
theorem Tx.d_Form___rmul__ (T : Tx K mg) : ∃ fd, L2.FunD K D_Form___rmul__.name D_Form___rmul__.qual D_Form___rmul__.params D_Form___rmul__.body D_Form___rmul__.scope (D_Form___rmul__.dvs K) (D_Form___rmul__.kws K) (He.ma K (He.ga K "Form") "__rmul__") fd := T.c.def_ 12 (d := D_Form___rmul__)
theorem Tx.d_Form___call__ (T : Tx K mg) : ∃ fd, L2.FunD K D_Form___call__.name D_Form___call__.qual D_Form___call__.params D_Form___call__.body D_Form___call__.scope (D_Form___call__.dvs K) (D_Form___call__.kws K) (He.ma K (He.ga K "Form") "__call__") fd := T.c.def_ 13 (d := D_Form___call__)
theorem Tx.d_Form_written (T : Tx K mg) : ∃ fd, L2.FunD K D_Form_written.name D_Form_written.qual D_Form_written.params D_Form_written.body D_Form_written.scope (D_Form_written.dvs K) (D_Form_written.kws K) (He.ma K (He.ga K "Form") "written") fd := T.c.def_ 14 (d := D_Form_written)
theorem Tx.d_Form_put (T : Tx K mg) : ∃ fd, L2.FunD K D_Form_put.name D_Form_put.qual D_Form_put.params D_Form_put.body D_Form_put.scope (D_Form_put.dvs K) (D_Form_put.kws K) (He.ma K (He.ga K "Form") "put") fd := T.c.def_ 15 (d := D_Form_put)
theorem Tx.d_l_bag (T : Tx K mg) : ∃ fd, L2.FunD K D_l_bag.name D_l_bag.qual D_l_bag.params D_l_bag.body D_l_bag.scope (D_l_bag.dvs K) (D_l_bag.kws K) (He.ga K "_law_bag") fd := T.c.def_ 16 (d := D_l_bag)
theorem Tx.d_l_take (T : Tx K mg) : ∃ fd, L2.FunD K D_l_take.name D_l_take.qual D_l_take.params D_l_take.body D_l_take.scope (D_l_take.dvs K) (D_l_take.kws K) (He.ga K "_law_take") fd := T.c.def_ 17 (d := D_l_take)
theorem Tx.d_l_number (T : Tx K mg) : ∃ fd, L2.FunD K D_l_number.name D_l_number.qual D_l_number.params D_l_number.body D_l_number.scope (D_l_number.dvs K) (D_l_number.kws K) (He.ga K "_law_number") fd := T.c.def_ 18 (d := D_l_number)
theorem Tx.d_l_symbol (T : Tx K mg) : ∃ fd, L2.FunD K D_l_symbol.name D_l_symbol.qual D_l_symbol.params D_l_symbol.body D_l_symbol.scope (D_l_symbol.dvs K) (D_l_symbol.kws K) (He.ga K "_law_symbol") fd := T.c.def_ 19 (d := D_l_symbol)
theorem Tx.d_l_pairs (T : Tx K mg) : ∃ fd, L2.FunD K D_l_pairs.name D_l_pairs.qual D_l_pairs.params D_l_pairs.body D_l_pairs.scope (D_l_pairs.dvs K) (D_l_pairs.kws K) (He.ga K "_law_pairs") fd := T.c.def_ 20 (d := D_l_pairs)
theorem Tx.d_l_sums (T : Tx K mg) : ∃ fd, L2.FunD K D_l_sums.name D_l_sums.qual D_l_sums.params D_l_sums.body D_l_sums.scope (D_l_sums.dvs K) (D_l_sums.kws K) (He.ga K "_law_sums") fd := T.c.def_ 21 (d := D_l_sums)
theorem Tx.d_l_written (T : Tx K mg) : ∃ fd, L2.FunD K D_l_written.name D_l_written.qual D_l_written.params D_l_written.body D_l_written.scope (D_l_written.dvs K) (D_l_written.kws K) (He.ga K "_law_written") fd := T.c.def_ 22 (d := D_l_written)
theorem Tx.d_l_values (T : Tx K mg) : ∃ fd, L2.FunD K D_l_values.name D_l_values.qual D_l_values.params D_l_values.body D_l_values.scope (D_l_values.dvs K) (D_l_values.kws K) (He.ga K "_law_values") fd := T.c.def_ 23 (d := D_l_values)
theorem Tx.d_l_value (T : Tx K mg) : ∃ fd, L2.FunD K D_l_value.name D_l_value.qual D_l_value.params D_l_value.body D_l_value.scope (D_l_value.dvs K) (D_l_value.kws K) (He.ga K "_law_value") fd := T.c.def_ 24 (d := D_l_value)
theorem Tx.d_law (T : Tx K mg) : ∃ fd, L2.FunD K D_law.name D_law.qual D_law.params D_law.body D_law.scope (D_law.dvs K) (D_law.kws K) (He.ga K "law") fd := T.c.def_ 25 (d := D_law)
end
end V06

set_option Elab.async false
set_option linter.all false
set_option maxRecDepth 100000
set_option maxHeartbeats 4000000
namespace V06
open PySem PySem.Spec PyProof.Rows L2 My Av
/-- made of some signs -/
def madeOf (t cs : Str) : Bool := !decide (t = "") && t.cps.toList.all fun c => decide (c ∈ cs.cps.toList)
def sp_is_made_of (_ : PySem.W.Frag) : ASp := fun ds A Q _ => ∃ t cs : Str, ds = [.str t, .str cs] ∧ t.length ≤ 1000 ∧ cs.length ≤ 1000 ∧ Q (.bl (madeOf t cs)) A
def inF (cs : Str) (d : D) : Bool := match ch1 d with
  | some c => decide (c ∈ cs.cps.toList)
  | none => false
theorem le1000 {n : Nat} (h : n ≤ 1000) : n ≤ sizeLine := Nat.le_trans h (by decide)
theorem inF_all {t cs : Str} : ((chL t).map (inF cs)).all id = t.cps.toList.all fun c => decide (c ∈ cs.cps.toList) := by
  unfold chL
  rw [List.map_map, List.all_map]
  rfl
theorem R_is_made_of {P : Program} {w : World} {K : PySem.W.Frag} {mg : Str → Option Value} {base : Heap} (T : Tx K mg) : FnR P w K mg base CX0 1 (He.ga K "is_made_of") (liftSp K (sp_is_made_of K)) := by
  obtain ⟨fd, F⟩ := T.d_is_made_of
  refine Av.FunD.AR F sc_is_made_of (fun ds A Q E h => by obtain ⟨t, cs, rfl, hl, hc, k⟩ := h; rfl) (fun _ _ _ _ _ _ us hl => match us, hl with | [_, _], _ => rfl) (fun cdv A0 outer s H0 E0 ds A Q E hr h => ?_)
  obtain ⟨t, cs, rfl, hl, hc, k⟩ := h
  refine ⟨_, (ass_one (as_ret (ae_and (ae_cmpA (cmp_ne hr.units) (ae_var (pv 0)) ae_str (nomark _)) (ae_one (ae_callB (ca_all rfl) (by rfl) T.n_all (by decide +kernel) (aa_cons (ae_lc false (own := [("character", 2)]) (pt := (.nm 2)) rfl sc_is_made_of.nd (ai_str (ae_var (pv 0))) (blkOk_by (own := [("character", 2)]) (N := ["text", "characters", "character"]) (sc := defScope s_is_made_of) (by decide +kernel)) (by decide) (fun _ _ _ _ _ => by exact (pg_name (i := 2) sc_is_made_of.nd rfl (by first | exact Or.inl rfl | exact Or.inr rfl))) (fun _ _ _ _ _ => by exact ats_nil) (fun _ _ _ _ _ => by exact (ae_cmpA cmp_in (ae_var (pv 2)) (ae_var (pv 1)) rfl))) aa_nil)))))), ?_⟩
  simp only [↓RD, RU, aStart, wipeA, putFA, toP, toPs, scDs, valD_nil, valD_cons, putM_eq, mergeD_eq, keysOk, aHandle, endsAA, putAA, starSp, put_same, put_put, inV_nil, inV_str, cxK, atI_0, atI_1, atI_2, atI_3, ixN_30, ixN_31, ixN_32, List.map, List.replicate, List.length_cons, List.length_nil, List.nil_append, List.cons_append, List.append_nil, Nat.reduceSub, Nat.reduceAdd, List.getElem?_cons_zero, List.getElem?_cons_succ, List.set_cons_zero, List.set_cons_succ, List.cons.injEq, Option.some.injEq, V.int.injEq, V.str.injEq, V.bl.injEq, D.int.injEq, D.str.injEq, D.bl.injEq, D.ref.injEq, D.tup.injEq, D.lst.injEq, D.ty.injEq, AO.lst.injEq, AO.dct.injEq, AO.ins.injEq, Prod.mk.injEq, exists_eq_left, exists_eq_left', exists_eq_right, exists_eq_right', exists_and_left, exists_and_right, true_and, and_true, and_self, if_true, if_false, Bool.false_eq_true, Bool.true_eq_false, eq_self, reduceCtorEq, false_and, and_false, and_assoc, Int.reduceToNat, Int.reducePow, Int.reduceMul, Int.reduceAdd, Int.reduceNeg, Int.reduceSub, String.reduceEq, String.reduceNe, ne_eq, not_false_eq_true, not_true_eq_false, decide_false, decide_true, Bool.not_false, Bool.not_true, Bool.or_false, Bool.false_or, Bool.or_true, Bool.true_or, Bool.and_true, Bool.true_and, Bool.and_self, Bool.and_false, Bool.false_and, exists_eq', exists_eq, exists_const, false_or, or_false, or_self, List.all_cons, List.all_nil, List.any_cons, List.any_nil, Nat.reduceLeDiff, exists_false, List.map_nil, List.map_cons, Option.map_some, Option.isSome_some, Option.isSome_none, Option.getD_some, Option.getD_none, implies_true, List.foldl_cons, List.foldl_nil, forall_const, ofS_eq, Int.reduceLT, Int.reduceLE, Nat.reduceLT, isO_obj, isO_int, dctD_dct]
  split
  · rename_i g
    refine Av.comp_map (fun d => .bl (inF cs d)) trivial _ [] ?_ (fun d hd R hR => ?_) ?_
    · rw [List.length_nil, Nat.zero_add]
      unfold chL
      rw [List.length_map]
      exact le1000 hl
    · obtain ⟨c, hc', rfl⟩ := List.mem_map.mp hd
      simp only [↓RD, RU, aStart, wipeA, putFA, toP, toPs, scDs, valD_nil, valD_cons, putM_eq, mergeD_eq, keysOk, aHandle, endsAA, putAA, starSp, put_same, put_put, inV_nil, inV_str, cxK, atI_0, atI_1, atI_2, atI_3, ixN_30, ixN_31, ixN_32, List.map, List.replicate, List.length_cons, List.length_nil, List.nil_append, List.cons_append, List.append_nil, Nat.reduceSub, Nat.reduceAdd, List.getElem?_cons_zero, List.getElem?_cons_succ, List.set_cons_zero, List.set_cons_succ, List.cons.injEq, Option.some.injEq, V.int.injEq, V.str.injEq, V.bl.injEq, D.int.injEq, D.str.injEq, D.bl.injEq, D.ref.injEq, D.tup.injEq, D.lst.injEq, D.ty.injEq, AO.lst.injEq, AO.dct.injEq, AO.ins.injEq, Prod.mk.injEq, exists_eq_left, exists_eq_left', exists_eq_right, exists_eq_right', exists_and_left, exists_and_right, true_and, and_true, and_self, if_true, if_false, Bool.false_eq_true, Bool.true_eq_false, eq_self, reduceCtorEq, false_and, and_false, and_assoc, Int.reduceToNat, Int.reducePow, Int.reduceMul, Int.reduceAdd, Int.reduceNeg, Int.reduceSub, String.reduceEq, String.reduceNe, ne_eq, not_false_eq_true, not_true_eq_false, decide_false, decide_true, Bool.not_false, Bool.not_true, Bool.or_false, Bool.false_or, Bool.or_true, Bool.true_or, Bool.and_true, Bool.true_and, Bool.and_self, Bool.and_false, Bool.false_and, exists_eq', exists_eq, exists_const, false_or, or_false, or_self, List.all_cons, List.all_nil, List.any_cons, List.any_nil, Nat.reduceLeDiff, exists_false, List.map_nil, List.map_cons, Option.map_some, Option.isSome_some, Option.isSome_none, Option.getD_some, Option.getD_none, implies_true, List.foldl_cons, List.foldl_nil, forall_const, ofS_eq, Int.reduceLT, Int.reduceLE, Nat.reduceLT, isO_obj, isO_int, dctD_dct]
      exact hR
    · simp only [↓RD, RU, aStart, wipeA, putFA, toP, toPs, scDs, valD_nil, valD_cons, putM_eq, mergeD_eq, keysOk, aHandle, endsAA, putAA, starSp, put_same, put_put, inV_nil, inV_str, cxK, atI_0, atI_1, atI_2, atI_3, ixN_30, ixN_31, ixN_32, List.map, List.replicate, List.length_cons, List.length_nil, List.nil_append, List.cons_append, List.append_nil, Nat.reduceSub, Nat.reduceAdd, List.getElem?_cons_zero, List.getElem?_cons_succ, List.set_cons_zero, List.set_cons_succ, List.cons.injEq, Option.some.injEq, V.int.injEq, V.str.injEq, V.bl.injEq, D.int.injEq, D.str.injEq, D.bl.injEq, D.ref.injEq, D.tup.injEq, D.lst.injEq, D.ty.injEq, AO.lst.injEq, AO.dct.injEq, AO.ins.injEq, Prod.mk.injEq, exists_eq_left, exists_eq_left', exists_eq_right, exists_eq_right', exists_and_left, exists_and_right, true_and, and_true, and_self, if_true, if_false, Bool.false_eq_true, Bool.true_eq_false, eq_self, reduceCtorEq, false_and, and_false, and_assoc, Int.reduceToNat, Int.reducePow, Int.reduceMul, Int.reduceAdd, Int.reduceNeg, Int.reduceSub, String.reduceEq, String.reduceNe, ne_eq, not_false_eq_true, not_true_eq_false, decide_false, decide_true, Bool.not_false, Bool.not_true, Bool.or_false, Bool.false_or, Bool.or_true, Bool.true_or, Bool.and_true, Bool.true_and, Bool.and_self, Bool.and_false, Bool.false_and, exists_eq', exists_eq, exists_const, false_or, or_false, or_self, List.all_cons, List.all_nil, List.any_cons, List.any_nil, Nat.reduceLeDiff, exists_false, List.map_nil, List.map_cons, Option.map_some, Option.isSome_some, Option.isSome_none, Option.getD_some, Option.getD_none, implies_true, List.foldl_cons, List.foldl_nil, forall_const, ofS_eq, Int.reduceLT, Int.reduceLE, Nat.reduceLT, isO_obj, isO_int, dctD_dct]
      rw [bls_map, oK_some, inF_all]
      refine fin_id ?_
      unfold madeOf at k
      rw [g] at k
      exact k
  · rename_i g
    refine fin_id ?_
    unfold madeOf at k
    rw [Bool.not_eq_true] at g
    rw [g] at k ⊢
    exact k
def LET : Str := "abcdefghijklmnopqrstuvwxyz"
def DIG : Str := "0123456789"
def isName (t : Str) : Bool := decide (t.length ≤ 3) && madeOf t LET
def hd0 (d : Str) : Bool := match d.cps.toList with
  | c :: _ => !decide ((⟨#[c]⟩ : Str) = "0")
  | [] => false
def isRound (t : Str) : Bool := if (!decide (cutS t none (some 1) = "r")) = true then false else if decide (60 < (cutS t (some 1) none).length) = true then false else if (!madeOf (cutS t (some 1) none) DIG) = true then false else
  decide (cutS t (some 1) none = "0") || hd0 (cutS t (some 1) none)
def isSym (t : Str) : Bool := isName t || isRound t
theorem cutS_len {t : Str} {lo hi : Option Int} : (cutS t lo hi).length ≤ t.length := by
  unfold cutS Str.length
  simp only [List.size_toArray, List.length_take, List.length_drop, Array.length_toList]
  omega
def sp_is_list_name (_ : PySem.W.Frag) : ASp := fun ds A Q _ => ∃ t : Str, ds = [.str t] ∧ t.length ≤ 1000 ∧ Q (.bl (isName t)) A
theorem R_is_list_name {P : Program} {w : World} {K : PySem.W.Frag} {mg : Str → Option Value} {base : Heap} (T : Tx K mg) : FnR P w K mg base CX0 3 (He.ga K "is_list_name") (liftSp K (sp_is_list_name K)) := by
  obtain ⟨fd, F⟩ := T.d_is_list_name
  refine Av.FunD.AR F sc_is_list_name (fun ds A Q E h => by obtain ⟨t, rfl, hl, k⟩ := h; rfl) (fun _ _ _ _ _ _ us hl => match us, hl with | [_], _ => rfl) (fun cdv A0 outer s H0 E0 ds A Q E hr h => ?_)
  obtain ⟨t, rfl, hl, k⟩ := h
  refine ⟨_, (ass_one (as_ret (ae_and (ae_cmpA cmp_le (ae_callB ca_len (by rfl) T.n_len (by decide +kernel) (aa_cons (ae_var (pv 0)) aa_nil)) ae_int (nomark _)) (ae_one (ae_callR (R_is_made_of T) (hr.mono (by decide)) rfl T.g_is_made_of T.k_is_made_of (aa_cons (ae_var (pv 0)) (aa_cons (ae_gs rfl T.g_LETTERS) aa_nil))))))), ?_⟩
  simp only [↓RD, RU, aStart, wipeA, putFA, toP, toPs, scDs, valD_nil, valD_cons, putM_eq, mergeD_eq, keysOk, aHandle, endsAA, putAA, starSp, put_same, put_put, inV_nil, inV_str, cxK, atI_0, atI_1, atI_2, atI_3, ixN_30, ixN_31, ixN_32, List.map, List.replicate, List.length_cons, List.length_nil, List.nil_append, List.cons_append, List.append_nil, Nat.reduceSub, Nat.reduceAdd, List.getElem?_cons_zero, List.getElem?_cons_succ, List.set_cons_zero, List.set_cons_succ, List.cons.injEq, Option.some.injEq, V.int.injEq, V.str.injEq, V.bl.injEq, D.int.injEq, D.str.injEq, D.bl.injEq, D.ref.injEq, D.tup.injEq, D.lst.injEq, D.ty.injEq, AO.lst.injEq, AO.dct.injEq, AO.ins.injEq, Prod.mk.injEq, exists_eq_left, exists_eq_left', exists_eq_right, exists_eq_right', exists_and_left, exists_and_right, true_and, and_true, and_self, if_true, if_false, Bool.false_eq_true, Bool.true_eq_false, eq_self, reduceCtorEq, false_and, and_false, and_assoc, Int.reduceToNat, Int.reducePow, Int.reduceMul, Int.reduceAdd, Int.reduceNeg, Int.reduceSub, String.reduceEq, String.reduceNe, ne_eq, not_false_eq_true, not_true_eq_false, decide_false, decide_true, Bool.not_false, Bool.not_true, Bool.or_false, Bool.false_or, Bool.or_true, Bool.true_or, Bool.and_true, Bool.true_and, Bool.and_self, Bool.and_false, Bool.false_and, exists_eq', exists_eq, exists_const, false_or, or_false, or_self, List.all_cons, List.all_nil, List.any_cons, List.any_nil, Nat.reduceLeDiff, exists_false, List.map_nil, List.map_cons, Option.map_some, Option.isSome_some, Option.isSome_none, Option.getD_some, Option.getD_none, implies_true, List.foldl_cons, List.foldl_nil, forall_const, ofS_eq, Int.reduceLT, Int.reduceLE, Nat.reduceLT, isO_obj, isO_int, dctD_dct, le1000 hl]
  unfold isName at k
  refine ite_dec (fun g => ?_) (fun g => ?_)
  · refine ⟨t, LET, rfl, hl, by decide, ?_⟩
    refine fin_id ?_
    rw [decide_eq_true (by omega)] at k
    exact k
  · refine fin_id ?_
    rw [decide_eq_false (by omega)] at k ⊢
    exact k
theorem mad_ne {t cs : Str} (h : madeOf t cs = true) : ∃ c r, t.cps.toList = c :: r := by
  unfold madeOf at h
  rw [Bool.and_eq_true] at h
  have h1 : t ≠ "" := by simpa using h.1
  cases e : t.cps.toList with
  | nil => exact absurd (by cases t; congr 1; exact Array.toList_eq_nil_iff.mp e) h1
  | cons c r => exact ⟨c, r, rfl⟩
def sp_is_round (_ : PySem.W.Frag) : ASp := fun ds A Q _ => ∃ t : Str, ds = [.str t] ∧ t.length ≤ 1000 ∧ Q (.bl (isRound t)) A
theorem R_is_round {P : Program} {w : World} {K : PySem.W.Frag} {mg : Str → Option Value} {base : Heap} (T : Tx K mg) : FnR P w K mg base CX0 3 (He.ga K "is_round") (liftSp K (sp_is_round K)) := by
  obtain ⟨fd, F⟩ := T.d_is_round
  refine Av.FunD.AR F sc_is_round (fun ds A Q E h => by obtain ⟨t, rfl, hl, k⟩ := h; rfl) (fun _ _ _ _ _ _ us hl => match us, hl with | [_], _ => rfl) (fun cdv A0 outer s H0 E0 ds A Q E hr h => ?_)
  obtain ⟨t, rfl, hl, k⟩ := h
  refine ⟨_, (ass_cons (as_set (i := 1) sc_is_round.nd rfl (by first | exact Or.inl rfl | exact Or.inr rfl) (ae_slice false (ae_var (pv 0)) (ao_some ae_int) ao_none))
      (ass_cons (as_if (PW.pt (aw_or (at_cmpA (cmp_ne hr.units) (ae_slice false (ae_var (pv 0)) ao_none (ao_some ae_int)) ae_str (nomark _)) (aw_or (at_cmpA cmp_gt (ae_callB ca_len (by rfl) T.n_len (by decide +kernel) (aa_cons (ae_var (pv 1)) aa_nil)) (ae_gi rfl T.g_MOST_DIGITS) (nomark _)) (aw_or1 (at_not (at_truth (ae_callR (R_is_made_of T) (hr.mono (by decide)) rfl T.g_is_made_of T.k_is_made_of (aa_cons (ae_var (pv 1)) (aa_cons (ae_gs rfl T.g_DIGITS) aa_nil))))))))) (ass_one (as_ret ae_bl)) ass_nil)
      (ass_one (as_ret (ae_or (ae_cmpA (cmp_eq hr.units) (ae_var (pv 1)) ae_str (nomark _)) (ae_one (ae_cmpA (cmp_ne hr.units) (ae_subs (ae_var (pv 1)) ae_int (fun _ _ => rfl)) ae_str (nomark _)))))))), ?_⟩
  simp only [↓RD, RU, aStart, wipeA, putFA, toP, toPs, scDs, valD_nil, valD_cons, putM_eq, mergeD_eq, keysOk, aHandle, endsAA, putAA, starSp, put_same, put_put, inV_nil, inV_str, cxK, atI_0, atI_1, atI_2, atI_3, ixN_30, ixN_31, ixN_32, List.map, List.replicate, List.length_cons, List.length_nil, List.nil_append, List.cons_append, List.append_nil, Nat.reduceSub, Nat.reduceAdd, List.getElem?_cons_zero, List.getElem?_cons_succ, List.set_cons_zero, List.set_cons_succ, List.cons.injEq, Option.some.injEq, V.int.injEq, V.str.injEq, V.bl.injEq, D.int.injEq, D.str.injEq, D.bl.injEq, D.ref.injEq, D.tup.injEq, D.lst.injEq, D.ty.injEq, AO.lst.injEq, AO.dct.injEq, AO.ins.injEq, Prod.mk.injEq, exists_eq_left, exists_eq_left', exists_eq_right, exists_eq_right', exists_and_left, exists_and_right, true_and, and_true, and_self, if_true, if_false, Bool.false_eq_true, Bool.true_eq_false, eq_self, reduceCtorEq, false_and, and_false, and_assoc, Int.reduceToNat, Int.reducePow, Int.reduceMul, Int.reduceAdd, Int.reduceNeg, Int.reduceSub, String.reduceEq, String.reduceNe, ne_eq, not_false_eq_true, not_true_eq_false, decide_false, decide_true, Bool.not_false, Bool.not_true, Bool.or_false, Bool.false_or, Bool.or_true, Bool.true_or, Bool.and_true, Bool.true_and, Bool.and_self, Bool.and_false, Bool.false_and, exists_eq', exists_eq, exists_const, false_or, or_false, or_self, List.all_cons, List.all_nil, List.any_cons, List.any_nil, Nat.reduceLeDiff, exists_false, List.map_nil, List.map_cons, Option.map_some, Option.isSome_some, Option.isSome_none, Option.getD_some, Option.getD_none, implies_true, List.foldl_cons, List.foldl_nil, forall_const, ofS_eq, Int.reduceLT, Int.reduceLE, Nat.reduceLT, isO_obj, isO_int, dctD_dct, le1000 hl]
  unfold isRound at k
  have hz : (cutS t (some 1) none).length ≤ 1000 := Nat.le_trans cutS_len hl
  generalize cutS t (some 1) none = d at k hz ⊢
  split
  · rename_i g
    rw [if_pos g] at k
    exact fin_id k
  · rename_i g
    rw [if_neg g] at k
    refine ⟨le1000 hz, ite_dec (fun g2 => ?_) (fun g2 => ?_)⟩
    · rw [if_pos (decide_eq_true (by omega))] at k
      exact fin_id k
    · rw [if_neg (by rw [decide_eq_false (by omega)]; exact Bool.false_ne_true)] at k
      refine ⟨d, DIG, rfl, hz, by decide, ?_⟩
      simp only [↓RD, RU, aStart, wipeA, putFA, toP, toPs, scDs, valD_nil, valD_cons, putM_eq, mergeD_eq, keysOk, aHandle, endsAA, putAA, starSp, put_same, put_put, inV_nil, inV_str, cxK, atI_0, atI_1, atI_2, atI_3, ixN_30, ixN_31, ixN_32, List.map, List.replicate, List.length_cons, List.length_nil, List.nil_append, List.cons_append, List.append_nil, Nat.reduceSub, Nat.reduceAdd, List.getElem?_cons_zero, List.getElem?_cons_succ, List.set_cons_zero, List.set_cons_succ, List.cons.injEq, Option.some.injEq, V.int.injEq, V.str.injEq, V.bl.injEq, D.int.injEq, D.str.injEq, D.bl.injEq, D.ref.injEq, D.tup.injEq, D.lst.injEq, D.ty.injEq, AO.lst.injEq, AO.dct.injEq, AO.ins.injEq, Prod.mk.injEq, exists_eq_left, exists_eq_left', exists_eq_right, exists_eq_right', exists_and_left, exists_and_right, true_and, and_true, and_self, if_true, if_false, Bool.false_eq_true, Bool.true_eq_false, eq_self, reduceCtorEq, false_and, and_false, and_assoc, Int.reduceToNat, Int.reducePow, Int.reduceMul, Int.reduceAdd, Int.reduceNeg, Int.reduceSub, String.reduceEq, String.reduceNe, ne_eq, not_false_eq_true, not_true_eq_false, decide_false, decide_true, Bool.not_false, Bool.not_true, Bool.or_false, Bool.false_or, Bool.or_true, Bool.true_or, Bool.and_true, Bool.true_and, Bool.and_self, Bool.and_false, Bool.false_and, exists_eq', exists_eq, exists_const, false_or, or_false, or_self, List.all_cons, List.all_nil, List.any_cons, List.any_nil, Nat.reduceLeDiff, exists_false, List.map_nil, List.map_cons, Option.map_some, Option.isSome_some, Option.isSome_none, Option.getD_some, Option.getD_none, implies_true, List.foldl_cons, List.foldl_nil, forall_const, ofS_eq, Int.reduceLT, Int.reduceLE, Nat.reduceLT, isO_obj, isO_int, dctD_dct]
      split
      · rename_i g3
        rw [if_pos g3] at k
        exact fin_id k
      · rename_i g3
        rw [if_neg g3] at k
        obtain ⟨c, r, hr'⟩ := mad_ne (t := d) (cs := DIG) (by simpa using g3)
        unfold hd0 at k
        rw [hr'] at k
        refine ite_dec (fun g4 => ?_) (fun g4 => ?_)
        · rw [decide_eq_true g4] at k ⊢
          exact fin_id k
        · rw [decide_eq_false g4] at k
          simp only [↓RD, RU, aStart, wipeA, putFA, toP, toPs, scDs, valD_nil, valD_cons, putM_eq, mergeD_eq, keysOk, aHandle, endsAA, putAA, starSp, put_same, put_put, inV_nil, inV_str, cxK, atI_0, atI_1, atI_2, atI_3, ixN_30, ixN_31, ixN_32, List.map, List.replicate, List.length_cons, List.length_nil, List.nil_append, List.cons_append, List.append_nil, Nat.reduceSub, Nat.reduceAdd, List.getElem?_cons_zero, List.getElem?_cons_succ, List.set_cons_zero, List.set_cons_succ, List.cons.injEq, Option.some.injEq, V.int.injEq, V.str.injEq, V.bl.injEq, D.int.injEq, D.str.injEq, D.bl.injEq, D.ref.injEq, D.tup.injEq, D.lst.injEq, D.ty.injEq, AO.lst.injEq, AO.dct.injEq, AO.ins.injEq, Prod.mk.injEq, exists_eq_left, exists_eq_left', exists_eq_right, exists_eq_right', exists_and_left, exists_and_right, true_and, and_true, and_self, if_true, if_false, Bool.false_eq_true, Bool.true_eq_false, eq_self, reduceCtorEq, false_and, and_false, and_assoc, Int.reduceToNat, Int.reducePow, Int.reduceMul, Int.reduceAdd, Int.reduceNeg, Int.reduceSub, String.reduceEq, String.reduceNe, ne_eq, not_false_eq_true, not_true_eq_false, decide_false, decide_true, Bool.not_false, Bool.not_true, Bool.or_false, Bool.false_or, Bool.or_true, Bool.true_or, Bool.and_true, Bool.true_and, Bool.and_self, Bool.and_false, Bool.false_and, exists_eq', exists_eq, exists_const, false_or, or_false, or_self, List.all_cons, List.all_nil, List.any_cons, List.any_nil, Nat.reduceLeDiff, exists_false, List.map_nil, List.map_cons, Option.map_some, Option.isSome_some, Option.isSome_none, Option.getD_some, Option.getD_none, implies_true, List.foldl_cons, List.foldl_nil, forall_const, ofS_eq, Int.reduceLT, Int.reduceLE, Nat.reduceLT, isO_obj, isO_int, dctD_dct, le1000 hz, hr']
          exact fin_id k
def sp_is_symbol (_ : PySem.W.Frag) : ASp := fun ds A Q _ => ∃ t : Str, ds = [.str t] ∧ t.length ≤ 1000 ∧ Q (.bl (isSym t)) A
theorem R_is_symbol {P : Program} {w : World} {K : PySem.W.Frag} {mg : Str → Option Value} {base : Heap} (T : Tx K mg) : FnR P w K mg base CX0 5 (He.ga K "is_symbol") (liftSp K (sp_is_symbol K)) := by
  obtain ⟨fd, F⟩ := T.d_is_symbol
  refine Av.FunD.AR F sc_is_symbol (fun ds A Q E h => by obtain ⟨t, rfl, hl, k⟩ := h; rfl) (fun _ _ _ _ _ _ us hl => match us, hl with | [_], _ => rfl) (fun cdv A0 outer s H0 E0 ds A Q E hr h => ?_)
  obtain ⟨t, rfl, hl, k⟩ := h
  refine ⟨_, (ass_one (as_ret (ae_or (ae_callR (R_is_list_name T) (hr.mono (by decide)) rfl T.g_is_list_name T.k_is_list_name (aa_cons (ae_var (pv 0)) aa_nil)) (ae_one (ae_callR (R_is_round T) (hr.mono (by decide)) rfl T.g_is_round T.k_is_round (aa_cons (ae_var (pv 0)) aa_nil)))))), ?_⟩
  simp only [↓RD, RU, aStart, wipeA, putFA, toP, toPs, scDs, valD_nil, valD_cons, putM_eq, mergeD_eq, keysOk, aHandle, endsAA, putAA, starSp, put_same, put_put, inV_nil, inV_str, cxK, atI_0, atI_1, atI_2, atI_3, ixN_30, ixN_31, ixN_32, List.map, List.replicate, List.length_cons, List.length_nil, List.nil_append, List.cons_append, List.append_nil, Nat.reduceSub, Nat.reduceAdd, List.getElem?_cons_zero, List.getElem?_cons_succ, List.set_cons_zero, List.set_cons_succ, List.cons.injEq, Option.some.injEq, V.int.injEq, V.str.injEq, V.bl.injEq, D.int.injEq, D.str.injEq, D.bl.injEq, D.ref.injEq, D.tup.injEq, D.lst.injEq, D.ty.injEq, AO.lst.injEq, AO.dct.injEq, AO.ins.injEq, Prod.mk.injEq, exists_eq_left, exists_eq_left', exists_eq_right, exists_eq_right', exists_and_left, exists_and_right, true_and, and_true, and_self, if_true, if_false, Bool.false_eq_true, Bool.true_eq_false, eq_self, reduceCtorEq, false_and, and_false, and_assoc, Int.reduceToNat, Int.reducePow, Int.reduceMul, Int.reduceAdd, Int.reduceNeg, Int.reduceSub, String.reduceEq, String.reduceNe, ne_eq, not_false_eq_true, not_true_eq_false, decide_false, decide_true, Bool.not_false, Bool.not_true, Bool.or_false, Bool.false_or, Bool.or_true, Bool.true_or, Bool.and_true, Bool.true_and, Bool.and_self, Bool.and_false, Bool.false_and, exists_eq', exists_eq, exists_const, false_or, or_false, or_self, List.all_cons, List.all_nil, List.any_cons, List.any_nil, Nat.reduceLeDiff, exists_false, List.map_nil, List.map_cons, Option.map_some, Option.isSome_some, Option.isSome_none, Option.getD_some, Option.getD_none, implies_true, List.foldl_cons, List.foldl_nil, forall_const, ofS_eq, Int.reduceLT, Int.reduceLE, Nat.reduceLT, isO_obj, isO_int, dctD_dct]
  unfold isSym at k
  refine ⟨t, rfl, hl, ?_⟩
  simp only [↓RD, RU, aStart, wipeA, putFA, toP, toPs, scDs, valD_nil, valD_cons, putM_eq, mergeD_eq, keysOk, aHandle, endsAA, putAA, starSp, put_same, put_put, inV_nil, inV_str, cxK, atI_0, atI_1, atI_2, atI_3, ixN_30, ixN_31, ixN_32, List.map, List.replicate, List.length_cons, List.length_nil, List.nil_append, List.cons_append, List.append_nil, Nat.reduceSub, Nat.reduceAdd, List.getElem?_cons_zero, List.getElem?_cons_succ, List.set_cons_zero, List.set_cons_succ, List.cons.injEq, Option.some.injEq, V.int.injEq, V.str.injEq, V.bl.injEq, D.int.injEq, D.str.injEq, D.bl.injEq, D.ref.injEq, D.tup.injEq, D.lst.injEq, D.ty.injEq, AO.lst.injEq, AO.dct.injEq, AO.ins.injEq, Prod.mk.injEq, exists_eq_left, exists_eq_left', exists_eq_right, exists_eq_right', exists_and_left, exists_and_right, true_and, and_true, and_self, if_true, if_false, Bool.false_eq_true, Bool.true_eq_false, eq_self, reduceCtorEq, false_and, and_false, and_assoc, Int.reduceToNat, Int.reducePow, Int.reduceMul, Int.reduceAdd, Int.reduceNeg, Int.reduceSub, String.reduceEq, String.reduceNe, ne_eq, not_false_eq_true, not_true_eq_false, decide_false, decide_true, Bool.not_false, Bool.not_true, Bool.or_false, Bool.false_or, Bool.or_true, Bool.true_or, Bool.and_true, Bool.true_and, Bool.and_self, Bool.and_false, Bool.false_and, exists_eq', exists_eq, exists_const, false_or, or_false, or_self, List.all_cons, List.all_nil, List.any_cons, List.any_nil, Nat.reduceLeDiff, exists_false, List.map_nil, List.map_cons, Option.map_some, Option.isSome_some, Option.isSome_none, Option.getD_some, Option.getD_none, implies_true, List.foldl_cons, List.foldl_nil, forall_const, ofS_eq, Int.reduceLT, Int.reduceLE, Nat.reduceLT, isO_obj, isO_int, dctD_dct]
  split
  · rename_i g
    rw [g] at k ⊢
    exact fin_id k
  · rename_i g
    rw [Bool.not_eq_true] at g
    rw [g] at k
    exact ⟨t, rfl, hl, fin_id k⟩

end V06

set_option Elab.async false
set_option linter.all false
set_option maxRecDepth 100000
set_option maxHeartbeats 4000000
namespace V06
open PySem PySem.Spec PyProof.Rows L2 My Av
/-! the class Form -/
abbrev fmD (K : PySem.W.Frag) (c : Int) (l : SL) : D := .obj (He.ga K "Form") [("constant", .int c), ("coefficients", .dct (kvD l))]
theorem sym_bad {s : Str} (h : isSym s = true) : s ∉ (["self", "constant"] : List Str) := by
  intro z
  have h1 : isSym "self" = false := by decide +kernel
  have h2 : isSym "constant" = false := by decide +kernel
  rcases List.mem_cons.mp z with rfl | z
  · rw [h1] at h; cases h
  · rcases List.mem_cons.mp z with rfl | z
    · rw [h2] at h; cases h
    · cases z
/-- symbols that can be read -/
def Syms (l : SL) : Prop := ∀ s ∈ keys l, isSym s = true ∧ s.length ≤ 1000
theorem lf_cons {x y : D} : List.lookup ("constant" : Str) [(("constant" : Str), x), (("coefficients" : Str), y)] = some x := by rfl
theorem lf_coef {x y : D} : List.lookup ("coefficients" : Str) [(("constant" : Str), x), (("coefficients" : Str), y)] = some y := by rfl
def sp_Form___init__ (K : PySem.W.Frag) : ASp := fun ds A Q _ => ∃ (x : Addr) (c : Int) (l : SL), ds = [.ref x, .int c, .dct (kvD l)] ∧ A x = some (.ins (He.ga K "Form") []) ∧ (keys l).Nodup ∧ Syms l ∧ l.length < 64 ∧ Q .non (put A x (.ins (He.ga K "Form") [("constant", .int c), ("coefficients", .dct (kvD (norm l)))]))
theorem B_Form___init__ {P : Program} {w : World} {K : PySem.W.Frag} {mg : Str → Option Value} {base : Heap} (T : Tx K mg) : Av.BodyR P w K mg base D_Form___init__.qual D_Form___init__.body D_Form___init__.scope (He.ma K (He.ga K "Form") "__init__") ["self", "constant", "coefficients", "symbol"] 6 (sp_Form___init__ K) := by
  intro cdv A0 outer s H0 E0 ds A Q E hr h
  obtain ⟨x, c, l, rfl, hx, hnd, hsy, hz, k⟩ := h
  refine ⟨_, (ass_cons (as_for (p := (.nm 3)) PassesOwn.never rfl (ai_list (ae_callB (ca_sorted rfl false) (by rfl) T.n_sorted (by decide +kernel) (aa_cons (ae_var (pv 2)) aa_nil))) (pg_name (i := 3) sc_Form___init__.nd rfl (by first | exact Or.inl rfl | exact Or.inr rfl)) (ass_one (as_if (at_not (at_truth (ae_callR (R_is_symbol T) (hr.mono (by decide)) rfl T.g_is_symbol T.k_is_symbol (aa_cons (ae_var (pv 3)) aa_nil)))) (ass_one as_never) ass_nil)))
      (ass_cons (as_fld (ae_var (pv 0)) (ae_var (pv 1)) rfl)
      (ass_one (as_fld (ae_var (pv 0)) (ae_dc false (own := [("symbol", 3)]) (pt := (.nm 3)) rfl sc_Form___init__.nd (ai_list (ae_callB (ca_sorted rfl false) (by rfl) T.n_sorted (by decide +kernel) (aa_cons (ae_var (pv 2)) aa_nil))) (blkOk_by (own := [("symbol", 3)]) (N := ["self", "constant", "coefficients", "symbol"]) (sc := defScope s_Form___init__) (by decide +kernel)) (by decide) (fun _ _ _ _ _ => by exact (pg_name (i := 3) sc_Form___init__.nd rfl (by first | exact Or.inl rfl | exact Or.inr rfl))) (fun _ _ _ _ _ => by exact (ats_one (at_truth (ae_dget (hu_of hr) (ae_var (pv 2)) (ae_var (pv 3)) (fun _ _ => rfl))))) (fun _ _ _ _ _ => by exact (ae_var (pv 3))) (fun _ _ _ _ _ => by exact (ae_dget (hu_of hr) (ae_var (pv 2)) (ae_var (pv 3)) (fun _ _ => rfl)))) rfl)))), ?_⟩
  simp only [↓RD, RU, aStart, wipeA, putFA, toP, toPs, scDs, valD_nil, valD_cons, putM_eq, mergeD_eq, keysOk, aHandle, endsAA, putAA, starSp, put_same, put_put, inV_nil, inV_str, cxK, atI_0, atI_1, atI_2, atI_3, ixN_30, ixN_31, ixN_32, List.map, List.replicate, List.length_cons, List.length_nil, List.nil_append, List.cons_append, List.append_nil, Nat.reduceSub, Nat.reduceAdd, List.getElem?_cons_zero, List.getElem?_cons_succ, List.set_cons_zero, List.set_cons_succ, List.cons.injEq, Option.some.injEq, V.int.injEq, V.str.injEq, V.bl.injEq, D.int.injEq, D.str.injEq, D.bl.injEq, D.ref.injEq, D.tup.injEq, D.lst.injEq, D.ty.injEq, AO.lst.injEq, AO.dct.injEq, AO.ins.injEq, Prod.mk.injEq, exists_eq_left, exists_eq_left', exists_eq_right, exists_eq_right', exists_and_left, exists_and_right, true_and, and_true, and_self, if_true, if_false, Bool.false_eq_true, Bool.true_eq_false, eq_self, reduceCtorEq, false_and, and_false, and_assoc, Int.reduceToNat, Int.reducePow, Int.reduceMul, Int.reduceAdd, Int.reduceNeg, Int.reduceSub, String.reduceEq, String.reduceNe, ne_eq, not_false_eq_true, not_true_eq_false, decide_false, decide_true, Bool.not_false, Bool.not_true, Bool.or_false, Bool.false_or, Bool.or_true, Bool.true_or, Bool.and_true, Bool.true_and, Bool.and_self, Bool.and_false, Bool.false_and, exists_eq', exists_eq, exists_const, false_or, or_false, or_self, List.all_cons, List.all_nil, List.any_cons, List.any_nil, Nat.reduceLeDiff, exists_false, List.map_nil, List.map_cons, Option.map_some, Option.isSome_some, Option.isSome_none, Option.getD_some, Option.getD_none, implies_true, List.foldl_cons, List.foldl_nil, forall_const, ofS_eq, Int.reduceLT, Int.reduceLE, Nat.reduceLT, isO_obj, isO_int, dctD_dct]
  refine sort_dct rfl hz ?_
  simp only [↓RD, RU, aStart, wipeA, putFA, toP, toPs, scDs, valD_nil, valD_cons, putM_eq, mergeD_eq, keysOk, aHandle, endsAA, putAA, starSp, put_same, put_put, inV_nil, inV_str, cxK, atI_0, atI_1, atI_2, atI_3, ixN_30, ixN_31, ixN_32, List.map, List.replicate, List.length_cons, List.length_nil, List.nil_append, List.cons_append, List.append_nil, Nat.reduceSub, Nat.reduceAdd, List.getElem?_cons_zero, List.getElem?_cons_succ, List.set_cons_zero, List.set_cons_succ, List.cons.injEq, Option.some.injEq, V.int.injEq, V.str.injEq, V.bl.injEq, D.int.injEq, D.str.injEq, D.bl.injEq, D.ref.injEq, D.tup.injEq, D.lst.injEq, D.ty.injEq, AO.lst.injEq, AO.dct.injEq, AO.ins.injEq, Prod.mk.injEq, exists_eq_left, exists_eq_left', exists_eq_right, exists_eq_right', exists_and_left, exists_and_right, true_and, and_true, and_self, if_true, if_false, Bool.false_eq_true, Bool.true_eq_false, eq_self, reduceCtorEq, false_and, and_false, and_assoc, Int.reduceToNat, Int.reducePow, Int.reduceMul, Int.reduceAdd, Int.reduceNeg, Int.reduceSub, String.reduceEq, String.reduceNe, ne_eq, not_false_eq_true, not_true_eq_false, decide_false, decide_true, Bool.not_false, Bool.not_true, Bool.or_false, Bool.false_or, Bool.or_true, Bool.true_or, Bool.and_true, Bool.true_and, Bool.and_self, Bool.and_false, Bool.false_and, exists_eq', exists_eq, exists_const, false_or, or_false, or_self, List.all_cons, List.all_nil, List.any_cons, List.any_nil, Nat.reduceLeDiff, exists_false, List.map_nil, List.map_cons, Option.map_some, Option.isSome_some, Option.isSome_none, Option.getD_some, Option.getD_none, implies_true, List.foldl_cons, List.foldl_nil, forall_const, ofS_eq, Int.reduceLT, Int.reduceLE, Nat.reduceLT, isO_obj, isO_int, dctD_dct]
  refine loop_for (fun i δ A' => A' = A ∧ ∃ v3, δ = [some (.ref x), some (.int c), some (.dct (kvD l)), v3]) ⟨rfl, _, rfl⟩ (fun _ _ _ _ _ => rfl) (fun i y δ A' R hy hP hR => ?_) (fun δ A' hP => ?_)
  · obtain ⟨rfl, v3, rfl⟩ := hP
    obtain ⟨s, hs, rfl⟩ := List.mem_map.mp (List.mem_of_getElem? hy)
    have h1 := hsy s (srt_mem.mp hs)
    simp only [↓RD, RU, aStart, wipeA, putFA, toP, toPs, scDs, valD_nil, valD_cons, putM_eq, mergeD_eq, keysOk, aHandle, endsAA, putAA, starSp, put_same, put_put, inV_nil, inV_str, cxK, atI_0, atI_1, atI_2, atI_3, ixN_30, ixN_31, ixN_32, List.map, List.replicate, List.length_cons, List.length_nil, List.nil_append, List.cons_append, List.append_nil, Nat.reduceSub, Nat.reduceAdd, List.getElem?_cons_zero, List.getElem?_cons_succ, List.set_cons_zero, List.set_cons_succ, List.cons.injEq, Option.some.injEq, V.int.injEq, V.str.injEq, V.bl.injEq, D.int.injEq, D.str.injEq, D.bl.injEq, D.ref.injEq, D.tup.injEq, D.lst.injEq, D.ty.injEq, AO.lst.injEq, AO.dct.injEq, AO.ins.injEq, Prod.mk.injEq, exists_eq_left, exists_eq_left', exists_eq_right, exists_eq_right', exists_and_left, exists_and_right, true_and, and_true, and_self, if_true, if_false, Bool.false_eq_true, Bool.true_eq_false, eq_self, reduceCtorEq, false_and, and_false, and_assoc, Int.reduceToNat, Int.reducePow, Int.reduceMul, Int.reduceAdd, Int.reduceNeg, Int.reduceSub, String.reduceEq, String.reduceNe, ne_eq, not_false_eq_true, not_true_eq_false, decide_false, decide_true, Bool.not_false, Bool.not_true, Bool.or_false, Bool.false_or, Bool.or_true, Bool.true_or, Bool.and_true, Bool.true_and, Bool.and_self, Bool.and_false, Bool.false_and, exists_eq', exists_eq, exists_const, false_or, or_false, or_self, List.all_cons, List.all_nil, List.any_cons, List.any_nil, Nat.reduceLeDiff, exists_false, List.map_nil, List.map_cons, Option.map_some, Option.isSome_some, Option.isSome_none, Option.getD_some, Option.getD_none, implies_true, List.foldl_cons, List.foldl_nil, forall_const, ofS_eq, Int.reduceLT, Int.reduceLE, Nat.reduceLT, isO_obj, isO_int, dctD_dct]
    refine ⟨s, rfl, h1.2, ?_⟩
    simp only [↓RD, RU, aStart, wipeA, putFA, toP, toPs, scDs, valD_nil, valD_cons, putM_eq, mergeD_eq, keysOk, aHandle, endsAA, putAA, starSp, put_same, put_put, inV_nil, inV_str, cxK, atI_0, atI_1, atI_2, atI_3, ixN_30, ixN_31, ixN_32, List.map, List.replicate, List.length_cons, List.length_nil, List.nil_append, List.cons_append, List.append_nil, Nat.reduceSub, Nat.reduceAdd, List.getElem?_cons_zero, List.getElem?_cons_succ, List.set_cons_zero, List.set_cons_succ, List.cons.injEq, Option.some.injEq, V.int.injEq, V.str.injEq, V.bl.injEq, D.int.injEq, D.str.injEq, D.bl.injEq, D.ref.injEq, D.tup.injEq, D.lst.injEq, D.ty.injEq, AO.lst.injEq, AO.dct.injEq, AO.ins.injEq, Prod.mk.injEq, exists_eq_left, exists_eq_left', exists_eq_right, exists_eq_right', exists_and_left, exists_and_right, true_and, and_true, and_self, if_true, if_false, Bool.false_eq_true, Bool.true_eq_false, eq_self, reduceCtorEq, false_and, and_false, and_assoc, Int.reduceToNat, Int.reducePow, Int.reduceMul, Int.reduceAdd, Int.reduceNeg, Int.reduceSub, String.reduceEq, String.reduceNe, ne_eq, not_false_eq_true, not_true_eq_false, decide_false, decide_true, Bool.not_false, Bool.not_true, Bool.or_false, Bool.false_or, Bool.or_true, Bool.true_or, Bool.and_true, Bool.true_and, Bool.and_self, Bool.and_false, Bool.false_and, exists_eq', exists_eq, exists_const, false_or, or_false, or_self, List.all_cons, List.all_nil, List.any_cons, List.any_nil, Nat.reduceLeDiff, exists_false, List.map_nil, List.map_cons, Option.map_some, Option.isSome_some, Option.isSome_none, Option.getD_some, Option.getD_none, implies_true, List.foldl_cons, List.foldl_nil, forall_const, ofS_eq, Int.reduceLT, Int.reduceLE, Nat.reduceLT, isO_obj, isO_int, dctD_dct, h1.1]
    exact hR _ _ ⟨rfl, _, rfl⟩
  · obtain ⟨rfl, v3, rfl⟩ := hP
    simp only [↓RD, RU, aStart, wipeA, putFA, toP, toPs, scDs, valD_nil, valD_cons, putM_eq, mergeD_eq, keysOk, aHandle, endsAA, putAA, starSp, put_same, put_put, inV_nil, inV_str, cxK, atI_0, atI_1, atI_2, atI_3, ixN_30, ixN_31, ixN_32, List.map, List.replicate, List.length_cons, List.length_nil, List.nil_append, List.cons_append, List.append_nil, Nat.reduceSub, Nat.reduceAdd, List.getElem?_cons_zero, List.getElem?_cons_succ, List.set_cons_zero, List.set_cons_succ, List.cons.injEq, Option.some.injEq, V.int.injEq, V.str.injEq, V.bl.injEq, D.int.injEq, D.str.injEq, D.bl.injEq, D.ref.injEq, D.tup.injEq, D.lst.injEq, D.ty.injEq, AO.lst.injEq, AO.dct.injEq, AO.ins.injEq, Prod.mk.injEq, exists_eq_left, exists_eq_left', exists_eq_right, exists_eq_right', exists_and_left, exists_and_right, true_and, and_true, and_self, if_true, if_false, Bool.false_eq_true, Bool.true_eq_false, eq_self, reduceCtorEq, false_and, and_false, and_assoc, Int.reduceToNat, Int.reducePow, Int.reduceMul, Int.reduceAdd, Int.reduceNeg, Int.reduceSub, String.reduceEq, String.reduceNe, ne_eq, not_false_eq_true, not_true_eq_false, decide_false, decide_true, Bool.not_false, Bool.not_true, Bool.or_false, Bool.false_or, Bool.or_true, Bool.true_or, Bool.and_true, Bool.true_and, Bool.and_self, Bool.and_false, Bool.false_and, exists_eq', exists_eq, exists_const, false_or, or_false, or_self, List.all_cons, List.all_nil, List.any_cons, List.any_nil, Nat.reduceLeDiff, exists_false, List.map_nil, List.map_cons, Option.map_some, Option.isSome_some, Option.isSome_none, Option.getD_some, Option.getD_none, implies_true, List.foldl_cons, List.foldl_nil, forall_const, ofS_eq, Int.reduceLT, Int.reduceLE, Nat.reduceLT, isO_obj, isO_int, dctD_dct, hx, T.c_Form, T.f_Form_constant, T.f_Form_coefficients]
    refine sort_dct rfl hz ?_
    simp only [↓RD, RU, aStart, wipeA, putFA, toP, toPs, scDs, valD_nil, valD_cons, putM_eq, mergeD_eq, keysOk, aHandle, endsAA, putAA, starSp, put_same, put_put, inV_nil, inV_str, cxK, atI_0, atI_1, atI_2, atI_3, ixN_30, ixN_31, ixN_32, List.map, List.replicate, List.length_cons, List.length_nil, List.nil_append, List.cons_append, List.append_nil, Nat.reduceSub, Nat.reduceAdd, List.getElem?_cons_zero, List.getElem?_cons_succ, List.set_cons_zero, List.set_cons_succ, List.cons.injEq, Option.some.injEq, V.int.injEq, V.str.injEq, V.bl.injEq, D.int.injEq, D.str.injEq, D.bl.injEq, D.ref.injEq, D.tup.injEq, D.lst.injEq, D.ty.injEq, AO.lst.injEq, AO.dct.injEq, AO.ins.injEq, Prod.mk.injEq, exists_eq_left, exists_eq_left', exists_eq_right, exists_eq_right', exists_and_left, exists_and_right, true_and, and_true, and_self, if_true, if_false, Bool.false_eq_true, Bool.true_eq_false, eq_self, reduceCtorEq, false_and, and_false, and_assoc, Int.reduceToNat, Int.reducePow, Int.reduceMul, Int.reduceAdd, Int.reduceNeg, Int.reduceSub, String.reduceEq, String.reduceNe, ne_eq, not_false_eq_true, not_true_eq_false, decide_false, decide_true, Bool.not_false, Bool.not_true, Bool.or_false, Bool.false_or, Bool.or_true, Bool.true_or, Bool.and_true, Bool.true_and, Bool.and_self, Bool.and_false, Bool.false_and, exists_eq', exists_eq, exists_const, false_or, or_false, or_self, List.all_cons, List.all_nil, List.any_cons, List.any_nil, Nat.reduceLeDiff, exists_false, List.map_nil, List.map_cons, Option.map_some, Option.isSome_some, Option.isSome_none, Option.getD_some, Option.getD_none, implies_true, List.foldl_cons, List.foldl_nil, forall_const, ofS_eq, Int.reduceLT, Int.reduceLE, Nat.reduceLT, isO_obj, isO_int, dctD_dct]
    refine dcomp_filter (cD fun s => coef l s != 0) id (vD (coef l)) (id ?_) _ [] ?_ (fun d hd R R0 hR hR0 => ?_) ?_
    · rfl
    · rw [List.length_nil, Nat.zero_add, List.length_map, srt_length]
      exact Nat.le_trans (Nat.le_of_lt (by rw [List.length_map]; exact hz)) (by decide)
    · obtain ⟨s, hs, rfl⟩ := List.mem_map.mp hd
      have hv := valD_mem (srt_mem.mp hs)
      simp only [↓RD, RU, aStart, wipeA, putFA, toP, toPs, scDs, valD_nil, valD_cons, putM_eq, mergeD_eq, keysOk, aHandle, endsAA, putAA, starSp, put_same, put_put, inV_nil, inV_str, cxK, atI_0, atI_1, atI_2, atI_3, ixN_30, ixN_31, ixN_32, List.map, List.replicate, List.length_cons, List.length_nil, List.nil_append, List.cons_append, List.append_nil, Nat.reduceSub, Nat.reduceAdd, List.getElem?_cons_zero, List.getElem?_cons_succ, List.set_cons_zero, List.set_cons_succ, List.cons.injEq, Option.some.injEq, V.int.injEq, V.str.injEq, V.bl.injEq, D.int.injEq, D.str.injEq, D.bl.injEq, D.ref.injEq, D.tup.injEq, D.lst.injEq, D.ty.injEq, AO.lst.injEq, AO.dct.injEq, AO.ins.injEq, Prod.mk.injEq, exists_eq_left, exists_eq_left', exists_eq_right, exists_eq_right', exists_and_left, exists_and_right, true_and, and_true, and_self, if_true, if_false, Bool.false_eq_true, Bool.true_eq_false, eq_self, reduceCtorEq, false_and, and_false, and_assoc, Int.reduceToNat, Int.reducePow, Int.reduceMul, Int.reduceAdd, Int.reduceNeg, Int.reduceSub, String.reduceEq, String.reduceNe, ne_eq, not_false_eq_true, not_true_eq_false, decide_false, decide_true, Bool.not_false, Bool.not_true, Bool.or_false, Bool.false_or, Bool.or_true, Bool.true_or, Bool.and_true, Bool.true_and, Bool.and_self, Bool.and_false, Bool.false_and, exists_eq', exists_eq, exists_const, false_or, or_false, or_self, List.all_cons, List.all_nil, List.any_cons, List.any_nil, Nat.reduceLeDiff, exists_false, List.map_nil, List.map_cons, Option.map_some, Option.isSome_some, Option.isSome_none, Option.getD_some, Option.getD_none, implies_true, List.foldl_cons, List.foldl_nil, forall_const, ofS_eq, Int.reduceLT, Int.reduceLE, Nat.reduceLT, isO_obj, isO_int, dctD_dct, hv]
      split
      · rename_i g; exact hR g
      · rename_i g; exact hR0 ((Bool.not_eq_true _).mp g)
    · have hf : List.foldl (fun acc d => putD acc (id d) (vD (coef l) d)) [] (List.filter (cD fun s => coef l s != 0) (List.map D.str (srt (List.map (fun x => x.fst) l)))) = kvD (norm l) := norm_fold hnd
      rw [hf]
      simp only [↓RD, RU, aStart, wipeA, putFA, toP, toPs, scDs, valD_nil, valD_cons, putM_eq, mergeD_eq, keysOk, aHandle, endsAA, putAA, starSp, put_same, put_put, inV_nil, inV_str, cxK, atI_0, atI_1, atI_2, atI_3, ixN_30, ixN_31, ixN_32, List.map, List.replicate, List.length_cons, List.length_nil, List.nil_append, List.cons_append, List.append_nil, Nat.reduceSub, Nat.reduceAdd, List.getElem?_cons_zero, List.getElem?_cons_succ, List.set_cons_zero, List.set_cons_succ, List.cons.injEq, Option.some.injEq, V.int.injEq, V.str.injEq, V.bl.injEq, D.int.injEq, D.str.injEq, D.bl.injEq, D.ref.injEq, D.tup.injEq, D.lst.injEq, D.ty.injEq, AO.lst.injEq, AO.dct.injEq, AO.ins.injEq, Prod.mk.injEq, exists_eq_left, exists_eq_left', exists_eq_right, exists_eq_right', exists_and_left, exists_and_right, true_and, and_true, and_self, if_true, if_false, Bool.false_eq_true, Bool.true_eq_false, eq_self, reduceCtorEq, false_and, and_false, and_assoc, Int.reduceToNat, Int.reducePow, Int.reduceMul, Int.reduceAdd, Int.reduceNeg, Int.reduceSub, String.reduceEq, String.reduceNe, ne_eq, not_false_eq_true, not_true_eq_false, decide_false, decide_true, Bool.not_false, Bool.not_true, Bool.or_false, Bool.false_or, Bool.or_true, Bool.true_or, Bool.and_true, Bool.true_and, Bool.and_self, Bool.and_false, Bool.false_and, exists_eq', exists_eq, exists_const, false_or, or_false, or_self, List.all_cons, List.all_nil, List.any_cons, List.any_nil, Nat.reduceLeDiff, exists_false, List.map_nil, List.map_cons, Option.map_some, Option.isSome_some, Option.isSome_none, Option.getD_some, Option.getD_none, implies_true, List.foldl_cons, List.foldl_nil, forall_const, ofS_eq, Int.reduceLT, Int.reduceLE, Nat.reduceLT, isO_obj, isO_int, dctD_dct, T.c_Form, T.f_Form_coefficients]
      exact fin_id k
theorem R_Form___init__2 {P : Program} {w : World} {K : PySem.W.Frag} {mg : Str → Option Value} {base : Heap} (T : Tx K mg) : FnSS P w K mg base CX0 7 (He.ma K (He.ga K "Form") "__init__") 2 ["self", "constant"] (liftSp K (sp_Form___init__ K)) := by
  obtain ⟨fd, F⟩ := T.d_Form___init__
  exact Av.FunD.ASS2 F sc_Form___init__ (B_Form___init__ T)
abbrev sp_Form___init__1 (K : PySem.W.Frag) : ASp := dfl1 (.int 0) (sp_Form___init__ K)
theorem R_Form___init__1 {P : Program} {w : World} {K : PySem.W.Frag} {mg : Str → Option Value} {base : Heap} (T : Tx K mg) : FnSS P w K mg base CX0 7 (He.ma K (He.ga K "Form") "__init__") 1 ["self", "constant"] (liftSp K (sp_Form___init__1 K)) := by
  obtain ⟨fd, F⟩ := T.d_Form___init__
  exact Av.FunD.ASS1 F sc_Form___init__ (B_Form___init__ T)
theorem syms_of {l m : SL} (h : Syms l) (hm : ∀ s ∈ keys m, s ∈ keys l) : Syms m := fun s hs => h s (hm s hs)
theorem syms_bad {l : SL} (h : Syms l) : ∀ k ∈ keys l, k ∉ (["self", "constant"] : List Str) := fun k hk => sym_bad (h k hk).1
/-- what a form may hold -/
structure OkL (n : Nat) (l : SL) : Prop where
  nd : (keys l).Nodup
  nz : norm l = l
  sy : Syms l
  sz : l.length ≤ n
theorem OkL.norm {n : Nat} {l : SL} (nd : (keys l).Nodup) (sy : Syms l) (sz : l.length ≤ n) : OkL n (Av.norm l) :=
  ⟨nodup_norm nd, norm_norm nd, fun s hs => sy s (coef_mem (mem_norm.mp hs)), Nat.le_trans len_norm sz⟩
/-- Form(c, **d), the dict told -/
theorem mk_form {K : PySem.W.Frag} {A : AH} {x : Addr} {c : Int} {l : SL} {Q : AQ} {E : AX} (hx : A x = none) (hnd : (keys l).Nodup) (hsy : Syms l) (hz : l.length < 64) (q : Q (fmD K c (norm l)) A) :
    Call (sp_Form___init__ K) [.ref x, .int c, .dct (kvD l)] (put A x (.ins (He.ga K "Form") [])) (fun d A3 => d = .non ∧ ∃ fs, A3 x = some (.ins (He.ga K "Form") fs) ∧ Q (.obj (He.ga K "Form") fs) (del A3 x)) E ⟨⟩ := by
  refine ⟨x, c, l, rfl, put_same, hnd, hsy, hz, rfl, _, put_same, ?_⟩
  rw [put_put, del_put hx]
  exact q
def sp_Form_of (K : PySem.W.Frag) : ASp := fun ds A Q _ => ∃ (c : Int) (d : D) (ps : SL), ds = [.ref (He.ga K "Form"), .int c, d] ∧ asL A d = some (prD ps) ∧ Syms ps ∧ ps.length < 30 ∧ Q (fmD K c (norm (sums ps))) A
theorem R_Form_of {P : Program} {w : World} {K : PySem.W.Frag} {mg : Str → Option Value} {base : Heap} (T : Tx K mg) : FnR P w K mg base CX0 9 (He5.wf K (He.ga K "Form") "classmethod" "of") (liftSp K (sp_Form_of K)) := by
  obtain ⟨fd, F⟩ := T.d_Form_of
  refine Av.FunD.AR F sc_Form_of (fun ds A Q E h => by obtain ⟨c, d, ps, rfl, hd, hsy, hz, k⟩ := h; rfl) (fun _ _ _ _ _ _ us hl => match us, hl with | [_, _, _], _ => rfl) (fun cdv A0 outer s H0 E0 ds A Q E hr h => ?_)
  obtain ⟨c, d, ps, rfl, hd, hsy, hz, k⟩ := h
  refine ⟨_, (ass_cons (as_set (i := 3) sc_Form_of.nd rfl (by first | exact Or.inl rfl | exact Or.inr rfl) (ae_dnew true pe_dnewK))
      (ass_cons (as_for (p := (.tp [(.nm 4), (.nm 5)])) PassesOwn.never rfl (ai_list (ae_var (pv 2))) (pg_tup (n := 2) rfl (pgs_cons (pg_name (i := 4) sc_Form_of.nd rfl (by first | exact Or.inl rfl | exact Or.inr rfl)) (pgs_cons (pg_name (i := 5) sc_Form_of.nd rfl (by first | exact Or.inl rfl | exact Or.inr rfl)) pgs_nil))) (ass_cons (as_if (at_not (at_truth (ae_callR (R_is_symbol T) (hr.mono (by decide)) rfl T.g_is_symbol T.k_is_symbol (aa_cons (ae_var (pv 4)) aa_nil)))) (ass_one as_never) ass_nil)
      (ass_one (as_dput (hu_of hr) (ae_var (pv 3)) (ae_var (pv 4)) (ae_add false (ae_dget2 (hu_of hr) (ae_var (pv 3)) (ae_var (pv 4)) ae_int ⟨rfl, rfl, rfl, rfl⟩) (ae_var (pv 5))) rfl))))
      (ass_one (as_ret (ae_makeSS T.m_Form (R_Form___init__2 T) (hr.mono (by decide)) (ae_var (pv 0)) (aa_cons (ae_var (pv 1)) aa_nil) (ae_var (pv 3))))))), ?_⟩
  simp only [↓RD, RU, aStart, wipeA, putFA, toP, toPs, scDs, valD_nil, valD_cons, putM_eq, mergeD_eq, keysOk, aHandle, endsAA, putAA, starSp, put_same, put_put, inV_nil, inV_str, cxK, atI_0, atI_1, atI_2, atI_3, ixN_30, ixN_31, ixN_32, List.map, List.replicate, List.length_cons, List.length_nil, List.nil_append, List.cons_append, List.append_nil, Nat.reduceSub, Nat.reduceAdd, List.getElem?_cons_zero, List.getElem?_cons_succ, List.set_cons_zero, List.set_cons_succ, List.cons.injEq, Option.some.injEq, V.int.injEq, V.str.injEq, V.bl.injEq, D.int.injEq, D.str.injEq, D.bl.injEq, D.ref.injEq, D.tup.injEq, D.lst.injEq, D.ty.injEq, AO.lst.injEq, AO.dct.injEq, AO.ins.injEq, Prod.mk.injEq, exists_eq_left, exists_eq_left', exists_eq_right, exists_eq_right', exists_and_left, exists_and_right, true_and, and_true, and_self, if_true, if_false, Bool.false_eq_true, Bool.true_eq_false, eq_self, reduceCtorEq, false_and, and_false, and_assoc, Int.reduceToNat, Int.reducePow, Int.reduceMul, Int.reduceAdd, Int.reduceNeg, Int.reduceSub, String.reduceEq, String.reduceNe, ne_eq, not_false_eq_true, not_true_eq_false, decide_false, decide_true, Bool.not_false, Bool.not_true, Bool.or_false, Bool.false_or, Bool.or_true, Bool.true_or, Bool.and_true, Bool.true_and, Bool.and_self, Bool.and_false, Bool.false_and, exists_eq', exists_eq, exists_const, false_or, or_false, or_self, List.all_cons, List.all_nil, List.any_cons, List.any_nil, Nat.reduceLeDiff, exists_false, List.map_nil, List.map_cons, Option.map_some, Option.isSome_some, Option.isSome_none, Option.getD_some, Option.getD_none, implies_true, List.foldl_cons, List.foldl_nil, forall_const, ofS_eq, Int.reduceLT, Int.reduceLE, Nat.reduceLT, isO_obj, isO_int, dctD_dct, hd]
  intro p hp
  simp only [↓RD, RU, aStart, wipeA, putFA, toP, toPs, scDs, valD_nil, valD_cons, putM_eq, mergeD_eq, keysOk, aHandle, endsAA, putAA, starSp, put_same, put_put, inV_nil, inV_str, cxK, atI_0, atI_1, atI_2, atI_3, ixN_30, ixN_31, ixN_32, List.map, List.replicate, List.length_cons, List.length_nil, List.nil_append, List.cons_append, List.append_nil, Nat.reduceSub, Nat.reduceAdd, List.getElem?_cons_zero, List.getElem?_cons_succ, List.set_cons_zero, List.set_cons_succ, List.cons.injEq, Option.some.injEq, V.int.injEq, V.str.injEq, V.bl.injEq, D.int.injEq, D.str.injEq, D.bl.injEq, D.ref.injEq, D.tup.injEq, D.lst.injEq, D.ty.injEq, AO.lst.injEq, AO.dct.injEq, AO.ins.injEq, Prod.mk.injEq, exists_eq_left, exists_eq_left', exists_eq_right, exists_eq_right', exists_and_left, exists_and_right, true_and, and_true, and_self, if_true, if_false, Bool.false_eq_true, Bool.true_eq_false, eq_self, reduceCtorEq, false_and, and_false, and_assoc, Int.reduceToNat, Int.reducePow, Int.reduceMul, Int.reduceAdd, Int.reduceNeg, Int.reduceSub, String.reduceEq, String.reduceNe, ne_eq, not_false_eq_true, not_true_eq_false, decide_false, decide_true, Bool.not_false, Bool.not_true, Bool.or_false, Bool.false_or, Bool.or_true, Bool.true_or, Bool.and_true, Bool.true_and, Bool.and_self, Bool.and_false, Bool.false_and, exists_eq', exists_eq, exists_const, false_or, or_false, or_self, List.all_cons, List.all_nil, List.any_cons, List.any_nil, Nat.reduceLeDiff, exists_false, List.map_nil, List.map_cons, Option.map_some, Option.isSome_some, Option.isSome_none, Option.getD_some, Option.getD_none, implies_true, List.foldl_cons, List.foldl_nil, forall_const, ofS_eq, Int.reduceLT, Int.reduceLE, Nat.reduceLT, isO_obj, isO_int, dctD_dct, asL_put hd hp]
  refine loop_for (fun i δ A' => A' = put A p (.dct (kvD (sums (ps.take i)))) ∧ ∃ v4 v5, δ = [some (.ref (He.ga K "Form")), some (.int c), some d, some (.ref p), v4, v5]) ⟨rfl, _, _, rfl⟩ (fun i δ A' _ hP => by rw [hP.1]; exact asL_put hd hp) (fun i y δ A' R hy hP hR => ?_) (fun δ A' hP => ?_)
  · obtain ⟨rfl, v4, v5, rfl⟩ := hP
    unfold prD at hy
    rw [List.getElem?_map] at hy
    cases e : ps[i]? with
    | none => rw [e] at hy; cases hy
    | some q =>
      rw [e] at hy
      cases hy
      obtain ⟨s, n⟩ := q
      have h1 := hsy s (List.mem_map_of_mem (f := (·.1)) (List.mem_of_getElem? e))
      simp only [↓RD, RU, aStart, wipeA, putFA, toP, toPs, scDs, valD_nil, valD_cons, putM_eq, mergeD_eq, keysOk, aHandle, endsAA, putAA, starSp, put_same, put_put, inV_nil, inV_str, cxK, atI_0, atI_1, atI_2, atI_3, ixN_30, ixN_31, ixN_32, List.map, List.replicate, List.length_cons, List.length_nil, List.nil_append, List.cons_append, List.append_nil, Nat.reduceSub, Nat.reduceAdd, List.getElem?_cons_zero, List.getElem?_cons_succ, List.set_cons_zero, List.set_cons_succ, List.cons.injEq, Option.some.injEq, V.int.injEq, V.str.injEq, V.bl.injEq, D.int.injEq, D.str.injEq, D.bl.injEq, D.ref.injEq, D.tup.injEq, D.lst.injEq, D.ty.injEq, AO.lst.injEq, AO.dct.injEq, AO.ins.injEq, Prod.mk.injEq, exists_eq_left, exists_eq_left', exists_eq_right, exists_eq_right', exists_and_left, exists_and_right, true_and, and_true, and_self, if_true, if_false, Bool.false_eq_true, Bool.true_eq_false, eq_self, reduceCtorEq, false_and, and_false, and_assoc, Int.reduceToNat, Int.reducePow, Int.reduceMul, Int.reduceAdd, Int.reduceNeg, Int.reduceSub, String.reduceEq, String.reduceNe, ne_eq, not_false_eq_true, not_true_eq_false, decide_false, decide_true, Bool.not_false, Bool.not_true, Bool.or_false, Bool.false_or, Bool.or_true, Bool.true_or, Bool.and_true, Bool.true_and, Bool.and_self, Bool.and_false, Bool.false_and, exists_eq', exists_eq, exists_const, false_or, or_false, or_self, List.all_cons, List.all_nil, List.any_cons, List.any_nil, Nat.reduceLeDiff, exists_false, List.map_nil, List.map_cons, Option.map_some, Option.isSome_some, Option.isSome_none, Option.getD_some, Option.getD_none, implies_true, List.foldl_cons, List.foldl_nil, forall_const, ofS_eq, Int.reduceLT, Int.reduceLE, Nat.reduceLT, isO_obj, isO_int, dctD_dct]
      refine ⟨s, rfl, h1.2, ?_⟩
      simp only [↓RD, RU, aStart, wipeA, putFA, toP, toPs, scDs, valD_nil, valD_cons, putM_eq, mergeD_eq, keysOk, aHandle, endsAA, putAA, starSp, put_same, put_put, inV_nil, inV_str, cxK, atI_0, atI_1, atI_2, atI_3, ixN_30, ixN_31, ixN_32, List.map, List.replicate, List.length_cons, List.length_nil, List.nil_append, List.cons_append, List.append_nil, Nat.reduceSub, Nat.reduceAdd, List.getElem?_cons_zero, List.getElem?_cons_succ, List.set_cons_zero, List.set_cons_succ, List.cons.injEq, Option.some.injEq, V.int.injEq, V.str.injEq, V.bl.injEq, D.int.injEq, D.str.injEq, D.bl.injEq, D.ref.injEq, D.tup.injEq, D.lst.injEq, D.ty.injEq, AO.lst.injEq, AO.dct.injEq, AO.ins.injEq, Prod.mk.injEq, exists_eq_left, exists_eq_left', exists_eq_right, exists_eq_right', exists_and_left, exists_and_right, true_and, and_true, and_self, if_true, if_false, Bool.false_eq_true, Bool.true_eq_false, eq_self, reduceCtorEq, false_and, and_false, and_assoc, Int.reduceToNat, Int.reducePow, Int.reduceMul, Int.reduceAdd, Int.reduceNeg, Int.reduceSub, String.reduceEq, String.reduceNe, ne_eq, not_false_eq_true, not_true_eq_false, decide_false, decide_true, Bool.not_false, Bool.not_true, Bool.or_false, Bool.false_or, Bool.or_true, Bool.true_or, Bool.and_true, Bool.true_and, Bool.and_self, Bool.and_false, Bool.false_and, exists_eq', exists_eq, exists_const, false_or, or_false, or_self, List.all_cons, List.all_nil, List.any_cons, List.any_nil, Nat.reduceLeDiff, exists_false, List.map_nil, List.map_cons, Option.map_some, Option.isSome_some, Option.isSome_none, Option.getD_some, Option.getD_none, implies_true, List.foldl_cons, List.foldl_nil, forall_const, ofS_eq, Int.reduceLT, Int.reduceLE, Nat.reduceLT, isO_obj, isO_int, dctD_dct, h1.1, getD_kv, putD_kv]
      have hl : (kvD (sums (ps.take i))).length < 64 := by
        rw [kvD_len]
        have := len_sums (ps.take i)
        rw [List.length_take] at this
        omega
      refine ⟨Nat.lt_of_lt_of_le hl (by decide), hR _ _ ⟨?_, _, _, rfl⟩⟩
      rw [take_succ e, sums_snoc]
      rfl
  · obtain ⟨rfl, v4, v5, rfl⟩ := hP
    have e1 : ps.take (prD ps).length = ps := by unfold prD; rw [List.length_map, List.take_length]
    rw [e1]
    simp only [↓RD, RU, aStart, wipeA, putFA, toP, toPs, scDs, valD_nil, valD_cons, putM_eq, mergeD_eq, keysOk, aHandle, endsAA, putAA, starSp, put_same, put_put, inV_nil, inV_str, cxK, atI_0, atI_1, atI_2, atI_3, ixN_30, ixN_31, ixN_32, List.map, List.replicate, List.length_cons, List.length_nil, List.nil_append, List.cons_append, List.append_nil, Nat.reduceSub, Nat.reduceAdd, List.getElem?_cons_zero, List.getElem?_cons_succ, List.set_cons_zero, List.set_cons_succ, List.cons.injEq, Option.some.injEq, V.int.injEq, V.str.injEq, V.bl.injEq, D.int.injEq, D.str.injEq, D.bl.injEq, D.ref.injEq, D.tup.injEq, D.lst.injEq, D.ty.injEq, AO.lst.injEq, AO.dct.injEq, AO.ins.injEq, Prod.mk.injEq, exists_eq_left, exists_eq_left', exists_eq_right, exists_eq_right', exists_and_left, exists_and_right, true_and, and_true, and_self, if_true, if_false, Bool.false_eq_true, Bool.true_eq_false, eq_self, reduceCtorEq, false_and, and_false, and_assoc, Int.reduceToNat, Int.reducePow, Int.reduceMul, Int.reduceAdd, Int.reduceNeg, Int.reduceSub, String.reduceEq, String.reduceNe, ne_eq, not_false_eq_true, not_true_eq_false, decide_false, decide_true, Bool.not_false, Bool.not_true, Bool.or_false, Bool.false_or, Bool.or_true, Bool.true_or, Bool.and_true, Bool.true_and, Bool.and_self, Bool.and_false, Bool.false_and, exists_eq', exists_eq, exists_const, false_or, or_false, or_self, List.all_cons, List.all_nil, List.any_cons, List.any_nil, Nat.reduceLeDiff, exists_false, List.map_nil, List.map_cons, Option.map_some, Option.isSome_some, Option.isSome_none, Option.getD_some, Option.getD_none, implies_true, List.foldl_cons, List.foldl_nil, forall_const, ofS_eq, Int.reduceLT, Int.reduceLE, Nat.reduceLT, isO_obj, isO_int, dctD_dct]
    have hsy' : Syms (sums ps) := syms_of hsy fun s => mem_sums
    have hl := len_sums ps
    refine ⟨keys (sums ps), kvD_keys, syms_bad hsy', fun x hx => ?_⟩
    refine mk_form hx (nodup_sums ps) hsy' (by omega) ?_
    exact fin_sub (sub_put hp) k
def sp_Form_written (K : PySem.W.Frag) : ASp := fun ds A Q _ => ∃ (c : Int) (l : SL), ds = [fmD K c l] ∧ (keys l).Nodup ∧ l.length < 64 ∧ Q (wrD c l) A
def pD (l : SL) : D → D
  | .str s => .tup [.str s, .int (coef l s)]
  | _ => .non
theorem pD_map {l : SL} (h : (keys l).Nodup) : ((kvD l).map (·.1)).map (pD l) = prD l := by
  unfold kvD prD
  rw [List.map_map, List.map_map]
  apply List.map_congr_left
  intro p hp
  simp only [Function.comp, pD]
  have hm : p.1 ∈ keys l := List.mem_map_of_mem hp
  have e := lookup_some hm
  have e2 : l.lookup p.1 = some p.2 := by
    clear e hm
    induction l with
    | nil => cases hp
    | cons q l ih =>
      rw [List.lookup_cons]
      rcases List.mem_cons.mp hp with rfl | hp
      · simp
      · obtain ⟨h1, h2⟩ := List.nodup_cons.mp (show (q.1 :: keys l).Nodup from h)
        have : p.1 ≠ q.1 := fun z => h1 (by rw [← z]; exact List.mem_map_of_mem hp)
        rw [beq_eq_false_iff_ne.mpr this]
        exact ih h2 hp
  rw [e] at e2
  injection e2 with e2
  rw [e2]
theorem R_Form_written {P : Program} {w : World} {K : PySem.W.Frag} {mg : Str → Option Value} {base : Heap} (T : Tx K mg) : FnR P w K mg base CX0 1 (He.ma K (He.ga K "Form") "written") (liftSp K (sp_Form_written K)) := by
  obtain ⟨fd, F⟩ := T.d_Form_written
  refine Av.FunD.AR F sc_Form_written (fun ds A Q E h => by obtain ⟨c, l, rfl, hnd, hz, k⟩ := h; rfl) (fun _ _ _ _ _ _ us hl => match us, hl with | [_], _ => rfl) (fun cdv A0 outer s H0 E0 ds A Q E hr h => ?_)
  obtain ⟨c, l, rfl, hnd, hz, k⟩ := h
  refine ⟨_, (ass_one (as_ret (ae_tup (aa_cons (ae_fldVK (K := K) rfl (pv 0)) (aa_cons (ae_callTy ca_tuple (by rfl) T.n_tuple (by decide +kernel) (aa_cons (ae_lc false (own := [("symbol", 1)]) (pt := (.nm 1)) rfl sc_Form_written.nd (ai_keys (ae_fldVK (K := K) rfl (pv 0))) (blkOk_by (own := [("symbol", 1)]) (N := ["self", "symbol"]) (sc := defScope s_Form_written) (by decide +kernel)) (by decide) (fun _ _ _ _ _ => by exact (pg_name (i := 1) sc_Form_written.nd rfl (by first | exact Or.inl rfl | exact Or.inr rfl))) (fun _ _ _ _ _ => by exact ats_nil) (fun _ _ _ _ _ => by exact (ae_tup (aa_cons (ae_var (pv 1)) (aa_cons (ae_dget (hu_of hr) (ae_fldVK (K := K) rfl (pv 0)) (ae_var (pv 1)) (fun _ _ => rfl)) aa_nil))))) aa_nil)) aa_nil))))), ?_⟩
  simp only [↓RD, RU, aStart, wipeA, putFA, toP, toPs, scDs, valD_nil, valD_cons, putM_eq, mergeD_eq, keysOk, aHandle, endsAA, putAA, starSp, put_same, put_put, inV_nil, inV_str, cxK, atI_0, atI_1, atI_2, atI_3, ixN_30, ixN_31, ixN_32, List.map, List.replicate, List.length_cons, List.length_nil, List.nil_append, List.cons_append, List.append_nil, Nat.reduceSub, Nat.reduceAdd, List.getElem?_cons_zero, List.getElem?_cons_succ, List.set_cons_zero, List.set_cons_succ, List.cons.injEq, Option.some.injEq, V.int.injEq, V.str.injEq, V.bl.injEq, D.int.injEq, D.str.injEq, D.bl.injEq, D.ref.injEq, D.tup.injEq, D.lst.injEq, D.ty.injEq, AO.lst.injEq, AO.dct.injEq, AO.ins.injEq, Prod.mk.injEq, exists_eq_left, exists_eq_left', exists_eq_right, exists_eq_right', exists_and_left, exists_and_right, true_and, and_true, and_self, if_true, if_false, Bool.false_eq_true, Bool.true_eq_false, eq_self, reduceCtorEq, false_and, and_false, and_assoc, Int.reduceToNat, Int.reducePow, Int.reduceMul, Int.reduceAdd, Int.reduceNeg, Int.reduceSub, String.reduceEq, String.reduceNe, ne_eq, not_false_eq_true, not_true_eq_false, decide_false, decide_true, Bool.not_false, Bool.not_true, Bool.or_false, Bool.false_or, Bool.or_true, Bool.true_or, Bool.and_true, Bool.true_and, Bool.and_self, Bool.and_false, Bool.false_and, exists_eq', exists_eq, exists_const, false_or, or_false, or_self, List.all_cons, List.all_nil, List.any_cons, List.any_nil, Nat.reduceLeDiff, exists_false, List.map_nil, List.map_cons, Option.map_some, Option.isSome_some, Option.isSome_none, Option.getD_some, Option.getD_none, implies_true, List.foldl_cons, List.foldl_nil, forall_const, ofS_eq, Int.reduceLT, Int.reduceLE, Nat.reduceLT, isO_obj, isO_int, dctD_dct, T.c_Form, T.f_Form_constant, T.f_Form_coefficients, lf_cons, lf_coef]
  refine Av.comp_map (pD l) trivial _ [] ?_ (fun d hd R hR => ?_) ?_
  · rw [List.length_nil, Nat.zero_add, List.length_map, kvD_len]; exact Nat.le_trans (Nat.le_of_lt hz) (by decide)
  · rw [kvD_keys] at hd
    obtain ⟨s, hs, rfl⟩ := List.mem_map.mp hd
    simp only [↓RD, RU, aStart, wipeA, putFA, toP, toPs, scDs, valD_nil, valD_cons, putM_eq, mergeD_eq, keysOk, aHandle, endsAA, putAA, starSp, put_same, put_put, inV_nil, inV_str, cxK, atI_0, atI_1, atI_2, atI_3, ixN_30, ixN_31, ixN_32, List.map, List.replicate, List.length_cons, List.length_nil, List.nil_append, List.cons_append, List.append_nil, Nat.reduceSub, Nat.reduceAdd, List.getElem?_cons_zero, List.getElem?_cons_succ, List.set_cons_zero, List.set_cons_succ, List.cons.injEq, Option.some.injEq, V.int.injEq, V.str.injEq, V.bl.injEq, D.int.injEq, D.str.injEq, D.bl.injEq, D.ref.injEq, D.tup.injEq, D.lst.injEq, D.ty.injEq, AO.lst.injEq, AO.dct.injEq, AO.ins.injEq, Prod.mk.injEq, exists_eq_left, exists_eq_left', exists_eq_right, exists_eq_right', exists_and_left, exists_and_right, true_and, and_true, and_self, if_true, if_false, Bool.false_eq_true, Bool.true_eq_false, eq_self, reduceCtorEq, false_and, and_false, and_assoc, Int.reduceToNat, Int.reducePow, Int.reduceMul, Int.reduceAdd, Int.reduceNeg, Int.reduceSub, String.reduceEq, String.reduceNe, ne_eq, not_false_eq_true, not_true_eq_false, decide_false, decide_true, Bool.not_false, Bool.not_true, Bool.or_false, Bool.false_or, Bool.or_true, Bool.true_or, Bool.and_true, Bool.true_and, Bool.and_self, Bool.and_false, Bool.false_and, exists_eq', exists_eq, exists_const, false_or, or_false, or_self, List.all_cons, List.all_nil, List.any_cons, List.any_nil, Nat.reduceLeDiff, exists_false, List.map_nil, List.map_cons, Option.map_some, Option.isSome_some, Option.isSome_none, Option.getD_some, Option.getD_none, implies_true, List.foldl_cons, List.foldl_nil, forall_const, ofS_eq, Int.reduceLT, Int.reduceLE, Nat.reduceLT, isO_obj, isO_int, dctD_dct, T.c_Form, T.f_Form_coefficients, lf_coef, valD_mem hs]
    exact hR
  · rw [List.nil_append, pD_map hnd]
    simp only [↓RD, RU, aStart, wipeA, putFA, toP, toPs, scDs, valD_nil, valD_cons, putM_eq, mergeD_eq, keysOk, aHandle, endsAA, putAA, starSp, put_same, put_put, inV_nil, inV_str, cxK, atI_0, atI_1, atI_2, atI_3, ixN_30, ixN_31, ixN_32, List.map, List.replicate, List.length_cons, List.length_nil, List.nil_append, List.cons_append, List.append_nil, Nat.reduceSub, Nat.reduceAdd, List.getElem?_cons_zero, List.getElem?_cons_succ, List.set_cons_zero, List.set_cons_succ, List.cons.injEq, Option.some.injEq, V.int.injEq, V.str.injEq, V.bl.injEq, D.int.injEq, D.str.injEq, D.bl.injEq, D.ref.injEq, D.tup.injEq, D.lst.injEq, D.ty.injEq, AO.lst.injEq, AO.dct.injEq, AO.ins.injEq, Prod.mk.injEq, exists_eq_left, exists_eq_left', exists_eq_right, exists_eq_right', exists_and_left, exists_and_right, true_and, and_true, and_self, if_true, if_false, Bool.false_eq_true, Bool.true_eq_false, eq_self, reduceCtorEq, false_and, and_false, and_assoc, Int.reduceToNat, Int.reducePow, Int.reduceMul, Int.reduceAdd, Int.reduceNeg, Int.reduceSub, String.reduceEq, String.reduceNe, ne_eq, not_false_eq_true, not_true_eq_false, decide_false, decide_true, Bool.not_false, Bool.not_true, Bool.or_false, Bool.false_or, Bool.or_true, Bool.true_or, Bool.and_true, Bool.true_and, Bool.and_self, Bool.and_false, Bool.false_and, exists_eq', exists_eq, exists_const, false_or, or_false, or_self, List.all_cons, List.all_nil, List.any_cons, List.any_nil, Nat.reduceLeDiff, exists_false, List.map_nil, List.map_cons, Option.map_some, Option.isSome_some, Option.isSome_none, Option.getD_some, Option.getD_none, implies_true, List.foldl_cons, List.foldl_nil, forall_const, ofS_eq, Int.reduceLT, Int.reduceLE, Nat.reduceLT, isO_obj, isO_int, dctD_dct]
    exact fin_id k

end V06

set_option Elab.async false
set_option linter.all false
set_option maxRecDepth 100000
set_option maxHeartbeats 4000000
namespace V06
open PySem PySem.Spec PyProof.Rows L2 My Av
theorem le64 {n : Nat} (h : n < 64) : n ≤ sizeLine := Nat.le_trans (Nat.le_of_lt h) (by decide)
theorem tab_syms {f : Str → Int} {xs : List Str} (h : ∀ s ∈ xs, isSym s = true ∧ s.length ≤ 1000) : Syms (tab f xs) := fun s hs => h s (mem_tab.mp hs)
theorem OkL.lt {n : Nat} {l : SL} (h : OkL n l) {m : Nat} (hn : n < m) : l.length < m := Nat.lt_of_le_of_lt h.sz hn
def sp_Form___add__ (K : PySem.W.Frag) : ASp := fun ds A Q _ => ∃ (c : Int) (l : SL) (y : D), ds = [fmD K c l, y] ∧ OkL 30 l ∧ ((∃ i, y = .int i ∧ Q (fmD K (c + i) l) A) ∨ ∃ c' m, y = fmD K c' m ∧ OkL 30 m ∧ Q (fmD K (c + c') (norm (addL l m))) A)
theorem R_Form___add__ {P : Program} {w : World} {K : PySem.W.Frag} {mg : Str → Option Value} {base : Heap} (T : Tx K mg) : FnR P w K mg base CX0 9 (He.ma K (He.ga K "Form") "__add__") (liftSp K (sp_Form___add__ K)) := by
  obtain ⟨fd, F⟩ := T.d_Form___add__
  refine Av.FunD.AR F sc_Form___add__ (fun ds A Q E h => by obtain ⟨c, l, y, rfl, hl, h⟩ := h; rfl) (fun _ _ _ _ _ _ us hl => match us, hl with | [_, _], _ => rfl) (fun cdv A0 outer s H0 E0 ds A Q E hr h => ?_)
  obtain ⟨c, l, y, rfl, hl, h⟩ := h
  refine ⟨_, (ass_cons (as_if (at_truth (ae_callB (ca_isiX T.is_Form) (by rfl) T.n_isinstance (by decide +kernel) (aa_cons (ae_var (pv 1)) (aa_cons (ae_c (pe_bltn (v := .ty "int") (by rfl) T.n_int (by decide +kernel) rfl) fun _ _ => .ty "int") aa_nil)))) (ass_cons (as_set (i := 2) sc_Form___add__.nd rfl (by first | exact Or.inl rfl | exact Or.inr rfl) (ae_add false (ae_fld (ae_var (pv 0)) rfl) (ae_var (pv 1))))
      (ass_one (as_ret (ae_makeSS T.m_Form (R_Form___init__2 T) (hr.mono (by decide)) (ae_c (pe_glob (v := .ref (He.ga _ "Form")) rfl T.g_Form rfl) fun _ _ => .ref _) (aa_cons (ae_var (pv 2)) aa_nil) (ae_fldVK (K := K) rfl (pv 0)))))) ass_nil)
      (ass_cons (as_if (at_not (at_truth (ae_callB (ca_isiC T.is_Form) (by rfl) T.n_isinstance (by decide +kernel) (aa_cons (ae_var (pv 1)) (aa_cons (ae_c (pe_glob (v := .ref (He.ga _ "Form")) rfl T.g_Form rfl) fun _ _ => .ref _) aa_nil))))) (ass_one as_never) ass_nil)
      (ass_cons (as_set (i := 2) sc_Form___add__.nd rfl (by first | exact Or.inl rfl | exact Or.inr rfl) (ae_add false (ae_fldVK (K := K) rfl (pv 0)) (ae_fldVK (K := K) rfl (pv 1))))
      (ass_cons (as_set (i := 3) sc_Form___add__.nd rfl (by first | exact Or.inl rfl | exact Or.inr rfl) (ae_dnew true pe_dnewK))
      (ass_cons (as_for (p := (.nm 4)) PassesOwn.never rfl (ai_list (ae_lst false (aa_starD rfl (ae_fldVK (K := K) rfl (pv 0)) (aa_starD rfl (ae_fldVK (K := K) rfl (pv 1)) aa_nil)))) (pg_name (i := 4) sc_Form___add__.nd rfl (by first | exact Or.inl rfl | exact Or.inr rfl)) (ass_one (as_dput (hu_of hr) (ae_var (pv 3)) (ae_var (pv 4)) (ae_add false (ae_dget2 (hu_of hr) (ae_fldVK (K := K) rfl (pv 0)) (ae_var (pv 4)) ae_int ⟨rfl, rfl, rfl, rfl⟩) (ae_dget2 (hu_of hr) (ae_fldVK (K := K) rfl (pv 1)) (ae_var (pv 4)) ae_int ⟨rfl, rfl, rfl, rfl⟩)) rfl)))
      (ass_one (as_ret (ae_makeSS T.m_Form (R_Form___init__2 T) (hr.mono (by decide)) (ae_c (pe_glob (v := .ref (He.ga _ "Form")) rfl T.g_Form rfl) fun _ _ => .ref _) (aa_cons (ae_var (pv 2)) aa_nil) (ae_var (pv 3)))))))))), ?_⟩
  rcases h with ⟨i, rfl, k⟩ | ⟨c', m, rfl, hm, k⟩
  · simp only [↓RD, RU, aStart, wipeA, putFA, toP, toPs, scDs, valD_nil, valD_cons, putM_eq, mergeD_eq, keysOk, aHandle, endsAA, putAA, starSp, put_same, put_put, inV_nil, inV_str, cxK, atI_0, atI_1, atI_2, atI_3, ixN_30, ixN_31, ixN_32, List.map, List.replicate, List.length_cons, List.length_nil, List.nil_append, List.cons_append, List.append_nil, Nat.reduceSub, Nat.reduceAdd, List.getElem?_cons_zero, List.getElem?_cons_succ, List.set_cons_zero, List.set_cons_succ, List.cons.injEq, Option.some.injEq, V.int.injEq, V.str.injEq, V.bl.injEq, D.int.injEq, D.str.injEq, D.bl.injEq, D.ref.injEq, D.tup.injEq, D.lst.injEq, D.ty.injEq, AO.lst.injEq, AO.dct.injEq, AO.ins.injEq, Prod.mk.injEq, exists_eq_left, exists_eq_left', exists_eq_right, exists_eq_right', exists_and_left, exists_and_right, true_and, and_true, and_self, if_true, if_false, Bool.false_eq_true, Bool.true_eq_false, eq_self, reduceCtorEq, false_and, and_false, and_assoc, Int.reduceToNat, Int.reducePow, Int.reduceMul, Int.reduceAdd, Int.reduceNeg, Int.reduceSub, String.reduceEq, String.reduceNe, ne_eq, not_false_eq_true, not_true_eq_false, decide_false, decide_true, Bool.not_false, Bool.not_true, Bool.or_false, Bool.false_or, Bool.or_true, Bool.true_or, Bool.and_true, Bool.true_and, Bool.and_self, Bool.and_false, Bool.false_and, exists_eq', exists_eq, exists_const, false_or, or_false, or_self, List.all_cons, List.all_nil, List.any_cons, List.any_nil, Nat.reduceLeDiff, exists_false, List.map_nil, List.map_cons, Option.map_some, Option.isSome_some, Option.isSome_none, Option.getD_some, Option.getD_none, implies_true, List.foldl_cons, List.foldl_nil, forall_const, ofS_eq, Int.reduceLT, Int.reduceLE, Nat.reduceLT, isO_obj, isO_int, dctD_dct, T.c_Form, T.f_Form_constant, T.f_Form_coefficients, lf_cons, lf_coef]
    refine ⟨keys l, kvD_keys, syms_bad hl.sy, fun x hx => ?_⟩
    refine mk_form hx hl.nd hl.sy (hl.lt (by decide)) ?_
    rw [hl.nz]
    exact fin_id k
  · simp only [↓RD, RU, aStart, wipeA, putFA, toP, toPs, scDs, valD_nil, valD_cons, putM_eq, mergeD_eq, keysOk, aHandle, endsAA, putAA, starSp, put_same, put_put, inV_nil, inV_str, cxK, atI_0, atI_1, atI_2, atI_3, ixN_30, ixN_31, ixN_32, List.map, List.replicate, List.length_cons, List.length_nil, List.nil_append, List.cons_append, List.append_nil, Nat.reduceSub, Nat.reduceAdd, List.getElem?_cons_zero, List.getElem?_cons_succ, List.set_cons_zero, List.set_cons_succ, List.cons.injEq, Option.some.injEq, V.int.injEq, V.str.injEq, V.bl.injEq, D.int.injEq, D.str.injEq, D.bl.injEq, D.ref.injEq, D.tup.injEq, D.lst.injEq, D.ty.injEq, AO.lst.injEq, AO.dct.injEq, AO.ins.injEq, Prod.mk.injEq, exists_eq_left, exists_eq_left', exists_eq_right, exists_eq_right', exists_and_left, exists_and_right, true_and, and_true, and_self, if_true, if_false, Bool.false_eq_true, Bool.true_eq_false, eq_self, reduceCtorEq, false_and, and_false, and_assoc, Int.reduceToNat, Int.reducePow, Int.reduceMul, Int.reduceAdd, Int.reduceNeg, Int.reduceSub, String.reduceEq, String.reduceNe, ne_eq, not_false_eq_true, not_true_eq_false, decide_false, decide_true, Bool.not_false, Bool.not_true, Bool.or_false, Bool.false_or, Bool.or_true, Bool.true_or, Bool.and_true, Bool.true_and, Bool.and_self, Bool.and_false, Bool.false_and, exists_eq', exists_eq, exists_const, false_or, or_false, or_self, List.all_cons, List.all_nil, List.any_cons, List.any_nil, Nat.reduceLeDiff, exists_false, List.map_nil, List.map_cons, Option.map_some, Option.isSome_some, Option.isSome_none, Option.getD_some, Option.getD_none, implies_true, List.foldl_cons, List.foldl_nil, forall_const, ofS_eq, Int.reduceLT, Int.reduceLE, Nat.reduceLT, isO_obj, isO_int, dctD_dct, T.ki_Form, T.c_Form, T.f_Form_constant, T.f_Form_coefficients, lf_cons, lf_coef]
    intro p hp
    have hlen : (keys l ++ keys m).length < 64 := by
      rw [List.length_append, keys_len, keys_len]
      have := hl.sz; have := hm.sz; omega
    have hk : List.map (fun x => x.fst) (kvD l) ++ List.map (fun x => x.fst) (kvD m) = (keys l ++ keys m).map D.str := by rw [kvD_keys, kvD_keys, List.map_append]; rfl
    rw [hk]
    refine ⟨by rw [List.length_map]; exact le64 hlen, ?_⟩
    refine loop_for (fun i δ A' => A' = put A p (.dct (kvD (tab (fun s => coef l s + coef m s) ((keys l ++ keys m).take i)))) ∧ ∃ v4, δ = [some (fmD K c l), some (fmD K c' m), some (.int (c + c')), some (.ref p), v4]) ⟨rfl, _, rfl⟩ (fun i δ A' _ hP => by rw [List.append_nil, hk]; rfl) (fun i y δ A' R hy hP hR => ?_) (fun δ A' hP => ?_)
    · obtain ⟨rfl, v4, rfl⟩ := hP
      rw [List.getElem?_map] at hy
      cases e : (keys l ++ keys m)[i]? with
      | none => rw [e] at hy; cases hy
      | some s =>
        rw [e] at hy
        cases hy
        simp only [↓RD, RU, aStart, wipeA, putFA, toP, toPs, scDs, valD_nil, valD_cons, putM_eq, mergeD_eq, keysOk, aHandle, endsAA, putAA, starSp, put_same, put_put, inV_nil, inV_str, cxK, atI_0, atI_1, atI_2, atI_3, ixN_30, ixN_31, ixN_32, List.map, List.replicate, List.length_cons, List.length_nil, List.nil_append, List.cons_append, List.append_nil, Nat.reduceSub, Nat.reduceAdd, List.getElem?_cons_zero, List.getElem?_cons_succ, List.set_cons_zero, List.set_cons_succ, List.cons.injEq, Option.some.injEq, V.int.injEq, V.str.injEq, V.bl.injEq, D.int.injEq, D.str.injEq, D.bl.injEq, D.ref.injEq, D.tup.injEq, D.lst.injEq, D.ty.injEq, AO.lst.injEq, AO.dct.injEq, AO.ins.injEq, Prod.mk.injEq, exists_eq_left, exists_eq_left', exists_eq_right, exists_eq_right', exists_and_left, exists_and_right, true_and, and_true, and_self, if_true, if_false, Bool.false_eq_true, Bool.true_eq_false, eq_self, reduceCtorEq, false_and, and_false, and_assoc, Int.reduceToNat, Int.reducePow, Int.reduceMul, Int.reduceAdd, Int.reduceNeg, Int.reduceSub, String.reduceEq, String.reduceNe, ne_eq, not_false_eq_true, not_true_eq_false, decide_false, decide_true, Bool.not_false, Bool.not_true, Bool.or_false, Bool.false_or, Bool.or_true, Bool.true_or, Bool.and_true, Bool.true_and, Bool.and_self, Bool.and_false, Bool.false_and, exists_eq', exists_eq, exists_const, false_or, or_false, or_self, List.all_cons, List.all_nil, List.any_cons, List.any_nil, Nat.reduceLeDiff, exists_false, List.map_nil, List.map_cons, Option.map_some, Option.isSome_some, Option.isSome_none, Option.getD_some, Option.getD_none, implies_true, List.foldl_cons, List.foldl_nil, forall_const, ofS_eq, Int.reduceLT, Int.reduceLE, Nat.reduceLT, isO_obj, isO_int, dctD_dct, T.c_Form, T.f_Form_coefficients, lf_coef, getD_kv, putD_kv]
        have hz : (kvD (tab (fun s => coef l s + coef m s) ((keys l ++ keys m).take i))).length < 64 := by
          rw [kvD_len]
          have := len_tab (fun s => coef l s + coef m s) ((keys l ++ keys m).take i)
          rw [List.length_take] at this
          omega
        refine ⟨Nat.lt_of_lt_of_le hz (by decide), hR _ _ ⟨?_, _, rfl⟩⟩
        rw [take_succ e, tab_snoc]
    · obtain ⟨rfl, v4, rfl⟩ := hP
      have e1 : (keys l ++ keys m).take ((keys l ++ keys m).map D.str).length = keys l ++ keys m := by rw [List.length_map, List.take_length]
      rw [e1]
      simp only [↓RD, RU, aStart, wipeA, putFA, toP, toPs, scDs, valD_nil, valD_cons, putM_eq, mergeD_eq, keysOk, aHandle, endsAA, putAA, starSp, put_same, put_put, inV_nil, inV_str, cxK, atI_0, atI_1, atI_2, atI_3, ixN_30, ixN_31, ixN_32, List.map, List.replicate, List.length_cons, List.length_nil, List.nil_append, List.cons_append, List.append_nil, Nat.reduceSub, Nat.reduceAdd, List.getElem?_cons_zero, List.getElem?_cons_succ, List.set_cons_zero, List.set_cons_succ, List.cons.injEq, Option.some.injEq, V.int.injEq, V.str.injEq, V.bl.injEq, D.int.injEq, D.str.injEq, D.bl.injEq, D.ref.injEq, D.tup.injEq, D.lst.injEq, D.ty.injEq, AO.lst.injEq, AO.dct.injEq, AO.ins.injEq, Prod.mk.injEq, exists_eq_left, exists_eq_left', exists_eq_right, exists_eq_right', exists_and_left, exists_and_right, true_and, and_true, and_self, if_true, if_false, Bool.false_eq_true, Bool.true_eq_false, eq_self, reduceCtorEq, false_and, and_false, and_assoc, Int.reduceToNat, Int.reducePow, Int.reduceMul, Int.reduceAdd, Int.reduceNeg, Int.reduceSub, String.reduceEq, String.reduceNe, ne_eq, not_false_eq_true, not_true_eq_false, decide_false, decide_true, Bool.not_false, Bool.not_true, Bool.or_false, Bool.false_or, Bool.or_true, Bool.true_or, Bool.and_true, Bool.true_and, Bool.and_self, Bool.and_false, Bool.false_and, exists_eq', exists_eq, exists_const, false_or, or_false, or_self, List.all_cons, List.all_nil, List.any_cons, List.any_nil, Nat.reduceLeDiff, exists_false, List.map_nil, List.map_cons, Option.map_some, Option.isSome_some, Option.isSome_none, Option.getD_some, Option.getD_none, implies_true, List.foldl_cons, List.foldl_nil, forall_const, ofS_eq, Int.reduceLT, Int.reduceLE, Nat.reduceLT, isO_obj, isO_int, dctD_dct]
      have hsy : Syms (addL l m) := tab_syms fun s hs => (List.mem_append.mp hs).elim (hl.sy s) (hm.sy s)
      refine ⟨keys (addL l m), kvD_keys, syms_bad hsy, fun x hx => ?_⟩
      refine mk_form (l := addL l m) hx (nodup_tab _ _) hsy (Nat.lt_of_le_of_lt (len_tab _ _) hlen) ?_
      exact fin_sub (sub_put hp) k
def sp_Form___radd__ (K : PySem.W.Frag) : ASp := fun ds A Q _ => ∃ (c : Int) (l : SL) (i : Int), ds = [fmD K c l, .int i] ∧ OkL 30 l ∧ Q (fmD K (c + i) l) A
theorem R_Form___radd__ {P : Program} {w : World} {K : PySem.W.Frag} {mg : Str → Option Value} {base : Heap} (T : Tx K mg) : FnR P w K mg base CX0 11 (He.ma K (He.ga K "Form") "__radd__") (liftSp K (sp_Form___radd__ K)) := by
  obtain ⟨fd, F⟩ := T.d_Form___radd__
  refine Av.FunD.AR F sc_Form___radd__ (fun ds A Q E h => by obtain ⟨c, l, i, rfl, hl, k⟩ := h; rfl) (fun _ _ _ _ _ _ us hl => match us, hl with | [_, _], _ => rfl) (fun cdv A0 outer s H0 E0 ds A Q E hr h => ?_)
  obtain ⟨c, l, i, rfl, hl, k⟩ := h
  refine ⟨_, (ass_cons (as_if (at_not (at_truth (ae_callB (ca_isiX T.is_Form) (by rfl) T.n_isinstance (by decide +kernel) (aa_cons (ae_var (pv 1)) (aa_cons (ae_c (pe_bltn (v := .ty "int") (by rfl) T.n_int (by decide +kernel) rfl) fun _ _ => .ty "int") aa_nil))))) (ass_one as_never) ass_nil)
      (ass_one (as_ret (ae_ownL T.o_Form_Add (R_Form___add__ T) (hr.mono (by decide)) (ae_var (pv 0)) (ae_var (pv 1)))))), ?_⟩
  simp only [↓RD, RU, aStart, wipeA, putFA, toP, toPs, scDs, valD_nil, valD_cons, putM_eq, mergeD_eq, keysOk, aHandle, endsAA, putAA, starSp, put_same, put_put, inV_nil, inV_str, cxK, atI_0, atI_1, atI_2, atI_3, ixN_30, ixN_31, ixN_32, List.map, List.replicate, List.length_cons, List.length_nil, List.nil_append, List.cons_append, List.append_nil, Nat.reduceSub, Nat.reduceAdd, List.getElem?_cons_zero, List.getElem?_cons_succ, List.set_cons_zero, List.set_cons_succ, List.cons.injEq, Option.some.injEq, V.int.injEq, V.str.injEq, V.bl.injEq, D.int.injEq, D.str.injEq, D.bl.injEq, D.ref.injEq, D.tup.injEq, D.lst.injEq, D.ty.injEq, AO.lst.injEq, AO.dct.injEq, AO.ins.injEq, Prod.mk.injEq, exists_eq_left, exists_eq_left', exists_eq_right, exists_eq_right', exists_and_left, exists_and_right, true_and, and_true, and_self, if_true, if_false, Bool.false_eq_true, Bool.true_eq_false, eq_self, reduceCtorEq, false_and, and_false, and_assoc, Int.reduceToNat, Int.reducePow, Int.reduceMul, Int.reduceAdd, Int.reduceNeg, Int.reduceSub, String.reduceEq, String.reduceNe, ne_eq, not_false_eq_true, not_true_eq_false, decide_false, decide_true, Bool.not_false, Bool.not_true, Bool.or_false, Bool.false_or, Bool.or_true, Bool.true_or, Bool.and_true, Bool.true_and, Bool.and_self, Bool.and_false, Bool.false_and, exists_eq', exists_eq, exists_const, false_or, or_false, or_self, List.all_cons, List.all_nil, List.any_cons, List.any_nil, Nat.reduceLeDiff, exists_false, List.map_nil, List.map_cons, Option.map_some, Option.isSome_some, Option.isSome_none, Option.getD_some, Option.getD_none, implies_true, List.foldl_cons, List.foldl_nil, forall_const, ofS_eq, Int.reduceLT, Int.reduceLE, Nat.reduceLT, isO_obj, isO_int, dctD_dct]
  exact ⟨c, l, _, rfl, hl, .inl ⟨i, rfl, fin_id k⟩⟩
/-- {s: f(s) for s in self.coefficients} -/
theorem fold_tab {l : SL} (f : Str → Int) : ((kvD l).map (·.1)).foldl (fun acc d => putD acc d (vD f d)) [] = kvD (tab f (keys l)) := by rw [kvD_keys]; exact tab_kv f (keys l)
def sp_Form___neg__ (K : PySem.W.Frag) : ASp := fun ds A Q _ => ∃ (c : Int) (l : SL), ds = [fmD K c l] ∧ OkL 30 l ∧ Q (fmD K (-c) (norm (negL l))) A
theorem R_Form___neg__ {P : Program} {w : World} {K : PySem.W.Frag} {mg : Str → Option Value} {base : Heap} (T : Tx K mg) : FnR P w K mg base CX0 9 (He.ma K (He.ga K "Form") "__neg__") (liftSp K (sp_Form___neg__ K)) := by
  obtain ⟨fd, F⟩ := T.d_Form___neg__
  refine Av.FunD.AR F sc_Form___neg__ (fun ds A Q E h => by obtain ⟨c, l, rfl, hl, k⟩ := h; rfl) (fun _ _ _ _ _ _ us hl => match us, hl with | [_], _ => rfl) (fun cdv A0 outer s H0 E0 ds A Q E hr h => ?_)
  obtain ⟨c, l, rfl, hl, k⟩ := h
  refine ⟨_, (ass_cons (as_setDc false (i := 1) (own := [("symbol", 3)]) (pt := (.nm 3)) rfl sc_Form___neg__.nd rfl rfl (sw_trueD rfl rfl rfl (by decide +kernel)) (ai_keys (ae_fldVK (K := K) rfl (pv 0))) (blkOk_by (own := [("symbol", 3)]) (N := ["self", "found", "total", "symbol"]) (sc := defScope s_Form___neg__) (by decide +kernel)) (by decide) (fun _ _ _ _ _ => by exact (pg_name (i := 3) sc_Form___neg__.nd rfl (by first | exact Or.inl rfl | exact Or.inr rfl))) (fun _ _ _ _ _ => by exact ats_nil) (fun _ _ _ _ _ => by exact (ae_var (pv 3))) (fun _ _ _ _ _ => by exact (ae_neg (ae_dget (hu_of hr) (ae_fldVK (K := K) rfl (pv 0)) (ae_var (pv 3)) (fun _ _ => rfl)))))
      (ass_cons (as_set (i := 2) sc_Form___neg__.nd rfl (by first | exact Or.inl rfl | exact Or.inr rfl) (ae_neg (ae_fldVK (K := K) rfl (pv 0))))
      (ass_one (as_ret (ae_makeSS T.m_Form (R_Form___init__2 T) (hr.mono (by decide)) (ae_c (pe_glob (v := .ref (He.ga _ "Form")) rfl T.g_Form rfl) fun _ _ => .ref _) (aa_cons (ae_var (pv 2)) aa_nil) (ae_var (pv 1))))))), ?_⟩
  simp only [↓RD, RU, aStart, wipeA, putFA, toP, toPs, scDs, valD_nil, valD_cons, putM_eq, mergeD_eq, keysOk, aHandle, endsAA, putAA, starSp, put_same, put_put, inV_nil, inV_str, cxK, atI_0, atI_1, atI_2, atI_3, ixN_30, ixN_31, ixN_32, List.map, List.replicate, List.length_cons, List.length_nil, List.nil_append, List.cons_append, List.append_nil, Nat.reduceSub, Nat.reduceAdd, List.getElem?_cons_zero, List.getElem?_cons_succ, List.set_cons_zero, List.set_cons_succ, List.cons.injEq, Option.some.injEq, V.int.injEq, V.str.injEq, V.bl.injEq, D.int.injEq, D.str.injEq, D.bl.injEq, D.ref.injEq, D.tup.injEq, D.lst.injEq, D.ty.injEq, AO.lst.injEq, AO.dct.injEq, AO.ins.injEq, Prod.mk.injEq, exists_eq_left, exists_eq_left', exists_eq_right, exists_eq_right', exists_and_left, exists_and_right, true_and, and_true, and_self, if_true, if_false, Bool.false_eq_true, Bool.true_eq_false, eq_self, reduceCtorEq, false_and, and_false, and_assoc, Int.reduceToNat, Int.reducePow, Int.reduceMul, Int.reduceAdd, Int.reduceNeg, Int.reduceSub, String.reduceEq, String.reduceNe, ne_eq, not_false_eq_true, not_true_eq_false, decide_false, decide_true, Bool.not_false, Bool.not_true, Bool.or_false, Bool.false_or, Bool.or_true, Bool.true_or, Bool.and_true, Bool.true_and, Bool.and_self, Bool.and_false, Bool.false_and, exists_eq', exists_eq, exists_const, false_or, or_false, or_self, List.all_cons, List.all_nil, List.any_cons, List.any_nil, Nat.reduceLeDiff, exists_false, List.map_nil, List.map_cons, Option.map_some, Option.isSome_some, Option.isSome_none, Option.getD_some, Option.getD_none, implies_true, List.foldl_cons, List.foldl_nil, forall_const, ofS_eq, Int.reduceLT, Int.reduceLE, Nat.reduceLT, isO_obj, isO_int, dctD_dct, T.c_Form, T.f_Form_constant, T.f_Form_coefficients, lf_cons, lf_coef]
  refine dcomp_map (vD fun s => -coef l s) trivial _ ?_ (fun d hd R hR => ?_) ?_
  · rw [List.length_map, kvD_len]; exact le64 (hl.lt (by decide))
  · rw [kvD_keys] at hd
    obtain ⟨s, hs, rfl⟩ := List.mem_map.mp hd
    simp only [↓RD, RU, aStart, wipeA, putFA, toP, toPs, scDs, valD_nil, valD_cons, putM_eq, mergeD_eq, keysOk, aHandle, endsAA, putAA, starSp, put_same, put_put, inV_nil, inV_str, cxK, atI_0, atI_1, atI_2, atI_3, ixN_30, ixN_31, ixN_32, List.map, List.replicate, List.length_cons, List.length_nil, List.nil_append, List.cons_append, List.append_nil, Nat.reduceSub, Nat.reduceAdd, List.getElem?_cons_zero, List.getElem?_cons_succ, List.set_cons_zero, List.set_cons_succ, List.cons.injEq, Option.some.injEq, V.int.injEq, V.str.injEq, V.bl.injEq, D.int.injEq, D.str.injEq, D.bl.injEq, D.ref.injEq, D.tup.injEq, D.lst.injEq, D.ty.injEq, AO.lst.injEq, AO.dct.injEq, AO.ins.injEq, Prod.mk.injEq, exists_eq_left, exists_eq_left', exists_eq_right, exists_eq_right', exists_and_left, exists_and_right, true_and, and_true, and_self, if_true, if_false, Bool.false_eq_true, Bool.true_eq_false, eq_self, reduceCtorEq, false_and, and_false, and_assoc, Int.reduceToNat, Int.reducePow, Int.reduceMul, Int.reduceAdd, Int.reduceNeg, Int.reduceSub, String.reduceEq, String.reduceNe, ne_eq, not_false_eq_true, not_true_eq_false, decide_false, decide_true, Bool.not_false, Bool.not_true, Bool.or_false, Bool.false_or, Bool.or_true, Bool.true_or, Bool.and_true, Bool.true_and, Bool.and_self, Bool.and_false, Bool.false_and, exists_eq', exists_eq, exists_const, false_or, or_false, or_self, List.all_cons, List.all_nil, List.any_cons, List.any_nil, Nat.reduceLeDiff, exists_false, List.map_nil, List.map_cons, Option.map_some, Option.isSome_some, Option.isSome_none, Option.getD_some, Option.getD_none, implies_true, List.foldl_cons, List.foldl_nil, forall_const, ofS_eq, Int.reduceLT, Int.reduceLE, Nat.reduceLT, isO_obj, isO_int, dctD_dct, T.c_Form, T.f_Form_coefficients, lf_coef, valD_mem hs]
    exact hR
  · rw [fold_tab]
    simp only [↓RD, RU, aStart, wipeA, putFA, toP, toPs, scDs, valD_nil, valD_cons, putM_eq, mergeD_eq, keysOk, aHandle, endsAA, putAA, starSp, put_same, put_put, inV_nil, inV_str, cxK, atI_0, atI_1, atI_2, atI_3, ixN_30, ixN_31, ixN_32, List.map, List.replicate, List.length_cons, List.length_nil, List.nil_append, List.cons_append, List.append_nil, Nat.reduceSub, Nat.reduceAdd, List.getElem?_cons_zero, List.getElem?_cons_succ, List.set_cons_zero, List.set_cons_succ, List.cons.injEq, Option.some.injEq, V.int.injEq, V.str.injEq, V.bl.injEq, D.int.injEq, D.str.injEq, D.bl.injEq, D.ref.injEq, D.tup.injEq, D.lst.injEq, D.ty.injEq, AO.lst.injEq, AO.dct.injEq, AO.ins.injEq, Prod.mk.injEq, exists_eq_left, exists_eq_left', exists_eq_right, exists_eq_right', exists_and_left, exists_and_right, true_and, and_true, and_self, if_true, if_false, Bool.false_eq_true, Bool.true_eq_false, eq_self, reduceCtorEq, false_and, and_false, and_assoc, Int.reduceToNat, Int.reducePow, Int.reduceMul, Int.reduceAdd, Int.reduceNeg, Int.reduceSub, String.reduceEq, String.reduceNe, ne_eq, not_false_eq_true, not_true_eq_false, decide_false, decide_true, Bool.not_false, Bool.not_true, Bool.or_false, Bool.false_or, Bool.or_true, Bool.true_or, Bool.and_true, Bool.true_and, Bool.and_self, Bool.and_false, Bool.false_and, exists_eq', exists_eq, exists_const, false_or, or_false, or_self, List.all_cons, List.all_nil, List.any_cons, List.any_nil, Nat.reduceLeDiff, exists_false, List.map_nil, List.map_cons, Option.map_some, Option.isSome_some, Option.isSome_none, Option.getD_some, Option.getD_none, implies_true, List.foldl_cons, List.foldl_nil, forall_const, ofS_eq, Int.reduceLT, Int.reduceLE, Nat.reduceLT, isO_obj, isO_int, dctD_dct, T.c_Form, T.f_Form_constant, T.f_Form_coefficients, lf_cons, lf_coef]
    have hsy : Syms (negL l) := tab_syms hl.sy
    refine ⟨keys (negL l), kvD_keys, syms_bad hsy, fun x hx => ?_⟩
    refine mk_form (l := negL l) hx (nodup_tab _ _) hsy (Nat.lt_of_le_of_lt (len_tab _ _) (by rw [keys_len]; exact hl.lt (by decide))) ?_
    exact fin_id k
theorem ok_neg {n : Nat} {l : SL} (h : OkL n l) : OkL n (norm (negL l)) := OkL.norm (nodup_tab _ _) (tab_syms h.sy) (Nat.le_trans (len_tab _ _) (by rw [keys_len]; exact h.sz))
def sp_Form___sub__ (K : PySem.W.Frag) : ASp := fun ds A Q _ => ∃ (c : Int) (l : SL) (y : D), ds = [fmD K c l, y] ∧ OkL 30 l ∧ ((∃ i, y = .int i ∧ Q (fmD K (c + -i) l) A) ∨ ∃ c' m, y = fmD K c' m ∧ OkL 30 m ∧ Q (fmD K (c + -c') (norm (addL l (norm (negL m))))) A)
theorem R_Form___sub__ {P : Program} {w : World} {K : PySem.W.Frag} {mg : Str → Option Value} {base : Heap} (T : Tx K mg) : FnR P w K mg base CX0 11 (He.ma K (He.ga K "Form") "__sub__") (liftSp K (sp_Form___sub__ K)) := by
  obtain ⟨fd, F⟩ := T.d_Form___sub__
  refine Av.FunD.AR F sc_Form___sub__ (fun ds A Q E h => by obtain ⟨c, l, y, rfl, hl, h⟩ := h; rfl) (fun _ _ _ _ _ _ us hl => match us, hl with | [_, _], _ => rfl) (fun cdv A0 outer s H0 E0 ds A Q E hr h => ?_)
  obtain ⟨c, l, y, rfl, hl, h⟩ := h
  refine ⟨_, (ass_cons (as_if (at_not (at_truth (ae_callB (ca_isiT (n := "int") T.is_Form T.ki_Form) (by rfl) T.n_isinstance (by decide +kernel) (aa_cons (ae_var (pv 1)) (aa_cons (ae_tup (aa_cons (ae_c (pe_bltn (v := .ty "int") (by rfl) T.n_int (by decide +kernel) rfl) fun _ _ => .ty "int") (aa_cons (ae_c (pe_glob (v := .ref (He.ga _ "Form")) rfl T.g_Form rfl) fun _ _ => .ref _) aa_nil))) aa_nil))))) (ass_one as_never) ass_nil)
      (ass_one (as_ret (ae_ownL T.o_Form_Add (R_Form___add__ T) (hr.mono (by decide)) (ae_var (pv 0)) (ae_negX T.s_Form___neg__ (R_Form___neg__ T) (hr.mono (by decide)) (ae_var (pv 1))))))), ?_⟩
  rcases h with ⟨i, rfl, k⟩ | ⟨c', m, rfl, hm, k⟩
  · simp only [↓RD, RU, aStart, wipeA, putFA, toP, toPs, scDs, valD_nil, valD_cons, putM_eq, mergeD_eq, keysOk, aHandle, endsAA, putAA, starSp, put_same, put_put, inV_nil, inV_str, cxK, atI_0, atI_1, atI_2, atI_3, ixN_30, ixN_31, ixN_32, List.map, List.replicate, List.length_cons, List.length_nil, List.nil_append, List.cons_append, List.append_nil, Nat.reduceSub, Nat.reduceAdd, List.getElem?_cons_zero, List.getElem?_cons_succ, List.set_cons_zero, List.set_cons_succ, List.cons.injEq, Option.some.injEq, V.int.injEq, V.str.injEq, V.bl.injEq, D.int.injEq, D.str.injEq, D.bl.injEq, D.ref.injEq, D.tup.injEq, D.lst.injEq, D.ty.injEq, AO.lst.injEq, AO.dct.injEq, AO.ins.injEq, Prod.mk.injEq, exists_eq_left, exists_eq_left', exists_eq_right, exists_eq_right', exists_and_left, exists_and_right, true_and, and_true, and_self, if_true, if_false, Bool.false_eq_true, Bool.true_eq_false, eq_self, reduceCtorEq, false_and, and_false, and_assoc, Int.reduceToNat, Int.reducePow, Int.reduceMul, Int.reduceAdd, Int.reduceNeg, Int.reduceSub, String.reduceEq, String.reduceNe, ne_eq, not_false_eq_true, not_true_eq_false, decide_false, decide_true, Bool.not_false, Bool.not_true, Bool.or_false, Bool.false_or, Bool.or_true, Bool.true_or, Bool.and_true, Bool.true_and, Bool.and_self, Bool.and_false, Bool.false_and, exists_eq', exists_eq, exists_const, false_or, or_false, or_self, List.all_cons, List.all_nil, List.any_cons, List.any_nil, Nat.reduceLeDiff, exists_false, List.map_nil, List.map_cons, Option.map_some, Option.isSome_some, Option.isSome_none, Option.getD_some, Option.getD_none, implies_true, List.foldl_cons, List.foldl_nil, forall_const, ofS_eq, Int.reduceLT, Int.reduceLE, Nat.reduceLT, isO_obj, isO_int, dctD_dct, T.kt_Form]
    exact ⟨c, l, _, rfl, hl, .inl ⟨-i, rfl, fin_id k⟩⟩
  · simp only [↓RD, RU, aStart, wipeA, putFA, toP, toPs, scDs, valD_nil, valD_cons, putM_eq, mergeD_eq, keysOk, aHandle, endsAA, putAA, starSp, put_same, put_put, inV_nil, inV_str, cxK, atI_0, atI_1, atI_2, atI_3, ixN_30, ixN_31, ixN_32, List.map, List.replicate, List.length_cons, List.length_nil, List.nil_append, List.cons_append, List.append_nil, Nat.reduceSub, Nat.reduceAdd, List.getElem?_cons_zero, List.getElem?_cons_succ, List.set_cons_zero, List.set_cons_succ, List.cons.injEq, Option.some.injEq, V.int.injEq, V.str.injEq, V.bl.injEq, D.int.injEq, D.str.injEq, D.bl.injEq, D.ref.injEq, D.tup.injEq, D.lst.injEq, D.ty.injEq, AO.lst.injEq, AO.dct.injEq, AO.ins.injEq, Prod.mk.injEq, exists_eq_left, exists_eq_left', exists_eq_right, exists_eq_right', exists_and_left, exists_and_right, true_and, and_true, and_self, if_true, if_false, Bool.false_eq_true, Bool.true_eq_false, eq_self, reduceCtorEq, false_and, and_false, and_assoc, Int.reduceToNat, Int.reducePow, Int.reduceMul, Int.reduceAdd, Int.reduceNeg, Int.reduceSub, String.reduceEq, String.reduceNe, ne_eq, not_false_eq_true, not_true_eq_false, decide_false, decide_true, Bool.not_false, Bool.not_true, Bool.or_false, Bool.false_or, Bool.or_true, Bool.true_or, Bool.and_true, Bool.true_and, Bool.and_self, Bool.and_false, Bool.false_and, exists_eq', exists_eq, exists_const, false_or, or_false, or_self, List.all_cons, List.all_nil, List.any_cons, List.any_nil, Nat.reduceLeDiff, exists_false, List.map_nil, List.map_cons, Option.map_some, Option.isSome_some, Option.isSome_none, Option.getD_some, Option.getD_none, implies_true, List.foldl_cons, List.foldl_nil, forall_const, ofS_eq, Int.reduceLT, Int.reduceLE, Nat.reduceLT, isO_obj, isO_int, dctD_dct]
    refine ⟨c', m, rfl, hm, ?_⟩
    simp only [↓RD, RU, aStart, wipeA, putFA, toP, toPs, scDs, valD_nil, valD_cons, putM_eq, mergeD_eq, keysOk, aHandle, endsAA, putAA, starSp, put_same, put_put, inV_nil, inV_str, cxK, atI_0, atI_1, atI_2, atI_3, ixN_30, ixN_31, ixN_32, List.map, List.replicate, List.length_cons, List.length_nil, List.nil_append, List.cons_append, List.append_nil, Nat.reduceSub, Nat.reduceAdd, List.getElem?_cons_zero, List.getElem?_cons_succ, List.set_cons_zero, List.set_cons_succ, List.cons.injEq, Option.some.injEq, V.int.injEq, V.str.injEq, V.bl.injEq, D.int.injEq, D.str.injEq, D.bl.injEq, D.ref.injEq, D.tup.injEq, D.lst.injEq, D.ty.injEq, AO.lst.injEq, AO.dct.injEq, AO.ins.injEq, Prod.mk.injEq, exists_eq_left, exists_eq_left', exists_eq_right, exists_eq_right', exists_and_left, exists_and_right, true_and, and_true, and_self, if_true, if_false, Bool.false_eq_true, Bool.true_eq_false, eq_self, reduceCtorEq, false_and, and_false, and_assoc, Int.reduceToNat, Int.reducePow, Int.reduceMul, Int.reduceAdd, Int.reduceNeg, Int.reduceSub, String.reduceEq, String.reduceNe, ne_eq, not_false_eq_true, not_true_eq_false, decide_false, decide_true, Bool.not_false, Bool.not_true, Bool.or_false, Bool.false_or, Bool.or_true, Bool.true_or, Bool.and_true, Bool.true_and, Bool.and_self, Bool.and_false, Bool.false_and, exists_eq', exists_eq, exists_const, false_or, or_false, or_self, List.all_cons, List.all_nil, List.any_cons, List.any_nil, Nat.reduceLeDiff, exists_false, List.map_nil, List.map_cons, Option.map_some, Option.isSome_some, Option.isSome_none, Option.getD_some, Option.getD_none, implies_true, List.foldl_cons, List.foldl_nil, forall_const, ofS_eq, Int.reduceLT, Int.reduceLE, Nat.reduceLT, isO_obj, isO_int, dctD_dct]
    exact ⟨c, l, _, rfl, hl, .inr ⟨_, _, rfl, ok_neg hm, fin_id k⟩⟩
def sp_Form___rsub__ (K : PySem.W.Frag) : ASp := fun ds A Q _ => ∃ (c : Int) (l : SL) (i : Int), ds = [fmD K c l, .int i] ∧ OkL 30 l ∧ Q (fmD K (-c + i) (norm (negL l))) A
theorem R_Form___rsub__ {P : Program} {w : World} {K : PySem.W.Frag} {mg : Str → Option Value} {base : Heap} (T : Tx K mg) : FnR P w K mg base CX0 11 (He.ma K (He.ga K "Form") "__rsub__") (liftSp K (sp_Form___rsub__ K)) := by
  obtain ⟨fd, F⟩ := T.d_Form___rsub__
  refine Av.FunD.AR F sc_Form___rsub__ (fun ds A Q E h => by obtain ⟨c, l, i, rfl, hl, k⟩ := h; rfl) (fun _ _ _ _ _ _ us hl => match us, hl with | [_, _], _ => rfl) (fun cdv A0 outer s H0 E0 ds A Q E hr h => ?_)
  obtain ⟨c, l, i, rfl, hl, k⟩ := h
  refine ⟨_, (ass_cons (as_if (at_not (at_truth (ae_callB (ca_isiX T.is_Form) (by rfl) T.n_isinstance (by decide +kernel) (aa_cons (ae_var (pv 1)) (aa_cons (ae_c (pe_bltn (v := .ty "int") (by rfl) T.n_int (by decide +kernel) rfl) fun _ _ => .ty "int") aa_nil))))) (ass_one as_never) ass_nil)
      (ass_one (as_ret (ae_ownL T.o_Form_Add (R_Form___add__ T) (hr.mono (by decide)) (ae_negO T.s_Form___neg__ (R_Form___neg__ T) (hr.mono (by decide)) (ae_var (pv 0))) (ae_var (pv 1)))))), ?_⟩
  simp only [↓RD, RU, aStart, wipeA, putFA, toP, toPs, scDs, valD_nil, valD_cons, putM_eq, mergeD_eq, keysOk, aHandle, endsAA, putAA, starSp, put_same, put_put, inV_nil, inV_str, cxK, atI_0, atI_1, atI_2, atI_3, ixN_30, ixN_31, ixN_32, List.map, List.replicate, List.length_cons, List.length_nil, List.nil_append, List.cons_append, List.append_nil, Nat.reduceSub, Nat.reduceAdd, List.getElem?_cons_zero, List.getElem?_cons_succ, List.set_cons_zero, List.set_cons_succ, List.cons.injEq, Option.some.injEq, V.int.injEq, V.str.injEq, V.bl.injEq, D.int.injEq, D.str.injEq, D.bl.injEq, D.ref.injEq, D.tup.injEq, D.lst.injEq, D.ty.injEq, AO.lst.injEq, AO.dct.injEq, AO.ins.injEq, Prod.mk.injEq, exists_eq_left, exists_eq_left', exists_eq_right, exists_eq_right', exists_and_left, exists_and_right, true_and, and_true, and_self, if_true, if_false, Bool.false_eq_true, Bool.true_eq_false, eq_self, reduceCtorEq, false_and, and_false, and_assoc, Int.reduceToNat, Int.reducePow, Int.reduceMul, Int.reduceAdd, Int.reduceNeg, Int.reduceSub, String.reduceEq, String.reduceNe, ne_eq, not_false_eq_true, not_true_eq_false, decide_false, decide_true, Bool.not_false, Bool.not_true, Bool.or_false, Bool.false_or, Bool.or_true, Bool.true_or, Bool.and_true, Bool.true_and, Bool.and_self, Bool.and_false, Bool.false_and, exists_eq', exists_eq, exists_const, false_or, or_false, or_self, List.all_cons, List.all_nil, List.any_cons, List.any_nil, Nat.reduceLeDiff, exists_false, List.map_nil, List.map_cons, Option.map_some, Option.isSome_some, Option.isSome_none, Option.getD_some, Option.getD_none, implies_true, List.foldl_cons, List.foldl_nil, forall_const, ofS_eq, Int.reduceLT, Int.reduceLE, Nat.reduceLT, isO_obj, isO_int, dctD_dct]
  refine ⟨c, l, rfl, hl, ?_⟩
  simp only [↓RD, RU, aStart, wipeA, putFA, toP, toPs, scDs, valD_nil, valD_cons, putM_eq, mergeD_eq, keysOk, aHandle, endsAA, putAA, starSp, put_same, put_put, inV_nil, inV_str, cxK, atI_0, atI_1, atI_2, atI_3, ixN_30, ixN_31, ixN_32, List.map, List.replicate, List.length_cons, List.length_nil, List.nil_append, List.cons_append, List.append_nil, Nat.reduceSub, Nat.reduceAdd, List.getElem?_cons_zero, List.getElem?_cons_succ, List.set_cons_zero, List.set_cons_succ, List.cons.injEq, Option.some.injEq, V.int.injEq, V.str.injEq, V.bl.injEq, D.int.injEq, D.str.injEq, D.bl.injEq, D.ref.injEq, D.tup.injEq, D.lst.injEq, D.ty.injEq, AO.lst.injEq, AO.dct.injEq, AO.ins.injEq, Prod.mk.injEq, exists_eq_left, exists_eq_left', exists_eq_right, exists_eq_right', exists_and_left, exists_and_right, true_and, and_true, and_self, if_true, if_false, Bool.false_eq_true, Bool.true_eq_false, eq_self, reduceCtorEq, false_and, and_false, and_assoc, Int.reduceToNat, Int.reducePow, Int.reduceMul, Int.reduceAdd, Int.reduceNeg, Int.reduceSub, String.reduceEq, String.reduceNe, ne_eq, not_false_eq_true, not_true_eq_false, decide_false, decide_true, Bool.not_false, Bool.not_true, Bool.or_false, Bool.false_or, Bool.or_true, Bool.true_or, Bool.and_true, Bool.true_and, Bool.and_self, Bool.and_false, Bool.false_and, exists_eq', exists_eq, exists_const, false_or, or_false, or_self, List.all_cons, List.all_nil, List.any_cons, List.any_nil, Nat.reduceLeDiff, exists_false, List.map_nil, List.map_cons, Option.map_some, Option.isSome_some, Option.isSome_none, Option.getD_some, Option.getD_none, implies_true, List.foldl_cons, List.foldl_nil, forall_const, ofS_eq, Int.reduceLT, Int.reduceLE, Nat.reduceLT, isO_obj, isO_int, dctD_dct]
  exact ⟨_, _, _, rfl, ok_neg hl, .inl ⟨i, rfl, fin_id k⟩⟩
def sp_Form___mul__ (K : PySem.W.Frag) : ASp := fun ds A Q _ => ∃ (c : Int) (l : SL) (i : Int), ds = [fmD K c l, .int i] ∧ OkL 30 l ∧ CMulW c i ∧ (∀ s, CMulW (coef l s) i) ∧ Q (fmD K (c * i) (norm (mulL i l))) A
theorem R_Form___mul__ {P : Program} {w : World} {K : PySem.W.Frag} {mg : Str → Option Value} {base : Heap} (T : Tx K mg) : FnR P w K mg base CX0 9 (He.ma K (He.ga K "Form") "__mul__") (liftSp K (sp_Form___mul__ K)) := by
  obtain ⟨fd, F⟩ := T.d_Form___mul__
  refine Av.FunD.AR F sc_Form___mul__ (fun ds A Q E h => by obtain ⟨c, l, i, rfl, hl, hc, hb, k⟩ := h; rfl) (fun _ _ _ _ _ _ us hl => match us, hl with | [_, _], _ => rfl) (fun cdv A0 outer s H0 E0 ds A Q E hr h => ?_)
  obtain ⟨c, l, i, rfl, hl, hc, hb, k⟩ := h
  refine ⟨_, (ass_cons (as_if (at_not (at_truth (ae_callB (ca_isiX T.is_Form) (by rfl) T.n_isinstance (by decide +kernel) (aa_cons (ae_var (pv 1)) (aa_cons (ae_c (pe_bltn (v := .ty "int") (by rfl) T.n_int (by decide +kernel) rfl) fun _ _ => .ty "int") aa_nil))))) (ass_one as_never) ass_nil)
      (ass_cons (as_setDc false (i := 2) (own := [("symbol", 4)]) (pt := (.nm 4)) rfl sc_Form___mul__.nd rfl rfl (sw_trueD rfl rfl rfl (by decide +kernel)) (ai_keys (ae_fldVK (K := K) rfl (pv 0))) (blkOk_by (own := [("symbol", 4)]) (N := ["self", "other", "found", "total", "symbol"]) (sc := defScope s_Form___mul__) (by decide +kernel)) (by decide) (fun _ _ _ _ _ => by exact (pg_name (i := 4) sc_Form___mul__.nd rfl (by first | exact Or.inl rfl | exact Or.inr rfl))) (fun _ _ _ _ _ => by exact ats_nil) (fun _ _ _ _ _ => by exact (ae_var (pv 4))) (fun _ _ _ _ _ => by exact (ae_mul false (ae_dget (hu_of hr) (ae_fldVK (K := K) rfl (pv 0)) (ae_var (pv 4)) (fun _ _ => rfl)) (ae_var (pv 1)))))
      (ass_cons (as_set (i := 3) sc_Form___mul__.nd rfl (by first | exact Or.inl rfl | exact Or.inr rfl) (ae_mul false (ae_fldVK (K := K) rfl (pv 0)) (ae_var (pv 1))))
      (ass_one (as_ret (ae_makeSS T.m_Form (R_Form___init__2 T) (hr.mono (by decide)) (ae_c (pe_glob (v := .ref (He.ga _ "Form")) rfl T.g_Form rfl) fun _ _ => .ref _) (aa_cons (ae_var (pv 3)) aa_nil) (ae_var (pv 2)))))))), ?_⟩
  simp only [↓RD, RU, aStart, wipeA, putFA, toP, toPs, scDs, valD_nil, valD_cons, putM_eq, mergeD_eq, keysOk, aHandle, endsAA, putAA, starSp, put_same, put_put, inV_nil, inV_str, cxK, atI_0, atI_1, atI_2, atI_3, ixN_30, ixN_31, ixN_32, List.map, List.replicate, List.length_cons, List.length_nil, List.nil_append, List.cons_append, List.append_nil, Nat.reduceSub, Nat.reduceAdd, List.getElem?_cons_zero, List.getElem?_cons_succ, List.set_cons_zero, List.set_cons_succ, List.cons.injEq, Option.some.injEq, V.int.injEq, V.str.injEq, V.bl.injEq, D.int.injEq, D.str.injEq, D.bl.injEq, D.ref.injEq, D.tup.injEq, D.lst.injEq, D.ty.injEq, AO.lst.injEq, AO.dct.injEq, AO.ins.injEq, Prod.mk.injEq, exists_eq_left, exists_eq_left', exists_eq_right, exists_eq_right', exists_and_left, exists_and_right, true_and, and_true, and_self, if_true, if_false, Bool.false_eq_true, Bool.true_eq_false, eq_self, reduceCtorEq, false_and, and_false, and_assoc, Int.reduceToNat, Int.reducePow, Int.reduceMul, Int.reduceAdd, Int.reduceNeg, Int.reduceSub, String.reduceEq, String.reduceNe, ne_eq, not_false_eq_true, not_true_eq_false, decide_false, decide_true, Bool.not_false, Bool.not_true, Bool.or_false, Bool.false_or, Bool.or_true, Bool.true_or, Bool.and_true, Bool.true_and, Bool.and_self, Bool.and_false, Bool.false_and, exists_eq', exists_eq, exists_const, false_or, or_false, or_self, List.all_cons, List.all_nil, List.any_cons, List.any_nil, Nat.reduceLeDiff, exists_false, List.map_nil, List.map_cons, Option.map_some, Option.isSome_some, Option.isSome_none, Option.getD_some, Option.getD_none, implies_true, List.foldl_cons, List.foldl_nil, forall_const, ofS_eq, Int.reduceLT, Int.reduceLE, Nat.reduceLT, isO_obj, isO_int, dctD_dct, T.c_Form, T.f_Form_constant, T.f_Form_coefficients, lf_cons, lf_coef]
  refine dcomp_map (vD fun s => coef l s * i) trivial _ ?_ (fun d hd R hR => ?_) ?_
  · rw [List.length_map, kvD_len]; exact le64 (hl.lt (by decide))
  · rw [kvD_keys] at hd
    obtain ⟨s, hs, rfl⟩ := List.mem_map.mp hd
    simp only [↓RD, RU, aStart, wipeA, putFA, toP, toPs, scDs, valD_nil, valD_cons, putM_eq, mergeD_eq, keysOk, aHandle, endsAA, putAA, starSp, put_same, put_put, inV_nil, inV_str, cxK, atI_0, atI_1, atI_2, atI_3, ixN_30, ixN_31, ixN_32, List.map, List.replicate, List.length_cons, List.length_nil, List.nil_append, List.cons_append, List.append_nil, Nat.reduceSub, Nat.reduceAdd, List.getElem?_cons_zero, List.getElem?_cons_succ, List.set_cons_zero, List.set_cons_succ, List.cons.injEq, Option.some.injEq, V.int.injEq, V.str.injEq, V.bl.injEq, D.int.injEq, D.str.injEq, D.bl.injEq, D.ref.injEq, D.tup.injEq, D.lst.injEq, D.ty.injEq, AO.lst.injEq, AO.dct.injEq, AO.ins.injEq, Prod.mk.injEq, exists_eq_left, exists_eq_left', exists_eq_right, exists_eq_right', exists_and_left, exists_and_right, true_and, and_true, and_self, if_true, if_false, Bool.false_eq_true, Bool.true_eq_false, eq_self, reduceCtorEq, false_and, and_false, and_assoc, Int.reduceToNat, Int.reducePow, Int.reduceMul, Int.reduceAdd, Int.reduceNeg, Int.reduceSub, String.reduceEq, String.reduceNe, ne_eq, not_false_eq_true, not_true_eq_false, decide_false, decide_true, Bool.not_false, Bool.not_true, Bool.or_false, Bool.false_or, Bool.or_true, Bool.true_or, Bool.and_true, Bool.true_and, Bool.and_self, Bool.and_false, Bool.false_and, exists_eq', exists_eq, exists_const, false_or, or_false, or_self, List.all_cons, List.all_nil, List.any_cons, List.any_nil, Nat.reduceLeDiff, exists_false, List.map_nil, List.map_cons, Option.map_some, Option.isSome_some, Option.isSome_none, Option.getD_some, Option.getD_none, implies_true, List.foldl_cons, List.foldl_nil, forall_const, ofS_eq, Int.reduceLT, Int.reduceLE, Nat.reduceLT, isO_obj, isO_int, dctD_dct, T.c_Form, T.f_Form_coefficients, lf_coef, valD_mem hs]
    exact ⟨hb s, hR⟩
  · rw [fold_tab]
    simp only [↓RD, RU, aStart, wipeA, putFA, toP, toPs, scDs, valD_nil, valD_cons, putM_eq, mergeD_eq, keysOk, aHandle, endsAA, putAA, starSp, put_same, put_put, inV_nil, inV_str, cxK, atI_0, atI_1, atI_2, atI_3, ixN_30, ixN_31, ixN_32, List.map, List.replicate, List.length_cons, List.length_nil, List.nil_append, List.cons_append, List.append_nil, Nat.reduceSub, Nat.reduceAdd, List.getElem?_cons_zero, List.getElem?_cons_succ, List.set_cons_zero, List.set_cons_succ, List.cons.injEq, Option.some.injEq, V.int.injEq, V.str.injEq, V.bl.injEq, D.int.injEq, D.str.injEq, D.bl.injEq, D.ref.injEq, D.tup.injEq, D.lst.injEq, D.ty.injEq, AO.lst.injEq, AO.dct.injEq, AO.ins.injEq, Prod.mk.injEq, exists_eq_left, exists_eq_left', exists_eq_right, exists_eq_right', exists_and_left, exists_and_right, true_and, and_true, and_self, if_true, if_false, Bool.false_eq_true, Bool.true_eq_false, eq_self, reduceCtorEq, false_and, and_false, and_assoc, Int.reduceToNat, Int.reducePow, Int.reduceMul, Int.reduceAdd, Int.reduceNeg, Int.reduceSub, String.reduceEq, String.reduceNe, ne_eq, not_false_eq_true, not_true_eq_false, decide_false, decide_true, Bool.not_false, Bool.not_true, Bool.or_false, Bool.false_or, Bool.or_true, Bool.true_or, Bool.and_true, Bool.true_and, Bool.and_self, Bool.and_false, Bool.false_and, exists_eq', exists_eq, exists_const, false_or, or_false, or_self, List.all_cons, List.all_nil, List.any_cons, List.any_nil, Nat.reduceLeDiff, exists_false, List.map_nil, List.map_cons, Option.map_some, Option.isSome_some, Option.isSome_none, Option.getD_some, Option.getD_none, implies_true, List.foldl_cons, List.foldl_nil, forall_const, ofS_eq, Int.reduceLT, Int.reduceLE, Nat.reduceLT, isO_obj, isO_int, dctD_dct, T.c_Form, T.f_Form_constant, T.f_Form_coefficients, lf_cons, lf_coef]
    have hsy : Syms (mulL i l) := tab_syms hl.sy
    refine ⟨hc, keys (mulL i l), kvD_keys, syms_bad hsy, fun x hx => ?_⟩
    refine mk_form (l := mulL i l) hx (nodup_tab _ _) hsy (Nat.lt_of_le_of_lt (len_tab _ _) (by rw [keys_len]; exact hl.lt (by decide))) ?_
    exact fin_id k
theorem ok_mul {n : Nat} {i : Int} {l : SL} (h : OkL n l) : OkL n (norm (mulL i l)) := OkL.norm (nodup_tab _ _) (tab_syms h.sy) (Nat.le_trans (len_tab _ _) (by rw [keys_len]; exact h.sz))
theorem ok_add {n m : Nat} {l k : SL} (h : OkL n l) (h2 : OkL m k) : OkL (n + m) (norm (addL l k)) := OkL.norm (nodup_tab _ _) (tab_syms fun s hs => (List.mem_append.mp hs).elim (h.sy s) (h2.sy s)) (Nat.le_trans (len_tab _ _) (by rw [List.length_append, keys_len, keys_len]; exact Nat.add_le_add h.sz h2.sz))
theorem OkL.up {n m : Nat} {l : SL} (h : OkL n l) (hm : n ≤ m) : OkL m l := ⟨h.nd, h.nz, h.sy, Nat.le_trans h.sz hm⟩
def sp_Form___rmul__ (K : PySem.W.Frag) : ASp := fun ds A Q _ => ∃ (c : Int) (l : SL) (i : Int), ds = [fmD K c l, .int i] ∧ OkL 30 l ∧ CMulW c i ∧ (∀ s, CMulW (coef l s) i) ∧ Q (fmD K (c * i) (norm (mulL i l))) A
theorem R_Form___rmul__ {P : Program} {w : World} {K : PySem.W.Frag} {mg : Str → Option Value} {base : Heap} (T : Tx K mg) : FnR P w K mg base CX0 11 (He.ma K (He.ga K "Form") "__rmul__") (liftSp K (sp_Form___rmul__ K)) := by
  obtain ⟨fd, F⟩ := T.d_Form___rmul__
  refine Av.FunD.AR F sc_Form___rmul__ (fun ds A Q E h => by obtain ⟨c, l, i, rfl, hl, hc, hb, k⟩ := h; rfl) (fun _ _ _ _ _ _ us hl => match us, hl with | [_, _], _ => rfl) (fun cdv A0 outer s H0 E0 ds A Q E hr h => ?_)
  obtain ⟨c, l, i, rfl, hl, hc, hb, k⟩ := h
  refine ⟨_, (ass_cons (as_if (at_not (at_truth (ae_callB (ca_isiX T.is_Form) (by rfl) T.n_isinstance (by decide +kernel) (aa_cons (ae_var (pv 1)) (aa_cons (ae_c (pe_bltn (v := .ty "int") (by rfl) T.n_int (by decide +kernel) rfl) fun _ _ => .ty "int") aa_nil))))) (ass_one as_never) ass_nil)
      (ass_one (as_ret (ae_ownL T.o_Form_Mult (R_Form___mul__ T) (hr.mono (by decide)) (ae_var (pv 0)) (ae_var (pv 1)))))), ?_⟩
  simp only [↓RD, RU, aStart, wipeA, putFA, toP, toPs, scDs, valD_nil, valD_cons, putM_eq, mergeD_eq, keysOk, aHandle, endsAA, putAA, starSp, put_same, put_put, inV_nil, inV_str, cxK, atI_0, atI_1, atI_2, atI_3, ixN_30, ixN_31, ixN_32, List.map, List.replicate, List.length_cons, List.length_nil, List.nil_append, List.cons_append, List.append_nil, Nat.reduceSub, Nat.reduceAdd, List.getElem?_cons_zero, List.getElem?_cons_succ, List.set_cons_zero, List.set_cons_succ, List.cons.injEq, Option.some.injEq, V.int.injEq, V.str.injEq, V.bl.injEq, D.int.injEq, D.str.injEq, D.bl.injEq, D.ref.injEq, D.tup.injEq, D.lst.injEq, D.ty.injEq, AO.lst.injEq, AO.dct.injEq, AO.ins.injEq, Prod.mk.injEq, exists_eq_left, exists_eq_left', exists_eq_right, exists_eq_right', exists_and_left, exists_and_right, true_and, and_true, and_self, if_true, if_false, Bool.false_eq_true, Bool.true_eq_false, eq_self, reduceCtorEq, false_and, and_false, and_assoc, Int.reduceToNat, Int.reducePow, Int.reduceMul, Int.reduceAdd, Int.reduceNeg, Int.reduceSub, String.reduceEq, String.reduceNe, ne_eq, not_false_eq_true, not_true_eq_false, decide_false, decide_true, Bool.not_false, Bool.not_true, Bool.or_false, Bool.false_or, Bool.or_true, Bool.true_or, Bool.and_true, Bool.true_and, Bool.and_self, Bool.and_false, Bool.false_and, exists_eq', exists_eq, exists_const, false_or, or_false, or_self, List.all_cons, List.all_nil, List.any_cons, List.any_nil, Nat.reduceLeDiff, exists_false, List.map_nil, List.map_cons, Option.map_some, Option.isSome_some, Option.isSome_none, Option.getD_some, Option.getD_none, implies_true, List.foldl_cons, List.foldl_nil, forall_const, ofS_eq, Int.reduceLT, Int.reduceLE, Nat.reduceLT, isO_obj, isO_int, dctD_dct]
  exact ⟨c, l, i, rfl, hl, hc, hb, fin_id k⟩

end V06

set_option Elab.async false
set_option linter.all false
set_option maxRecDepth 100000
set_option maxHeartbeats 4000000
namespace V06
open PySem PySem.Spec PyProof.Rows L2 My Av
/-- the bag of draws: [digits, start, count] -/
def BagF (l : List D) (n : Nat) : Prop := ∃ x0 x1 x2 : Int, l = [.int x0, .int x1, .int x2] ∧ 0 ≤ x0 ∧ 0 ≤ x1 ∧ x1 < 2 ^ 70 ∧ 0 ≤ x2 ∧ x2 ≤ n
theorem BagF.up {l : List D} {n m : Nat} (h : BagF l n) (hm : n ≤ m) : BagF l m := by
  obtain ⟨x0, x1, x2, e, a, b, c, d, f⟩ := h
  exact ⟨x0, x1, x2, e, a, b, c, d, by omega⟩
theorem cpow {i j : Int} (h0 : 0 ≤ j) (h1 : j ≤ 64) (h2 : i.natAbs < 2 ^ 4096) : CPowW i j := ⟨h0, h1, h2⟩
theorem log_lt {i : Int} {k : Nat} (hk : 0 < k) (h : i.natAbs < 2 ^ k) : i.natAbs.log2 < k := PySem.Flt.log2_lt_of hk h
theorem cdivW {i j : Int} (h0 : 0 < j) (h1 : j < 2 ^ 200) : CDivW i j := ⟨h0, Nat.lt_of_lt_of_le (log_lt (k := 200) (by decide) (by omega)) (by decide)⟩
theorem cmulW {i j : Int} (h1 : i.natAbs < 2 ^ 1000) (h2 : j.natAbs < 2 ^ 1000) : CMulW i j := by
  have a := log_lt (k := 1000) (by decide) h1
  have b := log_lt (k := 1000) (by decide) h2
  unfold CMulW; omega
theorem pow_big {i : Int} (h : i.natAbs < 2 ^ 200) : i.natAbs < 2 ^ 4096 := Nat.lt_of_lt_of_le h (Nat.pow_le_pow_right (by decide) (by decide))
theorem nat1000 {i : Int} (h : i.natAbs < 2 ^ 200) : i.natAbs < 2 ^ 1000 := Nat.lt_of_lt_of_le h (Nat.pow_le_pow_right (by decide) (by decide))
theorem atI_int {xs : List Int} {i : Nat} (h : i < xs.length) : ∃ z, atI (xs.map D.int) (i : Int) = some (.int z) := by
  refine ⟨xs[i], ?_⟩
  unfold atI ixN
  rw [if_pos (by omega), if_pos (by rw [List.length_map]; omega)]
  simp [h]
def sp_l_bag (_ : PySem.W.Frag) : ASp := fun ds A Q _ => ∃ (xs : List Int) (i : Nat), ds = [.rol (xs.map D.int), .int (i : Int)] ∧ i ≤ 63 ∧ xs.length ≤ 63 ∧ ∀ l p, BagF l 0 → A p = none → Q (.ref p) (put A p (.lst l))
theorem bag0 {c z : Int} {i : Nat} (hc : 0 ≤ c) (hi : i ≤ 63) : BagF [.int c, .int (z % 2305843009213693951 * 5 + 6151 * (i : Int) + 2969), .int 0] 0 := by
  have e1 : 0 ≤ z % 2305843009213693951 := Int.emod_nonneg _ (by decide)
  have e2 : z % 2305843009213693951 < 2305843009213693951 := Int.emod_lt_of_pos _ (by decide)
  exact ⟨c, _, 0, rfl, hc, by omega, by omega, by omega, by omega⟩
theorem R_l_bag {P : Program} {w : World} {K : PySem.W.Frag} {mg : Str → Option Value} {base : Heap} (T : Tx K mg) : FnR P w K mg base CX0 1 (He.ga K "_law_bag") (liftSp K (sp_l_bag K)) := by
  obtain ⟨fd, F⟩ := T.d_l_bag
  refine Av.FunD.AR F sc_l_bag (fun ds A Q E h => by obtain ⟨xs, i, rfl, hi, hx, k⟩ := h; rfl) (fun _ _ _ _ _ _ us hl => match us, hl with | [_, _], _ => rfl) (fun cdv A0 outer s H0 E0 ds A Q E hr h => ?_)
  obtain ⟨xs, i, rfl, hi, hx, k⟩ := h
  refine ⟨_, (ass_cons (as_set (i := 2) sc_l_bag.nd rfl (by first | exact Or.inl rfl | exact Or.inr rfl) (ae_if (at_cmpA cmp_lt (ae_var (pv 1)) (ae_callB ca_len (by rfl) T.n_len (by decide +kernel) (aa_cons (ae_var (pv 0)) aa_nil)) (nomark _)) (ae_subs (ae_var (pv 0)) (ae_var (pv 1)) (fun _ _ => rfl)) ae_int))
      (ass_cons (as_set (i := 3) sc_l_bag.nd rfl (by first | exact Or.inl rfl | exact Or.inr rfl) (ae_if (at_cmpA cmp_ge (ae_callB ca_abs (by rfl) T.n_abs (by decide +kernel) (aa_cons (ae_var (pv 2)) aa_nil)) (ae_pow ae_int ae_int) (nomark _)) (ae_callB ca_abs (by rfl) T.n_abs (by decide +kernel) (aa_cons (ae_var (pv 2)) aa_nil)) ae_int))
      (ass_one (as_ret (ae_lst true (aa_cons (ae_var (pv 3)) (aa_cons (ae_add false (ae_add false (ae_mul false (ae_mod (ae_callTy ca_int (by rfl) T.n_int (by decide +kernel) (aa_cons (ae_var (pv 2)) aa_nil)) ae_int) ae_int) (ae_mul false ae_int (ae_var (pv 1)))) ae_int) (aa_cons ae_int aa_nil)))))))), ?_⟩
  simp only [↓RD, RU, aStart, wipeA, putFA, toP, toPs, scDs, valD_nil, valD_cons, putM_eq, mergeD_eq, keysOk, aHandle, endsAA, putAA, starSp, put_same, put_put, inV_nil, inV_str, cxK, atI_0, atI_1, atI_2, atI_3, ixN_30, ixN_31, ixN_32, List.map, List.replicate, List.length_cons, List.length_nil, List.nil_append, List.cons_append, List.append_nil, Nat.reduceSub, Nat.reduceAdd, List.getElem?_cons_zero, List.getElem?_cons_succ, List.set_cons_zero, List.set_cons_succ, List.cons.injEq, Option.some.injEq, V.int.injEq, V.str.injEq, V.bl.injEq, D.int.injEq, D.str.injEq, D.bl.injEq, D.ref.injEq, D.tup.injEq, D.lst.injEq, D.ty.injEq, AO.lst.injEq, AO.dct.injEq, AO.ins.injEq, Prod.mk.injEq, exists_eq_left, exists_eq_left', exists_eq_right, exists_eq_right', exists_and_left, exists_and_right, true_and, and_true, and_self, if_true, if_false, Bool.false_eq_true, Bool.true_eq_false, eq_self, reduceCtorEq, false_and, and_false, and_assoc, Int.reduceToNat, Int.reducePow, Int.reduceMul, Int.reduceAdd, Int.reduceNeg, Int.reduceSub, String.reduceEq, String.reduceNe, ne_eq, not_false_eq_true, not_true_eq_false, decide_false, decide_true, Bool.not_false, Bool.not_true, Bool.or_false, Bool.false_or, Bool.or_true, Bool.true_or, Bool.and_true, Bool.true_and, Bool.and_self, Bool.and_false, Bool.false_and, exists_eq', exists_eq, exists_const, false_or, or_false, or_self, List.all_cons, List.all_nil, List.any_cons, List.any_nil, Nat.reduceLeDiff, exists_false, List.map_nil, List.map_cons, Option.map_some, Option.isSome_some, Option.isSome_none, Option.getD_some, Option.getD_none, implies_true, List.foldl_cons, List.foldl_nil, forall_const, ofS_eq, Int.reduceLT, Int.reduceLE, Nat.reduceLT, isO_obj, isO_int, dctD_dct, List.length_map]
  have c1 : CPowW 10 18 := cpow (by decide) (by decide) (by decide)
  have c2 : CMulW 6151 (i : Int) := cmulW (by decide) (nat1000 (by omega))
  have c3 : ∀ z : Int, CMulW (z % 2305843009213693951) 5 := fun z => cmulW (nat1000 (by
    have e1 : 0 ≤ z % 2305843009213693951 := Int.emod_nonneg _ (by decide)
    have e2 : z % 2305843009213693951 < 2305843009213693951 := Int.emod_lt_of_pos _ (by decide)
    omega)) (by decide)
  refine ite_dec (fun g => ?_) (fun g => ?_)
  · obtain ⟨z, hz⟩ := atI_int (xs := xs) (i := i) (by omega)
    refine oK_mk hz ?_
    simp only [↓RD, RU, aStart, wipeA, putFA, toP, toPs, scDs, valD_nil, valD_cons, putM_eq, mergeD_eq, keysOk, aHandle, endsAA, putAA, starSp, put_same, put_put, inV_nil, inV_str, cxK, atI_0, atI_1, atI_2, atI_3, ixN_30, ixN_31, ixN_32, List.map, List.replicate, List.length_cons, List.length_nil, List.nil_append, List.cons_append, List.append_nil, Nat.reduceSub, Nat.reduceAdd, List.getElem?_cons_zero, List.getElem?_cons_succ, List.set_cons_zero, List.set_cons_succ, List.cons.injEq, Option.some.injEq, V.int.injEq, V.str.injEq, V.bl.injEq, D.int.injEq, D.str.injEq, D.bl.injEq, D.ref.injEq, D.tup.injEq, D.lst.injEq, D.ty.injEq, AO.lst.injEq, AO.dct.injEq, AO.ins.injEq, Prod.mk.injEq, exists_eq_left, exists_eq_left', exists_eq_right, exists_eq_right', exists_and_left, exists_and_right, true_and, and_true, and_self, if_true, if_false, Bool.false_eq_true, Bool.true_eq_false, eq_self, reduceCtorEq, false_and, and_false, and_assoc, Int.reduceToNat, Int.reducePow, Int.reduceMul, Int.reduceAdd, Int.reduceNeg, Int.reduceSub, String.reduceEq, String.reduceNe, ne_eq, not_false_eq_true, not_true_eq_false, decide_false, decide_true, Bool.not_false, Bool.not_true, Bool.or_false, Bool.false_or, Bool.or_true, Bool.true_or, Bool.and_true, Bool.true_and, Bool.and_self, Bool.and_false, Bool.false_and, exists_eq', exists_eq, exists_const, false_or, or_false, or_self, List.all_cons, List.all_nil, List.any_cons, List.any_nil, Nat.reduceLeDiff, exists_false, List.map_nil, List.map_cons, Option.map_some, Option.isSome_some, Option.isSome_none, Option.getD_some, Option.getD_none, implies_true, List.foldl_cons, List.foldl_nil, forall_const, ofS_eq, Int.reduceLT, Int.reduceLE, Nat.reduceLT, isO_obj, isO_int, dctD_dct]
    refine ⟨c1, ite_dec (fun g2 => ?_) (fun g2 => ?_)⟩
    · exact ⟨c3 z, c2, fun p hp => fin_id (k _ p (bag0 (by split <;> omega) hi) hp)⟩
    · exact ⟨c3 z, c2, fun p hp => fin_id (k _ p (bag0 (by decide) hi) hp)⟩
  · exact ⟨c1, c3 0, c2, fun p hp => fin_id (k _ p (bag0 (z := 0) (by decide) hi) hp)⟩
def sp_l_take (_ : PySem.W.Frag) : ASp := fun ds A Q _ => ∃ (b : Addr) (m : Int) (n : Nat) (l : List D), ds = [.ref b, .int m] ∧ A b = some (.lst l) ∧ BagF l n ∧ 0 < m ∧ m < 2 ^ 200 ∧ n ≤ 1000000 ∧ ∀ (r : Int) (l' : List D), 0 ≤ r → r < m → BagF l' (n + 1) → Q (.int r) (put A b (.lst l'))
theorem R_l_take {P : Program} {w : World} {K : PySem.W.Frag} {mg : Str → Option Value} {base : Heap} (T : Tx K mg) : FnR P w K mg base CX0 1 (He.ga K "_law_take") (liftSp K (sp_l_take K)) := by
  obtain ⟨fd, F⟩ := T.d_l_take
  refine Av.FunD.AR F sc_l_take (fun ds A Q E h => by obtain ⟨b, m, n, l, rfl, hb, ⟨x0, x1, x2, rfl, h0, h1, h1', h2, h2'⟩, m0, m1, hn, k⟩ := h; rfl) (fun _ _ _ _ _ _ us hl => match us, hl with | [_, _], _ => rfl) (fun cdv A0 outer s H0 E0 ds A Q E hr h => ?_)
  obtain ⟨b, m, n, l, rfl, hb, ⟨x0, x1, x2, rfl, h0, h1, h1', h2, h2'⟩, m0, m1, hn, k⟩ := h
  refine ⟨_, (ass_cons (as_if (at_cmpA cmp_gt (ae_subs (ae_var (pv 0)) ae_int (fun _ _ => rfl)) ae_int (nomark _)) (ass_cons (as_set (i := 2) sc_l_take.nd rfl (by first | exact Or.inl rfl | exact Or.inr rfl) (ae_mod (ae_callTy ca_int (by rfl) T.n_int (by decide +kernel) (aa_cons (ae_subs (ae_var (pv 0)) ae_int (fun _ _ => rfl)) aa_nil)) (ae_var (pv 1))))
      (ass_cons (as_setix (ae_var (pv 0)) ae_int (ae_fdiv (ae_subs (ae_var (pv 0)) ae_int (fun _ _ => rfl)) (ae_var (pv 1))))
      (ass_one (as_ret (ae_var (pv 2)))))) ass_nil)
      (ass_cons (as_setix (ae_var (pv 0)) ae_int (ae_add false (ae_subs (ae_var (pv 0)) ae_int (fun _ _ => rfl)) ae_int))
      (ass_cons (as_set (i := 3) sc_l_take.nd rfl (by first | exact Or.inl rfl | exact Or.inr rfl) (ae_mod (ae_callTy ca_int (by rfl) T.n_int (by decide +kernel) (aa_cons (ae_pow (ae_add false (ae_subs (ae_var (pv 0)) ae_int (fun _ _ => rfl)) (ae_mul false ae_int (ae_subs (ae_var (pv 0)) ae_int (fun _ _ => rfl)))) ae_int) aa_nil)) ae_int))
      (ass_cons (as_set (i := 3) sc_l_take.nd rfl (by first | exact Or.inl rfl | exact Or.inr rfl) (ae_mod (ae_callTy ca_int (by rfl) T.n_int (by decide +kernel) (aa_cons (ae_pow (ae_add false (ae_var (pv 3)) (ae_mul false ae_int (ae_subs (ae_var (pv 0)) ae_int (fun _ _ => rfl)))) ae_int) aa_nil)) ae_int))
      (ass_one (as_ret (ae_mod (ae_callTy ca_int (by rfl) T.n_int (by decide +kernel) (aa_cons (ae_fdiv (ae_var (pv 3)) ae_int) aa_nil)) (ae_var (pv 1))))))))), ?_⟩
  simp only [↓RD, RU, aStart, wipeA, putFA, toP, toPs, scDs, valD_nil, valD_cons, putM_eq, mergeD_eq, keysOk, aHandle, endsAA, putAA, starSp, put_same, put_put, inV_nil, inV_str, cxK, atI_0, atI_1, atI_2, atI_3, ixN_30, ixN_31, ixN_32, List.map, List.replicate, List.length_cons, List.length_nil, List.nil_append, List.cons_append, List.append_nil, Nat.reduceSub, Nat.reduceAdd, List.getElem?_cons_zero, List.getElem?_cons_succ, List.set_cons_zero, List.set_cons_succ, List.cons.injEq, Option.some.injEq, V.int.injEq, V.str.injEq, V.bl.injEq, D.int.injEq, D.str.injEq, D.bl.injEq, D.ref.injEq, D.tup.injEq, D.lst.injEq, D.ty.injEq, AO.lst.injEq, AO.dct.injEq, AO.ins.injEq, Prod.mk.injEq, exists_eq_left, exists_eq_left', exists_eq_right, exists_eq_right', exists_and_left, exists_and_right, true_and, and_true, and_self, if_true, if_false, Bool.false_eq_true, Bool.true_eq_false, eq_self, reduceCtorEq, false_and, and_false, and_assoc, Int.reduceToNat, Int.reducePow, Int.reduceMul, Int.reduceAdd, Int.reduceNeg, Int.reduceSub, String.reduceEq, String.reduceNe, ne_eq, not_false_eq_true, not_true_eq_false, decide_false, decide_true, Bool.not_false, Bool.not_true, Bool.or_false, Bool.false_or, Bool.or_true, Bool.true_or, Bool.and_true, Bool.true_and, Bool.and_self, Bool.and_false, Bool.false_and, exists_eq', exists_eq, exists_const, false_or, or_false, or_self, List.all_cons, List.all_nil, List.any_cons, List.any_nil, Nat.reduceLeDiff, exists_false, List.map_nil, List.map_cons, Option.map_some, Option.isSome_some, Option.isSome_none, Option.getD_some, Option.getD_none, implies_true, List.foldl_cons, List.foldl_nil, forall_const, ofS_eq, Int.reduceLT, Int.reduceLE, Nat.reduceLT, isO_obj, isO_int, dctD_dct, hb]
  refine ite_dec (fun g => ?_) (fun g => ?_)
  · refine ⟨m0, cdivW m0 m1, fin_id (k _ _ (Int.emod_nonneg _ (by omega)) (Int.emod_lt_of_pos _ m0) ⟨_, x1, x2, rfl, Int.ediv_nonneg h0 (by omega), h1, h1', h2, by omega⟩)⟩
  · have e1 : 0 ≤ (x1 + 15485863 * (x2 + 1)) ^ 3 % 2305843009213693921 := Int.emod_nonneg _ (by decide)
    have e2 : (x1 + 15485863 * (x2 + 1)) ^ 3 % 2305843009213693921 < 2305843009213693921 := Int.emod_lt_of_pos _ (by decide)
    generalize (x1 + 15485863 * (x2 + 1)) ^ 3 % 2305843009213693921 = y at e1 e2 ⊢
    have x2b : x2 + 1 ≤ 1000001 := by omega
    refine ⟨cmulW (by decide) (nat1000 (by omega)), cpow (by decide) (by decide) (pow_big (by omega)), cmulW (by decide) (nat1000 (by omega)), cpow (by decide) (by decide) (pow_big (by omega)), ⟨by decide, by decide⟩, m0, ?_⟩
    exact fin_id (k _ _ (Int.emod_nonneg _ (by omega)) (Int.emod_lt_of_pos _ m0) ⟨x0, x1, x2 + 1, rfl, h0, h1, h1', by omega, by omega⟩)
/-- numbers of up to twenty-five digits -/
def Num (r : Int) : Prop := -(10 ^ 25) ≤ r ∧ r ≤ 10 ^ 25
theorem Num.lt {r : Int} (h : Num r) : r.natAbs < 2 ^ 90 := by
  obtain ⟨h1, h2⟩ := h
  omega
def sp_l_number (_ : PySem.W.Frag) : ASp := fun ds A Q _ => ∃ (b : Addr) (n : Nat) (l : List D), ds = [.ref b] ∧ A b = some (.lst l) ∧ BagF l n ∧ n ≤ 900000 ∧ ∀ (r : Int) (l' : List D), Num r → BagF l' (n + 2) → Q (.int r) (put A b (.lst l'))
theorem R_l_number {P : Program} {w : World} {K : PySem.W.Frag} {mg : Str → Option Value} {base : Heap} (T : Tx K mg) : FnR P w K mg base CX0 3 (He.ga K "_law_number") (liftSp K (sp_l_number K)) := by
  obtain ⟨fd, F⟩ := T.d_l_number
  refine Av.FunD.AR F sc_l_number (fun ds A Q E h => by obtain ⟨b, n, l, rfl, hb, hB, hn, k⟩ := h; rfl) (fun _ _ _ _ _ _ us hl => match us, hl with | [_], _ => rfl) (fun cdv A0 outer s H0 E0 ds A Q E hr h => ?_)
  obtain ⟨b, n, l, rfl, hb, hB, hn, k⟩ := h
  refine ⟨_, (ass_cons (as_if (at_cmpA cmp_gt (ae_callR (R_l_take T) (hr.mono (by decide)) rfl T.g__law_take T.k__law_take (aa_cons (ae_var (pv 0)) (aa_cons ae_int aa_nil))) ae_int (nomark _)) (ass_one (as_ret (ae_sub (ae_callR (R_l_take T) (hr.mono (by decide)) rfl T.g__law_take T.k__law_take (aa_cons (ae_var (pv 0)) (aa_cons ae_int aa_nil))) ae_int))) ass_nil)
      (ass_one (as_ret (ae_sub (ae_callR (R_l_take T) (hr.mono (by decide)) rfl T.g__law_take T.k__law_take (aa_cons (ae_var (pv 0)) (aa_cons (ae_add false (ae_mul false ae_int (ae_pow ae_int ae_int)) ae_int) aa_nil))) (ae_pow ae_int ae_int))))), ?_⟩
  simp only [↓RD, RU, aStart, wipeA, putFA, toP, toPs, scDs, valD_nil, valD_cons, putM_eq, mergeD_eq, keysOk, aHandle, endsAA, putAA, starSp, put_same, put_put, inV_nil, inV_str, cxK, atI_0, atI_1, atI_2, atI_3, ixN_30, ixN_31, ixN_32, List.map, List.replicate, List.length_cons, List.length_nil, List.nil_append, List.cons_append, List.append_nil, Nat.reduceSub, Nat.reduceAdd, List.getElem?_cons_zero, List.getElem?_cons_succ, List.set_cons_zero, List.set_cons_succ, List.cons.injEq, Option.some.injEq, V.int.injEq, V.str.injEq, V.bl.injEq, D.int.injEq, D.str.injEq, D.bl.injEq, D.ref.injEq, D.tup.injEq, D.lst.injEq, D.ty.injEq, AO.lst.injEq, AO.dct.injEq, AO.ins.injEq, Prod.mk.injEq, exists_eq_left, exists_eq_left', exists_eq_right, exists_eq_right', exists_and_left, exists_and_right, true_and, and_true, and_self, if_true, if_false, Bool.false_eq_true, Bool.true_eq_false, eq_self, reduceCtorEq, false_and, and_false, and_assoc, Int.reduceToNat, Int.reducePow, Int.reduceMul, Int.reduceAdd, Int.reduceNeg, Int.reduceSub, String.reduceEq, String.reduceNe, ne_eq, not_false_eq_true, not_true_eq_false, decide_false, decide_true, Bool.not_false, Bool.not_true, Bool.or_false, Bool.false_or, Bool.or_true, Bool.true_or, Bool.and_true, Bool.true_and, Bool.and_self, Bool.and_false, Bool.false_and, exists_eq', exists_eq, exists_const, false_or, or_false, or_self, List.all_cons, List.all_nil, List.any_cons, List.any_nil, Nat.reduceLeDiff, exists_false, List.map_nil, List.map_cons, Option.map_some, Option.isSome_some, Option.isSome_none, Option.getD_some, Option.getD_none, implies_true, List.foldl_cons, List.foldl_nil, forall_const, ofS_eq, Int.reduceLT, Int.reduceLE, Nat.reduceLT, isO_obj, isO_int, dctD_dct]
  refine ⟨b, _, n, l, rfl, hb, hB, by decide, by decide, by omega, fun r l1 r0 r1 hB1 => ?_⟩
  simp only [↓RD, RU, aStart, wipeA, putFA, toP, toPs, scDs, valD_nil, valD_cons, putM_eq, mergeD_eq, keysOk, aHandle, endsAA, putAA, starSp, put_same, put_put, inV_nil, inV_str, cxK, atI_0, atI_1, atI_2, atI_3, ixN_30, ixN_31, ixN_32, List.map, List.replicate, List.length_cons, List.length_nil, List.nil_append, List.cons_append, List.append_nil, Nat.reduceSub, Nat.reduceAdd, List.getElem?_cons_zero, List.getElem?_cons_succ, List.set_cons_zero, List.set_cons_succ, List.cons.injEq, Option.some.injEq, V.int.injEq, V.str.injEq, V.bl.injEq, D.int.injEq, D.str.injEq, D.bl.injEq, D.ref.injEq, D.tup.injEq, D.lst.injEq, D.ty.injEq, AO.lst.injEq, AO.dct.injEq, AO.ins.injEq, Prod.mk.injEq, exists_eq_left, exists_eq_left', exists_eq_right, exists_eq_right', exists_and_left, exists_and_right, true_and, and_true, and_self, if_true, if_false, Bool.false_eq_true, Bool.true_eq_false, eq_self, reduceCtorEq, false_and, and_false, and_assoc, Int.reduceToNat, Int.reducePow, Int.reduceMul, Int.reduceAdd, Int.reduceNeg, Int.reduceSub, String.reduceEq, String.reduceNe, ne_eq, not_false_eq_true, not_true_eq_false, decide_false, decide_true, Bool.not_false, Bool.not_true, Bool.or_false, Bool.false_or, Bool.or_true, Bool.true_or, Bool.and_true, Bool.true_and, Bool.and_self, Bool.and_false, Bool.false_and, exists_eq', exists_eq, exists_const, false_or, or_false, or_self, List.all_cons, List.all_nil, List.any_cons, List.any_nil, Nat.reduceLeDiff, exists_false, List.map_nil, List.map_cons, Option.map_some, Option.isSome_some, Option.isSome_none, Option.getD_some, Option.getD_none, implies_true, List.foldl_cons, List.foldl_nil, forall_const, ofS_eq, Int.reduceLT, Int.reduceLE, Nat.reduceLT, isO_obj, isO_int, dctD_dct]
  refine ite_dec (fun g => ?_) (fun g => ?_)
  · refine ⟨b, _, n + 1, l1, rfl, put_same, hB1, by decide, by decide, by omega, fun r2 l2 s0 s1 hB2 => ?_⟩
    simp only [↓RD, RU, aStart, wipeA, putFA, toP, toPs, scDs, valD_nil, valD_cons, putM_eq, mergeD_eq, keysOk, aHandle, endsAA, putAA, starSp, put_same, put_put, inV_nil, inV_str, cxK, atI_0, atI_1, atI_2, atI_3, ixN_30, ixN_31, ixN_32, List.map, List.replicate, List.length_cons, List.length_nil, List.nil_append, List.cons_append, List.append_nil, Nat.reduceSub, Nat.reduceAdd, List.getElem?_cons_zero, List.getElem?_cons_succ, List.set_cons_zero, List.set_cons_succ, List.cons.injEq, Option.some.injEq, V.int.injEq, V.str.injEq, V.bl.injEq, D.int.injEq, D.str.injEq, D.bl.injEq, D.ref.injEq, D.tup.injEq, D.lst.injEq, D.ty.injEq, AO.lst.injEq, AO.dct.injEq, AO.ins.injEq, Prod.mk.injEq, exists_eq_left, exists_eq_left', exists_eq_right, exists_eq_right', exists_and_left, exists_and_right, true_and, and_true, and_self, if_true, if_false, Bool.false_eq_true, Bool.true_eq_false, eq_self, reduceCtorEq, false_and, and_false, and_assoc, Int.reduceToNat, Int.reducePow, Int.reduceMul, Int.reduceAdd, Int.reduceNeg, Int.reduceSub, String.reduceEq, String.reduceNe, ne_eq, not_false_eq_true, not_true_eq_false, decide_false, decide_true, Bool.not_false, Bool.not_true, Bool.or_false, Bool.false_or, Bool.or_true, Bool.true_or, Bool.and_true, Bool.true_and, Bool.and_self, Bool.and_false, Bool.false_and, exists_eq', exists_eq, exists_const, false_or, or_false, or_self, List.all_cons, List.all_nil, List.any_cons, List.any_nil, Nat.reduceLeDiff, exists_false, List.map_nil, List.map_cons, Option.map_some, Option.isSome_some, Option.isSome_none, Option.getD_some, Option.getD_none, implies_true, List.foldl_cons, List.foldl_nil, forall_const, ofS_eq, Int.reduceLT, Int.reduceLE, Nat.reduceLT, isO_obj, isO_int, dctD_dct]
    exact fin_id (k _ _ ⟨by omega, by omega⟩ hB2)
  · refine ⟨cpow (by decide) (by decide) (by decide), cmulW (by decide) (by decide), ?_⟩
    refine ⟨b, _, n + 1, l1, rfl, put_same, hB1, by decide, by decide, by omega, fun r2 l2 s0 s1 hB2 => ?_⟩
    simp only [↓RD, RU, aStart, wipeA, putFA, toP, toPs, scDs, valD_nil, valD_cons, putM_eq, mergeD_eq, keysOk, aHandle, endsAA, putAA, starSp, put_same, put_put, inV_nil, inV_str, cxK, atI_0, atI_1, atI_2, atI_3, ixN_30, ixN_31, ixN_32, List.map, List.replicate, List.length_cons, List.length_nil, List.nil_append, List.cons_append, List.append_nil, Nat.reduceSub, Nat.reduceAdd, List.getElem?_cons_zero, List.getElem?_cons_succ, List.set_cons_zero, List.set_cons_succ, List.cons.injEq, Option.some.injEq, V.int.injEq, V.str.injEq, V.bl.injEq, D.int.injEq, D.str.injEq, D.bl.injEq, D.ref.injEq, D.tup.injEq, D.lst.injEq, D.ty.injEq, AO.lst.injEq, AO.dct.injEq, AO.ins.injEq, Prod.mk.injEq, exists_eq_left, exists_eq_left', exists_eq_right, exists_eq_right', exists_and_left, exists_and_right, true_and, and_true, and_self, if_true, if_false, Bool.false_eq_true, Bool.true_eq_false, eq_self, reduceCtorEq, false_and, and_false, and_assoc, Int.reduceToNat, Int.reducePow, Int.reduceMul, Int.reduceAdd, Int.reduceNeg, Int.reduceSub, String.reduceEq, String.reduceNe, ne_eq, not_false_eq_true, not_true_eq_false, decide_false, decide_true, Bool.not_false, Bool.not_true, Bool.or_false, Bool.false_or, Bool.or_true, Bool.true_or, Bool.and_true, Bool.true_and, Bool.and_self, Bool.and_false, Bool.false_and, exists_eq', exists_eq, exists_const, false_or, or_false, or_self, List.all_cons, List.all_nil, List.any_cons, List.any_nil, Nat.reduceLeDiff, exists_false, List.map_nil, List.map_cons, Option.map_some, Option.isSome_some, Option.isSome_none, Option.getD_some, Option.getD_none, implies_true, List.foldl_cons, List.foldl_nil, forall_const, ofS_eq, Int.reduceLT, Int.reduceLE, Nat.reduceLT, isO_obj, isO_int, dctD_dct]
    refine ⟨cpow (by decide) (by decide) (by decide), fin_id (k _ _ ⟨by omega, by omega⟩ hB2)⟩

end V06

set_option Elab.async false
set_option linter.all false
set_option maxRecDepth 100000
set_option maxHeartbeats 4000000
namespace V06
open PySem PySem.Spec PyProof.Rows L2 My Av
theorem sym_r : ∀ n : Fin 1000, isSym (("r" : Str) ++ (toString (n.val : Int) : Str)) = true := by decide +kernel
theorem sym_rn {r : Int} (h0 : 0 ≤ r) (h1 : r < 1000) : isSym (("r" : Str) ++ (toString r : Str)) = true := by
  have := sym_r ⟨r.toNat, by omega⟩
  have e : ((r.toNat : Nat) : Int) = r := by omega
  simp only [e] at this
  exact this
theorem sym_rlen : ∀ n : Fin 1000, (("r" : Str) ++ (toString (n.val : Int) : Str)).length ≤ 1000 := by decide +kernel
theorem sym_rl {r : Int} (h0 : 0 ≤ r) (h1 : r < 1000) : (("r" : Str) ++ (toString r : Str)).length ≤ 1000 := by
  have := sym_rlen ⟨r.toNat, by omega⟩
  have e : ((r.toNat : Nat) : Int) = r := by omega
  simp only [e] at this
  exact this
theorem len_app (a b : Str) : (a ++ b).length = a.length + b.length := by
  unfold Str.length
  show (a.cps ++ b.cps).size = _
  rw [Array.size_append]
/-- a text of letters -/
def Ltr (t : Str) (i : Nat) : Prop := t.length = i ∧ ∀ c ∈ t.cps.toList, c ∈ LET.cps.toList
theorem ltr_sym {t : Str} {i : Nat} (h : Ltr t i) (h0 : 0 < i) (h3 : i ≤ 3) : isSym t = true := by
  have e1 : isName t = true := by
    unfold isName madeOf
    rw [Bool.and_eq_true, Bool.and_eq_true]
    refine ⟨decide_eq_true (by rw [h.1]; exact h3), ?_, ?_⟩
    · have : t ≠ "" := fun z => by
        have e := h.1
        rw [z] at e
        have : (("" : Str)).length = 0 := by decide
        omega
      simp [this]
    · rw [List.all_eq_true]
      intro c hc
      exact decide_eq_true (h.2 c hc)
  unfold isSym
  rw [e1]; rfl
theorem ltr_add {t : Str} {i c : Nat} (h : Ltr t i) (hc : c ∈ LET.cps.toList) : Ltr (t ++ (⟨#[c]⟩ : Str)) (i + 1) := by
  refine ⟨?_, fun x hx => ?_⟩
  · have e := h.1
    unfold Str.length at *
    show (t.cps ++ #[c]).size = i + 1
    rw [Array.size_append, e]; rfl
  · have : x ∈ (t.cps ++ #[c]).toList := hx
    rw [Array.toList_append, List.mem_append] at this
    rcases this with z | z
    · exact h.2 x z
    · rw [List.mem_singleton.mp z]; exact hc
theorem atI_mem {α : Type} {xs : List α} {r : Int} (h0 : 0 ≤ r) (h1 : r < xs.length) : ∃ v, atI xs r = some v ∧ v ∈ xs := by
  have hl : r.toNat < xs.length := by omega
  refine ⟨xs[r.toNat], ?_, List.getElem_mem _⟩
  unfold atI ixN
  rw [if_pos h0, if_pos h1]
  simp [hl]
def sp_l_symbol (_ : PySem.W.Frag) : ASp := fun ds A Q _ => ∃ (b : Addr) (n : Nat) (l : List D), ds = [.ref b] ∧ A b = some (.lst l) ∧ BagF l n ∧ n ≤ 900000 ∧ ∀ (s : Str) (l' : List D), isSym s = true → s.length ≤ 1000 → BagF l' (n + 8) → Q (.str s) (put A b (.lst l'))
theorem R_l_symbol {P : Program} {w : World} {K : PySem.W.Frag} {mg : Str → Option Value} {base : Heap} (T : Tx K mg) : FnR P w K mg base CX0 3 (He.ga K "_law_symbol") (liftSp K (sp_l_symbol K)) := by
  obtain ⟨fd, F⟩ := T.d_l_symbol
  refine Av.FunD.AR F sc_l_symbol (fun ds A Q E h => by obtain ⟨b, n, l, rfl, hb, hB, hn, k⟩ := h; rfl) (fun _ _ _ _ _ _ us hl => match us, hl with | [_], _ => rfl) (fun cdv A0 outer s H0 E0 ds A Q E hr h => ?_)
  obtain ⟨b, n, l, rfl, hb, hB, hn, k⟩ := h
  refine ⟨_, (ass_cons (as_if (at_cmpA (cmp_eq hr.units) (ae_callR (R_l_take T) (hr.mono (by decide)) rfl T.g__law_take T.k__law_take (aa_cons (ae_var (pv 0)) (aa_cons ae_int aa_nil))) ae_int (nomark _)) (ass_one (as_ret (ae_add false ae_str (ae_callTy ca_str (by rfl) T.n_str (by decide +kernel) (aa_cons (ae_callR (R_l_take T) (hr.mono (by decide)) rfl T.g__law_take T.k__law_take (aa_cons (ae_var (pv 0)) (aa_cons (ae_subs (ae_lst false (aa_cons ae_int (aa_cons ae_int (aa_cons ae_int aa_nil)))) (ae_callR (R_l_take T) (hr.mono (by decide)) rfl T.g__law_take T.k__law_take (aa_cons (ae_var (pv 0)) (aa_cons ae_int aa_nil))) (fun _ _ => rfl)) aa_nil))) aa_nil))))) ass_nil)
      (ass_cons (as_set (i := 1) sc_l_symbol.nd rfl (by first | exact Or.inl rfl | exact Or.inr rfl) ae_str)
      (ass_cons (as_par2 (i := 2) (j := 3) (by rfl) sc_l_symbol.nd rfl rfl (by decide) rfl rfl (aa_cons (ae_subs (ae_lst false (aa_cons ae_int (aa_cons ae_int aa_nil))) (ae_callR (R_l_take T) (hr.mono (by decide)) rfl T.g__law_take T.k__law_take (aa_cons (ae_var (pv 0)) (aa_cons ae_int aa_nil))) (fun _ _ => rfl)) (aa_cons ae_str aa_nil)) (by rfl))
      (ass_cons (as_for (p := (.nm 4)) PassesOwn.never rfl (ai_range1 rfl T.n_range (aa_cons (ae_add false ae_int (ae_callR (R_l_take T) (hr.mono (by decide)) rfl T.g__law_take T.k__law_take (aa_cons (ae_var (pv 0)) (aa_cons ae_int aa_nil)))) aa_nil)) (pg_name (i := 4) sc_l_symbol.nd rfl (by first | exact Or.inl rfl | exact Or.inr rfl)) (ass_one (as_set (i := 3) sc_l_symbol.nd rfl (by first | exact Or.inl rfl | exact Or.inr rfl) (ae_add false (ae_var (pv 3)) (ae_subs (ae_var (pv 1)) (ae_callR (R_l_take T) (hr.mono (by decide)) rfl T.g__law_take T.k__law_take (aa_cons (ae_var (pv 0)) (aa_cons (ae_var (pv 2)) aa_nil))) (fun _ _ => rfl))))))
      (ass_one (as_ret (ae_var (pv 3)))))))), ?_⟩
  simp only [↓RD, RU, aStart, wipeA, putFA, toP, toPs, scDs, valD_nil, valD_cons, putM_eq, mergeD_eq, keysOk, aHandle, endsAA, putAA, starSp, put_same, put_put, inV_nil, inV_str, cxK, atI_0, atI_1, atI_2, atI_3, ixN_30, ixN_31, ixN_32, List.map, List.replicate, List.length_cons, List.length_nil, List.nil_append, List.cons_append, List.append_nil, Nat.reduceSub, Nat.reduceAdd, List.getElem?_cons_zero, List.getElem?_cons_succ, List.set_cons_zero, List.set_cons_succ, List.cons.injEq, Option.some.injEq, V.int.injEq, V.str.injEq, V.bl.injEq, D.int.injEq, D.str.injEq, D.bl.injEq, D.ref.injEq, D.tup.injEq, D.lst.injEq, D.ty.injEq, AO.lst.injEq, AO.dct.injEq, AO.ins.injEq, Prod.mk.injEq, exists_eq_left, exists_eq_left', exists_eq_right, exists_eq_right', exists_and_left, exists_and_right, true_and, and_true, and_self, if_true, if_false, Bool.false_eq_true, Bool.true_eq_false, eq_self, reduceCtorEq, false_and, and_false, and_assoc, Int.reduceToNat, Int.reducePow, Int.reduceMul, Int.reduceAdd, Int.reduceNeg, Int.reduceSub, String.reduceEq, String.reduceNe, ne_eq, not_false_eq_true, not_true_eq_false, decide_false, decide_true, Bool.not_false, Bool.not_true, Bool.or_false, Bool.false_or, Bool.or_true, Bool.true_or, Bool.and_true, Bool.true_and, Bool.and_self, Bool.and_false, Bool.false_and, exists_eq', exists_eq, exists_const, false_or, or_false, or_self, List.all_cons, List.all_nil, List.any_cons, List.any_nil, Nat.reduceLeDiff, exists_false, List.map_nil, List.map_cons, Option.map_some, Option.isSome_some, Option.isSome_none, Option.getD_some, Option.getD_none, implies_true, List.foldl_cons, List.foldl_nil, forall_const, ofS_eq, Int.reduceLT, Int.reduceLE, Nat.reduceLT, isO_obj, isO_int, dctD_dct]
  refine ⟨b, _, n, l, rfl, hb, hB, by decide, by decide, by omega, fun r l1 r0 r1 hB1 => ?_⟩
  simp only [↓RD, RU, aStart, wipeA, putFA, toP, toPs, scDs, valD_nil, valD_cons, putM_eq, mergeD_eq, keysOk, aHandle, endsAA, putAA, starSp, put_same, put_put, inV_nil, inV_str, cxK, atI_0, atI_1, atI_2, atI_3, ixN_30, ixN_31, ixN_32, List.map, List.replicate, List.length_cons, List.length_nil, List.nil_append, List.cons_append, List.append_nil, Nat.reduceSub, Nat.reduceAdd, List.getElem?_cons_zero, List.getElem?_cons_succ, List.set_cons_zero, List.set_cons_succ, List.cons.injEq, Option.some.injEq, V.int.injEq, V.str.injEq, V.bl.injEq, D.int.injEq, D.str.injEq, D.bl.injEq, D.ref.injEq, D.tup.injEq, D.lst.injEq, D.ty.injEq, AO.lst.injEq, AO.dct.injEq, AO.ins.injEq, Prod.mk.injEq, exists_eq_left, exists_eq_left', exists_eq_right, exists_eq_right', exists_and_left, exists_and_right, true_and, and_true, and_self, if_true, if_false, Bool.false_eq_true, Bool.true_eq_false, eq_self, reduceCtorEq, false_and, and_false, and_assoc, Int.reduceToNat, Int.reducePow, Int.reduceMul, Int.reduceAdd, Int.reduceNeg, Int.reduceSub, String.reduceEq, String.reduceNe, ne_eq, not_false_eq_true, not_true_eq_false, decide_false, decide_true, Bool.not_false, Bool.not_true, Bool.or_false, Bool.false_or, Bool.or_true, Bool.true_or, Bool.and_true, Bool.true_and, Bool.and_self, Bool.and_false, Bool.false_and, exists_eq', exists_eq, exists_const, false_or, or_false, or_self, List.all_cons, List.all_nil, List.any_cons, List.any_nil, Nat.reduceLeDiff, exists_false, List.map_nil, List.map_cons, Option.map_some, Option.isSome_some, Option.isSome_none, Option.getD_some, Option.getD_none, implies_true, List.foldl_cons, List.foldl_nil, forall_const, ofS_eq, Int.reduceLT, Int.reduceLE, Nat.reduceLT, isO_obj, isO_int, dctD_dct]
  refine ite_dec (fun g => ?_) (fun g => ?_)
  · refine ⟨b, _, n + 1, l1, rfl, put_same, hB1, by decide, by decide, by omega, fun r2 l2 s0 s1 hB2 => ?_⟩
    obtain rfl | rfl | rfl : r2 = 0 ∨ r2 = 1 ∨ r2 = 2 := by omega
    all_goals
      simp only [↓RD, RU, aStart, wipeA, putFA, toP, toPs, scDs, valD_nil, valD_cons, putM_eq, mergeD_eq, keysOk, aHandle, endsAA, putAA, starSp, put_same, put_put, inV_nil, inV_str, cxK, atI_0, atI_1, atI_2, atI_3, ixN_30, ixN_31, ixN_32, List.map, List.replicate, List.length_cons, List.length_nil, List.nil_append, List.cons_append, List.append_nil, Nat.reduceSub, Nat.reduceAdd, List.getElem?_cons_zero, List.getElem?_cons_succ, List.set_cons_zero, List.set_cons_succ, List.cons.injEq, Option.some.injEq, V.int.injEq, V.str.injEq, V.bl.injEq, D.int.injEq, D.str.injEq, D.bl.injEq, D.ref.injEq, D.tup.injEq, D.lst.injEq, D.ty.injEq, AO.lst.injEq, AO.dct.injEq, AO.ins.injEq, Prod.mk.injEq, exists_eq_left, exists_eq_left', exists_eq_right, exists_eq_right', exists_and_left, exists_and_right, true_and, and_true, and_self, if_true, if_false, Bool.false_eq_true, Bool.true_eq_false, eq_self, reduceCtorEq, false_and, and_false, and_assoc, Int.reduceToNat, Int.reducePow, Int.reduceMul, Int.reduceAdd, Int.reduceNeg, Int.reduceSub, String.reduceEq, String.reduceNe, ne_eq, not_false_eq_true, not_true_eq_false, decide_false, decide_true, Bool.not_false, Bool.not_true, Bool.or_false, Bool.false_or, Bool.or_true, Bool.true_or, Bool.and_true, Bool.true_and, Bool.and_self, Bool.and_false, Bool.false_and, exists_eq', exists_eq, exists_const, false_or, or_false, or_self, List.all_cons, List.all_nil, List.any_cons, List.any_nil, Nat.reduceLeDiff, exists_false, List.map_nil, List.map_cons, Option.map_some, Option.isSome_some, Option.isSome_none, Option.getD_some, Option.getD_none, implies_true, List.foldl_cons, List.foldl_nil, forall_const, ofS_eq, Int.reduceLT, Int.reduceLE, Nat.reduceLT, isO_obj, isO_int, dctD_dct]
      refine ⟨b, _, n + 1 + 1, l2, rfl, put_same, hB2, by decide, by decide, by omega, fun r3 l3 t0 t1 hB3 => ?_⟩
      simp only [↓RD, RU, aStart, wipeA, putFA, toP, toPs, scDs, valD_nil, valD_cons, putM_eq, mergeD_eq, keysOk, aHandle, endsAA, putAA, starSp, put_same, put_put, inV_nil, inV_str, cxK, atI_0, atI_1, atI_2, atI_3, ixN_30, ixN_31, ixN_32, List.map, List.replicate, List.length_cons, List.length_nil, List.nil_append, List.cons_append, List.append_nil, Nat.reduceSub, Nat.reduceAdd, List.getElem?_cons_zero, List.getElem?_cons_succ, List.set_cons_zero, List.set_cons_succ, List.cons.injEq, Option.some.injEq, V.int.injEq, V.str.injEq, V.bl.injEq, D.int.injEq, D.str.injEq, D.bl.injEq, D.ref.injEq, D.tup.injEq, D.lst.injEq, D.ty.injEq, AO.lst.injEq, AO.dct.injEq, AO.ins.injEq, Prod.mk.injEq, exists_eq_left, exists_eq_left', exists_eq_right, exists_eq_right', exists_and_left, exists_and_right, true_and, and_true, and_self, if_true, if_false, Bool.false_eq_true, Bool.true_eq_false, eq_self, reduceCtorEq, false_and, and_false, and_assoc, Int.reduceToNat, Int.reducePow, Int.reduceMul, Int.reduceAdd, Int.reduceNeg, Int.reduceSub, String.reduceEq, String.reduceNe, ne_eq, not_false_eq_true, not_true_eq_false, decide_false, decide_true, Bool.not_false, Bool.not_true, Bool.or_false, Bool.false_or, Bool.or_true, Bool.true_or, Bool.and_true, Bool.true_and, Bool.and_self, Bool.and_false, Bool.false_and, exists_eq', exists_eq, exists_const, false_or, or_false, or_self, List.all_cons, List.all_nil, List.any_cons, List.any_nil, Nat.reduceLeDiff, exists_false, List.map_nil, List.map_cons, Option.map_some, Option.isSome_some, Option.isSome_none, Option.getD_some, Option.getD_none, implies_true, List.foldl_cons, List.foldl_nil, forall_const, ofS_eq, Int.reduceLT, Int.reduceLE, Nat.reduceLT, isO_obj, isO_int, dctD_dct]
      refine ⟨Nat.lt_of_lt_of_le (log_lt (k := 20) (by decide) (by omega)) (by decide), ?_⟩
      refine ⟨le1000 (by rw [← len_app]; exact sym_rl t0 (by omega)), ?_⟩
      exact fin_id (k _ _ (sym_rn t0 (by omega)) (sym_rl t0 (by omega)) (hB3.up (by omega)))
  · refine ⟨b, _, n + 1, l1, rfl, put_same, hB1, by decide, by decide, by omega, fun r2 l2 s0 s1 hB2 => ?_⟩
    have hm : ∃ m : Int, atI [D.int 2, D.int 26] r2 = some (.int m) ∧ 0 < m ∧ m ≤ 26 := by
      obtain rfl | rfl : r2 = 0 ∨ r2 = 1 := by omega
      · exact ⟨2, rfl, by decide, by decide⟩
      · exact ⟨26, rfl, by decide, by decide⟩
    obtain ⟨m, hm, m0, m1⟩ := hm
    simp only [↓RD, RU, aStart, wipeA, putFA, toP, toPs, scDs, valD_nil, valD_cons, putM_eq, mergeD_eq, keysOk, aHandle, endsAA, putAA, starSp, put_same, put_put, inV_nil, inV_str, cxK, atI_0, atI_1, atI_2, atI_3, ixN_30, ixN_31, ixN_32, List.map, List.replicate, List.length_cons, List.length_nil, List.nil_append, List.cons_append, List.append_nil, Nat.reduceSub, Nat.reduceAdd, List.getElem?_cons_zero, List.getElem?_cons_succ, List.set_cons_zero, List.set_cons_succ, List.cons.injEq, Option.some.injEq, V.int.injEq, V.str.injEq, V.bl.injEq, D.int.injEq, D.str.injEq, D.bl.injEq, D.ref.injEq, D.tup.injEq, D.lst.injEq, D.ty.injEq, AO.lst.injEq, AO.dct.injEq, AO.ins.injEq, Prod.mk.injEq, exists_eq_left, exists_eq_left', exists_eq_right, exists_eq_right', exists_and_left, exists_and_right, true_and, and_true, and_self, if_true, if_false, Bool.false_eq_true, Bool.true_eq_false, eq_self, reduceCtorEq, false_and, and_false, and_assoc, Int.reduceToNat, Int.reducePow, Int.reduceMul, Int.reduceAdd, Int.reduceNeg, Int.reduceSub, String.reduceEq, String.reduceNe, ne_eq, not_false_eq_true, not_true_eq_false, decide_false, decide_true, Bool.not_false, Bool.not_true, Bool.or_false, Bool.false_or, Bool.or_true, Bool.true_or, Bool.and_true, Bool.true_and, Bool.and_self, Bool.and_false, Bool.false_and, exists_eq', exists_eq, exists_const, false_or, or_false, or_self, List.all_cons, List.all_nil, List.any_cons, List.any_nil, Nat.reduceLeDiff, exists_false, List.map_nil, List.map_cons, Option.map_some, Option.isSome_some, Option.isSome_none, Option.getD_some, Option.getD_none, implies_true, List.foldl_cons, List.foldl_nil, forall_const, ofS_eq, Int.reduceLT, Int.reduceLE, Nat.reduceLT, isO_obj, isO_int, dctD_dct, hm]
    refine ⟨b, _, n + 1 + 1, l2, rfl, put_same, hB2, by decide, by decide, by omega, fun r3 l3 t0 t1 hB3 => ?_⟩
    simp only [↓RD, RU, aStart, wipeA, putFA, toP, toPs, scDs, valD_nil, valD_cons, putM_eq, mergeD_eq, keysOk, aHandle, endsAA, putAA, starSp, put_same, put_put, inV_nil, inV_str, cxK, atI_0, atI_1, atI_2, atI_3, ixN_30, ixN_31, ixN_32, List.map, List.replicate, List.length_cons, List.length_nil, List.nil_append, List.cons_append, List.append_nil, Nat.reduceSub, Nat.reduceAdd, List.getElem?_cons_zero, List.getElem?_cons_succ, List.set_cons_zero, List.set_cons_succ, List.cons.injEq, Option.some.injEq, V.int.injEq, V.str.injEq, V.bl.injEq, D.int.injEq, D.str.injEq, D.bl.injEq, D.ref.injEq, D.tup.injEq, D.lst.injEq, D.ty.injEq, AO.lst.injEq, AO.dct.injEq, AO.ins.injEq, Prod.mk.injEq, exists_eq_left, exists_eq_left', exists_eq_right, exists_eq_right', exists_and_left, exists_and_right, true_and, and_true, and_self, if_true, if_false, Bool.false_eq_true, Bool.true_eq_false, eq_self, reduceCtorEq, false_and, and_false, and_assoc, Int.reduceToNat, Int.reducePow, Int.reduceMul, Int.reduceAdd, Int.reduceNeg, Int.reduceSub, String.reduceEq, String.reduceNe, ne_eq, not_false_eq_true, not_true_eq_false, decide_false, decide_true, Bool.not_false, Bool.not_true, Bool.or_false, Bool.false_or, Bool.or_true, Bool.true_or, Bool.and_true, Bool.true_and, Bool.and_self, Bool.and_false, Bool.false_and, exists_eq', exists_eq, exists_const, false_or, or_false, or_self, List.all_cons, List.all_nil, List.any_cons, List.any_nil, Nat.reduceLeDiff, exists_false, List.map_nil, List.map_cons, Option.map_some, Option.isSome_some, Option.isSome_none, Option.getD_some, Option.getD_none, implies_true, List.foldl_cons, List.foldl_nil, forall_const, ofS_eq, Int.reduceLT, Int.reduceLE, Nat.reduceLT, isO_obj, isO_int, dctD_dct]
    obtain ⟨N, hN, eN⟩ : ∃ N : Nat, N ≤ 2 ∧ r3 = (N : Int) := ⟨r3.toNat, by omega, by omega⟩
    subst eN
    refine ⟨by omega, by omega, ?_⟩
    have eT : (1 + (N : Int)).toNat = N + 1 := by omega
    rw [eT]
    refine loop_for (fun i δ A' => ∃ t v4 l', A' = put A b (.lst l') ∧ BagF l' (n + 3 + i) ∧ Ltr t i ∧ δ = [some (.ref b), some (.str LET), some (.int m), some (.str t), v4]) ⟨"", _, l3, rfl, hB3, ⟨rfl, fun c hc => by cases hc⟩, rfl⟩ (fun _ _ _ _ _ => trivial) (fun i y δ A' R hy hP hR => ?_) (fun δ A' hP => ?_)
    · obtain ⟨t, v4, l', rfl, hB', ht, rfl⟩ := hP
      obtain ⟨hi, rfl⟩ := rngL_get hy
      simp only [↓RD, RU, aStart, wipeA, putFA, toP, toPs, scDs, valD_nil, valD_cons, putM_eq, mergeD_eq, keysOk, aHandle, endsAA, putAA, starSp, put_same, put_put, inV_nil, inV_str, cxK, atI_0, atI_1, atI_2, atI_3, ixN_30, ixN_31, ixN_32, List.map, List.replicate, List.length_cons, List.length_nil, List.nil_append, List.cons_append, List.append_nil, Nat.reduceSub, Nat.reduceAdd, List.getElem?_cons_zero, List.getElem?_cons_succ, List.set_cons_zero, List.set_cons_succ, List.cons.injEq, Option.some.injEq, V.int.injEq, V.str.injEq, V.bl.injEq, D.int.injEq, D.str.injEq, D.bl.injEq, D.ref.injEq, D.tup.injEq, D.lst.injEq, D.ty.injEq, AO.lst.injEq, AO.dct.injEq, AO.ins.injEq, Prod.mk.injEq, exists_eq_left, exists_eq_left', exists_eq_right, exists_eq_right', exists_and_left, exists_and_right, true_and, and_true, and_self, if_true, if_false, Bool.false_eq_true, Bool.true_eq_false, eq_self, reduceCtorEq, false_and, and_false, and_assoc, Int.reduceToNat, Int.reducePow, Int.reduceMul, Int.reduceAdd, Int.reduceNeg, Int.reduceSub, String.reduceEq, String.reduceNe, ne_eq, not_false_eq_true, not_true_eq_false, decide_false, decide_true, Bool.not_false, Bool.not_true, Bool.or_false, Bool.false_or, Bool.or_true, Bool.true_or, Bool.and_true, Bool.true_and, Bool.and_self, Bool.and_false, Bool.false_and, exists_eq', exists_eq, exists_const, false_or, or_false, or_self, List.all_cons, List.all_nil, List.any_cons, List.any_nil, Nat.reduceLeDiff, exists_false, List.map_nil, List.map_cons, Option.map_some, Option.isSome_some, Option.isSome_none, Option.getD_some, Option.getD_none, implies_true, List.foldl_cons, List.foldl_nil, forall_const, ofS_eq, Int.reduceLT, Int.reduceLE, Nat.reduceLT, isO_obj, isO_int, dctD_dct]
      refine ⟨b, _, n + 3 + i, l', rfl, put_same, hB', m0, by omega, by omega, fun r4 l4 u0 u1 hB4 => ?_⟩
      obtain ⟨c, hc, hcm⟩ := atI_mem (xs := LET.cps.toList) (r := r4) u0 (by have : LET.cps.toList.length = 26 := by decide
                                                                             omega)
      simp only [↓RD, RU, aStart, wipeA, putFA, toP, toPs, scDs, valD_nil, valD_cons, putM_eq, mergeD_eq, keysOk, aHandle, endsAA, putAA, starSp, put_same, put_put, inV_nil, inV_str, cxK, atI_0, atI_1, atI_2, atI_3, ixN_30, ixN_31, ixN_32, List.map, List.replicate, List.length_cons, List.length_nil, List.nil_append, List.cons_append, List.append_nil, Nat.reduceSub, Nat.reduceAdd, List.getElem?_cons_zero, List.getElem?_cons_succ, List.set_cons_zero, List.set_cons_succ, List.cons.injEq, Option.some.injEq, V.int.injEq, V.str.injEq, V.bl.injEq, D.int.injEq, D.str.injEq, D.bl.injEq, D.ref.injEq, D.tup.injEq, D.lst.injEq, D.ty.injEq, AO.lst.injEq, AO.dct.injEq, AO.ins.injEq, Prod.mk.injEq, exists_eq_left, exists_eq_left', exists_eq_right, exists_eq_right', exists_and_left, exists_and_right, true_and, and_true, and_self, if_true, if_false, Bool.false_eq_true, Bool.true_eq_false, eq_self, reduceCtorEq, false_and, and_false, and_assoc, Int.reduceToNat, Int.reducePow, Int.reduceMul, Int.reduceAdd, Int.reduceNeg, Int.reduceSub, String.reduceEq, String.reduceNe, ne_eq, not_false_eq_true, not_true_eq_false, decide_false, decide_true, Bool.not_false, Bool.not_true, Bool.or_false, Bool.false_or, Bool.or_true, Bool.true_or, Bool.and_true, Bool.true_and, Bool.and_self, Bool.and_false, Bool.false_and, exists_eq', exists_eq, exists_const, false_or, or_false, or_self, List.all_cons, List.all_nil, List.any_cons, List.any_nil, Nat.reduceLeDiff, exists_false, List.map_nil, List.map_cons, Option.map_some, Option.isSome_some, Option.isSome_none, Option.getD_some, Option.getD_none, implies_true, List.foldl_cons, List.foldl_nil, forall_const, ofS_eq, Int.reduceLT, Int.reduceLE, Nat.reduceLT, isO_obj, isO_int, dctD_dct, show (LET.length ≤ sizeLine) = True from eq_true (by decide), hc]
      refine ⟨le1000 (by rw [ht.1]; show i + 1 ≤ 1000; omega), ?_⟩
      exact hR _ _ ⟨_, _, _, rfl, hB4, ltr_add ht hcm, rfl⟩
    · obtain ⟨t, v4, l', rfl, hB', ht, rfl⟩ := hP
      rw [rngL_len] at hB' ht
      simp only [↓RD, RU, aStart, wipeA, putFA, toP, toPs, scDs, valD_nil, valD_cons, putM_eq, mergeD_eq, keysOk, aHandle, endsAA, putAA, starSp, put_same, put_put, inV_nil, inV_str, cxK, atI_0, atI_1, atI_2, atI_3, ixN_30, ixN_31, ixN_32, List.map, List.replicate, List.length_cons, List.length_nil, List.nil_append, List.cons_append, List.append_nil, Nat.reduceSub, Nat.reduceAdd, List.getElem?_cons_zero, List.getElem?_cons_succ, List.set_cons_zero, List.set_cons_succ, List.cons.injEq, Option.some.injEq, V.int.injEq, V.str.injEq, V.bl.injEq, D.int.injEq, D.str.injEq, D.bl.injEq, D.ref.injEq, D.tup.injEq, D.lst.injEq, D.ty.injEq, AO.lst.injEq, AO.dct.injEq, AO.ins.injEq, Prod.mk.injEq, exists_eq_left, exists_eq_left', exists_eq_right, exists_eq_right', exists_and_left, exists_and_right, true_and, and_true, and_self, if_true, if_false, Bool.false_eq_true, Bool.true_eq_false, eq_self, reduceCtorEq, false_and, and_false, and_assoc, Int.reduceToNat, Int.reducePow, Int.reduceMul, Int.reduceAdd, Int.reduceNeg, Int.reduceSub, String.reduceEq, String.reduceNe, ne_eq, not_false_eq_true, not_true_eq_false, decide_false, decide_true, Bool.not_false, Bool.not_true, Bool.or_false, Bool.false_or, Bool.or_true, Bool.true_or, Bool.and_true, Bool.true_and, Bool.and_self, Bool.and_false, Bool.false_and, exists_eq', exists_eq, exists_const, false_or, or_false, or_self, List.all_cons, List.all_nil, List.any_cons, List.any_nil, Nat.reduceLeDiff, exists_false, List.map_nil, List.map_cons, Option.map_some, Option.isSome_some, Option.isSome_none, Option.getD_some, Option.getD_none, implies_true, List.foldl_cons, List.foldl_nil, forall_const, ofS_eq, Int.reduceLT, Int.reduceLE, Nat.reduceLT, isO_obj, isO_int, dctD_dct]
      exact fin_id (k _ _ (ltr_sym ht (by omega) (by omega)) (by rw [ht.1]; omega) (hB'.up (by omega)))

end V06

set_option Elab.async false
set_option linter.all false
set_option maxRecDepth 100000
set_option maxHeartbeats 4000000
namespace V06
open PySem PySem.Spec PyProof.Rows L2 My Av
/-- pairs as the law draws them -/
structure Prs (ps : SL) (m : Nat) : Prop where
  sy : Syms ps
  sz : ps.length < m
  nb : ∀ p ∈ ps, Num p.2
theorem prD_len {ps : SL} : (prD ps).length = ps.length := by simp [prD]
theorem atI_pr {ps : SL} {r : Int} (h0 : 0 ≤ r) (h1 : r < ps.length) : ∃ p ∈ ps, atI (prD ps) r = some (.tup [.str p.1, .int p.2]) := by
  obtain ⟨v, hv, hm⟩ := atI_mem (xs := prD ps) h0 (by rw [prD_len]; exact h1)
  obtain ⟨p, hp, rfl⟩ := List.mem_map.mp hm
  exact ⟨p, hp, hv⟩
theorem prD_snoc (ps : SL) (s : Str) (n : Int) : prD ps ++ [.tup [.str s, .int n]] = prD (ps ++ [(s, n)]) := by simp [prD]

def sp_l_pairs (_ : PySem.W.Frag) : ASp := fun ds A Q _ => ∃ (b : Addr) (m n : Nat) (l : List D), ds = [.ref b, .int (m : Int)] ∧ 0 < m ∧ m ≤ 30 ∧ A b = some (.lst l) ∧ BagF l n ∧ n ≤ 800000 ∧ ∀ (ps : SL) (l' : List D), Prs ps m → BagF l' (n + 500) → Q (.lst (prD ps)) (put A b (.lst l'))
theorem R_l_pairs {P : Program} {w : World} {K : PySem.W.Frag} {mg : Str → Option Value} {base : Heap} (T : Tx K mg) : FnR P w K mg base CX0 5 (He.ga K "_law_pairs") (liftSp K (sp_l_pairs K)) := by
  obtain ⟨fd, F⟩ := T.d_l_pairs
  refine Av.FunD.AR F sc_l_pairs (fun ds A Q E h => by obtain ⟨b, m, n, l, rfl, hm, hm30, hb, hB, hn, k⟩ := h; rfl) (fun _ _ _ _ _ _ us hl => match us, hl with | [_, _], _ => rfl) (fun cdv A0 outer s H0 E0 ds A Q E hr h => ?_)
  obtain ⟨b, m, n, l, rfl, hm, hm30, hb, hB, hn, k⟩ := h
  refine ⟨_, (ass_cons (as_set (i := 2) sc_l_pairs.nd rfl (by first | exact Or.inl rfl | exact Or.inr rfl) (ae_lst true aa_nil))
      (ass_cons (as_for (p := (.nm 3)) PassesOwn.never rfl (ai_range1 rfl T.n_range (aa_cons (ae_callR (R_l_take T) (hr.mono (by decide)) rfl T.g__law_take T.k__law_take (aa_cons (ae_var (pv 0)) (aa_cons (ae_var (pv 1)) aa_nil))) aa_nil)) (pg_name (i := 3) sc_l_pairs.nd rfl (by first | exact Or.inl rfl | exact Or.inr rfl)) (ass_cons (as_set (i := 4) sc_l_pairs.nd rfl (by first | exact Or.inl rfl | exact Or.inr rfl) (ae_callR (R_l_symbol T) (hr.mono (by decide)) rfl T.g__law_symbol T.k__law_symbol (aa_cons (ae_var (pv 0)) aa_nil)))
      (ass_cons (as_if (PW.pt (aw_and (at_cmpA (cmp_ne hr.units) (ae_var (pv 2)) (ae_lst false aa_nil) (nomark _)) (aw_and1 (at_cmpA (cmp_eq hr.units) (ae_callR (R_l_take T) (hr.mono (by decide)) rfl T.g__law_take T.k__law_take (aa_cons (ae_var (pv 0)) (aa_cons ae_int aa_nil))) ae_int (nomark _))))) (ass_one (as_set (i := 4) sc_l_pairs.nd rfl (by first | exact Or.inl rfl | exact Or.inr rfl) (ae_subs (ae_subs (ae_var (pv 2)) (ae_callR (R_l_take T) (hr.mono (by decide)) rfl T.g__law_take T.k__law_take (aa_cons (ae_var (pv 0)) (aa_cons (ae_callB ca_len (by rfl) T.n_len (by decide +kernel) (aa_cons (ae_var (pv 2)) aa_nil)) aa_nil))) (fun _ _ => rfl)) ae_int (fun _ _ => rfl)))) ass_nil)
      (ass_one (as_expr (ae_bm PySem.F.slot_list_append PySem.F.type_list_append ma_append (ae_var (pv 2)) (aa_cons (ae_tup (aa_cons (ae_var (pv 4)) (aa_cons (ae_callR (R_l_number T) (hr.mono (by decide)) rfl T.g__law_number T.k__law_number (aa_cons (ae_var (pv 0)) aa_nil)) aa_nil))) aa_nil)))))))
      (ass_one (as_ret (ae_frz (ae_var (pv 2))))))), ?_⟩
  simp only [↓RD, RU, aStart, wipeA, putFA, toP, toPs, scDs, valD_nil, valD_cons, putM_eq, mergeD_eq, keysOk, aHandle, endsAA, putAA, starSp, put_same, put_put, inV_nil, inV_str, cxK, atI_0, atI_1, atI_2, atI_3, ixN_30, ixN_31, ixN_32, List.map, List.replicate, List.length_cons, List.length_nil, List.nil_append, List.cons_append, List.append_nil, Nat.reduceSub, Nat.reduceAdd, List.getElem?_cons_zero, List.getElem?_cons_succ, List.set_cons_zero, List.set_cons_succ, List.cons.injEq, Option.some.injEq, V.int.injEq, V.str.injEq, V.bl.injEq, D.int.injEq, D.str.injEq, D.bl.injEq, D.ref.injEq, D.tup.injEq, D.lst.injEq, D.ty.injEq, AO.lst.injEq, AO.dct.injEq, AO.ins.injEq, Prod.mk.injEq, exists_eq_left, exists_eq_left', exists_eq_right, exists_eq_right', exists_and_left, exists_and_right, true_and, and_true, and_self, if_true, if_false, Bool.false_eq_true, Bool.true_eq_false, eq_self, reduceCtorEq, false_and, and_false, and_assoc, Int.reduceToNat, Int.reducePow, Int.reduceMul, Int.reduceAdd, Int.reduceNeg, Int.reduceSub, String.reduceEq, String.reduceNe, ne_eq, not_false_eq_true, not_true_eq_false, decide_false, decide_true, Bool.not_false, Bool.not_true, Bool.or_false, Bool.false_or, Bool.or_true, Bool.true_or, Bool.and_true, Bool.true_and, Bool.and_self, Bool.and_false, Bool.false_and, exists_eq', exists_eq, exists_const, false_or, or_false, or_self, List.all_cons, List.all_nil, List.any_cons, List.any_nil, Nat.reduceLeDiff, exists_false, List.map_nil, List.map_cons, Option.map_some, Option.isSome_some, Option.isSome_none, Option.getD_some, Option.getD_none, implies_true, List.foldl_cons, List.foldl_nil, forall_const, ofS_eq, Int.reduceLT, Int.reduceLE, Nat.reduceLT, isO_obj, isO_int, dctD_dct]
  intro p hp
  have hbp : b ≠ p := ne_live hb hp
  refine ⟨b, _, n, l, rfl, by rw [put_ne hbp]; exact hb, hB, by omega, by omega, by omega, fun r l1 r0 r1 hB1 => ?_⟩
  simp only [↓RD, RU, aStart, wipeA, putFA, toP, toPs, scDs, valD_nil, valD_cons, putM_eq, mergeD_eq, keysOk, aHandle, endsAA, putAA, starSp, put_same, put_put, inV_nil, inV_str, cxK, atI_0, atI_1, atI_2, atI_3, ixN_30, ixN_31, ixN_32, List.map, List.replicate, List.length_cons, List.length_nil, List.nil_append, List.cons_append, List.append_nil, Nat.reduceSub, Nat.reduceAdd, List.getElem?_cons_zero, List.getElem?_cons_succ, List.set_cons_zero, List.set_cons_succ, List.cons.injEq, Option.some.injEq, V.int.injEq, V.str.injEq, V.bl.injEq, D.int.injEq, D.str.injEq, D.bl.injEq, D.ref.injEq, D.tup.injEq, D.lst.injEq, D.ty.injEq, AO.lst.injEq, AO.dct.injEq, AO.ins.injEq, Prod.mk.injEq, exists_eq_left, exists_eq_left', exists_eq_right, exists_eq_right', exists_and_left, exists_and_right, true_and, and_true, and_self, if_true, if_false, Bool.false_eq_true, Bool.true_eq_false, eq_self, reduceCtorEq, false_and, and_false, and_assoc, Int.reduceToNat, Int.reducePow, Int.reduceMul, Int.reduceAdd, Int.reduceNeg, Int.reduceSub, String.reduceEq, String.reduceNe, ne_eq, not_false_eq_true, not_true_eq_false, decide_false, decide_true, Bool.not_false, Bool.not_true, Bool.or_false, Bool.false_or, Bool.or_true, Bool.true_or, Bool.and_true, Bool.true_and, Bool.and_self, Bool.and_false, Bool.false_and, exists_eq', exists_eq, exists_const, false_or, or_false, or_self, List.all_cons, List.all_nil, List.any_cons, List.any_nil, Nat.reduceLeDiff, exists_false, List.map_nil, List.map_cons, Option.map_some, Option.isSome_some, Option.isSome_none, Option.getD_some, Option.getD_none, implies_true, List.foldl_cons, List.foldl_nil, forall_const, ofS_eq, Int.reduceLT, Int.reduceLE, Nat.reduceLT, isO_obj, isO_int, dctD_dct]
  obtain ⟨N, rfl⟩ : ∃ N : Nat, r = (N : Int) := ⟨r.toNat, by omega⟩
  refine ⟨by omega, by omega, ?_⟩
  rw [Int.toNat_natCast]
  have hNm : N < m := by omega
  refine loop_for (fun i δ A' => ∃ ps v3 v4 l', A' = put (put A p (.lst (prD ps))) b (.lst l') ∧ BagF l' (n + 1 + 16 * i) ∧ ps.length = i ∧ Syms ps ∧ (∀ q ∈ ps, Num q.2) ∧ δ = [some (.ref b), some (.int (m : Int)), some (.ref p), v3, v4]) ⟨[], _, _, l1, rfl, hB1, rfl, (fun s hs => by cases hs), (fun q hq => by cases hq), rfl⟩ (fun _ _ _ _ _ => trivial) (fun i y δ A' R hy hP hR => ?_) (fun δ A' hP => ?_)
  · obtain ⟨ps, v3, v4, l', rfl, hB', hlen, hsy, hnb, rfl⟩ := hP
    obtain ⟨hi, rfl⟩ := rngL_get hy
    simp only [↓RD, RU, aStart, wipeA, putFA, toP, toPs, scDs, valD_nil, valD_cons, putM_eq, mergeD_eq, keysOk, aHandle, endsAA, putAA, starSp, put_same, put_put, inV_nil, inV_str, cxK, atI_0, atI_1, atI_2, atI_3, ixN_30, ixN_31, ixN_32, List.map, List.replicate, List.length_cons, List.length_nil, List.nil_append, List.cons_append, List.append_nil, Nat.reduceSub, Nat.reduceAdd, List.getElem?_cons_zero, List.getElem?_cons_succ, List.set_cons_zero, List.set_cons_succ, List.cons.injEq, Option.some.injEq, V.int.injEq, V.str.injEq, V.bl.injEq, D.int.injEq, D.str.injEq, D.bl.injEq, D.ref.injEq, D.tup.injEq, D.lst.injEq, D.ty.injEq, AO.lst.injEq, AO.dct.injEq, AO.ins.injEq, Prod.mk.injEq, exists_eq_left, exists_eq_left', exists_eq_right, exists_eq_right', exists_and_left, exists_and_right, true_and, and_true, and_self, if_true, if_false, Bool.false_eq_true, Bool.true_eq_false, eq_self, reduceCtorEq, false_and, and_false, and_assoc, Int.reduceToNat, Int.reducePow, Int.reduceMul, Int.reduceAdd, Int.reduceNeg, Int.reduceSub, String.reduceEq, String.reduceNe, ne_eq, not_false_eq_true, not_true_eq_false, decide_false, decide_true, Bool.not_false, Bool.not_true, Bool.or_false, Bool.false_or, Bool.or_true, Bool.true_or, Bool.and_true, Bool.true_and, Bool.and_self, Bool.and_false, Bool.false_and, exists_eq', exists_eq, exists_const, false_or, or_false, or_self, List.all_cons, List.all_nil, List.any_cons, List.any_nil, Nat.reduceLeDiff, exists_false, List.map_nil, List.map_cons, Option.map_some, Option.isSome_some, Option.isSome_none, Option.getD_some, Option.getD_none, implies_true, List.foldl_cons, List.foldl_nil, forall_const, ofS_eq, Int.reduceLT, Int.reduceLE, Nat.reduceLT, isO_obj, isO_int, dctD_dct]
    refine ⟨b, _, l', rfl, put_same, hB', by omega, fun s l2 hs hsl hB2 => ?_⟩
    rw [put_put]
    have epb : ∀ (o : AO), put (put A p (.lst (prD ps))) b o p = some (.lst (prD ps)) := fun o => by rw [put_ne hbp.symm, put_same]
    simp only [bindK_nm, List.set_cons_succ, List.set_cons_zero]
    refine seq_cut (fun δ A' => ∃ s l3, isSym s = true ∧ s.length ≤ 1000 ∧ A' = put (put A p (.lst (prD ps))) b (.lst l3) ∧ BagF l3 (n + 1 + 16 * i + 10) ∧ δ = [some (.ref b), some (.int (m : Int)), some (.ref p), some (.int (0 + (i : Int))), some (.str s)]) (fun R2 hR2 => ?_) (fun δ A' hP => ?_)
    · simp only [↓RD, RU, aStart, wipeA, putFA, toP, toPs, scDs, valD_nil, valD_cons, putM_eq, mergeD_eq, keysOk, aHandle, endsAA, putAA, starSp, put_same, put_put, inV_nil, inV_str, cxK, atI_0, atI_1, atI_2, atI_3, ixN_30, ixN_31, ixN_32, List.map, List.replicate, List.length_cons, List.length_nil, List.nil_append, List.cons_append, List.append_nil, Nat.reduceSub, Nat.reduceAdd, List.getElem?_cons_zero, List.getElem?_cons_succ, List.set_cons_zero, List.set_cons_succ, List.cons.injEq, Option.some.injEq, V.int.injEq, V.str.injEq, V.bl.injEq, D.int.injEq, D.str.injEq, D.bl.injEq, D.ref.injEq, D.tup.injEq, D.lst.injEq, D.ty.injEq, AO.lst.injEq, AO.dct.injEq, AO.ins.injEq, Prod.mk.injEq, exists_eq_left, exists_eq_left', exists_eq_right, exists_eq_right', exists_and_left, exists_and_right, true_and, and_true, and_self, if_true, if_false, Bool.false_eq_true, Bool.true_eq_false, eq_self, reduceCtorEq, false_and, and_false, and_assoc, Int.reduceToNat, Int.reducePow, Int.reduceMul, Int.reduceAdd, Int.reduceNeg, Int.reduceSub, String.reduceEq, String.reduceNe, ne_eq, not_false_eq_true, not_true_eq_false, decide_false, decide_true, Bool.not_false, Bool.not_true, Bool.or_false, Bool.false_or, Bool.or_true, Bool.true_or, Bool.and_true, Bool.true_and, Bool.and_self, Bool.and_false, Bool.false_and, exists_eq', exists_eq, exists_const, false_or, or_false, or_self, List.all_cons, List.all_nil, List.any_cons, List.any_nil, Nat.reduceLeDiff, exists_false, List.map_nil, List.map_cons, Option.map_some, Option.isSome_some, Option.isSome_none, Option.getD_some, Option.getD_none, implies_true, List.foldl_cons, List.foldl_nil, forall_const, ofS_eq, Int.reduceLT, Int.reduceLE, Nat.reduceLT, isO_obj, isO_int, dctD_dct, epb, toPs_pr, topP_lst, eqv_nil, depth_lst]
      refine ⟨by decide, ?_⟩
      split
      · rename_i hne
        have hne : ps ≠ [] := by simpa using hne
        have hpos : 0 < ps.length := List.length_pos_iff.mpr hne
        refine ⟨b, _, n + 1 + 16 * i + 8, l2, rfl, put_same, hB2, by decide, by decide, by omega, fun r l3 r0 r1 hB3 => ?_⟩
        simp only [↓RD, RU, aStart, wipeA, putFA, toP, toPs, scDs, valD_nil, valD_cons, putM_eq, mergeD_eq, keysOk, aHandle, endsAA, putAA, starSp, put_same, put_put, inV_nil, inV_str, cxK, atI_0, atI_1, atI_2, atI_3, ixN_30, ixN_31, ixN_32, List.map, List.replicate, List.length_cons, List.length_nil, List.nil_append, List.cons_append, List.append_nil, Nat.reduceSub, Nat.reduceAdd, List.getElem?_cons_zero, List.getElem?_cons_succ, List.set_cons_zero, List.set_cons_succ, List.cons.injEq, Option.some.injEq, V.int.injEq, V.str.injEq, V.bl.injEq, D.int.injEq, D.str.injEq, D.bl.injEq, D.ref.injEq, D.tup.injEq, D.lst.injEq, D.ty.injEq, AO.lst.injEq, AO.dct.injEq, AO.ins.injEq, Prod.mk.injEq, exists_eq_left, exists_eq_left', exists_eq_right, exists_eq_right', exists_and_left, exists_and_right, true_and, and_true, and_self, if_true, if_false, Bool.false_eq_true, Bool.true_eq_false, eq_self, reduceCtorEq, false_and, and_false, and_assoc, Int.reduceToNat, Int.reducePow, Int.reduceMul, Int.reduceAdd, Int.reduceNeg, Int.reduceSub, String.reduceEq, String.reduceNe, ne_eq, not_false_eq_true, not_true_eq_false, decide_false, decide_true, Bool.not_false, Bool.not_true, Bool.or_false, Bool.false_or, Bool.or_true, Bool.true_or, Bool.and_true, Bool.true_and, Bool.and_self, Bool.and_false, Bool.false_and, exists_eq', exists_eq, exists_const, false_or, or_false, or_self, List.all_cons, List.all_nil, List.any_cons, List.any_nil, Nat.reduceLeDiff, exists_false, List.map_nil, List.map_cons, Option.map_some, Option.isSome_some, Option.isSome_none, Option.getD_some, Option.getD_none, implies_true, List.foldl_cons, List.foldl_nil, forall_const, ofS_eq, Int.reduceLT, Int.reduceLE, Nat.reduceLT, isO_obj, isO_int, dctD_dct]
        refine ite_dec (fun g => ?_) (fun g => ?_)
        · simp only [↓RD, RU, aStart, wipeA, putFA, toP, toPs, scDs, valD_nil, valD_cons, putM_eq, mergeD_eq, keysOk, aHandle, endsAA, putAA, starSp, put_same, put_put, inV_nil, inV_str, cxK, atI_0, atI_1, atI_2, atI_3, ixN_30, ixN_31, ixN_32, List.map, List.replicate, List.length_cons, List.length_nil, List.nil_append, List.cons_append, List.append_nil, Nat.reduceSub, Nat.reduceAdd, List.getElem?_cons_zero, List.getElem?_cons_succ, List.set_cons_zero, List.set_cons_succ, List.cons.injEq, Option.some.injEq, V.int.injEq, V.str.injEq, V.bl.injEq, D.int.injEq, D.str.injEq, D.bl.injEq, D.ref.injEq, D.tup.injEq, D.lst.injEq, D.ty.injEq, AO.lst.injEq, AO.dct.injEq, AO.ins.injEq, Prod.mk.injEq, exists_eq_left, exists_eq_left', exists_eq_right, exists_eq_right', exists_and_left, exists_and_right, true_and, and_true, and_self, if_true, if_false, Bool.false_eq_true, Bool.true_eq_false, eq_self, reduceCtorEq, false_and, and_false, and_assoc, Int.reduceToNat, Int.reducePow, Int.reduceMul, Int.reduceAdd, Int.reduceNeg, Int.reduceSub, String.reduceEq, String.reduceNe, ne_eq, not_false_eq_true, not_true_eq_false, decide_false, decide_true, Bool.not_false, Bool.not_true, Bool.or_false, Bool.false_or, Bool.or_true, Bool.true_or, Bool.and_true, Bool.true_and, Bool.and_self, Bool.and_false, Bool.false_and, exists_eq', exists_eq, exists_const, false_or, or_false, or_self, List.all_cons, List.all_nil, List.any_cons, List.any_nil, Nat.reduceLeDiff, exists_false, List.map_nil, List.map_cons, Option.map_some, Option.isSome_some, Option.isSome_none, Option.getD_some, Option.getD_none, implies_true, List.foldl_cons, List.foldl_nil, forall_const, ofS_eq, Int.reduceLT, Int.reduceLE, Nat.reduceLT, isO_obj, isO_int, dctD_dct, epb]
          refine ⟨b, _, n + 1 + 16 * i + 9, l3, rfl, put_same, hB3, by rw [prD_len]; omega, by rw [prD_len]; omega, by omega, fun r2 l4 s0 s1 hB4 => ?_⟩
          rw [prD_len] at s1
          obtain ⟨q, hq, hv⟩ := atI_pr s0 s1
          simp only [↓RD, RU, aStart, wipeA, putFA, toP, toPs, scDs, valD_nil, valD_cons, putM_eq, mergeD_eq, keysOk, aHandle, endsAA, putAA, starSp, put_same, put_put, inV_nil, inV_str, cxK, atI_0, atI_1, atI_2, atI_3, ixN_30, ixN_31, ixN_32, List.map, List.replicate, List.length_cons, List.length_nil, List.nil_append, List.cons_append, List.append_nil, Nat.reduceSub, Nat.reduceAdd, List.getElem?_cons_zero, List.getElem?_cons_succ, List.set_cons_zero, List.set_cons_succ, List.cons.injEq, Option.some.injEq, V.int.injEq, V.str.injEq, V.bl.injEq, D.int.injEq, D.str.injEq, D.bl.injEq, D.ref.injEq, D.tup.injEq, D.lst.injEq, D.ty.injEq, AO.lst.injEq, AO.dct.injEq, AO.ins.injEq, Prod.mk.injEq, exists_eq_left, exists_eq_left', exists_eq_right, exists_eq_right', exists_and_left, exists_and_right, true_and, and_true, and_self, if_true, if_false, Bool.false_eq_true, Bool.true_eq_false, eq_self, reduceCtorEq, false_and, and_false, and_assoc, Int.reduceToNat, Int.reducePow, Int.reduceMul, Int.reduceAdd, Int.reduceNeg, Int.reduceSub, String.reduceEq, String.reduceNe, ne_eq, not_false_eq_true, not_true_eq_false, decide_false, decide_true, Bool.not_false, Bool.not_true, Bool.or_false, Bool.false_or, Bool.or_true, Bool.true_or, Bool.and_true, Bool.true_and, Bool.and_self, Bool.and_false, Bool.false_and, exists_eq', exists_eq, exists_const, false_or, or_false, or_self, List.all_cons, List.all_nil, List.any_cons, List.any_nil, Nat.reduceLeDiff, exists_false, List.map_nil, List.map_cons, Option.map_some, Option.isSome_some, Option.isSome_none, Option.getD_some, Option.getD_none, implies_true, List.foldl_cons, List.foldl_nil, forall_const, ofS_eq, Int.reduceLT, Int.reduceLE, Nat.reduceLT, isO_obj, isO_int, dctD_dct, epb, hv]
          have h1 := hsy q.1 (List.mem_map_of_mem hq)
          exact hR2 _ _ ⟨q.1, l4, h1.1, h1.2, rfl, hB4, rfl⟩
        · exact hR2 _ _ ⟨s, l3, hs, hsl, rfl, hB3.up (by omega), rfl⟩
      · exact hR2 _ _ ⟨s, l2, hs, hsl, rfl, hB2.up (by omega), rfl⟩
    · obtain ⟨s, l3, hs, hsl, rfl, hB3, rfl⟩ := hP
      simp only [↓RD, RU, aStart, wipeA, putFA, toP, toPs, scDs, valD_nil, valD_cons, putM_eq, mergeD_eq, keysOk, aHandle, endsAA, putAA, starSp, put_same, put_put, inV_nil, inV_str, cxK, atI_0, atI_1, atI_2, atI_3, ixN_30, ixN_31, ixN_32, List.map, List.replicate, List.length_cons, List.length_nil, List.nil_append, List.cons_append, List.append_nil, Nat.reduceSub, Nat.reduceAdd, List.getElem?_cons_zero, List.getElem?_cons_succ, List.set_cons_zero, List.set_cons_succ, List.cons.injEq, Option.some.injEq, V.int.injEq, V.str.injEq, V.bl.injEq, D.int.injEq, D.str.injEq, D.bl.injEq, D.ref.injEq, D.tup.injEq, D.lst.injEq, D.ty.injEq, AO.lst.injEq, AO.dct.injEq, AO.ins.injEq, Prod.mk.injEq, exists_eq_left, exists_eq_left', exists_eq_right, exists_eq_right', exists_and_left, exists_and_right, true_and, and_true, and_self, if_true, if_false, Bool.false_eq_true, Bool.true_eq_false, eq_self, reduceCtorEq, false_and, and_false, and_assoc, Int.reduceToNat, Int.reducePow, Int.reduceMul, Int.reduceAdd, Int.reduceNeg, Int.reduceSub, String.reduceEq, String.reduceNe, ne_eq, not_false_eq_true, not_true_eq_false, decide_false, decide_true, Bool.not_false, Bool.not_true, Bool.or_false, Bool.false_or, Bool.or_true, Bool.true_or, Bool.and_true, Bool.true_and, Bool.and_self, Bool.and_false, Bool.false_and, exists_eq', exists_eq, exists_const, false_or, or_false, or_self, List.all_cons, List.all_nil, List.any_cons, List.any_nil, Nat.reduceLeDiff, exists_false, List.map_nil, List.map_cons, Option.map_some, Option.isSome_some, Option.isSome_none, Option.getD_some, Option.getD_none, implies_true, List.foldl_cons, List.foldl_nil, forall_const, ofS_eq, Int.reduceLT, Int.reduceLE, Nat.reduceLT, isO_obj, isO_int, dctD_dct, epb]
      refine ⟨b, _, l3, rfl, put_same, hB3, by omega, fun r l4 hr4 hB4 => ?_⟩
      simp only [↓RD, RU, aStart, wipeA, putFA, toP, toPs, scDs, valD_nil, valD_cons, putM_eq, mergeD_eq, keysOk, aHandle, endsAA, putAA, starSp, put_same, put_put, inV_nil, inV_str, cxK, atI_0, atI_1, atI_2, atI_3, ixN_30, ixN_31, ixN_32, List.map, List.replicate, List.length_cons, List.length_nil, List.nil_append, List.cons_append, List.append_nil, Nat.reduceSub, Nat.reduceAdd, List.getElem?_cons_zero, List.getElem?_cons_succ, List.set_cons_zero, List.set_cons_succ, List.cons.injEq, Option.some.injEq, V.int.injEq, V.str.injEq, V.bl.injEq, D.int.injEq, D.str.injEq, D.bl.injEq, D.ref.injEq, D.tup.injEq, D.lst.injEq, D.ty.injEq, AO.lst.injEq, AO.dct.injEq, AO.ins.injEq, Prod.mk.injEq, exists_eq_left, exists_eq_left', exists_eq_right, exists_eq_right', exists_and_left, exists_and_right, true_and, and_true, and_self, if_true, if_false, Bool.false_eq_true, Bool.true_eq_false, eq_self, reduceCtorEq, false_and, and_false, and_assoc, Int.reduceToNat, Int.reducePow, Int.reduceMul, Int.reduceAdd, Int.reduceNeg, Int.reduceSub, String.reduceEq, String.reduceNe, ne_eq, not_false_eq_true, not_true_eq_false, decide_false, decide_true, Bool.not_false, Bool.not_true, Bool.or_false, Bool.false_or, Bool.or_true, Bool.true_or, Bool.and_true, Bool.true_and, Bool.and_self, Bool.and_false, Bool.false_and, exists_eq', exists_eq, exists_const, false_or, or_false, or_self, List.all_cons, List.all_nil, List.any_cons, List.any_nil, Nat.reduceLeDiff, exists_false, List.map_nil, List.map_cons, Option.map_some, Option.isSome_some, Option.isSome_none, Option.getD_some, Option.getD_none, implies_true, List.foldl_cons, List.foldl_nil, forall_const, ofS_eq, Int.reduceLT, Int.reduceLE, Nat.reduceLT, isO_obj, isO_int, dctD_dct, epb]
      refine ⟨by rw [prD_len]; exact Nat.lt_of_lt_of_le (show ps.length < 64 by omega) (by decide), ?_⟩
      rw [prD_snoc, put_comm hbp, put_put]
      refine hR _ _ ⟨ps ++ [(s, r)], _, _, l4, rfl, hB4.up (by omega), by rw [List.length_append, hlen]; rfl, ?_, ?_, rfl⟩
      · intro x hx
        have : x ∈ keys ps ++ [s] := by simpa [keys] using hx
        rcases List.mem_append.mp this with z | z
        · exact hsy x z
        · rw [List.mem_singleton.mp z]; exact ⟨hs, hsl⟩
      · intro x hx
        rcases List.mem_append.mp hx with z | z
        · exact hnb x z
        · rw [List.mem_singleton.mp z]; exact hr4
  · obtain ⟨ps, v3, v4, l', rfl, hB', hlen, hsy, hnb, rfl⟩ := hP
    rw [rngL_len] at hB' hlen
    have epb : ∀ (o : AO), put (put A p (.lst (prD ps))) b o p = some (.lst (prD ps)) := fun o => by rw [put_ne hbp.symm, put_same]
    simp only [↓RD, RU, aStart, wipeA, putFA, toP, toPs, scDs, valD_nil, valD_cons, putM_eq, mergeD_eq, keysOk, aHandle, endsAA, putAA, starSp, put_same, put_put, inV_nil, inV_str, cxK, atI_0, atI_1, atI_2, atI_3, ixN_30, ixN_31, ixN_32, List.map, List.replicate, List.length_cons, List.length_nil, List.nil_append, List.cons_append, List.append_nil, Nat.reduceSub, Nat.reduceAdd, List.getElem?_cons_zero, List.getElem?_cons_succ, List.set_cons_zero, List.set_cons_succ, List.cons.injEq, Option.some.injEq, V.int.injEq, V.str.injEq, V.bl.injEq, D.int.injEq, D.str.injEq, D.bl.injEq, D.ref.injEq, D.tup.injEq, D.lst.injEq, D.ty.injEq, AO.lst.injEq, AO.dct.injEq, AO.ins.injEq, Prod.mk.injEq, exists_eq_left, exists_eq_left', exists_eq_right, exists_eq_right', exists_and_left, exists_and_right, true_and, and_true, and_self, if_true, if_false, Bool.false_eq_true, Bool.true_eq_false, eq_self, reduceCtorEq, false_and, and_false, and_assoc, Int.reduceToNat, Int.reducePow, Int.reduceMul, Int.reduceAdd, Int.reduceNeg, Int.reduceSub, String.reduceEq, String.reduceNe, ne_eq, not_false_eq_true, not_true_eq_false, decide_false, decide_true, Bool.not_false, Bool.not_true, Bool.or_false, Bool.false_or, Bool.or_true, Bool.true_or, Bool.and_true, Bool.true_and, Bool.and_self, Bool.and_false, Bool.false_and, exists_eq', exists_eq, exists_const, false_or, or_false, or_self, List.all_cons, List.all_nil, List.any_cons, List.any_nil, Nat.reduceLeDiff, exists_false, List.map_nil, List.map_cons, Option.map_some, Option.isSome_some, Option.isSome_none, Option.getD_some, Option.getD_none, implies_true, List.foldl_cons, List.foldl_nil, forall_const, ofS_eq, Int.reduceLT, Int.reduceLE, Nat.reduceLT, isO_obj, isO_int, dctD_dct, epb]
    have ed : del (put (put A p (.lst (prD ps))) b (.lst l')) p = put A b (.lst l') := by
      rw [del_put_ne hbp, del_put hp]
    rw [ed]
    exact fin_id (k ps l' ⟨hsy, by omega, hnb⟩ (hB'.up (by omega)))
def sp_l_sums (_ : PySem.W.Frag) : ASp := fun ds A Q _ => ∃ (d : D) (ps : SL), ds = [d] ∧ asL A d = some (prD ps) ∧ ps.length < 64 ∧ Q (.dct (kvD (sums ps))) A
theorem R_l_sums {P : Program} {w : World} {K : PySem.W.Frag} {mg : Str → Option Value} {base : Heap} (T : Tx K mg) : FnR P w K mg base CX0 1 (He.ga K "_law_sums") (liftSp K (sp_l_sums K)) := by
  obtain ⟨fd, F⟩ := T.d_l_sums
  refine Av.FunD.AR F sc_l_sums (fun ds A Q E h => by obtain ⟨d, ps, rfl, hd, hz, k⟩ := h; rfl) (fun _ _ _ _ _ _ us hl => match us, hl with | [_], _ => rfl) (fun cdv A0 outer s H0 E0 ds A Q E hr h => ?_)
  obtain ⟨d, ps, rfl, hd, hz, k⟩ := h
  refine ⟨_, (ass_cons (as_set (i := 1) sc_l_sums.nd rfl (by first | exact Or.inl rfl | exact Or.inr rfl) (ae_dnew true pe_dnewK))
      (ass_cons (as_for (p := (.tp [(.nm 2), (.nm 3)])) PassesOwn.never rfl (ai_list (ae_var (pv 0))) (pg_tup (n := 2) rfl (pgs_cons (pg_name (i := 2) sc_l_sums.nd rfl (by first | exact Or.inl rfl | exact Or.inr rfl)) (pgs_cons (pg_name (i := 3) sc_l_sums.nd rfl (by first | exact Or.inl rfl | exact Or.inr rfl)) pgs_nil))) (ass_one (as_dput (hu_of hr) (ae_var (pv 1)) (ae_var (pv 2)) (ae_add false (ae_dget2 (hu_of hr) (ae_var (pv 1)) (ae_var (pv 2)) ae_int ⟨rfl, rfl, rfl, rfl⟩) (ae_var (pv 3))) rfl)))
      (ass_one (as_ret (ae_frz (ae_var (pv 1))))))), ?_⟩
  simp only [↓RD, RU, aStart, wipeA, putFA, toP, toPs, scDs, valD_nil, valD_cons, putM_eq, mergeD_eq, keysOk, aHandle, endsAA, putAA, starSp, put_same, put_put, inV_nil, inV_str, cxK, atI_0, atI_1, atI_2, atI_3, ixN_30, ixN_31, ixN_32, List.map, List.replicate, List.length_cons, List.length_nil, List.nil_append, List.cons_append, List.append_nil, Nat.reduceSub, Nat.reduceAdd, List.getElem?_cons_zero, List.getElem?_cons_succ, List.set_cons_zero, List.set_cons_succ, List.cons.injEq, Option.some.injEq, V.int.injEq, V.str.injEq, V.bl.injEq, D.int.injEq, D.str.injEq, D.bl.injEq, D.ref.injEq, D.tup.injEq, D.lst.injEq, D.ty.injEq, AO.lst.injEq, AO.dct.injEq, AO.ins.injEq, Prod.mk.injEq, exists_eq_left, exists_eq_left', exists_eq_right, exists_eq_right', exists_and_left, exists_and_right, true_and, and_true, and_self, if_true, if_false, Bool.false_eq_true, Bool.true_eq_false, eq_self, reduceCtorEq, false_and, and_false, and_assoc, Int.reduceToNat, Int.reducePow, Int.reduceMul, Int.reduceAdd, Int.reduceNeg, Int.reduceSub, String.reduceEq, String.reduceNe, ne_eq, not_false_eq_true, not_true_eq_false, decide_false, decide_true, Bool.not_false, Bool.not_true, Bool.or_false, Bool.false_or, Bool.or_true, Bool.true_or, Bool.and_true, Bool.true_and, Bool.and_self, Bool.and_false, Bool.false_and, exists_eq', exists_eq, exists_const, false_or, or_false, or_self, List.all_cons, List.all_nil, List.any_cons, List.any_nil, Nat.reduceLeDiff, exists_false, List.map_nil, List.map_cons, Option.map_some, Option.isSome_some, Option.isSome_none, Option.getD_some, Option.getD_none, implies_true, List.foldl_cons, List.foldl_nil, forall_const, ofS_eq, Int.reduceLT, Int.reduceLE, Nat.reduceLT, isO_obj, isO_int, dctD_dct]
  intro p hp
  simp only [↓RD, RU, aStart, wipeA, putFA, toP, toPs, scDs, valD_nil, valD_cons, putM_eq, mergeD_eq, keysOk, aHandle, endsAA, putAA, starSp, put_same, put_put, inV_nil, inV_str, cxK, atI_0, atI_1, atI_2, atI_3, ixN_30, ixN_31, ixN_32, List.map, List.replicate, List.length_cons, List.length_nil, List.nil_append, List.cons_append, List.append_nil, Nat.reduceSub, Nat.reduceAdd, List.getElem?_cons_zero, List.getElem?_cons_succ, List.set_cons_zero, List.set_cons_succ, List.cons.injEq, Option.some.injEq, V.int.injEq, V.str.injEq, V.bl.injEq, D.int.injEq, D.str.injEq, D.bl.injEq, D.ref.injEq, D.tup.injEq, D.lst.injEq, D.ty.injEq, AO.lst.injEq, AO.dct.injEq, AO.ins.injEq, Prod.mk.injEq, exists_eq_left, exists_eq_left', exists_eq_right, exists_eq_right', exists_and_left, exists_and_right, true_and, and_true, and_self, if_true, if_false, Bool.false_eq_true, Bool.true_eq_false, eq_self, reduceCtorEq, false_and, and_false, and_assoc, Int.reduceToNat, Int.reducePow, Int.reduceMul, Int.reduceAdd, Int.reduceNeg, Int.reduceSub, String.reduceEq, String.reduceNe, ne_eq, not_false_eq_true, not_true_eq_false, decide_false, decide_true, Bool.not_false, Bool.not_true, Bool.or_false, Bool.false_or, Bool.or_true, Bool.true_or, Bool.and_true, Bool.true_and, Bool.and_self, Bool.and_false, Bool.false_and, exists_eq', exists_eq, exists_const, false_or, or_false, or_self, List.all_cons, List.all_nil, List.any_cons, List.any_nil, Nat.reduceLeDiff, exists_false, List.map_nil, List.map_cons, Option.map_some, Option.isSome_some, Option.isSome_none, Option.getD_some, Option.getD_none, implies_true, List.foldl_cons, List.foldl_nil, forall_const, ofS_eq, Int.reduceLT, Int.reduceLE, Nat.reduceLT, isO_obj, isO_int, dctD_dct, asL_put hd hp]
  refine loop_for (fun i δ A' => A' = put A p (.dct (kvD (sums (ps.take i)))) ∧ ∃ v4 v5, δ = [some d, some (.ref p), v4, v5]) ⟨rfl, _, _, rfl⟩ (fun i δ A' _ hP => by rw [hP.1]; exact asL_put hd hp) (fun i y δ A' R hy hP hR => ?_) (fun δ A' hP => ?_)
  · obtain ⟨rfl, v4, v5, rfl⟩ := hP
    unfold prD at hy
    rw [List.getElem?_map] at hy
    cases e : ps[i]? with
    | none => rw [e] at hy; cases hy
    | some q =>
      rw [e] at hy
      cases hy
      obtain ⟨s, n⟩ := q
      simp only [↓RD, RU, aStart, wipeA, putFA, toP, toPs, scDs, valD_nil, valD_cons, putM_eq, mergeD_eq, keysOk, aHandle, endsAA, putAA, starSp, put_same, put_put, inV_nil, inV_str, cxK, atI_0, atI_1, atI_2, atI_3, ixN_30, ixN_31, ixN_32, List.map, List.replicate, List.length_cons, List.length_nil, List.nil_append, List.cons_append, List.append_nil, Nat.reduceSub, Nat.reduceAdd, List.getElem?_cons_zero, List.getElem?_cons_succ, List.set_cons_zero, List.set_cons_succ, List.cons.injEq, Option.some.injEq, V.int.injEq, V.str.injEq, V.bl.injEq, D.int.injEq, D.str.injEq, D.bl.injEq, D.ref.injEq, D.tup.injEq, D.lst.injEq, D.ty.injEq, AO.lst.injEq, AO.dct.injEq, AO.ins.injEq, Prod.mk.injEq, exists_eq_left, exists_eq_left', exists_eq_right, exists_eq_right', exists_and_left, exists_and_right, true_and, and_true, and_self, if_true, if_false, Bool.false_eq_true, Bool.true_eq_false, eq_self, reduceCtorEq, false_and, and_false, and_assoc, Int.reduceToNat, Int.reducePow, Int.reduceMul, Int.reduceAdd, Int.reduceNeg, Int.reduceSub, String.reduceEq, String.reduceNe, ne_eq, not_false_eq_true, not_true_eq_false, decide_false, decide_true, Bool.not_false, Bool.not_true, Bool.or_false, Bool.false_or, Bool.or_true, Bool.true_or, Bool.and_true, Bool.true_and, Bool.and_self, Bool.and_false, Bool.false_and, exists_eq', exists_eq, exists_const, false_or, or_false, or_self, List.all_cons, List.all_nil, List.any_cons, List.any_nil, Nat.reduceLeDiff, exists_false, List.map_nil, List.map_cons, Option.map_some, Option.isSome_some, Option.isSome_none, Option.getD_some, Option.getD_none, implies_true, List.foldl_cons, List.foldl_nil, forall_const, ofS_eq, Int.reduceLT, Int.reduceLE, Nat.reduceLT, isO_obj, isO_int, dctD_dct, getD_kv, putD_kv]
      have hl : (kvD (sums (ps.take i))).length < 64 := by
        rw [kvD_len]
        have := len_sums (ps.take i)
        rw [List.length_take] at this
        omega
      refine ⟨Nat.lt_of_lt_of_le hl (by decide), hR _ _ ⟨?_, _, _, rfl⟩⟩
      rw [take_succ e, sums_snoc]
      rfl
  · obtain ⟨rfl, v4, v5, rfl⟩ := hP
    have e1 : ps.take (prD ps).length = ps := by unfold prD; rw [List.length_map, List.take_length]
    rw [e1]
    simp only [↓RD, RU, aStart, wipeA, putFA, toP, toPs, scDs, valD_nil, valD_cons, putM_eq, mergeD_eq, keysOk, aHandle, endsAA, putAA, starSp, put_same, put_put, inV_nil, inV_str, cxK, atI_0, atI_1, atI_2, atI_3, ixN_30, ixN_31, ixN_32, List.map, List.replicate, List.length_cons, List.length_nil, List.nil_append, List.cons_append, List.append_nil, Nat.reduceSub, Nat.reduceAdd, List.getElem?_cons_zero, List.getElem?_cons_succ, List.set_cons_zero, List.set_cons_succ, List.cons.injEq, Option.some.injEq, V.int.injEq, V.str.injEq, V.bl.injEq, D.int.injEq, D.str.injEq, D.bl.injEq, D.ref.injEq, D.tup.injEq, D.lst.injEq, D.ty.injEq, AO.lst.injEq, AO.dct.injEq, AO.ins.injEq, Prod.mk.injEq, exists_eq_left, exists_eq_left', exists_eq_right, exists_eq_right', exists_and_left, exists_and_right, true_and, and_true, and_self, if_true, if_false, Bool.false_eq_true, Bool.true_eq_false, eq_self, reduceCtorEq, false_and, and_false, and_assoc, Int.reduceToNat, Int.reducePow, Int.reduceMul, Int.reduceAdd, Int.reduceNeg, Int.reduceSub, String.reduceEq, String.reduceNe, ne_eq, not_false_eq_true, not_true_eq_false, decide_false, decide_true, Bool.not_false, Bool.not_true, Bool.or_false, Bool.false_or, Bool.or_true, Bool.true_or, Bool.and_true, Bool.true_and, Bool.and_self, Bool.and_false, Bool.false_and, exists_eq', exists_eq, exists_const, false_or, or_false, or_self, List.all_cons, List.all_nil, List.any_cons, List.any_nil, Nat.reduceLeDiff, exists_false, List.map_nil, List.map_cons, Option.map_some, Option.isSome_some, Option.isSome_none, Option.getD_some, Option.getD_none, implies_true, List.foldl_cons, List.foldl_nil, forall_const, ofS_eq, Int.reduceLT, Int.reduceLE, Nat.reduceLT, isO_obj, isO_int, dctD_dct]
    rw [del_put hp]
    exact fin_id k
def sp_l_written (_ : PySem.W.Frag) : ASp := fun ds A Q _ => ∃ (c : Int) (d : D) (l : SL), ds = [.int c, d] ∧ asD A d = some (kvD l) ∧ (keys l).Nodup ∧ l.length < 64 ∧ Q (wrD c (norm l)) A
theorem written_map {l : SL} : (((srt (keys l)).map D.str).filter (cD fun s => coef l s != 0)).map (pD l) = prD (norm l) := by
  rw [filter_cD]
  unfold norm prD
  rw [List.map_map, List.map_map]
  rfl
theorem R_l_written {P : Program} {w : World} {K : PySem.W.Frag} {mg : Str → Option Value} {base : Heap} (T : Tx K mg) : FnR P w K mg base CX0 1 (He.ga K "_law_written") (liftSp K (sp_l_written K)) := by
  obtain ⟨fd, F⟩ := T.d_l_written
  refine Av.FunD.AR F sc_l_written (fun ds A Q E h => by obtain ⟨c, d, l, rfl, hd, hnd, hz, k⟩ := h; rfl) (fun _ _ _ _ _ _ us hl => match us, hl with | [_, _], _ => rfl) (fun cdv A0 outer s H0 E0 ds A Q E hr h => ?_)
  obtain ⟨c, d, l, rfl, hd, hnd, hz, k⟩ := h
  refine ⟨_, (ass_one (as_ret (ae_tup (aa_cons (ae_var (pv 0)) (aa_cons (ae_callTy ca_tuple (by rfl) T.n_tuple (by decide +kernel) (aa_cons (ae_lc false (own := [("_law_symbol_here", 2)]) (pt := (.nm 2)) rfl sc_l_written.nd (ai_list (ae_callB (ca_sorted rfl false) (by rfl) T.n_sorted (by decide +kernel) (aa_cons (ae_var (pv 1)) aa_nil))) (blkOk_by (own := [("_law_symbol_here", 2)]) (N := ["_law_constant", "_law_sums_here", "_law_symbol_here"]) (sc := defScope s_l_written) (by decide +kernel)) (by decide) (fun _ _ _ _ _ => by exact (pg_name (i := 2) sc_l_written.nd rfl (by first | exact Or.inl rfl | exact Or.inr rfl))) (fun _ _ _ _ _ => by exact (ats_one (at_cmpA (cmp_ne hr.units) (ae_dget (hu_of hr) (ae_var (pv 1)) (ae_var (pv 2)) (fun _ _ => rfl)) ae_int (nomark _)))) (fun _ _ _ _ _ => by exact (ae_tup (aa_cons (ae_var (pv 2)) (aa_cons (ae_dget (hu_of hr) (ae_var (pv 1)) (ae_var (pv 2)) (fun _ _ => rfl)) aa_nil))))) aa_nil)) aa_nil))))), ?_⟩
  simp only [↓RD, RU, aStart, wipeA, putFA, toP, toPs, scDs, valD_nil, valD_cons, putM_eq, mergeD_eq, keysOk, aHandle, endsAA, putAA, starSp, put_same, put_put, inV_nil, inV_str, cxK, atI_0, atI_1, atI_2, atI_3, ixN_30, ixN_31, ixN_32, List.map, List.replicate, List.length_cons, List.length_nil, List.nil_append, List.cons_append, List.append_nil, Nat.reduceSub, Nat.reduceAdd, List.getElem?_cons_zero, List.getElem?_cons_succ, List.set_cons_zero, List.set_cons_succ, List.cons.injEq, Option.some.injEq, V.int.injEq, V.str.injEq, V.bl.injEq, D.int.injEq, D.str.injEq, D.bl.injEq, D.ref.injEq, D.tup.injEq, D.lst.injEq, D.ty.injEq, AO.lst.injEq, AO.dct.injEq, AO.ins.injEq, Prod.mk.injEq, exists_eq_left, exists_eq_left', exists_eq_right, exists_eq_right', exists_and_left, exists_and_right, true_and, and_true, and_self, if_true, if_false, Bool.false_eq_true, Bool.true_eq_false, eq_self, reduceCtorEq, false_and, and_false, and_assoc, Int.reduceToNat, Int.reducePow, Int.reduceMul, Int.reduceAdd, Int.reduceNeg, Int.reduceSub, String.reduceEq, String.reduceNe, ne_eq, not_false_eq_true, not_true_eq_false, decide_false, decide_true, Bool.not_false, Bool.not_true, Bool.or_false, Bool.false_or, Bool.or_true, Bool.true_or, Bool.and_true, Bool.true_and, Bool.and_self, Bool.and_false, Bool.false_and, exists_eq', exists_eq, exists_const, false_or, or_false, or_self, List.all_cons, List.all_nil, List.any_cons, List.any_nil, Nat.reduceLeDiff, exists_false, List.map_nil, List.map_cons, Option.map_some, Option.isSome_some, Option.isSome_none, Option.getD_some, Option.getD_none, implies_true, List.foldl_cons, List.foldl_nil, forall_const, ofS_eq, Int.reduceLT, Int.reduceLE, Nat.reduceLT, isO_obj, isO_int, dctD_dct]
  refine sort_dct hd hz ?_
  simp only [↓RD, RU, aStart, wipeA, putFA, toP, toPs, scDs, valD_nil, valD_cons, putM_eq, mergeD_eq, keysOk, aHandle, endsAA, putAA, starSp, put_same, put_put, inV_nil, inV_str, cxK, atI_0, atI_1, atI_2, atI_3, ixN_30, ixN_31, ixN_32, List.map, List.replicate, List.length_cons, List.length_nil, List.nil_append, List.cons_append, List.append_nil, Nat.reduceSub, Nat.reduceAdd, List.getElem?_cons_zero, List.getElem?_cons_succ, List.set_cons_zero, List.set_cons_succ, List.cons.injEq, Option.some.injEq, V.int.injEq, V.str.injEq, V.bl.injEq, D.int.injEq, D.str.injEq, D.bl.injEq, D.ref.injEq, D.tup.injEq, D.lst.injEq, D.ty.injEq, AO.lst.injEq, AO.dct.injEq, AO.ins.injEq, Prod.mk.injEq, exists_eq_left, exists_eq_left', exists_eq_right, exists_eq_right', exists_and_left, exists_and_right, true_and, and_true, and_self, if_true, if_false, Bool.false_eq_true, Bool.true_eq_false, eq_self, reduceCtorEq, false_and, and_false, and_assoc, Int.reduceToNat, Int.reducePow, Int.reduceMul, Int.reduceAdd, Int.reduceNeg, Int.reduceSub, String.reduceEq, String.reduceNe, ne_eq, not_false_eq_true, not_true_eq_false, decide_false, decide_true, Bool.not_false, Bool.not_true, Bool.or_false, Bool.false_or, Bool.or_true, Bool.true_or, Bool.and_true, Bool.true_and, Bool.and_self, Bool.and_false, Bool.false_and, exists_eq', exists_eq, exists_const, false_or, or_false, or_self, List.all_cons, List.all_nil, List.any_cons, List.any_nil, Nat.reduceLeDiff, exists_false, List.map_nil, List.map_cons, Option.map_some, Option.isSome_some, Option.isSome_none, Option.getD_some, Option.getD_none, implies_true, List.foldl_cons, List.foldl_nil, forall_const, ofS_eq, Int.reduceLT, Int.reduceLE, Nat.reduceLT, isO_obj, isO_int, dctD_dct]
  refine Av.comp_filter (cD fun s => coef l s != 0) (pD l) (id ?_) _ [] ?_ (fun d' hd' R R0 hR hR0 => ?_) ?_
  · rfl
  · rw [List.length_nil, Nat.zero_add, List.length_map, srt_length, List.length_map]
    exact le64 hz
  · obtain ⟨s, hs, rfl⟩ := List.mem_map.mp hd'
    have hv := valD_mem (srt_mem.mp hs)
    simp only [↓RD, RU, aStart, wipeA, putFA, toP, toPs, scDs, valD_nil, valD_cons, putM_eq, mergeD_eq, keysOk, aHandle, endsAA, putAA, starSp, put_same, put_put, inV_nil, inV_str, cxK, atI_0, atI_1, atI_2, atI_3, ixN_30, ixN_31, ixN_32, List.map, List.replicate, List.length_cons, List.length_nil, List.nil_append, List.cons_append, List.append_nil, Nat.reduceSub, Nat.reduceAdd, List.getElem?_cons_zero, List.getElem?_cons_succ, List.set_cons_zero, List.set_cons_succ, List.cons.injEq, Option.some.injEq, V.int.injEq, V.str.injEq, V.bl.injEq, D.int.injEq, D.str.injEq, D.bl.injEq, D.ref.injEq, D.tup.injEq, D.lst.injEq, D.ty.injEq, AO.lst.injEq, AO.dct.injEq, AO.ins.injEq, Prod.mk.injEq, exists_eq_left, exists_eq_left', exists_eq_right, exists_eq_right', exists_and_left, exists_and_right, true_and, and_true, and_self, if_true, if_false, Bool.false_eq_true, Bool.true_eq_false, eq_self, reduceCtorEq, false_and, and_false, and_assoc, Int.reduceToNat, Int.reducePow, Int.reduceMul, Int.reduceAdd, Int.reduceNeg, Int.reduceSub, String.reduceEq, String.reduceNe, ne_eq, not_false_eq_true, not_true_eq_false, decide_false, decide_true, Bool.not_false, Bool.not_true, Bool.or_false, Bool.false_or, Bool.or_true, Bool.true_or, Bool.and_true, Bool.true_and, Bool.and_self, Bool.and_false, Bool.false_and, exists_eq', exists_eq, exists_const, false_or, or_false, or_self, List.all_cons, List.all_nil, List.any_cons, List.any_nil, Nat.reduceLeDiff, exists_false, List.map_nil, List.map_cons, Option.map_some, Option.isSome_some, Option.isSome_none, Option.getD_some, Option.getD_none, implies_true, List.foldl_cons, List.foldl_nil, forall_const, ofS_eq, Int.reduceLT, Int.reduceLE, Nat.reduceLT, isO_obj, isO_int, dctD_dct, hd, hv]
    split
    · rename_i g; exact hR g
    · rename_i g; exact hR0 ((Bool.not_eq_true _).mp g)
  · have e := written_map (l := l)
    unfold keys at e
    rw [e]
    simp only [↓RD, RU, aStart, wipeA, putFA, toP, toPs, scDs, valD_nil, valD_cons, putM_eq, mergeD_eq, keysOk, aHandle, endsAA, putAA, starSp, put_same, put_put, inV_nil, inV_str, cxK, atI_0, atI_1, atI_2, atI_3, ixN_30, ixN_31, ixN_32, List.map, List.replicate, List.length_cons, List.length_nil, List.nil_append, List.cons_append, List.append_nil, Nat.reduceSub, Nat.reduceAdd, List.getElem?_cons_zero, List.getElem?_cons_succ, List.set_cons_zero, List.set_cons_succ, List.cons.injEq, Option.some.injEq, V.int.injEq, V.str.injEq, V.bl.injEq, D.int.injEq, D.str.injEq, D.bl.injEq, D.ref.injEq, D.tup.injEq, D.lst.injEq, D.ty.injEq, AO.lst.injEq, AO.dct.injEq, AO.ins.injEq, Prod.mk.injEq, exists_eq_left, exists_eq_left', exists_eq_right, exists_eq_right', exists_and_left, exists_and_right, true_and, and_true, and_self, if_true, if_false, Bool.false_eq_true, Bool.true_eq_false, eq_self, reduceCtorEq, false_and, and_false, and_assoc, Int.reduceToNat, Int.reducePow, Int.reduceMul, Int.reduceAdd, Int.reduceNeg, Int.reduceSub, String.reduceEq, String.reduceNe, ne_eq, not_false_eq_true, not_true_eq_false, decide_false, decide_true, Bool.not_false, Bool.not_true, Bool.or_false, Bool.false_or, Bool.or_true, Bool.true_or, Bool.and_true, Bool.true_and, Bool.and_self, Bool.and_false, Bool.false_and, exists_eq', exists_eq, exists_const, false_or, or_false, or_self, List.all_cons, List.all_nil, List.any_cons, List.any_nil, Nat.reduceLeDiff, exists_false, List.map_nil, List.map_cons, Option.map_some, Option.isSome_some, Option.isSome_none, Option.getD_some, Option.getD_none, implies_true, List.foldl_cons, List.foldl_nil, forall_const, ofS_eq, Int.reduceLT, Int.reduceLE, Nat.reduceLT, isO_obj, isO_int, dctD_dct]
    exact fin_id k


end V06

set_option Elab.async false
set_option linter.all false
set_option maxRecDepth 100000
set_option maxHeartbeats 0
namespace V06
open PySem PySem.Spec PyProof.Rows L2 My Av
theorem coef_addP {l : SL} {p : Str × Int} {s : Str} : coef (addP l p) s = coef l s + if s = p.1 then p.2 else 0 := by
  unfold addP
  rw [coef_putP]
  split
  · rename_i h; rw [h]
  · omega
theorem sums_bd {ps : SL} (h : ∀ p ∈ ps, Num p.2) (s : Str) : (coef (sums ps) s).natAbs ≤ ps.length * 10 ^ 25 := by
  unfold sums
  have : ∀ (ps l : SL) (B : Nat), (∀ p ∈ ps, Num p.2) → (∀ s, (coef l s).natAbs ≤ B) → ∀ s, (coef (ps.foldl addP l) s).natAbs ≤ B + ps.length * 10 ^ 25 := by
    intro ps
    induction ps with
    | nil => intro l B _ h s; simpa using h s
    | cons p ps ih =>
      intro l B hp h s
      have h1 := ih (addP l p) (B + 10 ^ 25) (fun q hq => hp q (.tail _ hq)) (fun t => by
        rw [coef_addP]
        have h2 := h t
        have h3 := hp p (.head _)
        unfold Num at h3
        split <;> omega) s
      rw [List.foldl_cons, List.length_cons]
      omega
  have := this ps [] 0 h (fun s => by show (coef [] s).natAbs ≤ 0; exact Nat.le_of_eq rfl) s
  omega
theorem Prs.bd {ps : SL} {m : Nat} (h : Prs ps m) (hm : m ≤ 30) (s : Str) : (coef (sums ps) s).natAbs < 2 ^ 100 := by
  have h1 := sums_bd h.nb s
  have h2 := h.sz
  have : ps.length * 10 ^ 25 ≤ 30 * 10 ^ 25 := Nat.mul_le_mul_right _ (by omega)
  omega
theorem Prs.okL {ps : SL} {m : Nat} (h : Prs ps m) : OkL m (norm (sums ps)) := OkL.norm (nodup_sums ps) (syms_of h.sy fun s => mem_sums) (Nat.le_trans (len_sums ps) (Nat.le_of_lt h.sz))
theorem mulc {i j : Int} (h1 : i.natAbs < 2 ^ 200) (h2 : j.natAbs < 2 ^ 200) : CMulW i j := cmulW (nat1000 h1) (nat1000 h2)
theorem lt200 {n k : Nat} (h : n < 2 ^ k) (hk : k ≤ 200) : n < 2 ^ 200 := Nat.lt_of_lt_of_le h (Nat.pow_le_pow_right (by decide) hk)

def qD (f : Str → Int) : D → D
  | .str s => .tup [.str s, .int (f s)]
  | _ => .non
theorem q_pairs (f : Str → Int) (xs : List Str) : (xs.map D.str).map (qD f) = pairsD (xs.map fun s => (.str s, .int (f s))) := by
  unfold pairsD
  rw [List.map_map, List.map_map]
  rfl
theorem q_merge (f : Str → Int) (xs : List Str) : mergeD (xs.map fun s => (D.str s, D.int (f s))) = kvD (tab f xs) := by
  rw [← tab_kv]
  unfold mergeD
  rw [List.foldl_map, List.foldl_map]
  rfl
theorem q_ok (f : Str → Int) : ∀ xs : List Str, keysOk (xs.map fun s => (D.str s, D.int (f s))) = true
  | [] => rfl
  | x :: xs => by
    rw [List.map_cons, keysOk, q_ok f xs]
    rfl
theorem dict_tab {live : Bool} {A : AH} {Q : AQ} {E : AX} {f : Str → Int} {xs : List Str} (q : aNew live (.dct (kvD (tab f xs))) A Q) : gDictP live [.lst (pairsD (xs.map fun s => (D.str s, D.int (f s))))] A Q E :=
  ⟨_, _, rfl, rfl, q_ok f xs, by rw [q_merge]; exact q⟩
theorem lf_wr {x y : D} : List.lookup ("written" : Str) [(("constant" : Str), x), (("coefficients" : Str), y)] = none := by rfl

/-- what `found[s] = found.get(s, 0) + k * m[s]` over a dict comes to -/
structure MixI (l m : SL) (k : Int) (i : Nat) (a : SL) : Prop where
  nd : (keys a).Nodup
  sz : a.length ≤ l.length + i
  cf : ∀ s, coef a s = coef l s + if s ∈ (keys m).take i then k * coef m s else 0
theorem MixI.zero {l m : SL} {k : Int} (h : (keys l).Nodup) : MixI l m k 0 l := ⟨h, by omega, fun s => by simp⟩
theorem nd_take {xs : List Str} {i : Nat} {s : Str} (h : xs.Nodup) (e : xs[i]? = some s) : s ∉ xs.take i := by
  intro hm
  obtain ⟨hi, rfl⟩ := List.getElem?_eq_some_iff.mp e
  obtain ⟨j, hj, ej⟩ := List.mem_take_iff_getElem.mp hm
  have := (List.getElem_inj h).mp ej
  omega
theorem MixI.succ {l m a : SL} {k : Int} {i : Nat} {s : Str} (h : MixI l m k i a) (hm : (keys m).Nodup) (e : (keys m)[i]? = some s) : MixI l m k (i + 1) (putP a s (coef a s + k * coef m s)) := by
  refine ⟨nodup_putP h.nd, by have := len_putP (l := a) (s := s) (n := coef a s + k * coef m s); have := h.sz; omega, fun t => ?_⟩
  have hn := nd_take hm e
  rw [coef_putP, take_succ e]
  split
  · rename_i g
    subst g
    rw [h.cf, if_neg hn, if_pos (List.mem_append_right _ (List.mem_singleton.mpr rfl))]
    omega
  · rename_i g
    rw [h.cf]
    simp [g]
theorem MixI.done {l m a : SL} {k : Int} (h : MixI l m k m.length a) (s : Str) : coef a s = coef l s + k * coef m s := by
  rw [h.cf, ← keys_len, List.take_length]
  split
  · rfl
  · rename_i g
    rw [coef_not g, Int.mul_zero]
theorem tab_coef {l : SL} {s : Str} : coef (tab (coef l) (keys l)) s = coef l s := by
  rw [coef_tab]
  split
  · rfl
  · rename_i g; rw [coef_not g]

def sp_Form___call__ (K : PySem.W.Frag) : ASp := fun ds A Q _ => ∃ (c : Int) (l v : SL) (d : D), ds = [fmD K c l, d] ∧ asD A d = some (kvD v) ∧ (keys l).Nodup ∧ l.length < 64 ∧ (∀ s, CMulW (coef l s) (coef v s)) ∧ Q (.int (c + evL l (coef v))) A
theorem kv_get {l : SL} {i : Nat} {y : D × D} (hn : (keys l).Nodup) (h : (kvD l)[i]? = some y) : ∃ s, (keys l)[i]? = some s ∧ y = (.str s, .int (coef l s)) := by
  unfold kvD at h
  rw [List.getElem?_map] at h
  cases e : l[i]? with
  | none => rw [e] at h; cases h
  | some q =>
    rw [e] at h
    cases h
    obtain ⟨s, n⟩ := q
    have h1 : (keys l)[i]? = some s := by unfold keys; rw [List.getElem?_map, e]; rfl
    refine ⟨s, h1, ?_⟩
    have h2 : coef l s = n := coef_at hn (List.mem_of_getElem? e)
    rw [h2]
theorem R_Form___call__ {P : Program} {w : World} {K : PySem.W.Frag} {mg : Str → Option Value} {base : Heap} (T : Tx K mg) : FnR P w K mg base CX0 1 (He.ma K (He.ga K "Form") "__call__") (liftSp K (sp_Form___call__ K)) := by
  obtain ⟨fd, F⟩ := T.d_Form___call__
  refine Av.FunD.AR F sc_Form___call__ (fun ds A Q E h => by obtain ⟨c, l, v, d, rfl, hd, hnd, hz, hb, k⟩ := h; rfl) (fun _ _ _ _ _ _ us hl => match us, hl with | [_, _], _ => rfl) (fun cdv A0 outer s H0 E0 ds A Q E hr h => ?_)
  obtain ⟨c, l, v, d, rfl, hd, hnd, hz, hb, k⟩ := h
  refine ⟨_, (ass_cons (as_set (i := 2) sc_Form___call__.nd rfl (by first | exact Or.inl rfl | exact Or.inr rfl) (ae_fldVK (K := K) rfl (pv 0)))
      (ass_cons (as_for (p := (.tp [(.nm 3), (.nm 4)])) PassesOwn.never rfl (ai_items (ae_fldVK (K := K) rfl (pv 0))) (pg_tup (n := 2) rfl (pgs_cons (pg_name (i := 3) sc_Form___call__.nd rfl (by first | exact Or.inl rfl | exact Or.inr rfl)) (pgs_cons (pg_name (i := 4) sc_Form___call__.nd rfl (by first | exact Or.inl rfl | exact Or.inr rfl)) pgs_nil))) (ass_one (as_aug (i := 2) sc_Form___call__.nd rfl (by first | exact Or.inl rfl | exact Or.inr rfl) (ae_mul false (ae_var (pv 4)) (ae_dget2 (hu_of hr) (ae_var (pv 1)) (ae_var (pv 3)) ae_int ⟨rfl, rfl, rfl, rfl⟩)) ip_add)))
      (ass_one (as_ret (ae_var (pv 2)))))), ?_⟩
  simp only [↓RD, RU, aStart, wipeA, putFA, toP, toPs, scDs, valD_nil, valD_cons, putM_eq, mergeD_eq, keysOk, aHandle, endsAA, putAA, starSp, put_same, put_put, inV_nil, inV_str, cxK, atI_0, atI_1, atI_2, atI_3, ixN_30, ixN_31, ixN_32, List.map, List.replicate, List.length_cons, List.length_nil, List.nil_append, List.cons_append, List.append_nil, Nat.reduceSub, Nat.reduceAdd, List.getElem?_cons_zero, List.getElem?_cons_succ, List.set_cons_zero, List.set_cons_succ, List.cons.injEq, Option.some.injEq, V.int.injEq, V.str.injEq, V.bl.injEq, D.int.injEq, D.str.injEq, D.bl.injEq, D.ref.injEq, D.tup.injEq, D.lst.injEq, D.ty.injEq, AO.lst.injEq, AO.dct.injEq, AO.ins.injEq, Prod.mk.injEq, exists_eq_left, exists_eq_left', exists_eq_right, exists_eq_right', exists_and_left, exists_and_right, true_and, and_true, and_self, if_true, if_false, Bool.false_eq_true, Bool.true_eq_false, eq_self, reduceCtorEq, false_and, and_false, and_assoc, Int.reduceToNat, Int.reducePow, Int.reduceMul, Int.reduceAdd, Int.reduceNeg, Int.reduceSub, String.reduceEq, String.reduceNe, ne_eq, not_false_eq_true, not_true_eq_false, decide_false, decide_true, Bool.not_false, Bool.not_true, Bool.or_false, Bool.false_or, Bool.or_true, Bool.true_or, Bool.and_true, Bool.true_and, Bool.and_self, Bool.and_false, Bool.false_and, exists_eq', exists_eq, exists_const, false_or, or_false, or_self, List.all_cons, List.all_nil, List.any_cons, List.any_nil, Nat.reduceLeDiff, exists_false, List.map_nil, List.map_cons, Option.map_some, Option.isSome_some, Option.isSome_none, Option.getD_some, Option.getD_none, implies_true, List.foldl_cons, List.foldl_nil, forall_const, ofS_eq, Int.reduceLT, Int.reduceLE, Nat.reduceLT, isO_obj, isO_int, dctD_dct, T.c_Form, T.f_Form_constant, T.f_Form_coefficients, lf_cons, lf_coef]
  refine loop_for (fun i δ A' => A' = A ∧ ∃ v3 v4, δ = [some (fmD K c l), some d, some (.int (c + sumU ((keys l).take i) fun s => coef l s * coef v s)), v3, v4]) ⟨rfl, _, _, by rw [List.take_zero, sumU_nil, Int.add_zero]⟩ (fun _ _ _ _ _ => trivial) (fun i y δ A' R hy hP hR => ?_) (fun δ A' hP => ?_)
  · obtain ⟨rfl, v3, v4, rfl⟩ := hP
    unfold itemsL at hy
    rw [List.getElem?_map] at hy
    cases e : (kvD l)[i]? with
    | none => rw [e] at hy; cases hy
    | some z =>
      rw [e] at hy
      cases hy
      obtain ⟨s, hs, rfl⟩ := kv_get hnd e
      simp only [↓RD, RU, aStart, wipeA, putFA, toP, toPs, scDs, valD_nil, valD_cons, putM_eq, mergeD_eq, keysOk, aHandle, endsAA, putAA, starSp, put_same, put_put, inV_nil, inV_str, cxK, atI_0, atI_1, atI_2, atI_3, ixN_30, ixN_31, ixN_32, List.map, List.replicate, List.length_cons, List.length_nil, List.nil_append, List.cons_append, List.append_nil, Nat.reduceSub, Nat.reduceAdd, List.getElem?_cons_zero, List.getElem?_cons_succ, List.set_cons_zero, List.set_cons_succ, List.cons.injEq, Option.some.injEq, V.int.injEq, V.str.injEq, V.bl.injEq, D.int.injEq, D.str.injEq, D.bl.injEq, D.ref.injEq, D.tup.injEq, D.lst.injEq, D.ty.injEq, AO.lst.injEq, AO.dct.injEq, AO.ins.injEq, Prod.mk.injEq, exists_eq_left, exists_eq_left', exists_eq_right, exists_eq_right', exists_and_left, exists_and_right, true_and, and_true, and_self, if_true, if_false, Bool.false_eq_true, Bool.true_eq_false, eq_self, reduceCtorEq, false_and, and_false, and_assoc, Int.reduceToNat, Int.reducePow, Int.reduceMul, Int.reduceAdd, Int.reduceNeg, Int.reduceSub, String.reduceEq, String.reduceNe, ne_eq, not_false_eq_true, not_true_eq_false, decide_false, decide_true, Bool.not_false, Bool.not_true, Bool.or_false, Bool.false_or, Bool.or_true, Bool.true_or, Bool.and_true, Bool.true_and, Bool.and_self, Bool.and_false, Bool.false_and, exists_eq', exists_eq, exists_const, false_or, or_false, or_self, List.all_cons, List.all_nil, List.any_cons, List.any_nil, Nat.reduceLeDiff, exists_false, List.map_nil, List.map_cons, Option.map_some, Option.isSome_some, Option.isSome_none, Option.getD_some, Option.getD_none, implies_true, List.foldl_cons, List.foldl_nil, forall_const, ofS_eq, Int.reduceLT, Int.reduceLE, Nat.reduceLT, isO_obj, isO_int, dctD_dct]
      refine ⟨_, rfl, ?_⟩
      simp only [↓RD, RU, aStart, wipeA, putFA, toP, toPs, scDs, valD_nil, valD_cons, putM_eq, mergeD_eq, keysOk, aHandle, endsAA, putAA, starSp, put_same, put_put, inV_nil, inV_str, cxK, atI_0, atI_1, atI_2, atI_3, ixN_30, ixN_31, ixN_32, List.map, List.replicate, List.length_cons, List.length_nil, List.nil_append, List.cons_append, List.append_nil, Nat.reduceSub, Nat.reduceAdd, List.getElem?_cons_zero, List.getElem?_cons_succ, List.set_cons_zero, List.set_cons_succ, List.cons.injEq, Option.some.injEq, V.int.injEq, V.str.injEq, V.bl.injEq, D.int.injEq, D.str.injEq, D.bl.injEq, D.ref.injEq, D.tup.injEq, D.lst.injEq, D.ty.injEq, AO.lst.injEq, AO.dct.injEq, AO.ins.injEq, Prod.mk.injEq, exists_eq_left, exists_eq_left', exists_eq_right, exists_eq_right', exists_and_left, exists_and_right, true_and, and_true, and_self, if_true, if_false, Bool.false_eq_true, Bool.true_eq_false, eq_self, reduceCtorEq, false_and, and_false, and_assoc, Int.reduceToNat, Int.reducePow, Int.reduceMul, Int.reduceAdd, Int.reduceNeg, Int.reduceSub, String.reduceEq, String.reduceNe, ne_eq, not_false_eq_true, not_true_eq_false, decide_false, decide_true, Bool.not_false, Bool.not_true, Bool.or_false, Bool.false_or, Bool.or_true, Bool.true_or, Bool.and_true, Bool.true_and, Bool.and_self, Bool.and_false, Bool.false_and, exists_eq', exists_eq, exists_const, false_or, or_false, or_self, List.all_cons, List.all_nil, List.any_cons, List.any_nil, Nat.reduceLeDiff, exists_false, List.map_nil, List.map_cons, Option.map_some, Option.isSome_some, Option.isSome_none, Option.getD_some, Option.getD_none, implies_true, List.foldl_cons, List.foldl_nil, forall_const, ofS_eq, Int.reduceLT, Int.reduceLE, Nat.reduceLT, isO_obj, isO_int, dctD_dct, hd, getD_kv]
      refine ⟨hb s, ?_⟩
      exact hR _ _ ⟨rfl, some (.str s), some (.int (coef l s)), by rw [take_succ hs, sumU_snoc, ← Int.add_assoc]⟩
  · obtain ⟨rfl, v3, v4, rfl⟩ := hP
    have e1 : (keys l).take (itemsL (kvD l)).length = keys l := by unfold itemsL; rw [List.length_map, kvD_len, ← keys_len, List.take_length]
    rw [e1]
    simp only [↓RD, RU, aStart, wipeA, putFA, toP, toPs, scDs, valD_nil, valD_cons, putM_eq, mergeD_eq, keysOk, aHandle, endsAA, putAA, starSp, put_same, put_put, inV_nil, inV_str, cxK, atI_0, atI_1, atI_2, atI_3, ixN_30, ixN_31, ixN_32, List.map, List.replicate, List.length_cons, List.length_nil, List.nil_append, List.cons_append, List.append_nil, Nat.reduceSub, Nat.reduceAdd, List.getElem?_cons_zero, List.getElem?_cons_succ, List.set_cons_zero, List.set_cons_succ, List.cons.injEq, Option.some.injEq, V.int.injEq, V.str.injEq, V.bl.injEq, D.int.injEq, D.str.injEq, D.bl.injEq, D.ref.injEq, D.tup.injEq, D.lst.injEq, D.ty.injEq, AO.lst.injEq, AO.dct.injEq, AO.ins.injEq, Prod.mk.injEq, exists_eq_left, exists_eq_left', exists_eq_right, exists_eq_right', exists_and_left, exists_and_right, true_and, and_true, and_self, if_true, if_false, Bool.false_eq_true, Bool.true_eq_false, eq_self, reduceCtorEq, false_and, and_false, and_assoc, Int.reduceToNat, Int.reducePow, Int.reduceMul, Int.reduceAdd, Int.reduceNeg, Int.reduceSub, String.reduceEq, String.reduceNe, ne_eq, not_false_eq_true, not_true_eq_false, decide_false, decide_true, Bool.not_false, Bool.not_true, Bool.or_false, Bool.false_or, Bool.or_true, Bool.true_or, Bool.and_true, Bool.true_and, Bool.and_self, Bool.and_false, Bool.false_and, exists_eq', exists_eq, exists_const, false_or, or_false, or_self, List.all_cons, List.all_nil, List.any_cons, List.any_nil, Nat.reduceLeDiff, exists_false, List.map_nil, List.map_cons, Option.map_some, Option.isSome_some, Option.isSome_none, Option.getD_some, Option.getD_none, implies_true, List.foldl_cons, List.foldl_nil, forall_const, ofS_eq, Int.reduceLT, Int.reduceLE, Nat.reduceLT, isO_obj, isO_int, dctD_dct]
    exact fin_id k
def restL (l : SL) (x : Str) : SL := tab (coef l) ((keys l).filter fun s => s != x)
theorem coef_rest {l : SL} {x s : Str} : coef (restL l x) s = if s = x then 0 else coef l s := by
  unfold restL
  rw [coef_tab]
  by_cases g : s = x
  · rw [if_pos g, if_neg]
    intro h
    have := (List.mem_filter.mp h).2
    rw [g] at this
    simp at this
  · rw [if_neg g]
    split
    · rfl
    · rename_i h
      refine (coef_not fun z => h (List.mem_filter.mpr ⟨z, by simpa using g⟩)).symm
theorem ok_rest {n : Nat} {l : SL} {x : Str} (h : OkL n l) : OkL n (norm (restL l x)) := OkL.norm (nodup_tab _ _) (tab_syms fun s hs => h.sy s (List.mem_filter.mp hs).1) (Nat.le_trans (len_tab _ _) (Nat.le_trans (List.length_filter_le _ _) (by rw [keys_len]; exact h.sz)))
theorem rest_fold {l : SL} {x : Str} : (((keys l).map D.str).filter (cD fun s => s != x)).foldl (fun acc d => putD acc (id d) (vD (coef l) d)) [] = kvD (restL l x) := by
  rw [filter_cD]
  exact tab_kv _ _
def sp_Form_put (K : PySem.W.Frag) : ASp := fun ds A Q _ => ∃ (c c' : Int) (l m : SL) (x : Str), ds = [fmD K c l, .str x, fmD K c' m] ∧ OkL 30 l ∧ OkL 30 m ∧ CMulW c' (coef l x) ∧ (∀ s, CMulW (coef m s) (coef l x)) ∧ Q (fmD K (c + c' * coef l x) (norm (addL (norm (restL l x)) (norm (mulL (coef l x) m))))) A
theorem R_Form_put {P : Program} {w : World} {K : PySem.W.Frag} {mg : Str → Option Value} {base : Heap} (T : Tx K mg) : FnR P w K mg base CX0 11 (He.ma K (He.ga K "Form") "put") (liftSp K (sp_Form_put K)) := by
  obtain ⟨fd, F⟩ := T.d_Form_put
  refine Av.FunD.AR F sc_Form_put (fun ds A Q E h => by obtain ⟨c, c', l, m, x, rfl, hl, hm, hc, hb, k⟩ := h; rfl) (fun _ _ _ _ _ _ us hl => match us, hl with | [_, _, _], _ => rfl) (fun cdv A0 outer s H0 E0 ds A Q E hr h => ?_)
  obtain ⟨c, c', l, m, x, rfl, hl, hm, hc, hb, k⟩ := h
  refine ⟨_, (ass_cons (as_set (i := 3) sc_Form_put.nd rfl (by first | exact Or.inl rfl | exact Or.inr rfl) (ae_dget2 (hu_of hr) (ae_fldVK (K := K) rfl (pv 0)) (ae_var (pv 1)) ae_int ⟨rfl, rfl, rfl, rfl⟩))
      (ass_cons (as_setDc false (i := 4) (own := [("one", 5)]) (pt := (.nm 5)) rfl sc_Form_put.nd rfl rfl (sw_trueD rfl rfl rfl (by decide +kernel)) (ai_keys (ae_fldVK (K := K) rfl (pv 0))) (blkOk_by (own := [("one", 5)]) (N := ["self", "symbol", "other", "coefficient", "rest", "one"]) (sc := defScope s_Form_put) (by decide +kernel)) (by decide) (fun _ _ _ _ _ => by exact (pg_name (i := 5) sc_Form_put.nd rfl (by first | exact Or.inl rfl | exact Or.inr rfl))) (fun _ _ _ _ _ => by exact (ats_one (at_cmpA (cmp_ne hr.units) (ae_var (pv 5)) (ae_var (pv 1)) (nomark _)))) (fun _ _ _ _ _ => by exact (ae_var (pv 5))) (fun _ _ _ _ _ => by exact (ae_dget (hu_of hr) (ae_fldVK (K := K) rfl (pv 0)) (ae_var (pv 5)) (fun _ _ => rfl))))
      (ass_one (as_ret (ae_ownL T.o_Form_Add (R_Form___add__ T) (hr.mono (by decide)) (ae_makeSS T.m_Form (R_Form___init__2 T) (hr.mono (by decide)) (ae_c (pe_glob (v := .ref (He.ga _ "Form")) rfl T.g_Form rfl) fun _ _ => .ref _) (aa_cons (ae_fldVK (K := K) rfl (pv 0)) aa_nil) (ae_var (pv 4))) (ae_ownL T.o_Form_Mult (R_Form___mul__ T) (hr.mono (by decide)) (ae_var (pv 2)) (ae_var (pv 3)))))))), ?_⟩
  simp only [↓RD, RU, aStart, wipeA, putFA, toP, toPs, scDs, valD_nil, valD_cons, putM_eq, mergeD_eq, keysOk, aHandle, endsAA, putAA, starSp, put_same, put_put, inV_nil, inV_str, cxK, atI_0, atI_1, atI_2, atI_3, ixN_30, ixN_31, ixN_32, List.map, List.replicate, List.length_cons, List.length_nil, List.nil_append, List.cons_append, List.append_nil, Nat.reduceSub, Nat.reduceAdd, List.getElem?_cons_zero, List.getElem?_cons_succ, List.set_cons_zero, List.set_cons_succ, List.cons.injEq, Option.some.injEq, V.int.injEq, V.str.injEq, V.bl.injEq, D.int.injEq, D.str.injEq, D.bl.injEq, D.ref.injEq, D.tup.injEq, D.lst.injEq, D.ty.injEq, AO.lst.injEq, AO.dct.injEq, AO.ins.injEq, Prod.mk.injEq, exists_eq_left, exists_eq_left', exists_eq_right, exists_eq_right', exists_and_left, exists_and_right, true_and, and_true, and_self, if_true, if_false, Bool.false_eq_true, Bool.true_eq_false, eq_self, reduceCtorEq, false_and, and_false, and_assoc, Int.reduceToNat, Int.reducePow, Int.reduceMul, Int.reduceAdd, Int.reduceNeg, Int.reduceSub, String.reduceEq, String.reduceNe, ne_eq, not_false_eq_true, not_true_eq_false, decide_false, decide_true, Bool.not_false, Bool.not_true, Bool.or_false, Bool.false_or, Bool.or_true, Bool.true_or, Bool.and_true, Bool.true_and, Bool.and_self, Bool.and_false, Bool.false_and, exists_eq', exists_eq, exists_const, false_or, or_false, or_self, List.all_cons, List.all_nil, List.any_cons, List.any_nil, Nat.reduceLeDiff, exists_false, List.map_nil, List.map_cons, Option.map_some, Option.isSome_some, Option.isSome_none, Option.getD_some, Option.getD_none, implies_true, List.foldl_cons, List.foldl_nil, forall_const, ofS_eq, Int.reduceLT, Int.reduceLE, Nat.reduceLT, isO_obj, isO_int, dctD_dct, T.c_Form, T.f_Form_constant, T.f_Form_coefficients, lf_cons, lf_coef, getD_kv]
  refine dcomp_filter (cD fun s => s != x) id (vD (coef l)) (id ?_) _ [] ?_ (fun d hd R R0 hR hR0 => ?_) ?_
  · trivial
  · rw [List.length_nil, Nat.zero_add, List.length_map, kvD_len]; exact le64 (hl.lt (by decide))
  · rw [kvD_keys] at hd
    obtain ⟨s, hs, rfl⟩ := List.mem_map.mp hd
    simp only [↓RD, RU, aStart, wipeA, putFA, toP, toPs, scDs, valD_nil, valD_cons, putM_eq, mergeD_eq, keysOk, aHandle, endsAA, putAA, starSp, put_same, put_put, inV_nil, inV_str, cxK, atI_0, atI_1, atI_2, atI_3, ixN_30, ixN_31, ixN_32, List.map, List.replicate, List.length_cons, List.length_nil, List.nil_append, List.cons_append, List.append_nil, Nat.reduceSub, Nat.reduceAdd, List.getElem?_cons_zero, List.getElem?_cons_succ, List.set_cons_zero, List.set_cons_succ, List.cons.injEq, Option.some.injEq, V.int.injEq, V.str.injEq, V.bl.injEq, D.int.injEq, D.str.injEq, D.bl.injEq, D.ref.injEq, D.tup.injEq, D.lst.injEq, D.ty.injEq, AO.lst.injEq, AO.dct.injEq, AO.ins.injEq, Prod.mk.injEq, exists_eq_left, exists_eq_left', exists_eq_right, exists_eq_right', exists_and_left, exists_and_right, true_and, and_true, and_self, if_true, if_false, Bool.false_eq_true, Bool.true_eq_false, eq_self, reduceCtorEq, false_and, and_false, and_assoc, Int.reduceToNat, Int.reducePow, Int.reduceMul, Int.reduceAdd, Int.reduceNeg, Int.reduceSub, String.reduceEq, String.reduceNe, ne_eq, not_false_eq_true, not_true_eq_false, decide_false, decide_true, Bool.not_false, Bool.not_true, Bool.or_false, Bool.false_or, Bool.or_true, Bool.true_or, Bool.and_true, Bool.true_and, Bool.and_self, Bool.and_false, Bool.false_and, exists_eq', exists_eq, exists_const, false_or, or_false, or_self, List.all_cons, List.all_nil, List.any_cons, List.any_nil, Nat.reduceLeDiff, exists_false, List.map_nil, List.map_cons, Option.map_some, Option.isSome_some, Option.isSome_none, Option.getD_some, Option.getD_none, implies_true, List.foldl_cons, List.foldl_nil, forall_const, ofS_eq, Int.reduceLT, Int.reduceLE, Nat.reduceLT, isO_obj, isO_int, dctD_dct, T.c_Form, T.f_Form_coefficients, lf_coef, valD_mem hs]
    have ec : cD (fun s => s != x) (D.str s) = !decide (s = x) := by
      show (s != x) = !decide (s = x)
      by_cases g : s = x <;> simp [g]
    rw [ec] at hR hR0
    split
    · rename_i g; exact hR g
    · rename_i g; exact hR0 ((Bool.not_eq_true _).mp g)
  · rw [kvD_keys]
    have hf := rest_fold (l := l) (x := x)
    unfold keys at hf
    rw [hf]
    simp only [↓RD, RU, aStart, wipeA, putFA, toP, toPs, scDs, valD_nil, valD_cons, putM_eq, mergeD_eq, keysOk, aHandle, endsAA, putAA, starSp, put_same, put_put, inV_nil, inV_str, cxK, atI_0, atI_1, atI_2, atI_3, ixN_30, ixN_31, ixN_32, List.map, List.replicate, List.length_cons, List.length_nil, List.nil_append, List.cons_append, List.append_nil, Nat.reduceSub, Nat.reduceAdd, List.getElem?_cons_zero, List.getElem?_cons_succ, List.set_cons_zero, List.set_cons_succ, List.cons.injEq, Option.some.injEq, V.int.injEq, V.str.injEq, V.bl.injEq, D.int.injEq, D.str.injEq, D.bl.injEq, D.ref.injEq, D.tup.injEq, D.lst.injEq, D.ty.injEq, AO.lst.injEq, AO.dct.injEq, AO.ins.injEq, Prod.mk.injEq, exists_eq_left, exists_eq_left', exists_eq_right, exists_eq_right', exists_and_left, exists_and_right, true_and, and_true, and_self, if_true, if_false, Bool.false_eq_true, Bool.true_eq_false, eq_self, reduceCtorEq, false_and, and_false, and_assoc, Int.reduceToNat, Int.reducePow, Int.reduceMul, Int.reduceAdd, Int.reduceNeg, Int.reduceSub, String.reduceEq, String.reduceNe, ne_eq, not_false_eq_true, not_true_eq_false, decide_false, decide_true, Bool.not_false, Bool.not_true, Bool.or_false, Bool.false_or, Bool.or_true, Bool.true_or, Bool.and_true, Bool.true_and, Bool.and_self, Bool.and_false, Bool.false_and, exists_eq', exists_eq, exists_const, false_or, or_false, or_self, List.all_cons, List.all_nil, List.any_cons, List.any_nil, Nat.reduceLeDiff, exists_false, List.map_nil, List.map_cons, Option.map_some, Option.isSome_some, Option.isSome_none, Option.getD_some, Option.getD_none, implies_true, List.foldl_cons, List.foldl_nil, forall_const, ofS_eq, Int.reduceLT, Int.reduceLE, Nat.reduceLT, isO_obj, isO_int, dctD_dct, T.c_Form, T.f_Form_constant, T.f_Form_coefficients, lf_cons, lf_coef]
    have hsy : Syms (restL l x) := tab_syms fun s hs => hl.sy s (List.mem_filter.mp hs).1
    refine ⟨keys (restL l x), kvD_keys, syms_bad hsy, fun y hy => ?_⟩
    refine ⟨y, c, restL l x, rfl, put_same, nodup_tab _ _, hsy, Nat.lt_of_le_of_lt (len_tab _ _) (Nat.lt_of_le_of_lt (List.length_filter_le _ _) (by rw [keys_len]; exact hl.lt (by decide))), rfl, _, put_same, ?_⟩
    rw [put_put, del_put hy]
    simp only [↓RD, RU, aStart, wipeA, putFA, toP, toPs, scDs, valD_nil, valD_cons, putM_eq, mergeD_eq, keysOk, aHandle, endsAA, putAA, starSp, put_same, put_put, inV_nil, inV_str, cxK, atI_0, atI_1, atI_2, atI_3, ixN_30, ixN_31, ixN_32, List.map, List.replicate, List.length_cons, List.length_nil, List.nil_append, List.cons_append, List.append_nil, Nat.reduceSub, Nat.reduceAdd, List.getElem?_cons_zero, List.getElem?_cons_succ, List.set_cons_zero, List.set_cons_succ, List.cons.injEq, Option.some.injEq, V.int.injEq, V.str.injEq, V.bl.injEq, D.int.injEq, D.str.injEq, D.bl.injEq, D.ref.injEq, D.tup.injEq, D.lst.injEq, D.ty.injEq, AO.lst.injEq, AO.dct.injEq, AO.ins.injEq, Prod.mk.injEq, exists_eq_left, exists_eq_left', exists_eq_right, exists_eq_right', exists_and_left, exists_and_right, true_and, and_true, and_self, if_true, if_false, Bool.false_eq_true, Bool.true_eq_false, eq_self, reduceCtorEq, false_and, and_false, and_assoc, Int.reduceToNat, Int.reducePow, Int.reduceMul, Int.reduceAdd, Int.reduceNeg, Int.reduceSub, String.reduceEq, String.reduceNe, ne_eq, not_false_eq_true, not_true_eq_false, decide_false, decide_true, Bool.not_false, Bool.not_true, Bool.or_false, Bool.false_or, Bool.or_true, Bool.true_or, Bool.and_true, Bool.true_and, Bool.and_self, Bool.and_false, Bool.false_and, exists_eq', exists_eq, exists_const, false_or, or_false, or_self, List.all_cons, List.all_nil, List.any_cons, List.any_nil, Nat.reduceLeDiff, exists_false, List.map_nil, List.map_cons, Option.map_some, Option.isSome_some, Option.isSome_none, Option.getD_some, Option.getD_none, implies_true, List.foldl_cons, List.foldl_nil, forall_const, ofS_eq, Int.reduceLT, Int.reduceLE, Nat.reduceLT, isO_obj, isO_int, dctD_dct, getD_kv]
    refine ⟨c', m, _, rfl, hm, hc, hb, ?_⟩
    simp only [↓RD, RU, aStart, wipeA, putFA, toP, toPs, scDs, valD_nil, valD_cons, putM_eq, mergeD_eq, keysOk, aHandle, endsAA, putAA, starSp, put_same, put_put, inV_nil, inV_str, cxK, atI_0, atI_1, atI_2, atI_3, ixN_30, ixN_31, ixN_32, List.map, List.replicate, List.length_cons, List.length_nil, List.nil_append, List.cons_append, List.append_nil, Nat.reduceSub, Nat.reduceAdd, List.getElem?_cons_zero, List.getElem?_cons_succ, List.set_cons_zero, List.set_cons_succ, List.cons.injEq, Option.some.injEq, V.int.injEq, V.str.injEq, V.bl.injEq, D.int.injEq, D.str.injEq, D.bl.injEq, D.ref.injEq, D.tup.injEq, D.lst.injEq, D.ty.injEq, AO.lst.injEq, AO.dct.injEq, AO.ins.injEq, Prod.mk.injEq, exists_eq_left, exists_eq_left', exists_eq_right, exists_eq_right', exists_and_left, exists_and_right, true_and, and_true, and_self, if_true, if_false, Bool.false_eq_true, Bool.true_eq_false, eq_self, reduceCtorEq, false_and, and_false, and_assoc, Int.reduceToNat, Int.reducePow, Int.reduceMul, Int.reduceAdd, Int.reduceNeg, Int.reduceSub, String.reduceEq, String.reduceNe, ne_eq, not_false_eq_true, not_true_eq_false, decide_false, decide_true, Bool.not_false, Bool.not_true, Bool.or_false, Bool.false_or, Bool.or_true, Bool.true_or, Bool.and_true, Bool.true_and, Bool.and_self, Bool.and_false, Bool.false_and, exists_eq', exists_eq, exists_const, false_or, or_false, or_self, List.all_cons, List.all_nil, List.any_cons, List.any_nil, Nat.reduceLeDiff, exists_false, List.map_nil, List.map_cons, Option.map_some, Option.isSome_some, Option.isSome_none, Option.getD_some, Option.getD_none, implies_true, List.foldl_cons, List.foldl_nil, forall_const, ofS_eq, Int.reduceLT, Int.reduceLE, Nat.reduceLT, isO_obj, isO_int, dctD_dct]
    exact ⟨c, _, _, rfl, (ok_rest hl), .inr ⟨_, _, rfl, ok_mul hm, fin_id k⟩⟩

def sp_l_value (_ : PySem.W.Frag) : ASp := fun ds A Q _ => ∃ (c : Int) (l v : SL) (d : D), ds = [.int c, .dct (kvD l), d] ∧ asD A d = some (kvD v) ∧ (keys l).Nodup ∧ l.length < 64 ∧ (∀ s, CMulW (coef l s) (coef v s)) ∧ Q (.int (c + evL l (coef v))) A
theorem R_l_value {P : Program} {w : World} {K : PySem.W.Frag} {mg : Str → Option Value} {base : Heap} (T : Tx K mg) : FnR P w K mg base CX0 1 (He.ga K "_law_value") (liftSp K (sp_l_value K)) := by
  obtain ⟨fd, F⟩ := T.d_l_value
  refine Av.FunD.AR F sc_l_value (fun ds A Q E h => by obtain ⟨c, l, v, d, rfl, hd, hnd, hz, hb, k⟩ := h; rfl) (fun _ _ _ _ _ _ us hl => match us, hl with | [_, _, _], _ => rfl) (fun cdv A0 outer s H0 E0 ds A Q E hr h => ?_)
  obtain ⟨c, l, v, d, rfl, hd, hnd, hz, hb, k⟩ := h
  refine ⟨_, (ass_cons (as_set (i := 3) sc_l_value.nd rfl (by first | exact Or.inl rfl | exact Or.inr rfl) (ae_var (pv 0)))
      (ass_cons (as_for (p := (.nm 4)) PassesOwn.never rfl (ai_keys (ae_var (pv 1))) (pg_name (i := 4) sc_l_value.nd rfl (by first | exact Or.inl rfl | exact Or.inr rfl)) (ass_one (as_set (i := 3) sc_l_value.nd rfl (by first | exact Or.inl rfl | exact Or.inr rfl) (ae_add false (ae_var (pv 3)) (ae_mul false (ae_dget (hu_of hr) (ae_var (pv 1)) (ae_var (pv 4)) (fun _ _ => rfl)) (ae_dget2 (hu_of hr) (ae_var (pv 2)) (ae_var (pv 4)) ae_int ⟨rfl, rfl, rfl, rfl⟩))))))
      (ass_one (as_ret (ae_var (pv 3)))))), ?_⟩
  simp only [↓RD, RU, aStart, wipeA, putFA, toP, toPs, scDs, valD_nil, valD_cons, putM_eq, mergeD_eq, keysOk, aHandle, endsAA, putAA, starSp, put_same, put_put, inV_nil, inV_str, cxK, atI_0, atI_1, atI_2, atI_3, ixN_30, ixN_31, ixN_32, List.map, List.replicate, List.length_cons, List.length_nil, List.nil_append, List.cons_append, List.append_nil, Nat.reduceSub, Nat.reduceAdd, List.getElem?_cons_zero, List.getElem?_cons_succ, List.set_cons_zero, List.set_cons_succ, List.cons.injEq, Option.some.injEq, V.int.injEq, V.str.injEq, V.bl.injEq, D.int.injEq, D.str.injEq, D.bl.injEq, D.ref.injEq, D.tup.injEq, D.lst.injEq, D.ty.injEq, AO.lst.injEq, AO.dct.injEq, AO.ins.injEq, Prod.mk.injEq, exists_eq_left, exists_eq_left', exists_eq_right, exists_eq_right', exists_and_left, exists_and_right, true_and, and_true, and_self, if_true, if_false, Bool.false_eq_true, Bool.true_eq_false, eq_self, reduceCtorEq, false_and, and_false, and_assoc, Int.reduceToNat, Int.reducePow, Int.reduceMul, Int.reduceAdd, Int.reduceNeg, Int.reduceSub, String.reduceEq, String.reduceNe, ne_eq, not_false_eq_true, not_true_eq_false, decide_false, decide_true, Bool.not_false, Bool.not_true, Bool.or_false, Bool.false_or, Bool.or_true, Bool.true_or, Bool.and_true, Bool.true_and, Bool.and_self, Bool.and_false, Bool.false_and, exists_eq', exists_eq, exists_const, false_or, or_false, or_self, List.all_cons, List.all_nil, List.any_cons, List.any_nil, Nat.reduceLeDiff, exists_false, List.map_nil, List.map_cons, Option.map_some, Option.isSome_some, Option.isSome_none, Option.getD_some, Option.getD_none, implies_true, List.foldl_cons, List.foldl_nil, forall_const, ofS_eq, Int.reduceLT, Int.reduceLE, Nat.reduceLT, isO_obj, isO_int, dctD_dct]
  rw [kvD_keys]
  refine loop_for (fun i δ A' => A' = A ∧ ∃ v3, δ = [some (.int c), some (.dct (kvD l)), some d, some (.int (c + sumU ((keys l).take i) fun s => coef l s * coef v s)), v3]) ⟨rfl, _, by rw [List.take_zero, sumU_nil, Int.add_zero]⟩ (fun _ _ _ _ _ => trivial) (fun i y δ A' R hy hP hR => ?_) (fun δ A' hP => ?_)
  · obtain ⟨rfl, v3, rfl⟩ := hP
    rw [List.getElem?_map] at hy
    change Option.map D.str (keys l)[i]? = some y at hy
    cases e : (keys l)[i]? with
    | none => rw [e] at hy; cases hy
    | some s =>
      rw [e] at hy
      cases hy
      simp only [↓RD, RU, aStart, wipeA, putFA, toP, toPs, scDs, valD_nil, valD_cons, putM_eq, mergeD_eq, keysOk, aHandle, endsAA, putAA, starSp, put_same, put_put, inV_nil, inV_str, cxK, atI_0, atI_1, atI_2, atI_3, ixN_30, ixN_31, ixN_32, List.map, List.replicate, List.length_cons, List.length_nil, List.nil_append, List.cons_append, List.append_nil, Nat.reduceSub, Nat.reduceAdd, List.getElem?_cons_zero, List.getElem?_cons_succ, List.set_cons_zero, List.set_cons_succ, List.cons.injEq, Option.some.injEq, V.int.injEq, V.str.injEq, V.bl.injEq, D.int.injEq, D.str.injEq, D.bl.injEq, D.ref.injEq, D.tup.injEq, D.lst.injEq, D.ty.injEq, AO.lst.injEq, AO.dct.injEq, AO.ins.injEq, Prod.mk.injEq, exists_eq_left, exists_eq_left', exists_eq_right, exists_eq_right', exists_and_left, exists_and_right, true_and, and_true, and_self, if_true, if_false, Bool.false_eq_true, Bool.true_eq_false, eq_self, reduceCtorEq, false_and, and_false, and_assoc, Int.reduceToNat, Int.reducePow, Int.reduceMul, Int.reduceAdd, Int.reduceNeg, Int.reduceSub, String.reduceEq, String.reduceNe, ne_eq, not_false_eq_true, not_true_eq_false, decide_false, decide_true, Bool.not_false, Bool.not_true, Bool.or_false, Bool.false_or, Bool.or_true, Bool.true_or, Bool.and_true, Bool.true_and, Bool.and_self, Bool.and_false, Bool.false_and, exists_eq', exists_eq, exists_const, false_or, or_false, or_self, List.all_cons, List.all_nil, List.any_cons, List.any_nil, Nat.reduceLeDiff, exists_false, List.map_nil, List.map_cons, Option.map_some, Option.isSome_some, Option.isSome_none, Option.getD_some, Option.getD_none, implies_true, List.foldl_cons, List.foldl_nil, forall_const, ofS_eq, Int.reduceLT, Int.reduceLE, Nat.reduceLT, isO_obj, isO_int, dctD_dct, hd, getD_kv, valD_mem (List.mem_of_getElem? e)]
      exact ⟨hb s, hR _ _ ⟨rfl, some (.str s), by rw [take_succ e, sumU_snoc, ← Int.add_assoc]⟩⟩
  · obtain ⟨rfl, v3, rfl⟩ := hP
    have e1 : (keys l).take (List.map D.str (List.map (fun x => x.fst) l)).length = keys l := by rw [List.length_map, List.length_map, ← keys_len, List.take_length]
    rw [e1]
    simp only [↓RD, RU, aStart, wipeA, putFA, toP, toPs, scDs, valD_nil, valD_cons, putM_eq, mergeD_eq, keysOk, aHandle, endsAA, putAA, starSp, put_same, put_put, inV_nil, inV_str, cxK, atI_0, atI_1, atI_2, atI_3, ixN_30, ixN_31, ixN_32, List.map, List.replicate, List.length_cons, List.length_nil, List.nil_append, List.cons_append, List.append_nil, Nat.reduceSub, Nat.reduceAdd, List.getElem?_cons_zero, List.getElem?_cons_succ, List.set_cons_zero, List.set_cons_succ, List.cons.injEq, Option.some.injEq, V.int.injEq, V.str.injEq, V.bl.injEq, D.int.injEq, D.str.injEq, D.bl.injEq, D.ref.injEq, D.tup.injEq, D.lst.injEq, D.ty.injEq, AO.lst.injEq, AO.dct.injEq, AO.ins.injEq, Prod.mk.injEq, exists_eq_left, exists_eq_left', exists_eq_right, exists_eq_right', exists_and_left, exists_and_right, true_and, and_true, and_self, if_true, if_false, Bool.false_eq_true, Bool.true_eq_false, eq_self, reduceCtorEq, false_and, and_false, and_assoc, Int.reduceToNat, Int.reducePow, Int.reduceMul, Int.reduceAdd, Int.reduceNeg, Int.reduceSub, String.reduceEq, String.reduceNe, ne_eq, not_false_eq_true, not_true_eq_false, decide_false, decide_true, Bool.not_false, Bool.not_true, Bool.or_false, Bool.false_or, Bool.or_true, Bool.true_or, Bool.and_true, Bool.true_and, Bool.and_self, Bool.and_false, Bool.false_and, exists_eq', exists_eq, exists_const, false_or, or_false, or_self, List.all_cons, List.all_nil, List.any_cons, List.any_nil, Nat.reduceLeDiff, exists_false, List.map_nil, List.map_cons, Option.map_some, Option.isSome_some, Option.isSome_none, Option.getD_some, Option.getD_none, implies_true, List.foldl_cons, List.foldl_nil, forall_const, ofS_eq, Int.reduceLT, Int.reduceLE, Nat.reduceLT, isO_obj, isO_int, dctD_dct]
    exact fin_id k
/-- values as the law draws them -/
structure Vls (v : SL) (m : Nat) : Prop where
  nd : (keys v).Nodup
  sz : v.length ≤ m
  nb : ∀ s, Num (coef v s)
theorem Vls.put {v : SL} {m : Nat} {s : Str} {n : Int} (h : Vls v m) (hn : Num n) : Vls (putP v s n) (m + 1) :=
  ⟨nodup_putP h.nd, Nat.le_trans len_putP (Nat.succ_le_succ h.sz), fun t => by rw [coef_putP]; split; exact hn; exact h.nb t⟩
theorem Vls.up {v : SL} {m n : Nat} (h : Vls v m) (hn : m ≤ n) : Vls v n := ⟨h.nd, Nat.le_trans h.sz hn, h.nb⟩
theorem Vls.nil : Vls [] 0 := ⟨List.nodup_nil, Nat.le_refl 0, fun s => by show Num 0; unfold Num; omega⟩
theorem getD_any {v : SL} {s : Str} {n : Int} (hv : ∀ s, Num (coef v s)) (hn : Num n) : ∃ z, Num z ∧ (valD (kvD v) (.str s)).getD (.int n) = .int z := by
  rw [valD_kv]
  cases e : v.lookup s with
  | none => exact ⟨n, hn, rfl⟩
  | some z => exact ⟨z, by have := hv s; unfold coef at this; rw [e] at this; exact this, rfl⟩
theorem put_id {A : AH} {b : Addr} {o : AO} (h : A b = some o) : put A b o = A := by
  funext x
  by_cases g : x = b
  · subst g; rw [put_same, h]
  · rw [put_ne g]
def sp_l_values (_ : PySem.W.Frag) : ASp := fun ds A Q _ => ∃ (b : Addr) (n : Nat) (l : List D) (xs : List Str), ds = [.ref b, .lst (xs.map D.str)] ∧ xs.length ≤ 30 ∧ A b = some (.lst l) ∧ BagF l n ∧ n ≤ 800000 ∧ ∀ (v : SL) (l' : List D), Vls v 33 → BagF l' (n + 500) → Q (.dct (kvD v)) (put A b (.lst l'))
theorem R_l_values {P : Program} {w : World} {K : PySem.W.Frag} {mg : Str → Option Value} {base : Heap} (T : Tx K mg) : FnR P w K mg base CX0 5 (He.ga K "_law_values") (liftSp K (sp_l_values K)) := by
  obtain ⟨fd, F⟩ := T.d_l_values
  refine Av.FunD.AR F sc_l_values (fun ds A Q E h => by obtain ⟨b, n, l, xs, rfl, hx, hb, hB, hn, k⟩ := h; rfl) (fun _ _ _ _ _ _ us hl => match us, hl with | [_, _], _ => rfl) (fun cdv A0 outer s H0 E0 ds A Q E hr h => ?_)
  obtain ⟨b, n, l, xs, rfl, hx, hb, hB, hn, k⟩ := h
  refine ⟨_, (ass_cons (as_set (i := 2) sc_l_values.nd rfl (by first | exact Or.inl rfl | exact Or.inr rfl) (ae_dnew true pe_dnewK))
      (ass_cons (as_for (p := (.nm 3)) PassesOwn.never rfl (ai_list (ae_var (pv 1))) (pg_name (i := 3) sc_l_values.nd rfl (by first | exact Or.inl rfl | exact Or.inr rfl)) (ass_one (as_if (at_cmpA cmp_gt (ae_callR (R_l_take T) (hr.mono (by decide)) rfl T.g__law_take T.k__law_take (aa_cons (ae_var (pv 0)) (aa_cons ae_int aa_nil))) ae_int (nomark _)) (ass_one (as_dput (hu_of hr) (ae_var (pv 2)) (ae_var (pv 3)) (ae_callR (R_l_number T) (hr.mono (by decide)) rfl T.g__law_number T.k__law_number (aa_cons (ae_var (pv 0)) aa_nil)) rfl)) ass_nil)))
      (ass_cons (as_for (p := (.nm 4)) PassesOwn.never rfl (ai_range1 rfl T.n_range (aa_cons (ae_callR (R_l_take T) (hr.mono (by decide)) rfl T.g__law_take T.k__law_take (aa_cons (ae_var (pv 0)) (aa_cons ae_int aa_nil))) aa_nil)) (pg_name (i := 4) sc_l_values.nd rfl (by first | exact Or.inl rfl | exact Or.inr rfl)) (ass_cons (as_set (i := 3) sc_l_values.nd rfl (by first | exact Or.inl rfl | exact Or.inr rfl) (ae_callR (R_l_symbol T) (hr.mono (by decide)) rfl T.g__law_symbol T.k__law_symbol (aa_cons (ae_var (pv 0)) aa_nil)))
      (ass_one (as_dput (hu_of hr) (ae_var (pv 2)) (ae_var (pv 3)) (ae_dget2 (hu_of hr) (ae_var (pv 2)) (ae_var (pv 3)) (ae_callR (R_l_number T) (hr.mono (by decide)) rfl T.g__law_number T.k__law_number (aa_cons (ae_var (pv 0)) aa_nil)) ⟨rfl, rfl, rfl, rfl⟩) rfl))))
      (ass_one (as_ret (ae_frz (ae_var (pv 2)))))))), ?_⟩
  simp only [↓RD, RU, aStart, wipeA, putFA, toP, toPs, scDs, valD_nil, valD_cons, putM_eq, mergeD_eq, keysOk, aHandle, endsAA, putAA, starSp, put_same, put_put, inV_nil, inV_str, cxK, atI_0, atI_1, atI_2, atI_3, ixN_30, ixN_31, ixN_32, List.map, List.replicate, List.length_cons, List.length_nil, List.nil_append, List.cons_append, List.append_nil, Nat.reduceSub, Nat.reduceAdd, List.getElem?_cons_zero, List.getElem?_cons_succ, List.set_cons_zero, List.set_cons_succ, List.cons.injEq, Option.some.injEq, V.int.injEq, V.str.injEq, V.bl.injEq, D.int.injEq, D.str.injEq, D.bl.injEq, D.ref.injEq, D.tup.injEq, D.lst.injEq, D.ty.injEq, AO.lst.injEq, AO.dct.injEq, AO.ins.injEq, Prod.mk.injEq, exists_eq_left, exists_eq_left', exists_eq_right, exists_eq_right', exists_and_left, exists_and_right, true_and, and_true, and_self, if_true, if_false, Bool.false_eq_true, Bool.true_eq_false, eq_self, reduceCtorEq, false_and, and_false, and_assoc, Int.reduceToNat, Int.reducePow, Int.reduceMul, Int.reduceAdd, Int.reduceNeg, Int.reduceSub, String.reduceEq, String.reduceNe, ne_eq, not_false_eq_true, not_true_eq_false, decide_false, decide_true, Bool.not_false, Bool.not_true, Bool.or_false, Bool.false_or, Bool.or_true, Bool.true_or, Bool.and_true, Bool.true_and, Bool.and_self, Bool.and_false, Bool.false_and, exists_eq', exists_eq, exists_const, false_or, or_false, or_self, List.all_cons, List.all_nil, List.any_cons, List.any_nil, Nat.reduceLeDiff, exists_false, List.map_nil, List.map_cons, Option.map_some, Option.isSome_some, Option.isSome_none, Option.getD_some, Option.getD_none, implies_true, List.foldl_cons, List.foldl_nil, forall_const, ofS_eq, Int.reduceLT, Int.reduceLE, Nat.reduceLT, isO_obj, isO_int, dctD_dct]
  intro p hp
  have hbp : b ≠ p := ne_live hb hp
  refine loop_for (fun i δ A' => ∃ v v4 v5 l', Vls v i ∧ A' = put (put A p (.dct (kvD v))) b (.lst l') ∧ BagF l' (n + 3 * i) ∧ δ = [some (.ref b), some (.lst (xs.map D.str)), some (.ref p), v4, v5]) ⟨[], _, _, l, Vls.nil, ?_, hB, rfl⟩ (fun _ _ _ _ _ => rfl) (fun i y δ A' R hy hP hR => ?_) (fun δ A' hP => ?_)
  · rw [put_comm hbp.symm, put_id hb]; rfl
  · obtain ⟨v, v4, v5, l', hv, rfl, hB', rfl⟩ := hP
    have hi : i < xs.length := by
      have := (List.getElem?_eq_some_iff.mp hy).1
      rw [List.length_map] at this; exact this
    obtain ⟨s, hs, rfl⟩ := List.mem_map.mp (List.mem_of_getElem? hy)
    have epb : ∀ (o : AO) (v : SL), put (put A p (.dct (kvD v))) b o p = some (.dct (kvD v)) := fun o v => by rw [put_ne hbp.symm, put_same]
    simp only [↓RD, RU, aStart, wipeA, putFA, toP, toPs, scDs, valD_nil, valD_cons, putM_eq, mergeD_eq, keysOk, aHandle, endsAA, putAA, starSp, put_same, put_put, inV_nil, inV_str, cxK, atI_0, atI_1, atI_2, atI_3, ixN_30, ixN_31, ixN_32, List.map, List.replicate, List.length_cons, List.length_nil, List.nil_append, List.cons_append, List.append_nil, Nat.reduceSub, Nat.reduceAdd, List.getElem?_cons_zero, List.getElem?_cons_succ, List.set_cons_zero, List.set_cons_succ, List.cons.injEq, Option.some.injEq, V.int.injEq, V.str.injEq, V.bl.injEq, D.int.injEq, D.str.injEq, D.bl.injEq, D.ref.injEq, D.tup.injEq, D.lst.injEq, D.ty.injEq, AO.lst.injEq, AO.dct.injEq, AO.ins.injEq, Prod.mk.injEq, exists_eq_left, exists_eq_left', exists_eq_right, exists_eq_right', exists_and_left, exists_and_right, true_and, and_true, and_self, if_true, if_false, Bool.false_eq_true, Bool.true_eq_false, eq_self, reduceCtorEq, false_and, and_false, and_assoc, Int.reduceToNat, Int.reducePow, Int.reduceMul, Int.reduceAdd, Int.reduceNeg, Int.reduceSub, String.reduceEq, String.reduceNe, ne_eq, not_false_eq_true, not_true_eq_false, decide_false, decide_true, Bool.not_false, Bool.not_true, Bool.or_false, Bool.false_or, Bool.or_true, Bool.true_or, Bool.and_true, Bool.true_and, Bool.and_self, Bool.and_false, Bool.false_and, exists_eq', exists_eq, exists_const, false_or, or_false, or_self, List.all_cons, List.all_nil, List.any_cons, List.any_nil, Nat.reduceLeDiff, exists_false, List.map_nil, List.map_cons, Option.map_some, Option.isSome_some, Option.isSome_none, Option.getD_some, Option.getD_none, implies_true, List.foldl_cons, List.foldl_nil, forall_const, ofS_eq, Int.reduceLT, Int.reduceLE, Nat.reduceLT, isO_obj, isO_int, dctD_dct]
    refine ⟨b, _, _, l', rfl, put_same, hB', by decide, by decide, by omega, fun r l1 r0 r1 hB1 => ?_⟩
    simp only [↓RD, RU, aStart, wipeA, putFA, toP, toPs, scDs, valD_nil, valD_cons, putM_eq, mergeD_eq, keysOk, aHandle, endsAA, putAA, starSp, put_same, put_put, inV_nil, inV_str, cxK, atI_0, atI_1, atI_2, atI_3, ixN_30, ixN_31, ixN_32, List.map, List.replicate, List.length_cons, List.length_nil, List.nil_append, List.cons_append, List.append_nil, Nat.reduceSub, Nat.reduceAdd, List.getElem?_cons_zero, List.getElem?_cons_succ, List.set_cons_zero, List.set_cons_succ, List.cons.injEq, Option.some.injEq, V.int.injEq, V.str.injEq, V.bl.injEq, D.int.injEq, D.str.injEq, D.bl.injEq, D.ref.injEq, D.tup.injEq, D.lst.injEq, D.ty.injEq, AO.lst.injEq, AO.dct.injEq, AO.ins.injEq, Prod.mk.injEq, exists_eq_left, exists_eq_left', exists_eq_right, exists_eq_right', exists_and_left, exists_and_right, true_and, and_true, and_self, if_true, if_false, Bool.false_eq_true, Bool.true_eq_false, eq_self, reduceCtorEq, false_and, and_false, and_assoc, Int.reduceToNat, Int.reducePow, Int.reduceMul, Int.reduceAdd, Int.reduceNeg, Int.reduceSub, String.reduceEq, String.reduceNe, ne_eq, not_false_eq_true, not_true_eq_false, decide_false, decide_true, Bool.not_false, Bool.not_true, Bool.or_false, Bool.false_or, Bool.or_true, Bool.true_or, Bool.and_true, Bool.true_and, Bool.and_self, Bool.and_false, Bool.false_and, exists_eq', exists_eq, exists_const, false_or, or_false, or_self, List.all_cons, List.all_nil, List.any_cons, List.any_nil, Nat.reduceLeDiff, exists_false, List.map_nil, List.map_cons, Option.map_some, Option.isSome_some, Option.isSome_none, Option.getD_some, Option.getD_none, implies_true, List.foldl_cons, List.foldl_nil, forall_const, ofS_eq, Int.reduceLT, Int.reduceLE, Nat.reduceLT, isO_obj, isO_int, dctD_dct]
    refine ite_dec (fun g => ?_) (fun g => ?_)
    · refine ⟨b, _, l1, rfl, put_same, hB1, by omega, fun z l2 hz hB2 => ?_⟩
      simp only [↓RD, RU, aStart, wipeA, putFA, toP, toPs, scDs, valD_nil, valD_cons, putM_eq, mergeD_eq, keysOk, aHandle, endsAA, putAA, starSp, put_same, put_put, inV_nil, inV_str, cxK, atI_0, atI_1, atI_2, atI_3, ixN_30, ixN_31, ixN_32, List.map, List.replicate, List.length_cons, List.length_nil, List.nil_append, List.cons_append, List.append_nil, Nat.reduceSub, Nat.reduceAdd, List.getElem?_cons_zero, List.getElem?_cons_succ, List.set_cons_zero, List.set_cons_succ, List.cons.injEq, Option.some.injEq, V.int.injEq, V.str.injEq, V.bl.injEq, D.int.injEq, D.str.injEq, D.bl.injEq, D.ref.injEq, D.tup.injEq, D.lst.injEq, D.ty.injEq, AO.lst.injEq, AO.dct.injEq, AO.ins.injEq, Prod.mk.injEq, exists_eq_left, exists_eq_left', exists_eq_right, exists_eq_right', exists_and_left, exists_and_right, true_and, and_true, and_self, if_true, if_false, Bool.false_eq_true, Bool.true_eq_false, eq_self, reduceCtorEq, false_and, and_false, and_assoc, Int.reduceToNat, Int.reducePow, Int.reduceMul, Int.reduceAdd, Int.reduceNeg, Int.reduceSub, String.reduceEq, String.reduceNe, ne_eq, not_false_eq_true, not_true_eq_false, decide_false, decide_true, Bool.not_false, Bool.not_true, Bool.or_false, Bool.false_or, Bool.or_true, Bool.true_or, Bool.and_true, Bool.true_and, Bool.and_self, Bool.and_false, Bool.false_and, exists_eq', exists_eq, exists_const, false_or, or_false, or_self, List.all_cons, List.all_nil, List.any_cons, List.any_nil, Nat.reduceLeDiff, exists_false, List.map_nil, List.map_cons, Option.map_some, Option.isSome_some, Option.isSome_none, Option.getD_some, Option.getD_none, implies_true, List.foldl_cons, List.foldl_nil, forall_const, ofS_eq, Int.reduceLT, Int.reduceLE, Nat.reduceLT, isO_obj, isO_int, dctD_dct, epb, putD_kv]
      refine ⟨?_, ?_⟩
      · rw [kvD_len]; have := hv.sz; exact Nat.lt_of_lt_of_le (show v.length < 64 by omega) (by decide)
      · rw [put_comm hbp, put_put]
        exact hR _ _ ⟨_, _, _, l2, hv.put hz, rfl, hB2.up (by omega), rfl⟩
    · exact hR _ _ ⟨v, _, _, l1, hv.up (by omega), rfl, hB1.up (by omega), rfl⟩
  · obtain ⟨v, v4, v5, l', hv, rfl, hB', rfl⟩ := hP
    rw [List.length_map] at hv hB'
    have epb : ∀ (o : AO) (v : SL), put (put A p (.dct (kvD v))) b o p = some (.dct (kvD v)) := fun o v => by rw [put_ne hbp.symm, put_same]
    simp only [↓RD, RU, aStart, wipeA, putFA, toP, toPs, scDs, valD_nil, valD_cons, putM_eq, mergeD_eq, keysOk, aHandle, endsAA, putAA, starSp, put_same, put_put, inV_nil, inV_str, cxK, atI_0, atI_1, atI_2, atI_3, ixN_30, ixN_31, ixN_32, List.map, List.replicate, List.length_cons, List.length_nil, List.nil_append, List.cons_append, List.append_nil, Nat.reduceSub, Nat.reduceAdd, List.getElem?_cons_zero, List.getElem?_cons_succ, List.set_cons_zero, List.set_cons_succ, List.cons.injEq, Option.some.injEq, V.int.injEq, V.str.injEq, V.bl.injEq, D.int.injEq, D.str.injEq, D.bl.injEq, D.ref.injEq, D.tup.injEq, D.lst.injEq, D.ty.injEq, AO.lst.injEq, AO.dct.injEq, AO.ins.injEq, Prod.mk.injEq, exists_eq_left, exists_eq_left', exists_eq_right, exists_eq_right', exists_and_left, exists_and_right, true_and, and_true, and_self, if_true, if_false, Bool.false_eq_true, Bool.true_eq_false, eq_self, reduceCtorEq, false_and, and_false, and_assoc, Int.reduceToNat, Int.reducePow, Int.reduceMul, Int.reduceAdd, Int.reduceNeg, Int.reduceSub, String.reduceEq, String.reduceNe, ne_eq, not_false_eq_true, not_true_eq_false, decide_false, decide_true, Bool.not_false, Bool.not_true, Bool.or_false, Bool.false_or, Bool.or_true, Bool.true_or, Bool.and_true, Bool.true_and, Bool.and_self, Bool.and_false, Bool.false_and, exists_eq', exists_eq, exists_const, false_or, or_false, or_self, List.all_cons, List.all_nil, List.any_cons, List.any_nil, Nat.reduceLeDiff, exists_false, List.map_nil, List.map_cons, Option.map_some, Option.isSome_some, Option.isSome_none, Option.getD_some, Option.getD_none, implies_true, List.foldl_cons, List.foldl_nil, forall_const, ofS_eq, Int.reduceLT, Int.reduceLE, Nat.reduceLT, isO_obj, isO_int, dctD_dct]
    refine ⟨b, _, _, l', rfl, put_same, hB', by decide, by decide, by omega, fun r l1 r0 r1 hB1 => ?_⟩
    simp only [↓RD, RU, aStart, wipeA, putFA, toP, toPs, scDs, valD_nil, valD_cons, putM_eq, mergeD_eq, keysOk, aHandle, endsAA, putAA, starSp, put_same, put_put, inV_nil, inV_str, cxK, atI_0, atI_1, atI_2, atI_3, ixN_30, ixN_31, ixN_32, List.map, List.replicate, List.length_cons, List.length_nil, List.nil_append, List.cons_append, List.append_nil, Nat.reduceSub, Nat.reduceAdd, List.getElem?_cons_zero, List.getElem?_cons_succ, List.set_cons_zero, List.set_cons_succ, List.cons.injEq, Option.some.injEq, V.int.injEq, V.str.injEq, V.bl.injEq, D.int.injEq, D.str.injEq, D.bl.injEq, D.ref.injEq, D.tup.injEq, D.lst.injEq, D.ty.injEq, AO.lst.injEq, AO.dct.injEq, AO.ins.injEq, Prod.mk.injEq, exists_eq_left, exists_eq_left', exists_eq_right, exists_eq_right', exists_and_left, exists_and_right, true_and, and_true, and_self, if_true, if_false, Bool.false_eq_true, Bool.true_eq_false, eq_self, reduceCtorEq, false_and, and_false, and_assoc, Int.reduceToNat, Int.reducePow, Int.reduceMul, Int.reduceAdd, Int.reduceNeg, Int.reduceSub, String.reduceEq, String.reduceNe, ne_eq, not_false_eq_true, not_true_eq_false, decide_false, decide_true, Bool.not_false, Bool.not_true, Bool.or_false, Bool.false_or, Bool.or_true, Bool.true_or, Bool.and_true, Bool.true_and, Bool.and_self, Bool.and_false, Bool.false_and, exists_eq', exists_eq, exists_const, false_or, or_false, or_self, List.all_cons, List.all_nil, List.any_cons, List.any_nil, Nat.reduceLeDiff, exists_false, List.map_nil, List.map_cons, Option.map_some, Option.isSome_some, Option.isSome_none, Option.getD_some, Option.getD_none, implies_true, List.foldl_cons, List.foldl_nil, forall_const, ofS_eq, Int.reduceLT, Int.reduceLE, Nat.reduceLT, isO_obj, isO_int, dctD_dct]
    obtain ⟨N, rfl⟩ : ∃ N : Nat, r = (N : Int) := ⟨r.toNat, by omega⟩
    refine ⟨by omega, by omega, ?_⟩
    rw [Int.toNat_natCast]
    refine loop_for (fun i δ A' => ∃ v v4 v5 l', Vls v (xs.length + i) ∧ A' = put (put A p (.dct (kvD v))) b (.lst l') ∧ BagF l' (n + 3 * xs.length + 1 + 20 * i) ∧ δ = [some (.ref b), some (.lst (xs.map D.str)), some (.ref p), v4, v5]) ⟨v, _, _, l1, hv, rfl, hB1, rfl⟩ (fun _ _ _ _ _ => trivial) (fun i y δ A' R hy hP hR => ?_) (fun δ A' hP => ?_)
    · obtain ⟨v, v4, v5, l', hv, rfl, hB', rfl⟩ := hP
      obtain ⟨hi, rfl⟩ := rngL_get hy
      simp only [↓RD, RU, aStart, wipeA, putFA, toP, toPs, scDs, valD_nil, valD_cons, putM_eq, mergeD_eq, keysOk, aHandle, endsAA, putAA, starSp, put_same, put_put, inV_nil, inV_str, cxK, atI_0, atI_1, atI_2, atI_3, ixN_30, ixN_31, ixN_32, List.map, List.replicate, List.length_cons, List.length_nil, List.nil_append, List.cons_append, List.append_nil, Nat.reduceSub, Nat.reduceAdd, List.getElem?_cons_zero, List.getElem?_cons_succ, List.set_cons_zero, List.set_cons_succ, List.cons.injEq, Option.some.injEq, V.int.injEq, V.str.injEq, V.bl.injEq, D.int.injEq, D.str.injEq, D.bl.injEq, D.ref.injEq, D.tup.injEq, D.lst.injEq, D.ty.injEq, AO.lst.injEq, AO.dct.injEq, AO.ins.injEq, Prod.mk.injEq, exists_eq_left, exists_eq_left', exists_eq_right, exists_eq_right', exists_and_left, exists_and_right, true_and, and_true, and_self, if_true, if_false, Bool.false_eq_true, Bool.true_eq_false, eq_self, reduceCtorEq, false_and, and_false, and_assoc, Int.reduceToNat, Int.reducePow, Int.reduceMul, Int.reduceAdd, Int.reduceNeg, Int.reduceSub, String.reduceEq, String.reduceNe, ne_eq, not_false_eq_true, not_true_eq_false, decide_false, decide_true, Bool.not_false, Bool.not_true, Bool.or_false, Bool.false_or, Bool.or_true, Bool.true_or, Bool.and_true, Bool.true_and, Bool.and_self, Bool.and_false, Bool.false_and, exists_eq', exists_eq, exists_const, false_or, or_false, or_self, List.all_cons, List.all_nil, List.any_cons, List.any_nil, Nat.reduceLeDiff, exists_false, List.map_nil, List.map_cons, Option.map_some, Option.isSome_some, Option.isSome_none, Option.getD_some, Option.getD_none, implies_true, List.foldl_cons, List.foldl_nil, forall_const, ofS_eq, Int.reduceLT, Int.reduceLE, Nat.reduceLT, isO_obj, isO_int, dctD_dct]
      refine ⟨b, _, l', rfl, put_same, hB', by omega, fun s l2 hs hsl hB2 => ?_⟩
      simp only [↓RD, RU, aStart, wipeA, putFA, toP, toPs, scDs, valD_nil, valD_cons, putM_eq, mergeD_eq, keysOk, aHandle, endsAA, putAA, starSp, put_same, put_put, inV_nil, inV_str, cxK, atI_0, atI_1, atI_2, atI_3, ixN_30, ixN_31, ixN_32, List.map, List.replicate, List.length_cons, List.length_nil, List.nil_append, List.cons_append, List.append_nil, Nat.reduceSub, Nat.reduceAdd, List.getElem?_cons_zero, List.getElem?_cons_succ, List.set_cons_zero, List.set_cons_succ, List.cons.injEq, Option.some.injEq, V.int.injEq, V.str.injEq, V.bl.injEq, D.int.injEq, D.str.injEq, D.bl.injEq, D.ref.injEq, D.tup.injEq, D.lst.injEq, D.ty.injEq, AO.lst.injEq, AO.dct.injEq, AO.ins.injEq, Prod.mk.injEq, exists_eq_left, exists_eq_left', exists_eq_right, exists_eq_right', exists_and_left, exists_and_right, true_and, and_true, and_self, if_true, if_false, Bool.false_eq_true, Bool.true_eq_false, eq_self, reduceCtorEq, false_and, and_false, and_assoc, Int.reduceToNat, Int.reducePow, Int.reduceMul, Int.reduceAdd, Int.reduceNeg, Int.reduceSub, String.reduceEq, String.reduceNe, ne_eq, not_false_eq_true, not_true_eq_false, decide_false, decide_true, Bool.not_false, Bool.not_true, Bool.or_false, Bool.false_or, Bool.or_true, Bool.true_or, Bool.and_true, Bool.true_and, Bool.and_self, Bool.and_false, Bool.false_and, exists_eq', exists_eq, exists_const, false_or, or_false, or_self, List.all_cons, List.all_nil, List.any_cons, List.any_nil, Nat.reduceLeDiff, exists_false, List.map_nil, List.map_cons, Option.map_some, Option.isSome_some, Option.isSome_none, Option.getD_some, Option.getD_none, implies_true, List.foldl_cons, List.foldl_nil, forall_const, ofS_eq, Int.reduceLT, Int.reduceLE, Nat.reduceLT, isO_obj, isO_int, dctD_dct, epb]
      refine ⟨b, _, l2, rfl, put_same, hB2, by omega, fun z l3 hz hB3 => ?_⟩
      obtain ⟨z', hz', ez⟩ := getD_any (s := s) hv.nb hz
      simp only [↓RD, RU, aStart, wipeA, putFA, toP, toPs, scDs, valD_nil, valD_cons, putM_eq, mergeD_eq, keysOk, aHandle, endsAA, putAA, starSp, put_same, put_put, inV_nil, inV_str, cxK, atI_0, atI_1, atI_2, atI_3, ixN_30, ixN_31, ixN_32, List.map, List.replicate, List.length_cons, List.length_nil, List.nil_append, List.cons_append, List.append_nil, Nat.reduceSub, Nat.reduceAdd, List.getElem?_cons_zero, List.getElem?_cons_succ, List.set_cons_zero, List.set_cons_succ, List.cons.injEq, Option.some.injEq, V.int.injEq, V.str.injEq, V.bl.injEq, D.int.injEq, D.str.injEq, D.bl.injEq, D.ref.injEq, D.tup.injEq, D.lst.injEq, D.ty.injEq, AO.lst.injEq, AO.dct.injEq, AO.ins.injEq, Prod.mk.injEq, exists_eq_left, exists_eq_left', exists_eq_right, exists_eq_right', exists_and_left, exists_and_right, true_and, and_true, and_self, if_true, if_false, Bool.false_eq_true, Bool.true_eq_false, eq_self, reduceCtorEq, false_and, and_false, and_assoc, Int.reduceToNat, Int.reducePow, Int.reduceMul, Int.reduceAdd, Int.reduceNeg, Int.reduceSub, String.reduceEq, String.reduceNe, ne_eq, not_false_eq_true, not_true_eq_false, decide_false, decide_true, Bool.not_false, Bool.not_true, Bool.or_false, Bool.false_or, Bool.or_true, Bool.true_or, Bool.and_true, Bool.true_and, Bool.and_self, Bool.and_false, Bool.false_and, exists_eq', exists_eq, exists_const, false_or, or_false, or_self, List.all_cons, List.all_nil, List.any_cons, List.any_nil, Nat.reduceLeDiff, exists_false, List.map_nil, List.map_cons, Option.map_some, Option.isSome_some, Option.isSome_none, Option.getD_some, Option.getD_none, implies_true, List.foldl_cons, List.foldl_nil, forall_const, ofS_eq, Int.reduceLT, Int.reduceLE, Nat.reduceLT, isO_obj, isO_int, dctD_dct, epb, ez, putD_kv]
      refine ⟨?_, ?_⟩
      · rw [kvD_len]; have := hv.sz; exact Nat.lt_of_lt_of_le (show v.length < 64 by omega) (by decide)
      · rw [put_comm hbp, put_put]
        exact hR _ _ ⟨_, _, _, l3, hv.put hz', rfl, hB3.up (by omega), rfl⟩
    · obtain ⟨v, v4, v5, l', hv, rfl, hB', rfl⟩ := hP
      rw [rngL_len] at hv hB'
      simp only [↓RD, RU, aStart, wipeA, putFA, toP, toPs, scDs, valD_nil, valD_cons, putM_eq, mergeD_eq, keysOk, aHandle, endsAA, putAA, starSp, put_same, put_put, inV_nil, inV_str, cxK, atI_0, atI_1, atI_2, atI_3, ixN_30, ixN_31, ixN_32, List.map, List.replicate, List.length_cons, List.length_nil, List.nil_append, List.cons_append, List.append_nil, Nat.reduceSub, Nat.reduceAdd, List.getElem?_cons_zero, List.getElem?_cons_succ, List.set_cons_zero, List.set_cons_succ, List.cons.injEq, Option.some.injEq, V.int.injEq, V.str.injEq, V.bl.injEq, D.int.injEq, D.str.injEq, D.bl.injEq, D.ref.injEq, D.tup.injEq, D.lst.injEq, D.ty.injEq, AO.lst.injEq, AO.dct.injEq, AO.ins.injEq, Prod.mk.injEq, exists_eq_left, exists_eq_left', exists_eq_right, exists_eq_right', exists_and_left, exists_and_right, true_and, and_true, and_self, if_true, if_false, Bool.false_eq_true, Bool.true_eq_false, eq_self, reduceCtorEq, false_and, and_false, and_assoc, Int.reduceToNat, Int.reducePow, Int.reduceMul, Int.reduceAdd, Int.reduceNeg, Int.reduceSub, String.reduceEq, String.reduceNe, ne_eq, not_false_eq_true, not_true_eq_false, decide_false, decide_true, Bool.not_false, Bool.not_true, Bool.or_false, Bool.false_or, Bool.or_true, Bool.true_or, Bool.and_true, Bool.true_and, Bool.and_self, Bool.and_false, Bool.false_and, exists_eq', exists_eq, exists_const, false_or, or_false, or_self, List.all_cons, List.all_nil, List.any_cons, List.any_nil, Nat.reduceLeDiff, exists_false, List.map_nil, List.map_cons, Option.map_some, Option.isSome_some, Option.isSome_none, Option.getD_some, Option.getD_none, implies_true, List.foldl_cons, List.foldl_nil, forall_const, ofS_eq, Int.reduceLT, Int.reduceLE, Nat.reduceLT, isO_obj, isO_int, dctD_dct, epb]
      have ed : del (put (put A p (.dct (kvD v))) b (.lst l')) p = put A b (.lst l') := by rw [del_put_ne hbp, del_put hp]
      rw [ed]
      exact fin_id (k v l' (hv.up (by omega)) (hB'.up (by omega)))

end V06

set_option Elab.async false
set_option linter.all false
set_option maxRecDepth 100000
set_option maxHeartbeats 0
set_option exponentiation.threshold 2000
namespace V06
open PySem PySem.Spec PyProof.Rows L2 My Av
theorem put_ev {L N T : SL} {x : Str} {f w c e : Int} {inn v : Str → Int} (hL : (keys L).Nodup) (hN : (keys N).Nodup) (hT : (keys T).Nodup) (ht : ∀ s, coef T s = (if s = x then 0 else coef L s) + coef N s * f) (hf : f = coef L x) (hi : ∀ s, inn s = if s = x then w else v s) (hw : w = e + evL N v) : c + e * f + evL T v = c + evL L inn := by
  have hU := nodup_tab (fun _ => 0) (keys L ++ (keys N ++ (keys T ++ [x])))
  have hm : ∀ s, s ∈ keys (tab (fun _ => 0) (keys L ++ (keys N ++ (keys T ++ [x])))) ↔ s ∈ keys L ++ (keys N ++ (keys T ++ [x])) := fun s => mem_tab
  generalize keys (tab (fun _ => 0) (keys L ++ (keys N ++ (keys T ++ [x])))) = U at hU hm
  have h1 : evL T v = sumU U fun s => coef T s * v s := evL_over hT hU fun s hs => (hm s).mpr (by simp [hs])
  have h2 : evL L inn = sumU U fun s => coef L s * inn s := evL_over hL hU fun s hs => (hm s).mpr (by simp [hs])
  have h3 : evL N v = sumU U fun s => coef N s * v s := evL_over hN hU fun s hs => (hm s).mpr (by simp [hs])
  have hx : x ∈ U := (hm x).mpr (by simp)
  have h4 : (sumU U fun s => coef T s * v s) = (sumU U fun s => (if s = x then 0 else coef L s) * v s) + f * sumU U fun s => coef N s * v s := by
    rw [← sumU_mul, ← sumU_add]
    refine sumU_congr fun s _ => ?_
    rw [ht, Int.add_mul, Int.mul_comm (coef N s) f, Int.mul_assoc]
  have h5 : (sumU U fun s => coef L s * inn s) = (sumU U fun s => (if s = x then 0 else coef L s) * v s) + f * w := by
    rw [← sumU_one (k := f * w) hU hx, ← sumU_add]
    refine sumU_congr fun s _ => ?_
    rw [hi]
    by_cases g : s = x
    · subst g
      rw [if_pos rfl, if_pos rfl, if_pos rfl, ← hf, Int.zero_mul, Int.zero_add]
    · rw [if_neg g, if_neg g, if_neg g, Int.add_zero]
  rw [h1, h4, h2, h5, hw, ← h3, Int.mul_add, Int.mul_comm e f]
  omega
theorem evL_norm {L : SL} {v : Str → Int} (h : (keys L).Nodup) : evL (norm L) v = evL L v := by
  have : ∀ s ∈ keys (norm L), s ∈ keys L := fun s hs => coef_mem (mem_norm.mp hs)
  rw [evL_over (nodup_norm h) h this]
  unfold evL
  exact sumU_congr fun s _ => by rw [coef_norm]
theorem prod_lt {a b : Int} (h1 : a.natAbs < 2 ^ 200) (h2 : b.natAbs < 2 ^ 200) : (a * b).natAbs < 2 ^ 400 := by
  rw [Int.natAbs_mul]
  have := Nat.mul_lt_mul'' h1 h2
  rw [← Nat.pow_add] at this
  exact this
theorem ev_lt {N : SL} {v : Str → Int} (hz : N.length < 64) (h1 : ∀ s, (coef N s).natAbs < 2 ^ 200) (h2 : ∀ s, (v s).natAbs < 2 ^ 200) : (evL N v).natAbs < 2 ^ 410 := by
  have h := sumU_bd (U := keys N) (f := fun s => coef N s * v s) (B := 2 ^ 400) fun s _ => Nat.le_of_lt (prod_lt (h1 s) (h2 s))
  rw [keys_len] at h
  have : N.length * 2 ^ 400 ≤ 64 * 2 ^ 400 := Nat.mul_le_mul_right _ (by omega)
  unfold evL
  omega
theorem mulk {i j : Int} (h1 : i.natAbs < 2 ^ 500) (h2 : j.natAbs < 2 ^ 500) : CMulW i j := cmulW (Nat.lt_of_lt_of_le h1 (Nat.pow_le_pow_right (by decide) (by decide))) (Nat.lt_of_lt_of_le h2 (Nat.pow_le_pow_right (by decide) (by decide)))
theorem lf_put {x y : D} : List.lookup ("put" : Str) [(("constant" : Str), x), (("coefficients" : Str), y)] = none := by rfl
theorem asD_ref {A : AH} {p : Addr} {kv : List (D × D)} (h : A p = some (.dct kv)) : asD A (.ref p) = some kv := by show (match A p with | some (.dct kv) => some kv | x => none) = some kv; rw [h]
theorem ec_ne {s x : Str} : cD (fun s => s != x) (D.str s) = !decide (s = x) := by
  show (s != x) = !decide (s = x)
  by_cases g : s = x <;> simp [g]
def spa_law (_ : PySem.W.Frag) : ASp := fun ds A Q _ => ∃ ns : List Int, ds = [.rol (ns.map D.int)] ∧ ns.length ≤ 63 ∧ ∀ A', Q (.bl true) A'
theorem B_law {P : Program} {w : World} {K : PySem.W.Frag} {mg : Str → Option Value} {base : Heap} (T : Tx K mg) : Av.BodyR P w K mg base D_law.qual D_law.body D_law.scope (He.ga K "law") ["_law_script", "_law_at", "_law_bag_here", "_law_constant", "_law_pairs_here", "_law_second", "_law_others", "_law_sums_here", "_law_more", "_law_symbol_here", "_law_factor", "_law_due", "_law_one", "_law_form", "_law_other", "_law_told", "_law_values_here", "_law_inner"] 12 (spa_law K) := by
  intro cdv A0 outer s H0 E0 ds A Q E hr h
  obtain ⟨ns, rfl, hl, k⟩ := h
  refine ⟨_, (ass_cons (as_for (p := (.nm 1)) PassesOwn.never rfl (ai_range1 rfl T.n_range (aa_cons (ae_callB (ca_max rfl) (by rfl) T.n_max (by decide +kernel) (aa_cons ae_int (aa_cons (ae_callB (ca_min rfl) (by rfl) T.n_min (by decide +kernel) (aa_cons ae_int (aa_cons (ae_callB ca_len (by rfl) T.n_len (by decide +kernel) (aa_cons (ae_var (pv 0)) aa_nil)) aa_nil))) aa_nil))) aa_nil)) (pg_name (i := 1) sc_law.nd rfl (by first | exact Or.inl rfl | exact Or.inr rfl)) (ass_cons (as_set (i := 2) sc_law.nd rfl (by first | exact Or.inl rfl | exact Or.inr rfl) (ae_callR (R_l_bag T) (hr.mono (by decide)) rfl T.g__law_bag T.k__law_bag (aa_cons (ae_var (pv 0)) (aa_cons (ae_var (pv 1)) aa_nil))))
      (ass_cons (as_par2 (i := 3) (j := 4) (by rfl) sc_law.nd rfl rfl (by decide) rfl rfl (aa_cons (ae_callR (R_l_number T) (hr.mono (by decide)) rfl T.g__law_number T.k__law_number (aa_cons (ae_var (pv 2)) aa_nil)) (aa_cons (ae_callR (R_l_pairs T) (hr.mono (by decide)) rfl T.g__law_pairs T.k__law_pairs (aa_cons (ae_var (pv 2)) (aa_cons ae_int aa_nil))) aa_nil)) (by rfl))
      (ass_cons (as_par2 (i := 5) (j := 6) (by rfl) sc_law.nd rfl rfl (by decide) rfl rfl (aa_cons (ae_callR (R_l_number T) (hr.mono (by decide)) rfl T.g__law_number T.k__law_number (aa_cons (ae_var (pv 2)) aa_nil)) (aa_cons (ae_callR (R_l_pairs T) (hr.mono (by decide)) rfl T.g__law_pairs T.k__law_pairs (aa_cons (ae_var (pv 2)) (aa_cons ae_int aa_nil))) aa_nil)) (by rfl))
      (ass_cons (as_asg (p := (.tp [(.nm 7), (.nm 8)])) (ae_tup (aa_cons (ae_callR (R_l_sums T) (hr.mono (by decide)) rfl T.g__law_sums T.k__law_sums (aa_cons (ae_var (pv 4)) aa_nil)) (aa_cons (ae_callR (R_l_sums T) (hr.mono (by decide)) rfl T.g__law_sums T.k__law_sums (aa_cons (ae_var (pv 6)) aa_nil)) aa_nil))) (pg_tup (n := 2) rfl (pgs_cons (pg_name (i := 7) sc_law.nd rfl (by first | exact Or.inl rfl | exact Or.inr rfl)) (pgs_cons (pg_name (i := 8) sc_law.nd rfl (by first | exact Or.inl rfl | exact Or.inr rfl)) pgs_nil))))
      (ass_cons (as_set (i := 9) sc_law.nd rfl (by first | exact Or.inl rfl | exact Or.inr rfl) (ae_callR (R_l_symbol T) (hr.mono (by decide)) rfl T.g__law_symbol T.k__law_symbol (aa_cons (ae_var (pv 2)) aa_nil)))
      (ass_cons (as_if (PW.pt (aw_and (at_cmpA (cmp_ne hr.units) (ae_var (pv 4)) (ae_lst false aa_nil) (nomark _)) (aw_and1 (at_cmpA cmp_gt (ae_callR (R_l_take T) (hr.mono (by decide)) rfl T.g__law_take T.k__law_take (aa_cons (ae_var (pv 2)) (aa_cons ae_int aa_nil))) ae_int (nomark _))))) (ass_one (as_set (i := 9) sc_law.nd rfl (by first | exact Or.inl rfl | exact Or.inr rfl) (ae_subs (ae_subs (ae_var (pv 4)) (ae_callR (R_l_take T) (hr.mono (by decide)) rfl T.g__law_take T.k__law_take (aa_cons (ae_var (pv 2)) (aa_cons (ae_callB ca_len (by rfl) T.n_len (by decide +kernel) (aa_cons (ae_var (pv 4)) aa_nil)) aa_nil))) (fun _ _ => rfl)) ae_int (fun _ _ => rfl)))) ass_nil)
      (ass_cons (as_set (i := 10) sc_law.nd rfl (by first | exact Or.inl rfl | exact Or.inr rfl) (ae_dget2 (hu_of hr) (ae_var (pv 7)) (ae_var (pv 9)) ae_int ⟨rfl, rfl, rfl, rfl⟩))
      (ass_cons (as_set (i := 11) sc_law.nd rfl (by first | exact Or.inl rfl | exact Or.inr rfl) (ae_callTy (ca_dictP rfl true) (by rfl) T.n_dict (by decide +kernel) (aa_cons (ae_lc false (own := [("_law_one", 12)]) (pt := (.nm 12)) rfl sc_law.nd (ai_keys (ae_var (pv 7))) (blkOk_by (own := [("_law_one", 12)]) (N := ["_law_script", "_law_at", "_law_bag_here", "_law_constant", "_law_pairs_here", "_law_second", "_law_others", "_law_sums_here", "_law_more", "_law_symbol_here", "_law_factor", "_law_due", "_law_one", "_law_form", "_law_other", "_law_told", "_law_values_here", "_law_inner"]) (sc := defScope s_law) (by decide +kernel)) (by decide) (fun _ _ _ _ _ => by exact (pg_name (i := 12) sc_law.nd rfl (by first | exact Or.inl rfl | exact Or.inr rfl))) (fun _ _ _ _ _ => by exact (ats_one (at_cmpA (cmp_ne hr.units) (ae_var (pv 12)) (ae_var (pv 9)) (nomark _)))) (fun _ _ _ _ _ => by exact (ae_tup (aa_cons (ae_var (pv 12)) (aa_cons (ae_dget (hu_of hr) (ae_var (pv 7)) (ae_var (pv 12)) (fun _ _ => rfl)) aa_nil))))) aa_nil)))
      (ass_cons (as_for (p := (.nm 12)) PassesOwn.never rfl (ai_keys (ae_var (pv 8))) (pg_name (i := 12) sc_law.nd rfl (by first | exact Or.inl rfl | exact Or.inr rfl)) (ass_one (as_dput (hu_of hr) (ae_var (pv 11)) (ae_var (pv 12)) (ae_add false (ae_dget2 (hu_of hr) (ae_var (pv 11)) (ae_var (pv 12)) ae_int ⟨rfl, rfl, rfl, rfl⟩) (ae_mul false (ae_var (pv 10)) (ae_dget (hu_of hr) (ae_var (pv 8)) (ae_var (pv 12)) (fun _ _ => rfl)))) rfl)))
      (ass_cons (as_par2 (i := 13) (j := 14) (by rfl) sc_law.nd rfl rfl (by decide) rfl rfl (aa_cons (ae_cmeth (ae_c (pe_glob (v := .ref (He.ga _ "Form")) rfl T.g_Form rfl) fun _ _ => .ref _) T.cr_Form T.cm_Form_of (R_Form_of T) (hr.mono (by decide)) (aa_cons (ae_var (pv 3)) (aa_cons (ae_callTy (ca_list false) (by rfl) T.n_list (by decide +kernel) (aa_cons (ae_var (pv 4)) aa_nil)) aa_nil))) (aa_cons (ae_cmeth (ae_c (pe_glob (v := .ref (He.ga _ "Form")) rfl T.g_Form rfl) fun _ _ => .ref _) T.cr_Form T.cm_Form_of (R_Form_of T) (hr.mono (by decide)) (aa_cons (ae_var (pv 5)) (aa_cons (ae_callTy (ca_list false) (by rfl) T.n_list (by decide +kernel) (aa_cons (ae_var (pv 6)) aa_nil)) aa_nil))) aa_nil)) (by rfl))
      (ass_cons (as_set (i := 15) sc_law.nd rfl (by first | exact Or.inl rfl | exact Or.inr rfl) (ae_methR (ae_var (pv 13)) T.c_Form T.m_Form_put (R_Form_put T) (hr.mono (by decide)) (aa_cons (ae_var (pv 9)) (aa_cons (ae_var (pv 14)) aa_nil))))
      (ass_cons (as_if (at_cmpA (cmp_ne hr.units) (ae_methR0 (ae_var (pv 15)) T.c_Form T.m_Form_written (R_Form_written T) (hr.mono (by decide))) (ae_callR (R_l_written T) (hr.mono (by decide)) rfl T.g__law_written T.k__law_written (aa_cons (ae_add false (ae_var (pv 3)) (ae_mul false (ae_var (pv 10)) (ae_var (pv 5)))) (aa_cons (ae_var (pv 11)) aa_nil))) (nomark _)) (ass_one (as_ret ae_bl)) ass_nil)
      (ass_cons (as_set (i := 16) sc_law.nd rfl (by first | exact Or.inl rfl | exact Or.inr rfl) (ae_callR (R_l_values T) (hr.mono (by decide)) rfl T.g__law_values T.k__law_values (aa_cons (ae_var (pv 2)) (aa_cons (ae_add false (ae_callB (ca_sorted rfl false) (by rfl) T.n_sorted (by decide +kernel) (aa_cons (ae_var (pv 7)) aa_nil)) (ae_callB (ca_sorted rfl false) (by rfl) T.n_sorted (by decide +kernel) (aa_cons (ae_var (pv 8)) aa_nil))) aa_nil))))
      (ass_cons (as_set (i := 17) sc_law.nd rfl (by first | exact Or.inl rfl | exact Or.inr rfl) (ae_callTy (ca_dictP rfl true) (by rfl) T.n_dict (by decide +kernel) (aa_cons (ae_lc false (own := [("_law_one", 12)]) (pt := (.nm 12)) rfl sc_law.nd (ai_keys (ae_var (pv 16))) (blkOk_by (own := [("_law_one", 12)]) (N := ["_law_script", "_law_at", "_law_bag_here", "_law_constant", "_law_pairs_here", "_law_second", "_law_others", "_law_sums_here", "_law_more", "_law_symbol_here", "_law_factor", "_law_due", "_law_one", "_law_form", "_law_other", "_law_told", "_law_values_here", "_law_inner"]) (sc := defScope s_law) (by decide +kernel)) (by decide) (fun _ _ _ _ _ => by exact (pg_name (i := 12) sc_law.nd rfl (by first | exact Or.inl rfl | exact Or.inr rfl))) (fun _ _ _ _ _ => by exact (ats_one (at_cmpA (cmp_ne hr.units) (ae_var (pv 12)) (ae_var (pv 9)) (nomark _)))) (fun _ _ _ _ _ => by exact (ae_tup (aa_cons (ae_var (pv 12)) (aa_cons (ae_dget (hu_of hr) (ae_var (pv 16)) (ae_var (pv 12)) (fun _ _ => rfl)) aa_nil))))) aa_nil)))
      (ass_cons (as_dput (hu_of hr) (ae_var (pv 17)) (ae_var (pv 9)) (ae_callR (R_l_value T) (hr.mono (by decide)) rfl T.g__law_value T.k__law_value (aa_cons (ae_var (pv 5)) (aa_cons (ae_var (pv 8)) (aa_cons (ae_var (pv 16)) aa_nil)))) rfl)
      (ass_cons (as_if (PW.pt (aw_or (at_cmpA (cmp_ne hr.units) (ae_callO T.co_Form (R_Form___call__ T) (hr.mono (by decide)) (ae_var (pv 15)) (aa_cons (ae_var (pv 16)) aa_nil)) (ae_callR (R_l_value T) (hr.mono (by decide)) rfl T.g__law_value T.k__law_value (aa_cons (ae_var (pv 3)) (aa_cons (ae_var (pv 7)) (aa_cons (ae_var (pv 17)) aa_nil)))) (nomark _)) (aw_or1 (at_cmpA (cmp_ne hr.units) (ae_callO T.co_Form (R_Form___call__ T) (hr.mono (by decide)) (ae_var (pv 15)) (aa_cons (ae_var (pv 16)) aa_nil)) (ae_callO T.co_Form (R_Form___call__ T) (hr.mono (by decide)) (ae_var (pv 13)) (aa_cons (ae_var (pv 17)) aa_nil)) (nomark _))))) (ass_one (as_ret ae_bl)) ass_nil)
      (ass_one (as_if (PW.pt (aw_or (at_cmpA (cmp_ne hr.units) (ae_methR0 (ae_var (pv 13)) T.c_Form T.m_Form_written (R_Form_written T) (hr.mono (by decide))) (ae_callR (R_l_written T) (hr.mono (by decide)) rfl T.g__law_written T.k__law_written (aa_cons (ae_var (pv 3)) (aa_cons (ae_var (pv 7)) aa_nil))) (nomark _)) (aw_or1 (at_cmpA (cmp_ne hr.units) (ae_methR0 (ae_var (pv 14)) T.c_Form T.m_Form_written (R_Form_written T) (hr.mono (by decide))) (ae_callR (R_l_written T) (hr.mono (by decide)) rfl T.g__law_written T.k__law_written (aa_cons (ae_var (pv 5)) (aa_cons (ae_var (pv 8)) aa_nil))) (nomark _))))) (ass_one (as_ret ae_bl)) ass_nil)))))))))))))))))))
      (ass_one (as_ret ae_bl))), ?_⟩
  simp only [↓RD, RU, aStart, wipeA, putFA, toP, toPs, scDs, valD_nil, valD_cons, putM_eq, mergeD_eq, keysOk, aHandle, endsAA, putAA, starSp, put_same, put_put, inV_nil, inV_str, cxK, atI_0, atI_1, atI_2, atI_3, ixN_30, ixN_31, ixN_32, List.map, List.replicate, List.length_cons, List.length_nil, List.nil_append, List.cons_append, List.append_nil, Nat.reduceSub, Nat.reduceAdd, List.getElem?_cons_zero, List.getElem?_cons_succ, List.set_cons_zero, List.set_cons_succ, List.cons.injEq, Option.some.injEq, V.int.injEq, V.str.injEq, V.bl.injEq, D.int.injEq, D.str.injEq, D.bl.injEq, D.ref.injEq, D.tup.injEq, D.lst.injEq, D.ty.injEq, AO.lst.injEq, AO.dct.injEq, AO.ins.injEq, Prod.mk.injEq, exists_eq_left, exists_eq_left', exists_eq_right, exists_eq_right', exists_and_left, exists_and_right, true_and, and_true, and_self, if_true, if_false, Bool.false_eq_true, Bool.true_eq_false, eq_self, reduceCtorEq, false_and, and_false, and_assoc, Int.reduceToNat, Int.reducePow, Int.reduceMul, Int.reduceAdd, Int.reduceNeg, Int.reduceSub, String.reduceEq, String.reduceNe, ne_eq, not_false_eq_true, not_true_eq_false, decide_false, decide_true, Bool.not_false, Bool.not_true, Bool.or_false, Bool.false_or, Bool.or_true, Bool.true_or, Bool.and_true, Bool.true_and, Bool.and_self, Bool.and_false, Bool.false_and, exists_eq', exists_eq, exists_const, false_or, or_false, or_self, List.all_cons, List.all_nil, List.any_cons, List.any_nil, Nat.reduceLeDiff, exists_false, List.map_nil, List.map_cons, Option.map_some, Option.isSome_some, Option.isSome_none, Option.getD_some, Option.getD_none, implies_true, List.foldl_cons, List.foldl_nil, forall_const, ofS_eq, Int.reduceLT, Int.reduceLE, Nat.reduceLT, isO_obj, isO_int, dctD_dct]
  have hN : ∃ N : Nat, N ≤ 12 ∧ (if (if ((List.map D.int ns).length : Int) < 12 then ((List.map D.int ns).length : Int) else 12) > 1 then if ((List.map D.int ns).length : Int) < 12 then ((List.map D.int ns).length : Int) else 12 else 1) = (N : Int) := by
    refine ⟨max 1 (min 12 ns.length), by omega, ?_⟩
    rw [List.length_map]
    split <;> split <;> omega
  obtain ⟨N, hN6, eN⟩ := hN
  rw [eN]
  refine ⟨by omega, by omega, ?_⟩
  refine loop_for (fun i δ A' => ∃ v1 v2 v3 v4 v5 v6 v7 v8 v9 v10 v11 v12 v13 v14 v15 v16 v17, δ = [some (.rol (ns.map D.int)), v1, v2, v3, v4, v5, v6, v7, v8, v9, v10, v11, v12, v13, v14, v15, v16, v17]) ⟨_, _, _, _, _, _, _, _, _, _, _, _, _, _, _, _, _, rfl⟩ (fun _ _ _ _ _ => trivial) (fun i y δ A' R hy hP hR => ?_) (fun δ A' hP => ?_)
  · obtain ⟨v1, v2, v3, v4, v5, v6, v7, v8, v9, v10, v11, v12, v13, v14, v15, v16, v17, rfl⟩ := hP
    obtain ⟨hi, rfl⟩ := rngL_get hy
    rw [show (0 : Int) + (i : Int) = (i : Int) by omega]
    simp only [↓RD, RU, aStart, wipeA, putFA, toP, toPs, scDs, valD_nil, valD_cons, putM_eq, mergeD_eq, keysOk, aHandle, endsAA, putAA, starSp, put_same, put_put, inV_nil, inV_str, cxK, atI_0, atI_1, atI_2, atI_3, ixN_30, ixN_31, ixN_32, List.map, List.replicate, List.length_cons, List.length_nil, List.nil_append, List.cons_append, List.append_nil, Nat.reduceSub, Nat.reduceAdd, List.getElem?_cons_zero, List.getElem?_cons_succ, List.set_cons_zero, List.set_cons_succ, List.cons.injEq, Option.some.injEq, V.int.injEq, V.str.injEq, V.bl.injEq, D.int.injEq, D.str.injEq, D.bl.injEq, D.ref.injEq, D.tup.injEq, D.lst.injEq, D.ty.injEq, AO.lst.injEq, AO.dct.injEq, AO.ins.injEq, Prod.mk.injEq, exists_eq_left, exists_eq_left', exists_eq_right, exists_eq_right', exists_and_left, exists_and_right, true_and, and_true, and_self, if_true, if_false, Bool.false_eq_true, Bool.true_eq_false, eq_self, reduceCtorEq, false_and, and_false, and_assoc, Int.reduceToNat, Int.reducePow, Int.reduceMul, Int.reduceAdd, Int.reduceNeg, Int.reduceSub, String.reduceEq, String.reduceNe, ne_eq, not_false_eq_true, not_true_eq_false, decide_false, decide_true, Bool.not_false, Bool.not_true, Bool.or_false, Bool.false_or, Bool.or_true, Bool.true_or, Bool.and_true, Bool.true_and, Bool.and_self, Bool.and_false, Bool.false_and, exists_eq', exists_eq, exists_const, false_or, or_false, or_self, List.all_cons, List.all_nil, List.any_cons, List.any_nil, Nat.reduceLeDiff, exists_false, List.map_nil, List.map_cons, Option.map_some, Option.isSome_some, Option.isSome_none, Option.getD_some, Option.getD_none, implies_true, List.foldl_cons, List.foldl_nil, forall_const, ofS_eq, Int.reduceLT, Int.reduceLE, Nat.reduceLT, isO_obj, isO_int, dctD_dct]
    refine ⟨ns, i, rfl, by omega, hl, fun l0 b hB0 hb => ?_⟩
    simp only [↓RD, RU, aStart, wipeA, putFA, toP, toPs, scDs, valD_nil, valD_cons, putM_eq, mergeD_eq, keysOk, aHandle, endsAA, putAA, starSp, put_same, put_put, inV_nil, inV_str, cxK, atI_0, atI_1, atI_2, atI_3, ixN_30, ixN_31, ixN_32, List.map, List.replicate, List.length_cons, List.length_nil, List.nil_append, List.cons_append, List.append_nil, Nat.reduceSub, Nat.reduceAdd, List.getElem?_cons_zero, List.getElem?_cons_succ, List.set_cons_zero, List.set_cons_succ, List.cons.injEq, Option.some.injEq, V.int.injEq, V.str.injEq, V.bl.injEq, D.int.injEq, D.str.injEq, D.bl.injEq, D.ref.injEq, D.tup.injEq, D.lst.injEq, D.ty.injEq, AO.lst.injEq, AO.dct.injEq, AO.ins.injEq, Prod.mk.injEq, exists_eq_left, exists_eq_left', exists_eq_right, exists_eq_right', exists_and_left, exists_and_right, true_and, and_true, and_self, if_true, if_false, Bool.false_eq_true, Bool.true_eq_false, eq_self, reduceCtorEq, false_and, and_false, and_assoc, Int.reduceToNat, Int.reducePow, Int.reduceMul, Int.reduceAdd, Int.reduceNeg, Int.reduceSub, String.reduceEq, String.reduceNe, ne_eq, not_false_eq_true, not_true_eq_false, decide_false, decide_true, Bool.not_false, Bool.not_true, Bool.or_false, Bool.false_or, Bool.or_true, Bool.true_or, Bool.and_true, Bool.true_and, Bool.and_self, Bool.and_false, Bool.false_and, exists_eq', exists_eq, exists_const, false_or, or_false, or_self, List.all_cons, List.all_nil, List.any_cons, List.any_nil, Nat.reduceLeDiff, exists_false, List.map_nil, List.map_cons, Option.map_some, Option.isSome_some, Option.isSome_none, Option.getD_some, Option.getD_none, implies_true, List.foldl_cons, List.foldl_nil, forall_const, ofS_eq, Int.reduceLT, Int.reduceLE, Nat.reduceLT, isO_obj, isO_int, dctD_dct]
    refine ⟨b, 0, l0, rfl, put_same, hB0, by omega, fun c l1 hc hB1 => ?_⟩
    simp only [↓RD, RU, aStart, wipeA, putFA, toP, toPs, scDs, valD_nil, valD_cons, putM_eq, mergeD_eq, keysOk, aHandle, endsAA, putAA, starSp, put_same, put_put, inV_nil, inV_str, cxK, atI_0, atI_1, atI_2, atI_3, ixN_30, ixN_31, ixN_32, List.map, List.replicate, List.length_cons, List.length_nil, List.nil_append, List.cons_append, List.append_nil, Nat.reduceSub, Nat.reduceAdd, List.getElem?_cons_zero, List.getElem?_cons_succ, List.set_cons_zero, List.set_cons_succ, List.cons.injEq, Option.some.injEq, V.int.injEq, V.str.injEq, V.bl.injEq, D.int.injEq, D.str.injEq, D.bl.injEq, D.ref.injEq, D.tup.injEq, D.lst.injEq, D.ty.injEq, AO.lst.injEq, AO.dct.injEq, AO.ins.injEq, Prod.mk.injEq, exists_eq_left, exists_eq_left', exists_eq_right, exists_eq_right', exists_and_left, exists_and_right, true_and, and_true, and_self, if_true, if_false, Bool.false_eq_true, Bool.true_eq_false, eq_self, reduceCtorEq, false_and, and_false, and_assoc, Int.reduceToNat, Int.reducePow, Int.reduceMul, Int.reduceAdd, Int.reduceNeg, Int.reduceSub, String.reduceEq, String.reduceNe, ne_eq, not_false_eq_true, not_true_eq_false, decide_false, decide_true, Bool.not_false, Bool.not_true, Bool.or_false, Bool.false_or, Bool.or_true, Bool.true_or, Bool.and_true, Bool.true_and, Bool.and_self, Bool.and_false, Bool.false_and, exists_eq', exists_eq, exists_const, false_or, or_false, or_self, List.all_cons, List.all_nil, List.any_cons, List.any_nil, Nat.reduceLeDiff, exists_false, List.map_nil, List.map_cons, Option.map_some, Option.isSome_some, Option.isSome_none, Option.getD_some, Option.getD_none, implies_true, List.foldl_cons, List.foldl_nil, forall_const, ofS_eq, Int.reduceLT, Int.reduceLE, Nat.reduceLT, isO_obj, isO_int, dctD_dct]
    refine ⟨b, 7, _, l1, rfl, by decide, by decide, put_same, hB1, by omega, fun ps l2 hps hB2 => ?_⟩
    simp only [↓RD, RU, aStart, wipeA, putFA, toP, toPs, scDs, valD_nil, valD_cons, putM_eq, mergeD_eq, keysOk, aHandle, endsAA, putAA, starSp, put_same, put_put, inV_nil, inV_str, cxK, atI_0, atI_1, atI_2, atI_3, ixN_30, ixN_31, ixN_32, List.map, List.replicate, List.length_cons, List.length_nil, List.nil_append, List.cons_append, List.append_nil, Nat.reduceSub, Nat.reduceAdd, List.getElem?_cons_zero, List.getElem?_cons_succ, List.set_cons_zero, List.set_cons_succ, List.cons.injEq, Option.some.injEq, V.int.injEq, V.str.injEq, V.bl.injEq, D.int.injEq, D.str.injEq, D.bl.injEq, D.ref.injEq, D.tup.injEq, D.lst.injEq, D.ty.injEq, AO.lst.injEq, AO.dct.injEq, AO.ins.injEq, Prod.mk.injEq, exists_eq_left, exists_eq_left', exists_eq_right, exists_eq_right', exists_and_left, exists_and_right, true_and, and_true, and_self, if_true, if_false, Bool.false_eq_true, Bool.true_eq_false, eq_self, reduceCtorEq, false_and, and_false, and_assoc, Int.reduceToNat, Int.reducePow, Int.reduceMul, Int.reduceAdd, Int.reduceNeg, Int.reduceSub, String.reduceEq, String.reduceNe, ne_eq, not_false_eq_true, not_true_eq_false, decide_false, decide_true, Bool.not_false, Bool.not_true, Bool.or_false, Bool.false_or, Bool.or_true, Bool.true_or, Bool.and_true, Bool.true_and, Bool.and_self, Bool.and_false, Bool.false_and, exists_eq', exists_eq, exists_const, false_or, or_false, or_self, List.all_cons, List.all_nil, List.any_cons, List.any_nil, Nat.reduceLeDiff, exists_false, List.map_nil, List.map_cons, Option.map_some, Option.isSome_some, Option.isSome_none, Option.getD_some, Option.getD_none, implies_true, List.foldl_cons, List.foldl_nil, forall_const, ofS_eq, Int.reduceLT, Int.reduceLE, Nat.reduceLT, isO_obj, isO_int, dctD_dct]
    refine ⟨b, _, l2, rfl, put_same, hB2, by omega, fun c2 l3 hc2 hB3 => ?_⟩
    simp only [↓RD, RU, aStart, wipeA, putFA, toP, toPs, scDs, valD_nil, valD_cons, putM_eq, mergeD_eq, keysOk, aHandle, endsAA, putAA, starSp, put_same, put_put, inV_nil, inV_str, cxK, atI_0, atI_1, atI_2, atI_3, ixN_30, ixN_31, ixN_32, List.map, List.replicate, List.length_cons, List.length_nil, List.nil_append, List.cons_append, List.append_nil, Nat.reduceSub, Nat.reduceAdd, List.getElem?_cons_zero, List.getElem?_cons_succ, List.set_cons_zero, List.set_cons_succ, List.cons.injEq, Option.some.injEq, V.int.injEq, V.str.injEq, V.bl.injEq, D.int.injEq, D.str.injEq, D.bl.injEq, D.ref.injEq, D.tup.injEq, D.lst.injEq, D.ty.injEq, AO.lst.injEq, AO.dct.injEq, AO.ins.injEq, Prod.mk.injEq, exists_eq_left, exists_eq_left', exists_eq_right, exists_eq_right', exists_and_left, exists_and_right, true_and, and_true, and_self, if_true, if_false, Bool.false_eq_true, Bool.true_eq_false, eq_self, reduceCtorEq, false_and, and_false, and_assoc, Int.reduceToNat, Int.reducePow, Int.reduceMul, Int.reduceAdd, Int.reduceNeg, Int.reduceSub, String.reduceEq, String.reduceNe, ne_eq, not_false_eq_true, not_true_eq_false, decide_false, decide_true, Bool.not_false, Bool.not_true, Bool.or_false, Bool.false_or, Bool.or_true, Bool.true_or, Bool.and_true, Bool.true_and, Bool.and_self, Bool.and_false, Bool.false_and, exists_eq', exists_eq, exists_const, false_or, or_false, or_self, List.all_cons, List.all_nil, List.any_cons, List.any_nil, Nat.reduceLeDiff, exists_false, List.map_nil, List.map_cons, Option.map_some, Option.isSome_some, Option.isSome_none, Option.getD_some, Option.getD_none, implies_true, List.foldl_cons, List.foldl_nil, forall_const, ofS_eq, Int.reduceLT, Int.reduceLE, Nat.reduceLT, isO_obj, isO_int, dctD_dct]
    refine ⟨b, 5, _, l3, rfl, by decide, by decide, put_same, hB3, by omega, fun qs l4 hqs hB4 => ?_⟩
    simp only [↓RD, RU, aStart, wipeA, putFA, toP, toPs, scDs, valD_nil, valD_cons, putM_eq, mergeD_eq, keysOk, aHandle, endsAA, putAA, starSp, put_same, put_put, inV_nil, inV_str, cxK, atI_0, atI_1, atI_2, atI_3, ixN_30, ixN_31, ixN_32, List.map, List.replicate, List.length_cons, List.length_nil, List.nil_append, List.cons_append, List.append_nil, Nat.reduceSub, Nat.reduceAdd, List.getElem?_cons_zero, List.getElem?_cons_succ, List.set_cons_zero, List.set_cons_succ, List.cons.injEq, Option.some.injEq, V.int.injEq, V.str.injEq, V.bl.injEq, D.int.injEq, D.str.injEq, D.bl.injEq, D.ref.injEq, D.tup.injEq, D.lst.injEq, D.ty.injEq, AO.lst.injEq, AO.dct.injEq, AO.ins.injEq, Prod.mk.injEq, exists_eq_left, exists_eq_left', exists_eq_right, exists_eq_right', exists_and_left, exists_and_right, true_and, and_true, and_self, if_true, if_false, Bool.false_eq_true, Bool.true_eq_false, eq_self, reduceCtorEq, false_and, and_false, and_assoc, Int.reduceToNat, Int.reducePow, Int.reduceMul, Int.reduceAdd, Int.reduceNeg, Int.reduceSub, String.reduceEq, String.reduceNe, ne_eq, not_false_eq_true, not_true_eq_false, decide_false, decide_true, Bool.not_false, Bool.not_true, Bool.or_false, Bool.false_or, Bool.or_true, Bool.true_or, Bool.and_true, Bool.true_and, Bool.and_self, Bool.and_false, Bool.false_and, exists_eq', exists_eq, exists_const, false_or, or_false, or_self, List.all_cons, List.all_nil, List.any_cons, List.any_nil, Nat.reduceLeDiff, exists_false, List.map_nil, List.map_cons, Option.map_some, Option.isSome_some, Option.isSome_none, Option.getD_some, Option.getD_none, implies_true, List.foldl_cons, List.foldl_nil, forall_const, ofS_eq, Int.reduceLT, Int.reduceLE, Nat.reduceLT, isO_obj, isO_int, dctD_dct]
    refine ⟨_, ps, rfl, rfl, Nat.lt_trans hps.sz (by decide), ?_⟩
    simp only [↓RD, RU, aStart, wipeA, putFA, toP, toPs, scDs, valD_nil, valD_cons, putM_eq, mergeD_eq, keysOk, aHandle, endsAA, putAA, starSp, put_same, put_put, inV_nil, inV_str, cxK, atI_0, atI_1, atI_2, atI_3, ixN_30, ixN_31, ixN_32, List.map, List.replicate, List.length_cons, List.length_nil, List.nil_append, List.cons_append, List.append_nil, Nat.reduceSub, Nat.reduceAdd, List.getElem?_cons_zero, List.getElem?_cons_succ, List.set_cons_zero, List.set_cons_succ, List.cons.injEq, Option.some.injEq, V.int.injEq, V.str.injEq, V.bl.injEq, D.int.injEq, D.str.injEq, D.bl.injEq, D.ref.injEq, D.tup.injEq, D.lst.injEq, D.ty.injEq, AO.lst.injEq, AO.dct.injEq, AO.ins.injEq, Prod.mk.injEq, exists_eq_left, exists_eq_left', exists_eq_right, exists_eq_right', exists_and_left, exists_and_right, true_and, and_true, and_self, if_true, if_false, Bool.false_eq_true, Bool.true_eq_false, eq_self, reduceCtorEq, false_and, and_false, and_assoc, Int.reduceToNat, Int.reducePow, Int.reduceMul, Int.reduceAdd, Int.reduceNeg, Int.reduceSub, String.reduceEq, String.reduceNe, ne_eq, not_false_eq_true, not_true_eq_false, decide_false, decide_true, Bool.not_false, Bool.not_true, Bool.or_false, Bool.false_or, Bool.or_true, Bool.true_or, Bool.and_true, Bool.true_and, Bool.and_self, Bool.and_false, Bool.false_and, exists_eq', exists_eq, exists_const, false_or, or_false, or_self, List.all_cons, List.all_nil, List.any_cons, List.any_nil, Nat.reduceLeDiff, exists_false, List.map_nil, List.map_cons, Option.map_some, Option.isSome_some, Option.isSome_none, Option.getD_some, Option.getD_none, implies_true, List.foldl_cons, List.foldl_nil, forall_const, ofS_eq, Int.reduceLT, Int.reduceLE, Nat.reduceLT, isO_obj, isO_int, dctD_dct]
    refine ⟨_, qs, rfl, rfl, Nat.lt_trans hqs.sz (by decide), ?_⟩
    simp only [↓RD, RU, aStart, wipeA, putFA, toP, toPs, scDs, valD_nil, valD_cons, putM_eq, mergeD_eq, keysOk, aHandle, endsAA, putAA, starSp, put_same, put_put, inV_nil, inV_str, cxK, atI_0, atI_1, atI_2, atI_3, ixN_30, ixN_31, ixN_32, List.map, List.replicate, List.length_cons, List.length_nil, List.nil_append, List.cons_append, List.append_nil, Nat.reduceSub, Nat.reduceAdd, List.getElem?_cons_zero, List.getElem?_cons_succ, List.set_cons_zero, List.set_cons_succ, List.cons.injEq, Option.some.injEq, V.int.injEq, V.str.injEq, V.bl.injEq, D.int.injEq, D.str.injEq, D.bl.injEq, D.ref.injEq, D.tup.injEq, D.lst.injEq, D.ty.injEq, AO.lst.injEq, AO.dct.injEq, AO.ins.injEq, Prod.mk.injEq, exists_eq_left, exists_eq_left', exists_eq_right, exists_eq_right', exists_and_left, exists_and_right, true_and, and_true, and_self, if_true, if_false, Bool.false_eq_true, Bool.true_eq_false, eq_self, reduceCtorEq, false_and, and_false, and_assoc, Int.reduceToNat, Int.reducePow, Int.reduceMul, Int.reduceAdd, Int.reduceNeg, Int.reduceSub, String.reduceEq, String.reduceNe, ne_eq, not_false_eq_true, not_true_eq_false, decide_false, decide_true, Bool.not_false, Bool.not_true, Bool.or_false, Bool.false_or, Bool.or_true, Bool.true_or, Bool.and_true, Bool.true_and, Bool.and_self, Bool.and_false, Bool.false_and, exists_eq', exists_eq, exists_const, false_or, or_false, or_self, List.all_cons, List.all_nil, List.any_cons, List.any_nil, Nat.reduceLeDiff, exists_false, List.map_nil, List.map_cons, Option.map_some, Option.isSome_some, Option.isSome_none, Option.getD_some, Option.getD_none, implies_true, List.foldl_cons, List.foldl_nil, forall_const, ofS_eq, Int.reduceLT, Int.reduceLE, Nat.reduceLT, isO_obj, isO_int, dctD_dct]
    refine ⟨b, _, l4, rfl, put_same, hB4, by omega, fun x0 l5 hx0 hxl0 hB5 => ?_⟩
    simp only [bindK_nm, List.set_cons_succ, List.set_cons_zero]
    refine seq_cut (fun δ A' => ∃ x l', A' b = some (.lst l') ∧ BagF l' 1100 ∧ δ = [some (.rol (ns.map D.int)), some (.int (i : Int)), some (.ref b), some (.int c), some (.lst (prD ps)), some (.int c2), some (.lst (prD qs)), some (.dct (kvD (sums ps))), some (.dct (kvD (sums qs))), some (.str x), v10, v11, v12, v13, v14, v15, v16, v17]) (fun R2 hR2 => ?_) (fun δ A' hP => ?_)
    · simp only [↓RD, RU, aStart, wipeA, putFA, toP, toPs, scDs, valD_nil, valD_cons, putM_eq, mergeD_eq, keysOk, aHandle, endsAA, putAA, starSp, put_same, put_put, inV_nil, inV_str, cxK, atI_0, atI_1, atI_2, atI_3, ixN_30, ixN_31, ixN_32, List.map, List.replicate, List.length_cons, List.length_nil, List.nil_append, List.cons_append, List.append_nil, Nat.reduceSub, Nat.reduceAdd, List.getElem?_cons_zero, List.getElem?_cons_succ, List.set_cons_zero, List.set_cons_succ, List.cons.injEq, Option.some.injEq, V.int.injEq, V.str.injEq, V.bl.injEq, D.int.injEq, D.str.injEq, D.bl.injEq, D.ref.injEq, D.tup.injEq, D.lst.injEq, D.ty.injEq, AO.lst.injEq, AO.dct.injEq, AO.ins.injEq, Prod.mk.injEq, exists_eq_left, exists_eq_left', exists_eq_right, exists_eq_right', exists_and_left, exists_and_right, true_and, and_true, and_self, if_true, if_false, Bool.false_eq_true, Bool.true_eq_false, eq_self, reduceCtorEq, false_and, and_false, and_assoc, Int.reduceToNat, Int.reducePow, Int.reduceMul, Int.reduceAdd, Int.reduceNeg, Int.reduceSub, String.reduceEq, String.reduceNe, ne_eq, not_false_eq_true, not_true_eq_false, decide_false, decide_true, Bool.not_false, Bool.not_true, Bool.or_false, Bool.false_or, Bool.or_true, Bool.true_or, Bool.and_true, Bool.true_and, Bool.and_self, Bool.and_false, Bool.false_and, exists_eq', exists_eq, exists_const, false_or, or_false, or_self, List.all_cons, List.all_nil, List.any_cons, List.any_nil, Nat.reduceLeDiff, exists_false, List.map_nil, List.map_cons, Option.map_some, Option.isSome_some, Option.isSome_none, Option.getD_some, Option.getD_none, implies_true, List.foldl_cons, List.foldl_nil, forall_const, ofS_eq, Int.reduceLT, Int.reduceLE, Nat.reduceLT, isO_obj, isO_int, dctD_dct, toPs_pr, topP_lst, eqv_nil, depth_lst]
      refine ⟨by decide, ?_⟩
      split
      · rename_i hne
        have hne : ps ≠ [] := by simpa using hne
        have hpos : 0 < ps.length := List.length_pos_iff.mpr hne
        have hps7 := hps.sz
        refine ⟨b, _, _, l5, rfl, put_same, hB5, by decide, by decide, by omega, fun r l6 r0 r1 hB6 => ?_⟩
        simp only [↓RD, RU, aStart, wipeA, putFA, toP, toPs, scDs, valD_nil, valD_cons, putM_eq, mergeD_eq, keysOk, aHandle, endsAA, putAA, starSp, put_same, put_put, inV_nil, inV_str, cxK, atI_0, atI_1, atI_2, atI_3, ixN_30, ixN_31, ixN_32, List.map, List.replicate, List.length_cons, List.length_nil, List.nil_append, List.cons_append, List.append_nil, Nat.reduceSub, Nat.reduceAdd, List.getElem?_cons_zero, List.getElem?_cons_succ, List.set_cons_zero, List.set_cons_succ, List.cons.injEq, Option.some.injEq, V.int.injEq, V.str.injEq, V.bl.injEq, D.int.injEq, D.str.injEq, D.bl.injEq, D.ref.injEq, D.tup.injEq, D.lst.injEq, D.ty.injEq, AO.lst.injEq, AO.dct.injEq, AO.ins.injEq, Prod.mk.injEq, exists_eq_left, exists_eq_left', exists_eq_right, exists_eq_right', exists_and_left, exists_and_right, true_and, and_true, and_self, if_true, if_false, Bool.false_eq_true, Bool.true_eq_false, eq_self, reduceCtorEq, false_and, and_false, and_assoc, Int.reduceToNat, Int.reducePow, Int.reduceMul, Int.reduceAdd, Int.reduceNeg, Int.reduceSub, String.reduceEq, String.reduceNe, ne_eq, not_false_eq_true, not_true_eq_false, decide_false, decide_true, Bool.not_false, Bool.not_true, Bool.or_false, Bool.false_or, Bool.or_true, Bool.true_or, Bool.and_true, Bool.true_and, Bool.and_self, Bool.and_false, Bool.false_and, exists_eq', exists_eq, exists_const, false_or, or_false, or_self, List.all_cons, List.all_nil, List.any_cons, List.any_nil, Nat.reduceLeDiff, exists_false, List.map_nil, List.map_cons, Option.map_some, Option.isSome_some, Option.isSome_none, Option.getD_some, Option.getD_none, implies_true, List.foldl_cons, List.foldl_nil, forall_const, ofS_eq, Int.reduceLT, Int.reduceLE, Nat.reduceLT, isO_obj, isO_int, dctD_dct]
        refine ite_dec (fun g => ?_) (fun g => ?_)
        · refine ⟨b, _, _, l6, rfl, put_same, hB6, by rw [prD_len]; omega, by rw [prD_len]; omega, by omega, fun r2 l7 s0 s1 hB7 => ?_⟩
          rw [prD_len] at s1
          obtain ⟨q, hq, hv⟩ := atI_pr s0 s1
          simp only [↓RD, RU, aStart, wipeA, putFA, toP, toPs, scDs, valD_nil, valD_cons, putM_eq, mergeD_eq, keysOk, aHandle, endsAA, putAA, starSp, put_same, put_put, inV_nil, inV_str, cxK, atI_0, atI_1, atI_2, atI_3, ixN_30, ixN_31, ixN_32, List.map, List.replicate, List.length_cons, List.length_nil, List.nil_append, List.cons_append, List.append_nil, Nat.reduceSub, Nat.reduceAdd, List.getElem?_cons_zero, List.getElem?_cons_succ, List.set_cons_zero, List.set_cons_succ, List.cons.injEq, Option.some.injEq, V.int.injEq, V.str.injEq, V.bl.injEq, D.int.injEq, D.str.injEq, D.bl.injEq, D.ref.injEq, D.tup.injEq, D.lst.injEq, D.ty.injEq, AO.lst.injEq, AO.dct.injEq, AO.ins.injEq, Prod.mk.injEq, exists_eq_left, exists_eq_left', exists_eq_right, exists_eq_right', exists_and_left, exists_and_right, true_and, and_true, and_self, if_true, if_false, Bool.false_eq_true, Bool.true_eq_false, eq_self, reduceCtorEq, false_and, and_false, and_assoc, Int.reduceToNat, Int.reducePow, Int.reduceMul, Int.reduceAdd, Int.reduceNeg, Int.reduceSub, String.reduceEq, String.reduceNe, ne_eq, not_false_eq_true, not_true_eq_false, decide_false, decide_true, Bool.not_false, Bool.not_true, Bool.or_false, Bool.false_or, Bool.or_true, Bool.true_or, Bool.and_true, Bool.true_and, Bool.and_self, Bool.and_false, Bool.false_and, exists_eq', exists_eq, exists_const, false_or, or_false, or_self, List.all_cons, List.all_nil, List.any_cons, List.any_nil, Nat.reduceLeDiff, exists_false, List.map_nil, List.map_cons, Option.map_some, Option.isSome_some, Option.isSome_none, Option.getD_some, Option.getD_none, implies_true, List.foldl_cons, List.foldl_nil, forall_const, ofS_eq, Int.reduceLT, Int.reduceLE, Nat.reduceLT, isO_obj, isO_int, dctD_dct, hv]
          exact hR2 _ _ ⟨q.1, l7, put_same, hB7.up (by omega), rfl⟩
        · exact hR2 _ _ ⟨x0, l6, put_same, hB6.up (by omega), rfl⟩
      · exact hR2 _ _ ⟨x0, l5, put_same, hB5.up (by omega), rfl⟩
    · obtain ⟨x, l6, hA6, hB6, rfl⟩ := hP
      have bd : ∀ s, (coef (sums ps) s).natAbs < 2 ^ 200 := fun s => lt200 (hps.bd (by decide) s) (by decide)
      have bd2 : ∀ s, (coef (sums qs) s).natAbs < 2 ^ 200 := fun s => lt200 (hqs.bd (by decide) s) (by decide)
      have hok : OkL 7 (norm (sums ps)) := hps.okL
      have hok2 : OkL 5 (norm (sums qs)) := hqs.okL
      have hnd := nodup_sums ps
      have hnd2 := nodup_sums qs
      have hz : (sums ps).length < 7 := Nat.lt_of_le_of_lt (len_sums ps) hps.sz
      have hz2 : (sums qs).length < 5 := Nat.lt_of_le_of_lt (len_sums qs) hqs.sz
      have eL : ∃ L, L = sums ps := ⟨_, rfl⟩
      have eL2 : ∃ L2, L2 = sums qs := ⟨_, rfl⟩
      obtain ⟨L, eL⟩ := eL
      obtain ⟨L2, eL2⟩ := eL2
      rw [← eL] at bd hok hnd hz ⊢
      rw [← eL2] at bd2 hok2 hnd2 hz2 ⊢
      simp only [↓RD, RU, aStart, wipeA, putFA, toP, toPs, scDs, valD_nil, valD_cons, putM_eq, mergeD_eq, keysOk, aHandle, endsAA, putAA, starSp, put_same, put_put, inV_nil, inV_str, cxK, atI_0, atI_1, atI_2, atI_3, ixN_30, ixN_31, ixN_32, List.map, List.replicate, List.length_cons, List.length_nil, List.nil_append, List.cons_append, List.append_nil, Nat.reduceSub, Nat.reduceAdd, List.getElem?_cons_zero, List.getElem?_cons_succ, List.set_cons_zero, List.set_cons_succ, List.cons.injEq, Option.some.injEq, V.int.injEq, V.str.injEq, V.bl.injEq, D.int.injEq, D.str.injEq, D.bl.injEq, D.ref.injEq, D.tup.injEq, D.lst.injEq, D.ty.injEq, AO.lst.injEq, AO.dct.injEq, AO.ins.injEq, Prod.mk.injEq, exists_eq_left, exists_eq_left', exists_eq_right, exists_eq_right', exists_and_left, exists_and_right, true_and, and_true, and_self, if_true, if_false, Bool.false_eq_true, Bool.true_eq_false, eq_self, reduceCtorEq, false_and, and_false, and_assoc, Int.reduceToNat, Int.reducePow, Int.reduceMul, Int.reduceAdd, Int.reduceNeg, Int.reduceSub, String.reduceEq, String.reduceNe, ne_eq, not_false_eq_true, not_true_eq_false, decide_false, decide_true, Bool.not_false, Bool.not_true, Bool.or_false, Bool.false_or, Bool.or_true, Bool.true_or, Bool.and_true, Bool.true_and, Bool.and_self, Bool.and_false, Bool.false_and, exists_eq', exists_eq, exists_const, false_or, or_false, or_self, List.all_cons, List.all_nil, List.any_cons, List.any_nil, Nat.reduceLeDiff, exists_false, List.map_nil, List.map_cons, Option.map_some, Option.isSome_some, Option.isSome_none, Option.getD_some, Option.getD_none, implies_true, List.foldl_cons, List.foldl_nil, forall_const, ofS_eq, Int.reduceLT, Int.reduceLE, Nat.reduceLT, isO_obj, isO_int, dctD_dct, getD_kv]
      rw [kvD_keys]
      refine Av.comp_filter (cD fun s => s != x) (qD fun s => coef L s) (id ?_) _ [] ?_ (fun d hd R R0 hR hR0 => ?_) ?_
      · trivial
      · rw [List.length_nil, Nat.zero_add, List.length_map, List.length_map]; exact le64 (Nat.lt_trans hz (by decide))
      · obtain ⟨s, hs, rfl⟩ := List.mem_map.mp hd
        simp only [↓RD, RU, aStart, wipeA, putFA, toP, toPs, scDs, valD_nil, valD_cons, putM_eq, mergeD_eq, keysOk, aHandle, endsAA, putAA, starSp, put_same, put_put, inV_nil, inV_str, cxK, atI_0, atI_1, atI_2, atI_3, ixN_30, ixN_31, ixN_32, List.map, List.replicate, List.length_cons, List.length_nil, List.nil_append, List.cons_append, List.append_nil, Nat.reduceSub, Nat.reduceAdd, List.getElem?_cons_zero, List.getElem?_cons_succ, List.set_cons_zero, List.set_cons_succ, List.cons.injEq, Option.some.injEq, V.int.injEq, V.str.injEq, V.bl.injEq, D.int.injEq, D.str.injEq, D.bl.injEq, D.ref.injEq, D.tup.injEq, D.lst.injEq, D.ty.injEq, AO.lst.injEq, AO.dct.injEq, AO.ins.injEq, Prod.mk.injEq, exists_eq_left, exists_eq_left', exists_eq_right, exists_eq_right', exists_and_left, exists_and_right, true_and, and_true, and_self, if_true, if_false, Bool.false_eq_true, Bool.true_eq_false, eq_self, reduceCtorEq, false_and, and_false, and_assoc, Int.reduceToNat, Int.reducePow, Int.reduceMul, Int.reduceAdd, Int.reduceNeg, Int.reduceSub, String.reduceEq, String.reduceNe, ne_eq, not_false_eq_true, not_true_eq_false, decide_false, decide_true, Bool.not_false, Bool.not_true, Bool.or_false, Bool.false_or, Bool.or_true, Bool.true_or, Bool.and_true, Bool.true_and, Bool.and_self, Bool.and_false, Bool.false_and, exists_eq', exists_eq, exists_const, false_or, or_false, or_self, List.all_cons, List.all_nil, List.any_cons, List.any_nil, Nat.reduceLeDiff, exists_false, List.map_nil, List.map_cons, Option.map_some, Option.isSome_some, Option.isSome_none, Option.getD_some, Option.getD_none, implies_true, List.foldl_cons, List.foldl_nil, forall_const, ofS_eq, Int.reduceLT, Int.reduceLE, Nat.reduceLT, isO_obj, isO_int, dctD_dct, valD_mem hs]
        have ec := ec_ne (s := s) (x := x)
        rw [ec] at hR hR0
        split
        · rename_i g; exact hR g
        · rename_i g; exact hR0 ((Bool.not_eq_true _).mp g)
      · rw [List.nil_append, filter_cD, q_pairs]
        simp only [↓aNew_f, ↓frz_lst, ↓aNil_eq, ↓aCB_eq]
        refine dict_tab ?_
        simp only [↓RD, RU, aStart, wipeA, putFA, toP, toPs, scDs, valD_nil, valD_cons, putM_eq, mergeD_eq, keysOk, aHandle, endsAA, putAA, starSp, put_same, put_put, inV_nil, inV_str, cxK, atI_0, atI_1, atI_2, atI_3, ixN_30, ixN_31, ixN_32, List.map, List.replicate, List.length_cons, List.length_nil, List.nil_append, List.cons_append, List.append_nil, Nat.reduceSub, Nat.reduceAdd, List.getElem?_cons_zero, List.getElem?_cons_succ, List.set_cons_zero, List.set_cons_succ, List.cons.injEq, Option.some.injEq, V.int.injEq, V.str.injEq, V.bl.injEq, D.int.injEq, D.str.injEq, D.bl.injEq, D.ref.injEq, D.tup.injEq, D.lst.injEq, D.ty.injEq, AO.lst.injEq, AO.dct.injEq, AO.ins.injEq, Prod.mk.injEq, exists_eq_left, exists_eq_left', exists_eq_right, exists_eq_right', exists_and_left, exists_and_right, true_and, and_true, and_self, if_true, if_false, Bool.false_eq_true, Bool.true_eq_false, eq_self, reduceCtorEq, false_and, and_false, and_assoc, Int.reduceToNat, Int.reducePow, Int.reduceMul, Int.reduceAdd, Int.reduceNeg, Int.reduceSub, String.reduceEq, String.reduceNe, ne_eq, not_false_eq_true, not_true_eq_false, decide_false, decide_true, Bool.not_false, Bool.not_true, Bool.or_false, Bool.false_or, Bool.or_true, Bool.true_or, Bool.and_true, Bool.true_and, Bool.and_self, Bool.and_false, Bool.false_and, exists_eq', exists_eq, exists_const, false_or, or_false, or_self, List.all_cons, List.all_nil, List.any_cons, List.any_nil, Nat.reduceLeDiff, exists_false, List.map_nil, List.map_cons, Option.map_some, Option.isSome_some, Option.isSome_none, Option.getD_some, Option.getD_none, implies_true, List.foldl_cons, List.foldl_nil, forall_const, ofS_eq, Int.reduceLT, Int.reduceLE, Nat.reduceLT, isO_obj, isO_int, dctD_dct, getD_kv]
        intro p hp
        have hbp : b ≠ p := ne_live hA6 hp
        rw [kvD_keys]
        have ez : (restL L x).length ≤ L.length := Nat.le_trans (len_tab _ _) (Nat.le_trans (List.length_filter_le _ _) (by rw [keys_len]; exact Nat.le_refl _))
        refine loop_for (fun j δ A3 => ∃ a v12, A3 = put A' p (.dct (kvD a)) ∧ MixI (restL L x) L2 (coef L x) j a ∧ δ = [some (.rol (ns.map D.int)), some (.int (i : Int)), some (.ref b), some (.int c), some (.lst (prD ps)), some (.int c2), some (.lst (prD qs)), some (.dct (kvD L)), some (.dct (kvD L2)), some (.str x), some (.int (coef L x)), some (.ref p), v12, v13, v14, v15, v16, v17]) ⟨_, _, rfl, MixI.zero (nodup_tab _ _), rfl⟩ (fun i δ A' _ hP => trivial) (fun j y δ A3 R hy hP hR => ?_) (fun δ A3 hP => ?_)
        · obtain ⟨a, v12, rfl, hI, rfl⟩ := hP
          rw [List.getElem?_map] at hy
          change Option.map D.str (keys L2)[j]? = some y at hy
          cases e : (keys L2)[j]? with
          | none => rw [e] at hy; cases hy
          | some s =>
            rw [e] at hy
            cases hy
            have hs : s ∈ keys L2 := List.mem_of_getElem? e
            have hj : j < L2.length := by rw [← keys_len]; exact (List.getElem?_eq_some_iff.mp e).1
            simp only [↓RD, RU, aStart, wipeA, putFA, toP, toPs, scDs, valD_nil, valD_cons, putM_eq, mergeD_eq, keysOk, aHandle, endsAA, putAA, starSp, put_same, put_put, inV_nil, inV_str, cxK, atI_0, atI_1, atI_2, atI_3, ixN_30, ixN_31, ixN_32, List.map, List.replicate, List.length_cons, List.length_nil, List.nil_append, List.cons_append, List.append_nil, Nat.reduceSub, Nat.reduceAdd, List.getElem?_cons_zero, List.getElem?_cons_succ, List.set_cons_zero, List.set_cons_succ, List.cons.injEq, Option.some.injEq, V.int.injEq, V.str.injEq, V.bl.injEq, D.int.injEq, D.str.injEq, D.bl.injEq, D.ref.injEq, D.tup.injEq, D.lst.injEq, D.ty.injEq, AO.lst.injEq, AO.dct.injEq, AO.ins.injEq, Prod.mk.injEq, exists_eq_left, exists_eq_left', exists_eq_right, exists_eq_right', exists_and_left, exists_and_right, true_and, and_true, and_self, if_true, if_false, Bool.false_eq_true, Bool.true_eq_false, eq_self, reduceCtorEq, false_and, and_false, and_assoc, Int.reduceToNat, Int.reducePow, Int.reduceMul, Int.reduceAdd, Int.reduceNeg, Int.reduceSub, String.reduceEq, String.reduceNe, ne_eq, not_false_eq_true, not_true_eq_false, decide_false, decide_true, Bool.not_false, Bool.not_true, Bool.or_false, Bool.false_or, Bool.or_true, Bool.true_or, Bool.and_true, Bool.true_and, Bool.and_self, Bool.and_false, Bool.false_and, exists_eq', exists_eq, exists_const, false_or, or_false, or_self, List.all_cons, List.all_nil, List.any_cons, List.any_nil, Nat.reduceLeDiff, exists_false, List.map_nil, List.map_cons, Option.map_some, Option.isSome_some, Option.isSome_none, Option.getD_some, Option.getD_none, implies_true, List.foldl_cons, List.foldl_nil, forall_const, ofS_eq, Int.reduceLT, Int.reduceLE, Nat.reduceLT, isO_obj, isO_int, dctD_dct, getD_kv, putD_kv, valD_mem hs]
            refine ⟨mulc (bd x) (bd2 s), ?_, hR _ _ ⟨_, _, rfl, hI.succ hnd2 e, rfl⟩⟩
            rw [kvD_len]
            have := hI.sz
            exact Nat.lt_of_lt_of_le (show a.length < 64 by omega) (by decide)
        · obtain ⟨a, v12, rfl, hI, rfl⟩ := hP
          rw [List.length_map, List.length_map] at hI
          have hdue := hI.done
          have ad := hI.nd
          have az : a.length < 64 := by have := hI.sz; omega
          clear hI
          simp only [↓RD, RU, aStart, wipeA, putFA, toP, toPs, scDs, valD_nil, valD_cons, putM_eq, mergeD_eq, keysOk, aHandle, endsAA, putAA, starSp, put_same, put_put, inV_nil, inV_str, cxK, atI_0, atI_1, atI_2, atI_3, ixN_30, ixN_31, ixN_32, List.map, List.replicate, List.length_cons, List.length_nil, List.nil_append, List.cons_append, List.append_nil, Nat.reduceSub, Nat.reduceAdd, List.getElem?_cons_zero, List.getElem?_cons_succ, List.set_cons_zero, List.set_cons_succ, List.cons.injEq, Option.some.injEq, V.int.injEq, V.str.injEq, V.bl.injEq, D.int.injEq, D.str.injEq, D.bl.injEq, D.ref.injEq, D.tup.injEq, D.lst.injEq, D.ty.injEq, AO.lst.injEq, AO.dct.injEq, AO.ins.injEq, Prod.mk.injEq, exists_eq_left, exists_eq_left', exists_eq_right, exists_eq_right', exists_and_left, exists_and_right, true_and, and_true, and_self, if_true, if_false, Bool.false_eq_true, Bool.true_eq_false, eq_self, reduceCtorEq, false_and, and_false, and_assoc, Int.reduceToNat, Int.reducePow, Int.reduceMul, Int.reduceAdd, Int.reduceNeg, Int.reduceSub, String.reduceEq, String.reduceNe, ne_eq, not_false_eq_true, not_true_eq_false, decide_false, decide_true, Bool.not_false, Bool.not_true, Bool.or_false, Bool.false_or, Bool.or_true, Bool.true_or, Bool.and_true, Bool.true_and, Bool.and_self, Bool.and_false, Bool.false_and, exists_eq', exists_eq, exists_const, false_or, or_false, or_self, List.all_cons, List.all_nil, List.any_cons, List.any_nil, Nat.reduceLeDiff, exists_false, List.map_nil, List.map_cons, Option.map_some, Option.isSome_some, Option.isSome_none, Option.getD_some, Option.getD_none, implies_true, List.foldl_cons, List.foldl_nil, forall_const, ofS_eq, Int.reduceLT, Int.reduceLE, Nat.reduceLT, isO_obj, isO_int, dctD_dct]
          refine ⟨c, _, ps, rfl, rfl, hps.sy, Nat.lt_trans hps.sz (by decide), ?_⟩
          simp only [↓RD, RU, aStart, wipeA, putFA, toP, toPs, scDs, valD_nil, valD_cons, putM_eq, mergeD_eq, keysOk, aHandle, endsAA, putAA, starSp, put_same, put_put, inV_nil, inV_str, cxK, atI_0, atI_1, atI_2, atI_3, ixN_30, ixN_31, ixN_32, List.map, List.replicate, List.length_cons, List.length_nil, List.nil_append, List.cons_append, List.append_nil, Nat.reduceSub, Nat.reduceAdd, List.getElem?_cons_zero, List.getElem?_cons_succ, List.set_cons_zero, List.set_cons_succ, List.cons.injEq, Option.some.injEq, V.int.injEq, V.str.injEq, V.bl.injEq, D.int.injEq, D.str.injEq, D.bl.injEq, D.ref.injEq, D.tup.injEq, D.lst.injEq, D.ty.injEq, AO.lst.injEq, AO.dct.injEq, AO.ins.injEq, Prod.mk.injEq, exists_eq_left, exists_eq_left', exists_eq_right, exists_eq_right', exists_and_left, exists_and_right, true_and, and_true, and_self, if_true, if_false, Bool.false_eq_true, Bool.true_eq_false, eq_self, reduceCtorEq, false_and, and_false, and_assoc, Int.reduceToNat, Int.reducePow, Int.reduceMul, Int.reduceAdd, Int.reduceNeg, Int.reduceSub, String.reduceEq, String.reduceNe, ne_eq, not_false_eq_true, not_true_eq_false, decide_false, decide_true, Bool.not_false, Bool.not_true, Bool.or_false, Bool.false_or, Bool.or_true, Bool.true_or, Bool.and_true, Bool.true_and, Bool.and_self, Bool.and_false, Bool.false_and, exists_eq', exists_eq, exists_const, false_or, or_false, or_self, List.all_cons, List.all_nil, List.any_cons, List.any_nil, Nat.reduceLeDiff, exists_false, List.map_nil, List.map_cons, Option.map_some, Option.isSome_some, Option.isSome_none, Option.getD_some, Option.getD_none, implies_true, List.foldl_cons, List.foldl_nil, forall_const, ofS_eq, Int.reduceLT, Int.reduceLE, Nat.reduceLT, isO_obj, isO_int, dctD_dct]
          refine ⟨c2, _, qs, rfl, rfl, hqs.sy, Nat.lt_trans hqs.sz (by decide), ?_⟩
          rw [← eL, ← eL2]
          have cn : ∀ s, coef (norm L) s = coef L s := fun s => coef_norm
          have cn2 : ∀ s, coef (norm L2) s = coef L2 s := fun s => coef_norm
          have ok30 : OkL 30 (norm L) := hok.up (by decide)
          have ok30' : OkL 30 (norm L2) := hok2.up (by decide)
          simp only [↓RD, RU, aStart, wipeA, putFA, toP, toPs, scDs, valD_nil, valD_cons, putM_eq, mergeD_eq, keysOk, aHandle, endsAA, putAA, starSp, put_same, put_put, inV_nil, inV_str, cxK, atI_0, atI_1, atI_2, atI_3, ixN_30, ixN_31, ixN_32, List.map, List.replicate, List.length_cons, List.length_nil, List.nil_append, List.cons_append, List.append_nil, Nat.reduceSub, Nat.reduceAdd, List.getElem?_cons_zero, List.getElem?_cons_succ, List.set_cons_zero, List.set_cons_succ, List.cons.injEq, Option.some.injEq, V.int.injEq, V.str.injEq, V.bl.injEq, D.int.injEq, D.str.injEq, D.bl.injEq, D.ref.injEq, D.tup.injEq, D.lst.injEq, D.ty.injEq, AO.lst.injEq, AO.dct.injEq, AO.ins.injEq, Prod.mk.injEq, exists_eq_left, exists_eq_left', exists_eq_right, exists_eq_right', exists_and_left, exists_and_right, true_and, and_true, and_self, if_true, if_false, Bool.false_eq_true, Bool.true_eq_false, eq_self, reduceCtorEq, false_and, and_false, and_assoc, Int.reduceToNat, Int.reducePow, Int.reduceMul, Int.reduceAdd, Int.reduceNeg, Int.reduceSub, String.reduceEq, String.reduceNe, ne_eq, not_false_eq_true, not_true_eq_false, decide_false, decide_true, Bool.not_false, Bool.not_true, Bool.or_false, Bool.false_or, Bool.or_true, Bool.true_or, Bool.and_true, Bool.true_and, Bool.and_self, Bool.and_false, Bool.false_and, exists_eq', exists_eq, exists_const, false_or, or_false, or_self, List.all_cons, List.all_nil, List.any_cons, List.any_nil, Nat.reduceLeDiff, exists_false, List.map_nil, List.map_cons, Option.map_some, Option.isSome_some, Option.isSome_none, Option.getD_some, Option.getD_none, implies_true, List.foldl_cons, List.foldl_nil, forall_const, ofS_eq, Int.reduceLT, Int.reduceLE, Nat.reduceLT, isO_obj, isO_int, dctD_dct, lf_put]
          refine ⟨c, c2, norm L, norm L2, x, rfl, ok30, ok30', mulc (lt200 hc2.lt (by decide)) (by rw [cn]; exact bd x), fun s => mulc (by rw [cn2]; exact bd2 s) (by rw [cn]; exact bd x), ?_⟩
          rw [cn x]
          have okT : OkL 12 (norm (addL (norm (restL (norm L) x)) (norm (mulL (coef L x) (norm L2))))) := ok_add (ok_rest hok) (ok_mul hok2)
          have cT : ∀ s, coef (norm (addL (norm (restL (norm L) x)) (norm (mulL (coef L x) (norm L2))))) s = (if s = x then 0 else coef L s) + coef L2 s * coef L x := fun s => by
            rw [coef_norm, coef_addL, coef_norm, coef_norm, coef_rest, coef_mulL, cn, cn2]
          generalize hTT : norm (addL (norm (restL (norm L) x)) (norm (mulL (coef L x) (norm L2)))) = TT at okT cT ⊢
          simp only [↓RD, RU, aStart, wipeA, putFA, toP, toPs, scDs, valD_nil, valD_cons, putM_eq, mergeD_eq, keysOk, aHandle, endsAA, putAA, starSp, put_same, put_put, inV_nil, inV_str, cxK, atI_0, atI_1, atI_2, atI_3, ixN_30, ixN_31, ixN_32, List.map, List.replicate, List.length_cons, List.length_nil, List.nil_append, List.cons_append, List.append_nil, Nat.reduceSub, Nat.reduceAdd, List.getElem?_cons_zero, List.getElem?_cons_succ, List.set_cons_zero, List.set_cons_succ, List.cons.injEq, Option.some.injEq, V.int.injEq, V.str.injEq, V.bl.injEq, D.int.injEq, D.str.injEq, D.bl.injEq, D.ref.injEq, D.tup.injEq, D.lst.injEq, D.ty.injEq, AO.lst.injEq, AO.dct.injEq, AO.ins.injEq, Prod.mk.injEq, exists_eq_left, exists_eq_left', exists_eq_right, exists_eq_right', exists_and_left, exists_and_right, true_and, and_true, and_self, if_true, if_false, Bool.false_eq_true, Bool.true_eq_false, eq_self, reduceCtorEq, false_and, and_false, and_assoc, Int.reduceToNat, Int.reducePow, Int.reduceMul, Int.reduceAdd, Int.reduceNeg, Int.reduceSub, String.reduceEq, String.reduceNe, ne_eq, not_false_eq_true, not_true_eq_false, decide_false, decide_true, Bool.not_false, Bool.not_true, Bool.or_false, Bool.false_or, Bool.or_true, Bool.true_or, Bool.and_true, Bool.true_and, Bool.and_self, Bool.and_false, Bool.false_and, exists_eq', exists_eq, exists_const, false_or, or_false, or_self, List.all_cons, List.all_nil, List.any_cons, List.any_nil, Nat.reduceLeDiff, exists_false, List.map_nil, List.map_cons, Option.map_some, Option.isSome_some, Option.isSome_none, Option.getD_some, Option.getD_none, implies_true, List.foldl_cons, List.foldl_nil, forall_const, ofS_eq, Int.reduceLT, Int.reduceLE, Nat.reduceLT, isO_obj, isO_int, dctD_dct, lf_wr]
          refine ⟨_, _, rfl, okT.nd, okT.lt (by decide), ?_⟩
          simp only [↓RD, RU, aStart, wipeA, putFA, toP, toPs, scDs, valD_nil, valD_cons, putM_eq, mergeD_eq, keysOk, aHandle, endsAA, putAA, starSp, put_same, put_put, inV_nil, inV_str, cxK, atI_0, atI_1, atI_2, atI_3, ixN_30, ixN_31, ixN_32, List.map, List.replicate, List.length_cons, List.length_nil, List.nil_append, List.cons_append, List.append_nil, Nat.reduceSub, Nat.reduceAdd, List.getElem?_cons_zero, List.getElem?_cons_succ, List.set_cons_zero, List.set_cons_succ, List.cons.injEq, Option.some.injEq, V.int.injEq, V.str.injEq, V.bl.injEq, D.int.injEq, D.str.injEq, D.bl.injEq, D.ref.injEq, D.tup.injEq, D.lst.injEq, D.ty.injEq, AO.lst.injEq, AO.dct.injEq, AO.ins.injEq, Prod.mk.injEq, exists_eq_left, exists_eq_left', exists_eq_right, exists_eq_right', exists_and_left, exists_and_right, true_and, and_true, and_self, if_true, if_false, Bool.false_eq_true, Bool.true_eq_false, eq_self, reduceCtorEq, false_and, and_false, and_assoc, Int.reduceToNat, Int.reducePow, Int.reduceMul, Int.reduceAdd, Int.reduceNeg, Int.reduceSub, String.reduceEq, String.reduceNe, ne_eq, not_false_eq_true, not_true_eq_false, decide_false, decide_true, Bool.not_false, Bool.not_true, Bool.or_false, Bool.false_or, Bool.or_true, Bool.true_or, Bool.and_true, Bool.true_and, Bool.and_self, Bool.and_false, Bool.false_and, exists_eq', exists_eq, exists_const, false_or, or_false, or_self, List.all_cons, List.all_nil, List.any_cons, List.any_nil, Nat.reduceLeDiff, exists_false, List.map_nil, List.map_cons, Option.map_some, Option.isSome_some, Option.isSome_none, Option.getD_some, Option.getD_none, implies_true, List.foldl_cons, List.foldl_nil, forall_const, ofS_eq, Int.reduceLT, Int.reduceLE, Nat.reduceLT, isO_obj, isO_int, dctD_dct]
          refine ⟨mulc (bd x) (lt200 hc2.lt (by decide)), _, _, a, rfl, asD_ref put_same, ad, az, ?_⟩
          refine ne_wr (by rw [Int.mul_comm]) (okT.nz ▸ norm_ext okT.nd ad fun s => by rw [cT, hdue, coef_rest, Int.mul_comm (coef L x)]) ?_
          simp only [↓RD, RU, aStart, wipeA, putFA, toP, toPs, scDs, valD_nil, valD_cons, putM_eq, mergeD_eq, keysOk, aHandle, endsAA, putAA, starSp, put_same, put_put, inV_nil, inV_str, cxK, atI_0, atI_1, atI_2, atI_3, ixN_30, ixN_31, ixN_32, List.map, List.replicate, List.length_cons, List.length_nil, List.nil_append, List.cons_append, List.append_nil, Nat.reduceSub, Nat.reduceAdd, List.getElem?_cons_zero, List.getElem?_cons_succ, List.set_cons_zero, List.set_cons_succ, List.cons.injEq, Option.some.injEq, V.int.injEq, V.str.injEq, V.bl.injEq, D.int.injEq, D.str.injEq, D.bl.injEq, D.ref.injEq, D.tup.injEq, D.lst.injEq, D.ty.injEq, AO.lst.injEq, AO.dct.injEq, AO.ins.injEq, Prod.mk.injEq, exists_eq_left, exists_eq_left', exists_eq_right, exists_eq_right', exists_and_left, exists_and_right, true_and, and_true, and_self, if_true, if_false, Bool.false_eq_true, Bool.true_eq_false, eq_self, reduceCtorEq, false_and, and_false, and_assoc, Int.reduceToNat, Int.reducePow, Int.reduceMul, Int.reduceAdd, Int.reduceNeg, Int.reduceSub, String.reduceEq, String.reduceNe, ne_eq, not_false_eq_true, not_true_eq_false, decide_false, decide_true, Bool.not_false, Bool.not_true, Bool.or_false, Bool.false_or, Bool.or_true, Bool.true_or, Bool.and_true, Bool.true_and, Bool.and_self, Bool.and_false, Bool.false_and, exists_eq', exists_eq, exists_const, false_or, or_false, or_self, List.all_cons, List.all_nil, List.any_cons, List.any_nil, Nat.reduceLeDiff, exists_false, List.map_nil, List.map_cons, Option.map_some, Option.isSome_some, Option.isSome_none, Option.getD_some, Option.getD_none, implies_true, List.foldl_cons, List.foldl_nil, forall_const, ofS_eq, Int.reduceLT, Int.reduceLE, Nat.reduceLT, isO_obj, isO_int, dctD_dct]
          refine sort_dct rfl (Nat.lt_trans hz (by decide)) ?_
          simp only [↓RD, RU, aStart, wipeA, putFA, toP, toPs, scDs, valD_nil, valD_cons, putM_eq, mergeD_eq, keysOk, aHandle, endsAA, putAA, starSp, put_same, put_put, inV_nil, inV_str, cxK, atI_0, atI_1, atI_2, atI_3, ixN_30, ixN_31, ixN_32, List.map, List.replicate, List.length_cons, List.length_nil, List.nil_append, List.cons_append, List.append_nil, Nat.reduceSub, Nat.reduceAdd, List.getElem?_cons_zero, List.getElem?_cons_succ, List.set_cons_zero, List.set_cons_succ, List.cons.injEq, Option.some.injEq, V.int.injEq, V.str.injEq, V.bl.injEq, D.int.injEq, D.str.injEq, D.bl.injEq, D.ref.injEq, D.tup.injEq, D.lst.injEq, D.ty.injEq, AO.lst.injEq, AO.dct.injEq, AO.ins.injEq, Prod.mk.injEq, exists_eq_left, exists_eq_left', exists_eq_right, exists_eq_right', exists_and_left, exists_and_right, true_and, and_true, and_self, if_true, if_false, Bool.false_eq_true, Bool.true_eq_false, eq_self, reduceCtorEq, false_and, and_false, and_assoc, Int.reduceToNat, Int.reducePow, Int.reduceMul, Int.reduceAdd, Int.reduceNeg, Int.reduceSub, String.reduceEq, String.reduceNe, ne_eq, not_false_eq_true, not_true_eq_false, decide_false, decide_true, Bool.not_false, Bool.not_true, Bool.or_false, Bool.false_or, Bool.or_true, Bool.true_or, Bool.and_true, Bool.true_and, Bool.and_self, Bool.and_false, Bool.false_and, exists_eq', exists_eq, exists_const, false_or, or_false, or_self, List.all_cons, List.all_nil, List.any_cons, List.any_nil, Nat.reduceLeDiff, exists_false, List.map_nil, List.map_cons, Option.map_some, Option.isSome_some, Option.isSome_none, Option.getD_some, Option.getD_none, implies_true, List.foldl_cons, List.foldl_nil, forall_const, ofS_eq, Int.reduceLT, Int.reduceLE, Nat.reduceLT, isO_obj, isO_int, dctD_dct]
          refine sort_dct rfl (Nat.lt_trans hz2 (by decide)) ?_
          simp only [↓RD, RU, aStart, wipeA, putFA, toP, toPs, scDs, valD_nil, valD_cons, putM_eq, mergeD_eq, keysOk, aHandle, endsAA, putAA, starSp, put_same, put_put, inV_nil, inV_str, cxK, atI_0, atI_1, atI_2, atI_3, ixN_30, ixN_31, ixN_32, List.map, List.replicate, List.length_cons, List.length_nil, List.nil_append, List.cons_append, List.append_nil, Nat.reduceSub, Nat.reduceAdd, List.getElem?_cons_zero, List.getElem?_cons_succ, List.set_cons_zero, List.set_cons_succ, List.cons.injEq, Option.some.injEq, V.int.injEq, V.str.injEq, V.bl.injEq, D.int.injEq, D.str.injEq, D.bl.injEq, D.ref.injEq, D.tup.injEq, D.lst.injEq, D.ty.injEq, AO.lst.injEq, AO.dct.injEq, AO.ins.injEq, Prod.mk.injEq, exists_eq_left, exists_eq_left', exists_eq_right, exists_eq_right', exists_and_left, exists_and_right, true_and, and_true, and_self, if_true, if_false, Bool.false_eq_true, Bool.true_eq_false, eq_self, reduceCtorEq, false_and, and_false, and_assoc, Int.reduceToNat, Int.reducePow, Int.reduceMul, Int.reduceAdd, Int.reduceNeg, Int.reduceSub, String.reduceEq, String.reduceNe, ne_eq, not_false_eq_true, not_true_eq_false, decide_false, decide_true, Bool.not_false, Bool.not_true, Bool.or_false, Bool.false_or, Bool.or_true, Bool.true_or, Bool.and_true, Bool.true_and, Bool.and_self, Bool.and_false, Bool.false_and, exists_eq', exists_eq, exists_const, false_or, or_false, or_self, List.all_cons, List.all_nil, List.any_cons, List.any_nil, Nat.reduceLeDiff, exists_false, List.map_nil, List.map_cons, Option.map_some, Option.isSome_some, Option.isSome_none, Option.getD_some, Option.getD_none, implies_true, List.foldl_cons, List.foldl_nil, forall_const, ofS_eq, Int.reduceLT, Int.reduceLE, Nat.reduceLT, isO_obj, isO_int, dctD_dct]
          refine ⟨by rw [List.length_map, List.length_map, srt_length, srt_length, List.length_map, List.length_map]; exact le64 (by omega), b, _, l6, srt (keys L) ++ srt (keys L2), by rw [List.map_append]; rfl, by rw [List.length_append, srt_length, srt_length, keys_len, keys_len]; omega, by rw [put_ne hbp]; exact hA6, hB6, by omega, fun Vv l7 hV hB7 => ?_⟩
          generalize put (put A' p (.dct (kvD a))) b (.lst l7) = A4
          have bv : ∀ s, (coef Vv s).natAbs < 2 ^ 200 := fun s => lt200 (hV.nb s).lt (by decide)
          have hzV : Vv.length < 64 := Nat.lt_of_le_of_lt hV.sz (by decide)
          simp only [↓RD, RU, aStart, wipeA, putFA, toP, toPs, scDs, valD_nil, valD_cons, putM_eq, mergeD_eq, keysOk, aHandle, endsAA, putAA, starSp, put_same, put_put, inV_nil, inV_str, cxK, atI_0, atI_1, atI_2, atI_3, ixN_30, ixN_31, ixN_32, List.map, List.replicate, List.length_cons, List.length_nil, List.nil_append, List.cons_append, List.append_nil, Nat.reduceSub, Nat.reduceAdd, List.getElem?_cons_zero, List.getElem?_cons_succ, List.set_cons_zero, List.set_cons_succ, List.cons.injEq, Option.some.injEq, V.int.injEq, V.str.injEq, V.bl.injEq, D.int.injEq, D.str.injEq, D.bl.injEq, D.ref.injEq, D.tup.injEq, D.lst.injEq, D.ty.injEq, AO.lst.injEq, AO.dct.injEq, AO.ins.injEq, Prod.mk.injEq, exists_eq_left, exists_eq_left', exists_eq_right, exists_eq_right', exists_and_left, exists_and_right, true_and, and_true, and_self, if_true, if_false, Bool.false_eq_true, Bool.true_eq_false, eq_self, reduceCtorEq, false_and, and_false, and_assoc, Int.reduceToNat, Int.reducePow, Int.reduceMul, Int.reduceAdd, Int.reduceNeg, Int.reduceSub, String.reduceEq, String.reduceNe, ne_eq, not_false_eq_true, not_true_eq_false, decide_false, decide_true, Bool.not_false, Bool.not_true, Bool.or_false, Bool.false_or, Bool.or_true, Bool.true_or, Bool.and_true, Bool.true_and, Bool.and_self, Bool.and_false, Bool.false_and, exists_eq', exists_eq, exists_const, false_or, or_false, or_self, List.all_cons, List.all_nil, List.any_cons, List.any_nil, Nat.reduceLeDiff, exists_false, List.map_nil, List.map_cons, Option.map_some, Option.isSome_some, Option.isSome_none, Option.getD_some, Option.getD_none, implies_true, List.foldl_cons, List.foldl_nil, forall_const, ofS_eq, Int.reduceLT, Int.reduceLE, Nat.reduceLT, isO_obj, isO_int, dctD_dct]
          rw [kvD_keys]
          refine Av.comp_filter (cD fun s => s != x) (qD fun s => coef Vv s) (id ?_) _ [] ?_ (fun d hd R R0 hR hR0 => ?_) ?_
          · trivial
          · rw [List.length_nil, Nat.zero_add, List.length_map, List.length_map]; exact le64 hzV
          · obtain ⟨s, hs, rfl⟩ := List.mem_map.mp hd
            simp only [↓RD, RU, aStart, wipeA, putFA, toP, toPs, scDs, valD_nil, valD_cons, putM_eq, mergeD_eq, keysOk, aHandle, endsAA, putAA, starSp, put_same, put_put, inV_nil, inV_str, cxK, atI_0, atI_1, atI_2, atI_3, ixN_30, ixN_31, ixN_32, List.map, List.replicate, List.length_cons, List.length_nil, List.nil_append, List.cons_append, List.append_nil, Nat.reduceSub, Nat.reduceAdd, List.getElem?_cons_zero, List.getElem?_cons_succ, List.set_cons_zero, List.set_cons_succ, List.cons.injEq, Option.some.injEq, V.int.injEq, V.str.injEq, V.bl.injEq, D.int.injEq, D.str.injEq, D.bl.injEq, D.ref.injEq, D.tup.injEq, D.lst.injEq, D.ty.injEq, AO.lst.injEq, AO.dct.injEq, AO.ins.injEq, Prod.mk.injEq, exists_eq_left, exists_eq_left', exists_eq_right, exists_eq_right', exists_and_left, exists_and_right, true_and, and_true, and_self, if_true, if_false, Bool.false_eq_true, Bool.true_eq_false, eq_self, reduceCtorEq, false_and, and_false, and_assoc, Int.reduceToNat, Int.reducePow, Int.reduceMul, Int.reduceAdd, Int.reduceNeg, Int.reduceSub, String.reduceEq, String.reduceNe, ne_eq, not_false_eq_true, not_true_eq_false, decide_false, decide_true, Bool.not_false, Bool.not_true, Bool.or_false, Bool.false_or, Bool.or_true, Bool.true_or, Bool.and_true, Bool.true_and, Bool.and_self, Bool.and_false, Bool.false_and, exists_eq', exists_eq, exists_const, false_or, or_false, or_self, List.all_cons, List.all_nil, List.any_cons, List.any_nil, Nat.reduceLeDiff, exists_false, List.map_nil, List.map_cons, Option.map_some, Option.isSome_some, Option.isSome_none, Option.getD_some, Option.getD_none, implies_true, List.foldl_cons, List.foldl_nil, forall_const, ofS_eq, Int.reduceLT, Int.reduceLE, Nat.reduceLT, isO_obj, isO_int, dctD_dct, valD_mem hs]
            have ec := ec_ne (s := s) (x := x)
            rw [ec] at hR hR0
            split
            · rename_i g; exact hR g
            · rename_i g; exact hR0 ((Bool.not_eq_true _).mp g)
          rw [List.nil_append, filter_cD, q_pairs]
          simp only [↓aNew_f, ↓frz_lst, ↓aNil_eq, ↓aCB_eq]
          refine dict_tab ?_
          simp only [↓RD, RU, aStart, wipeA, putFA, toP, toPs, scDs, valD_nil, valD_cons, putM_eq, mergeD_eq, keysOk, aHandle, endsAA, putAA, starSp, put_same, put_put, inV_nil, inV_str, cxK, atI_0, atI_1, atI_2, atI_3, ixN_30, ixN_31, ixN_32, List.map, List.replicate, List.length_cons, List.length_nil, List.nil_append, List.cons_append, List.append_nil, Nat.reduceSub, Nat.reduceAdd, List.getElem?_cons_zero, List.getElem?_cons_succ, List.set_cons_zero, List.set_cons_succ, List.cons.injEq, Option.some.injEq, V.int.injEq, V.str.injEq, V.bl.injEq, D.int.injEq, D.str.injEq, D.bl.injEq, D.ref.injEq, D.tup.injEq, D.lst.injEq, D.ty.injEq, AO.lst.injEq, AO.dct.injEq, AO.ins.injEq, Prod.mk.injEq, exists_eq_left, exists_eq_left', exists_eq_right, exists_eq_right', exists_and_left, exists_and_right, true_and, and_true, and_self, if_true, if_false, Bool.false_eq_true, Bool.true_eq_false, eq_self, reduceCtorEq, false_and, and_false, and_assoc, Int.reduceToNat, Int.reducePow, Int.reduceMul, Int.reduceAdd, Int.reduceNeg, Int.reduceSub, String.reduceEq, String.reduceNe, ne_eq, not_false_eq_true, not_true_eq_false, decide_false, decide_true, Bool.not_false, Bool.not_true, Bool.or_false, Bool.false_or, Bool.or_true, Bool.true_or, Bool.and_true, Bool.true_and, Bool.and_self, Bool.and_false, Bool.false_and, exists_eq', exists_eq, exists_const, false_or, or_false, or_self, List.all_cons, List.all_nil, List.any_cons, List.any_nil, Nat.reduceLeDiff, exists_false, List.map_nil, List.map_cons, Option.map_some, Option.isSome_some, Option.isSome_none, Option.getD_some, Option.getD_none, implies_true, List.foldl_cons, List.foldl_nil, forall_const, ofS_eq, Int.reduceLT, Int.reduceLE, Nat.reduceLT, isO_obj, isO_int, dctD_dct]
          intro q hq
          have ev := ev_lt (N := L2) (v := coef Vv) (Nat.lt_trans hz2 (by decide)) bd2 bv
          refine ⟨c2, L2, Vv, _, rfl, rfl, hnd2, Nat.lt_trans hz2 (by decide), fun s => mulc (bd2 s) (bv s), ?_⟩
          have hrl : (tab (fun s => coef Vv s) ((List.map (fun x => x.fst) Vv).filter fun s => s != x)).length < 64 := Nat.lt_of_le_of_lt (len_tab _ _) (Nat.lt_of_le_of_lt (List.length_filter_le _ _) (by rw [List.length_map]; exact hzV))
          simp only [↓RD, RU, aStart, wipeA, putFA, toP, toPs, scDs, valD_nil, valD_cons, putM_eq, mergeD_eq, keysOk, aHandle, endsAA, putAA, starSp, put_same, put_put, inV_nil, inV_str, cxK, atI_0, atI_1, atI_2, atI_3, ixN_30, ixN_31, ixN_32, List.map, List.replicate, List.length_cons, List.length_nil, List.nil_append, List.cons_append, List.append_nil, Nat.reduceSub, Nat.reduceAdd, List.getElem?_cons_zero, List.getElem?_cons_succ, List.set_cons_zero, List.set_cons_succ, List.cons.injEq, Option.some.injEq, V.int.injEq, V.str.injEq, V.bl.injEq, D.int.injEq, D.str.injEq, D.bl.injEq, D.ref.injEq, D.tup.injEq, D.lst.injEq, D.ty.injEq, AO.lst.injEq, AO.dct.injEq, AO.ins.injEq, Prod.mk.injEq, exists_eq_left, exists_eq_left', exists_eq_right, exists_eq_right', exists_and_left, exists_and_right, true_and, and_true, and_self, if_true, if_false, Bool.false_eq_true, Bool.true_eq_false, eq_self, reduceCtorEq, false_and, and_false, and_assoc, Int.reduceToNat, Int.reducePow, Int.reduceMul, Int.reduceAdd, Int.reduceNeg, Int.reduceSub, String.reduceEq, String.reduceNe, ne_eq, not_false_eq_true, not_true_eq_false, decide_false, decide_true, Bool.not_false, Bool.not_true, Bool.or_false, Bool.false_or, Bool.or_true, Bool.true_or, Bool.and_true, Bool.true_and, Bool.and_self, Bool.and_false, Bool.false_and, exists_eq', exists_eq, exists_const, false_or, or_false, or_self, List.all_cons, List.all_nil, List.any_cons, List.any_nil, Nat.reduceLeDiff, exists_false, List.map_nil, List.map_cons, Option.map_some, Option.isSome_some, Option.isSome_none, Option.getD_some, Option.getD_none, implies_true, List.foldl_cons, List.foldl_nil, forall_const, ofS_eq, Int.reduceLT, Int.reduceLE, Nat.reduceLT, isO_obj, isO_int, dctD_dct, putD_kv]
          refine ⟨by rw [kvD_len]; exact Nat.lt_of_lt_of_le hrl (by decide), ?_⟩
          have ci : ∀ s, coef (putP (restL Vv x) x (c2 + evL L2 (coef Vv))) s = if s = x then c2 + evL L2 (coef Vv) else coef Vv s := fun s => by
            rw [coef_putP, coef_rest]
            split
            · rfl
            · rfl
          have hI : (tab (fun s => coef Vv s) ((List.map (fun x => x.fst) Vv).filter fun s => s != x)) = restL Vv x := rfl
          rw [hI]
          generalize putP (restL Vv x) x (c2 + evL L2 (coef Vv)) = I at ci ⊢
          have bi : ∀ s, (coef I s).natAbs < 2 ^ 500 := fun s => by
            rw [ci]
            have h1 := hc2.lt
            have h2 := bv s
            split <;> omega
          have bT : ∀ s, (coef TT s).natAbs < 2 ^ 500 := fun s => by
            rw [cT]
            have h1 := bd s
            have h2 := prod_lt (bd2 s) (bd x)
            split <;> omega
          have b5 : ∀ {n : Int}, n.natAbs < 2 ^ 200 → n.natAbs < 2 ^ 500 := fun h => by omega
          have e1 : c + c2 * coef L x + evL TT (coef Vv) = c + evL L (coef I) := put_ev hnd hnd2 okT.nd cT rfl ci rfl
          have e2 : evL (norm L) (coef I) = evL L (coef I) := evL_norm hnd
          refine ⟨_, TT, Vv, _, rfl, rfl, okT.nd, okT.lt (by decide), fun s => mulk (bT s) (b5 (bv s)), ?_⟩
          simp only [↓RD, RU, aStart, wipeA, putFA, toP, toPs, scDs, valD_nil, valD_cons, putM_eq, mergeD_eq, keysOk, aHandle, endsAA, putAA, starSp, put_same, put_put, inV_nil, inV_str, cxK, atI_0, atI_1, atI_2, atI_3, ixN_30, ixN_31, ixN_32, List.map, List.replicate, List.length_cons, List.length_nil, List.nil_append, List.cons_append, List.append_nil, Nat.reduceSub, Nat.reduceAdd, List.getElem?_cons_zero, List.getElem?_cons_succ, List.set_cons_zero, List.set_cons_succ, List.cons.injEq, Option.some.injEq, V.int.injEq, V.str.injEq, V.bl.injEq, D.int.injEq, D.str.injEq, D.bl.injEq, D.ref.injEq, D.tup.injEq, D.lst.injEq, D.ty.injEq, AO.lst.injEq, AO.dct.injEq, AO.ins.injEq, Prod.mk.injEq, exists_eq_left, exists_eq_left', exists_eq_right, exists_eq_right', exists_and_left, exists_and_right, true_and, and_true, and_self, if_true, if_false, Bool.false_eq_true, Bool.true_eq_false, eq_self, reduceCtorEq, false_and, and_false, and_assoc, Int.reduceToNat, Int.reducePow, Int.reduceMul, Int.reduceAdd, Int.reduceNeg, Int.reduceSub, String.reduceEq, String.reduceNe, ne_eq, not_false_eq_true, not_true_eq_false, decide_false, decide_true, Bool.not_false, Bool.not_true, Bool.or_false, Bool.false_or, Bool.or_true, Bool.true_or, Bool.and_true, Bool.true_and, Bool.and_self, Bool.and_false, Bool.false_and, exists_eq', exists_eq, exists_const, false_or, or_false, or_self, List.all_cons, List.all_nil, List.any_cons, List.any_nil, Nat.reduceLeDiff, exists_false, List.map_nil, List.map_cons, Option.map_some, Option.isSome_some, Option.isSome_none, Option.getD_some, Option.getD_none, implies_true, List.foldl_cons, List.foldl_nil, forall_const, ofS_eq, Int.reduceLT, Int.reduceLE, Nat.reduceLT, isO_obj, isO_int, dctD_dct]
          refine ⟨c, L, I, _, rfl, asD_ref put_same, hnd, Nat.lt_trans hz (by decide), fun s => mulk (b5 (bd s)) (bi s), ?_⟩
          rw [e1]
          simp only [↓RD, RU, aStart, wipeA, putFA, toP, toPs, scDs, valD_nil, valD_cons, putM_eq, mergeD_eq, keysOk, aHandle, endsAA, putAA, starSp, put_same, put_put, inV_nil, inV_str, cxK, atI_0, atI_1, atI_2, atI_3, ixN_30, ixN_31, ixN_32, List.map, List.replicate, List.length_cons, List.length_nil, List.nil_append, List.cons_append, List.append_nil, Nat.reduceSub, Nat.reduceAdd, List.getElem?_cons_zero, List.getElem?_cons_succ, List.set_cons_zero, List.set_cons_succ, List.cons.injEq, Option.some.injEq, V.int.injEq, V.str.injEq, V.bl.injEq, D.int.injEq, D.str.injEq, D.bl.injEq, D.ref.injEq, D.tup.injEq, D.lst.injEq, D.ty.injEq, AO.lst.injEq, AO.dct.injEq, AO.ins.injEq, Prod.mk.injEq, exists_eq_left, exists_eq_left', exists_eq_right, exists_eq_right', exists_and_left, exists_and_right, true_and, and_true, and_self, if_true, if_false, Bool.false_eq_true, Bool.true_eq_false, eq_self, reduceCtorEq, false_and, and_false, and_assoc, Int.reduceToNat, Int.reducePow, Int.reduceMul, Int.reduceAdd, Int.reduceNeg, Int.reduceSub, String.reduceEq, String.reduceNe, ne_eq, not_false_eq_true, not_true_eq_false, decide_false, decide_true, Bool.not_false, Bool.not_true, Bool.or_false, Bool.false_or, Bool.or_true, Bool.true_or, Bool.and_true, Bool.true_and, Bool.and_self, Bool.and_false, Bool.false_and, exists_eq', exists_eq, exists_const, false_or, or_false, or_self, List.all_cons, List.all_nil, List.any_cons, List.any_nil, Nat.reduceLeDiff, exists_false, List.map_nil, List.map_cons, Option.map_some, Option.isSome_some, Option.isSome_none, Option.getD_some, Option.getD_none, implies_true, List.foldl_cons, List.foldl_nil, forall_const, ofS_eq, Int.reduceLT, Int.reduceLE, Nat.reduceLT, isO_obj, isO_int, dctD_dct]
          refine ⟨_, TT, Vv, _, rfl, rfl, okT.nd, okT.lt (by decide), fun s => mulk (bT s) (b5 (bv s)), ?_⟩
          simp only [↓RD, RU, aStart, wipeA, putFA, toP, toPs, scDs, valD_nil, valD_cons, putM_eq, mergeD_eq, keysOk, aHandle, endsAA, putAA, starSp, put_same, put_put, inV_nil, inV_str, cxK, atI_0, atI_1, atI_2, atI_3, ixN_30, ixN_31, ixN_32, List.map, List.replicate, List.length_cons, List.length_nil, List.nil_append, List.cons_append, List.append_nil, Nat.reduceSub, Nat.reduceAdd, List.getElem?_cons_zero, List.getElem?_cons_succ, List.set_cons_zero, List.set_cons_succ, List.cons.injEq, Option.some.injEq, V.int.injEq, V.str.injEq, V.bl.injEq, D.int.injEq, D.str.injEq, D.bl.injEq, D.ref.injEq, D.tup.injEq, D.lst.injEq, D.ty.injEq, AO.lst.injEq, AO.dct.injEq, AO.ins.injEq, Prod.mk.injEq, exists_eq_left, exists_eq_left', exists_eq_right, exists_eq_right', exists_and_left, exists_and_right, true_and, and_true, and_self, if_true, if_false, Bool.false_eq_true, Bool.true_eq_false, eq_self, reduceCtorEq, false_and, and_false, and_assoc, Int.reduceToNat, Int.reducePow, Int.reduceMul, Int.reduceAdd, Int.reduceNeg, Int.reduceSub, String.reduceEq, String.reduceNe, ne_eq, not_false_eq_true, not_true_eq_false, decide_false, decide_true, Bool.not_false, Bool.not_true, Bool.or_false, Bool.false_or, Bool.or_true, Bool.true_or, Bool.and_true, Bool.true_and, Bool.and_self, Bool.and_false, Bool.false_and, exists_eq', exists_eq, exists_const, false_or, or_false, or_self, List.all_cons, List.all_nil, List.any_cons, List.any_nil, Nat.reduceLeDiff, exists_false, List.map_nil, List.map_cons, Option.map_some, Option.isSome_some, Option.isSome_none, Option.getD_some, Option.getD_none, implies_true, List.foldl_cons, List.foldl_nil, forall_const, ofS_eq, Int.reduceLT, Int.reduceLE, Nat.reduceLT, isO_obj, isO_int, dctD_dct]
          refine ⟨c, norm L, I, _, rfl, asD_ref put_same, hok.nd, hok.lt (by decide), fun s => mulk (b5 (by rw [cn]; exact bd s)) (bi s), ?_⟩
          rw [e1, e2]
          simp only [↓RD, RU, aStart, wipeA, putFA, toP, toPs, scDs, valD_nil, valD_cons, putM_eq, mergeD_eq, keysOk, aHandle, endsAA, putAA, starSp, put_same, put_put, inV_nil, inV_str, cxK, atI_0, atI_1, atI_2, atI_3, ixN_30, ixN_31, ixN_32, List.map, List.replicate, List.length_cons, List.length_nil, List.nil_append, List.cons_append, List.append_nil, Nat.reduceSub, Nat.reduceAdd, List.getElem?_cons_zero, List.getElem?_cons_succ, List.set_cons_zero, List.set_cons_succ, List.cons.injEq, Option.some.injEq, V.int.injEq, V.str.injEq, V.bl.injEq, D.int.injEq, D.str.injEq, D.bl.injEq, D.ref.injEq, D.tup.injEq, D.lst.injEq, D.ty.injEq, AO.lst.injEq, AO.dct.injEq, AO.ins.injEq, Prod.mk.injEq, exists_eq_left, exists_eq_left', exists_eq_right, exists_eq_right', exists_and_left, exists_and_right, true_and, and_true, and_self, if_true, if_false, Bool.false_eq_true, Bool.true_eq_false, eq_self, reduceCtorEq, false_and, and_false, and_assoc, Int.reduceToNat, Int.reducePow, Int.reduceMul, Int.reduceAdd, Int.reduceNeg, Int.reduceSub, String.reduceEq, String.reduceNe, ne_eq, not_false_eq_true, not_true_eq_false, decide_false, decide_true, Bool.not_false, Bool.not_true, Bool.or_false, Bool.false_or, Bool.or_true, Bool.true_or, Bool.and_true, Bool.true_and, Bool.and_self, Bool.and_false, Bool.false_and, exists_eq', exists_eq, exists_const, false_or, or_false, or_self, List.all_cons, List.all_nil, List.any_cons, List.any_nil, Nat.reduceLeDiff, exists_false, List.map_nil, List.map_cons, Option.map_some, Option.isSome_some, Option.isSome_none, Option.getD_some, Option.getD_none, implies_true, List.foldl_cons, List.foldl_nil, forall_const, ofS_eq, Int.reduceLT, Int.reduceLE, Nat.reduceLT, isO_obj, isO_int, dctD_dct, lf_wr]
          refine ⟨_, _, rfl, hok.nd, hok.lt (by decide), ?_⟩
          simp only [↓RD, RU, aStart, wipeA, putFA, toP, toPs, scDs, valD_nil, valD_cons, putM_eq, mergeD_eq, keysOk, aHandle, endsAA, putAA, starSp, put_same, put_put, inV_nil, inV_str, cxK, atI_0, atI_1, atI_2, atI_3, ixN_30, ixN_31, ixN_32, List.map, List.replicate, List.length_cons, List.length_nil, List.nil_append, List.cons_append, List.append_nil, Nat.reduceSub, Nat.reduceAdd, List.getElem?_cons_zero, List.getElem?_cons_succ, List.set_cons_zero, List.set_cons_succ, List.cons.injEq, Option.some.injEq, V.int.injEq, V.str.injEq, V.bl.injEq, D.int.injEq, D.str.injEq, D.bl.injEq, D.ref.injEq, D.tup.injEq, D.lst.injEq, D.ty.injEq, AO.lst.injEq, AO.dct.injEq, AO.ins.injEq, Prod.mk.injEq, exists_eq_left, exists_eq_left', exists_eq_right, exists_eq_right', exists_and_left, exists_and_right, true_and, and_true, and_self, if_true, if_false, Bool.false_eq_true, Bool.true_eq_false, eq_self, reduceCtorEq, false_and, and_false, and_assoc, Int.reduceToNat, Int.reducePow, Int.reduceMul, Int.reduceAdd, Int.reduceNeg, Int.reduceSub, String.reduceEq, String.reduceNe, ne_eq, not_false_eq_true, not_true_eq_false, decide_false, decide_true, Bool.not_false, Bool.not_true, Bool.or_false, Bool.false_or, Bool.or_true, Bool.true_or, Bool.and_true, Bool.true_and, Bool.and_self, Bool.and_false, Bool.false_and, exists_eq', exists_eq, exists_const, false_or, or_false, or_self, List.all_cons, List.all_nil, List.any_cons, List.any_nil, Nat.reduceLeDiff, exists_false, List.map_nil, List.map_cons, Option.map_some, Option.isSome_some, Option.isSome_none, Option.getD_some, Option.getD_none, implies_true, List.foldl_cons, List.foldl_nil, forall_const, ofS_eq, Int.reduceLT, Int.reduceLE, Nat.reduceLT, isO_obj, isO_int, dctD_dct]
          refine ⟨c, _, L, rfl, rfl, hnd, Nat.lt_trans hz (by decide), ?_⟩
          refine ne_wr rfl rfl ?_
          simp only [↓RD, RU, aStart, wipeA, putFA, toP, toPs, scDs, valD_nil, valD_cons, putM_eq, mergeD_eq, keysOk, aHandle, endsAA, putAA, starSp, put_same, put_put, inV_nil, inV_str, cxK, atI_0, atI_1, atI_2, atI_3, ixN_30, ixN_31, ixN_32, List.map, List.replicate, List.length_cons, List.length_nil, List.nil_append, List.cons_append, List.append_nil, Nat.reduceSub, Nat.reduceAdd, List.getElem?_cons_zero, List.getElem?_cons_succ, List.set_cons_zero, List.set_cons_succ, List.cons.injEq, Option.some.injEq, V.int.injEq, V.str.injEq, V.bl.injEq, D.int.injEq, D.str.injEq, D.bl.injEq, D.ref.injEq, D.tup.injEq, D.lst.injEq, D.ty.injEq, AO.lst.injEq, AO.dct.injEq, AO.ins.injEq, Prod.mk.injEq, exists_eq_left, exists_eq_left', exists_eq_right, exists_eq_right', exists_and_left, exists_and_right, true_and, and_true, and_self, if_true, if_false, Bool.false_eq_true, Bool.true_eq_false, eq_self, reduceCtorEq, false_and, and_false, and_assoc, Int.reduceToNat, Int.reducePow, Int.reduceMul, Int.reduceAdd, Int.reduceNeg, Int.reduceSub, String.reduceEq, String.reduceNe, ne_eq, not_false_eq_true, not_true_eq_false, decide_false, decide_true, Bool.not_false, Bool.not_true, Bool.or_false, Bool.false_or, Bool.or_true, Bool.true_or, Bool.and_true, Bool.true_and, Bool.and_self, Bool.and_false, Bool.false_and, exists_eq', exists_eq, exists_const, false_or, or_false, or_self, List.all_cons, List.all_nil, List.any_cons, List.any_nil, Nat.reduceLeDiff, exists_false, List.map_nil, List.map_cons, Option.map_some, Option.isSome_some, Option.isSome_none, Option.getD_some, Option.getD_none, implies_true, List.foldl_cons, List.foldl_nil, forall_const, ofS_eq, Int.reduceLT, Int.reduceLE, Nat.reduceLT, isO_obj, isO_int, dctD_dct, lf_wr]
          refine ⟨_, _, rfl, hok2.nd, hok2.lt (by decide), ?_⟩
          simp only [↓RD, RU, aStart, wipeA, putFA, toP, toPs, scDs, valD_nil, valD_cons, putM_eq, mergeD_eq, keysOk, aHandle, endsAA, putAA, starSp, put_same, put_put, inV_nil, inV_str, cxK, atI_0, atI_1, atI_2, atI_3, ixN_30, ixN_31, ixN_32, List.map, List.replicate, List.length_cons, List.length_nil, List.nil_append, List.cons_append, List.append_nil, Nat.reduceSub, Nat.reduceAdd, List.getElem?_cons_zero, List.getElem?_cons_succ, List.set_cons_zero, List.set_cons_succ, List.cons.injEq, Option.some.injEq, V.int.injEq, V.str.injEq, V.bl.injEq, D.int.injEq, D.str.injEq, D.bl.injEq, D.ref.injEq, D.tup.injEq, D.lst.injEq, D.ty.injEq, AO.lst.injEq, AO.dct.injEq, AO.ins.injEq, Prod.mk.injEq, exists_eq_left, exists_eq_left', exists_eq_right, exists_eq_right', exists_and_left, exists_and_right, true_and, and_true, and_self, if_true, if_false, Bool.false_eq_true, Bool.true_eq_false, eq_self, reduceCtorEq, false_and, and_false, and_assoc, Int.reduceToNat, Int.reducePow, Int.reduceMul, Int.reduceAdd, Int.reduceNeg, Int.reduceSub, String.reduceEq, String.reduceNe, ne_eq, not_false_eq_true, not_true_eq_false, decide_false, decide_true, Bool.not_false, Bool.not_true, Bool.or_false, Bool.false_or, Bool.or_true, Bool.true_or, Bool.and_true, Bool.true_and, Bool.and_self, Bool.and_false, Bool.false_and, exists_eq', exists_eq, exists_const, false_or, or_false, or_self, List.all_cons, List.all_nil, List.any_cons, List.any_nil, Nat.reduceLeDiff, exists_false, List.map_nil, List.map_cons, Option.map_some, Option.isSome_some, Option.isSome_none, Option.getD_some, Option.getD_none, implies_true, List.foldl_cons, List.foldl_nil, forall_const, ofS_eq, Int.reduceLT, Int.reduceLE, Nat.reduceLT, isO_obj, isO_int, dctD_dct]
          refine ⟨c2, _, L2, rfl, rfl, hnd2, Nat.lt_trans hz2 (by decide), ?_⟩
          refine ne_wr rfl rfl ?_
          simp only [↓RD, RU, aStart, wipeA, putFA, toP, toPs, scDs, valD_nil, valD_cons, putM_eq, mergeD_eq, keysOk, aHandle, endsAA, putAA, starSp, put_same, put_put, inV_nil, inV_str, cxK, atI_0, atI_1, atI_2, atI_3, ixN_30, ixN_31, ixN_32, List.map, List.replicate, List.length_cons, List.length_nil, List.nil_append, List.cons_append, List.append_nil, Nat.reduceSub, Nat.reduceAdd, List.getElem?_cons_zero, List.getElem?_cons_succ, List.set_cons_zero, List.set_cons_succ, List.cons.injEq, Option.some.injEq, V.int.injEq, V.str.injEq, V.bl.injEq, D.int.injEq, D.str.injEq, D.bl.injEq, D.ref.injEq, D.tup.injEq, D.lst.injEq, D.ty.injEq, AO.lst.injEq, AO.dct.injEq, AO.ins.injEq, Prod.mk.injEq, exists_eq_left, exists_eq_left', exists_eq_right, exists_eq_right', exists_and_left, exists_and_right, true_and, and_true, and_self, if_true, if_false, Bool.false_eq_true, Bool.true_eq_false, eq_self, reduceCtorEq, false_and, and_false, and_assoc, Int.reduceToNat, Int.reducePow, Int.reduceMul, Int.reduceAdd, Int.reduceNeg, Int.reduceSub, String.reduceEq, String.reduceNe, ne_eq, not_false_eq_true, not_true_eq_false, decide_false, decide_true, Bool.not_false, Bool.not_true, Bool.or_false, Bool.false_or, Bool.or_true, Bool.true_or, Bool.and_true, Bool.true_and, Bool.and_self, Bool.and_false, Bool.false_and, exists_eq', exists_eq, exists_const, false_or, or_false, or_self, List.all_cons, List.all_nil, List.any_cons, List.any_nil, Nat.reduceLeDiff, exists_false, List.map_nil, List.map_cons, Option.map_some, Option.isSome_some, Option.isSome_none, Option.getD_some, Option.getD_none, implies_true, List.foldl_cons, List.foldl_nil, forall_const, ofS_eq, Int.reduceLT, Int.reduceLE, Nat.reduceLT, isO_obj, isO_int, dctD_dct]
          exact hR _ _ ⟨_, _, _, _, _, _, _, _, _, _, _, _, _, _, _, _, _, rfl⟩
  · obtain ⟨v1, v2, v3, v4, v5, v6, v7, v8, v9, v10, v11, v12, v13, v14, v15, v16, v17, rfl⟩ := hP
    simp only [↓RD, RU, aStart, wipeA, putFA, toP, toPs, scDs, valD_nil, valD_cons, putM_eq, mergeD_eq, keysOk, aHandle, endsAA, putAA, starSp, put_same, put_put, inV_nil, inV_str, cxK, atI_0, atI_1, atI_2, atI_3, ixN_30, ixN_31, ixN_32, List.map, List.replicate, List.length_cons, List.length_nil, List.nil_append, List.cons_append, List.append_nil, Nat.reduceSub, Nat.reduceAdd, List.getElem?_cons_zero, List.getElem?_cons_succ, List.set_cons_zero, List.set_cons_succ, List.cons.injEq, Option.some.injEq, V.int.injEq, V.str.injEq, V.bl.injEq, D.int.injEq, D.str.injEq, D.bl.injEq, D.ref.injEq, D.tup.injEq, D.lst.injEq, D.ty.injEq, AO.lst.injEq, AO.dct.injEq, AO.ins.injEq, Prod.mk.injEq, exists_eq_left, exists_eq_left', exists_eq_right, exists_eq_right', exists_and_left, exists_and_right, true_and, and_true, and_self, if_true, if_false, Bool.false_eq_true, Bool.true_eq_false, eq_self, reduceCtorEq, false_and, and_false, and_assoc, Int.reduceToNat, Int.reducePow, Int.reduceMul, Int.reduceAdd, Int.reduceNeg, Int.reduceSub, String.reduceEq, String.reduceNe, ne_eq, not_false_eq_true, not_true_eq_false, decide_false, decide_true, Bool.not_false, Bool.not_true, Bool.or_false, Bool.false_or, Bool.or_true, Bool.true_or, Bool.and_true, Bool.true_and, Bool.and_self, Bool.and_false, Bool.false_and, exists_eq', exists_eq, exists_const, false_or, or_false, or_self, List.all_cons, List.all_nil, List.any_cons, List.any_nil, Nat.reduceLeDiff, exists_false, List.map_nil, List.map_cons, Option.map_some, Option.isSome_some, Option.isSome_none, Option.getD_some, Option.getD_none, implies_true, List.foldl_cons, List.foldl_nil, forall_const, ofS_eq, Int.reduceLT, Int.reduceLE, Nat.reduceLT, isO_obj, isO_int, dctD_dct]
    exact fin_id (k _)
end V06

set_option Elab.async false
set_option linter.all false
set_option maxRecDepth 100000
set_option maxHeartbeats 0
namespace V06
open PySem PySem.Spec PyProof.Rows L2 My Av
def sp_law (K : PySem.W.Frag) : Sp := fun vs H Q _ => ∃ (a : Addr) (ns : List Int), vs = [.ref a] ∧ SqL K H a (ns.map V.int) ∧ ns.length ≤ 63 ∧ ∀ H', Q (.bl true) H'
theorem ok_law {P : Program} {w : World} {K : PySem.W.Frag} {mg : Str → Option Value} {base : Heap} {fd : FuncData} (F : L2.FunD K D_law.name D_law.qual D_law.params D_law.body D_law.scope (D_law.dvs K) (D_law.kws K) (He.ga K "law") fd) (T : Tx K mg) : FnOk P w K mg base CX0 13 (He.ga K "law") fd ["_law_script"] (sp_law K) := by
  refine FunD.ok F sc_law (fun vs H Q E h => by obtain ⟨a, ns, rfl, _⟩ := h; rfl) (fun cdv A outer s H vs Q E hr h => ?_)
  obtain ⟨a, ns, rfl, hS, hl, k⟩ := h
  obtain ⟨t, ht, hq⟩ := bodyR (dd := []) (B_law T) cdv A outer s H [.ref a] Q E hr (law_lift (asp := spa_law K) hS (fun A Q' h => ⟨ns, rfl, hl, h⟩) k)
  exact ⟨t, ht.nox, hq⟩
abbrev Rw : PySem.W.OpenRow := PySem.W.OpenLaw.row PySem.Challenge.rw_owedanswers_k06_symbols_replaced
abbrev hk : PySem.W.Hook := My.hookM 5 fa fn
def ob (s : PySem.W.SharedT) : He.AlD := My.obsMG 5 fa fn (HandSHeadRun.getT s)
theorem ob_eq (s : PySem.W.SharedT) : ob s = hk.obs s.abs := My.obsMG_eq (HandSHeadRun.getT_eq s)
def names : List PySem.Str := (["OwedError", "BadSymbol", "LETTERS", "DIGITS", "MOST_DIGITS", "is_made_of", "is_list_name", "is_round", "is_symbol", "sign_of", "Form", "_law_bag", "_law_take", "_law_number", "_law_symbol", "_law_pairs", "_law_sums", "_law_written", "_law_values", "_law_value"] : List PySem.Str)
theorem run (w : World) : HandSHeadRun.RunEq Rw (PySem.W.view Rw.prog [23]) hk ob 4000 names w := by
  intro os
  kernel_rfl
theorem facts {P : Program} {w : World} {K : PySem.W.Frag} {h : Heap} {mg : Str → Option Value} {f : Addr} (X : K.In h) (G : h.Ns mainGlobals mg) (hfa : mg ("law" : Str) = some (.ref f)) (c : My.SaysM fa fn K) :
    ∃ fd : FuncData, (∀ (s : Shared) (v : Value), BindsTo s fd ⟨[v], []⟩ [("_law_script", v)]) ∧ ∀ base : Heap, K.In base → base.Ns mainGlobals mg → FnOk P w K mg base CX0 13 f fd ["_law_script"] (sp_law K) := by
  have T : Tx K mg := ⟨⟨h, X, G⟩, c⟩
  obtain ⟨fd, F⟩ := T.d_law
  have e := hfa.symm.trans T.g_law
  cases e
  have b := FunD.bindsA (ps := ["_law_script"]) F fun _ _ _ _ _ _ us hl => match us, hl with | [_], _ => rfl
  exact ⟨fd, fun s v => b s [v] rfl, fun base _ _ => ok_law F T⟩
end V06
open PySem PySem.W PySem.Calls PyProof.Rows
theorem PySem.Challenge.cw_owedanswers_k06_symbols_replaced_holds : PySem.Challenge.rw_owedanswers_k06_symbols_replaced.Holds := by
  w_on; o_law
  refine HandSHeadRun.head_any (r := OpenLaw.row PySem.Challenge.rw_owedanswers_k06_symbols_replaced) (q := view (OpenLaw.row PySem.Challenge.rw_owedanswers_k06_symbols_replaced).prog [23]) (H := V06.hk) (ob := V06.ob) (M := 4000) (loose := V06.names) (d := HandSHeadRun.topDef (OpenLaw.row PySem.Challenge.rw_owedanswers_k06_symbols_replaced).prog 23) (kwd := []) V06.ob_eq
    (by kernel_rfl) (fun s => by kernel_rfl) V06.run (by kernel_rfl) (by kernel_rfl) (by kernel_rfl) (by rfl) (by first | assumption | decide +kernel) (by decide +kernel) ⟨rfl, rfl, rfl, rfl, rfl, by decide +kernel⟩ ?hw ?hc
  case hw => w_witness2
  case hc =>
    refine L2.walk_ofE (l := PySem.Challenge.rw_owedanswers_k06_symbols_replaced) (n := 63) (k := 13) (x := "_law_script") (CX := L2.CX0) rfl (by decide) (by kernel_rfl) ⟨rfl, by decide, by decide⟩ ?F (fun _ _ _ _ z => z)
    intro w mg fa h Y G hmg0
    obtain ⟨K, KX, c⟩ := Y
    have hmg : mg ("law" : PySem.Str) = some (.ref fa) := by
      have e : (HandSHeadRun.topDef (OpenLaw.row PySem.Challenge.rw_owedanswers_k06_symbols_replaced).prog 23).name = ("law" : PySem.Str) := by kernel_rfl
      rw [← e]
      exact hmg0
    obtain ⟨fd, hb, hF⟩ := V06.facts (P := (PySem.Challenge.rw_owedanswers_k06_symbols_replaced).prog) (w := w) KX G hmg c
    exact ⟨K, fd, V06.sp_law K, KX, hb, fun H a ns hl hO hS => ⟨a, ns, rfl, hS, hl, fun _ => rfl⟩, hF⟩

