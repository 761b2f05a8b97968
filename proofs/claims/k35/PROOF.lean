import PyProof.Rows.All
import Wide.All
import OpenK.AllK
import Wide.FinOn
import KE.KStateDown
import HandS.ForMost
import HandS.ForExc
import HandS.More
import HandS.Defaults
import HandS.Star
import HandS.Property
import HandS.Flow
import HandS.Style
import HandS.Wide
import HandS.IsInst
import HandS.Conv
import HandS.Zip
import HandS.TupAny
import HandS.FStr
import HandS.HeadNt
import HandS.HeadEnd
import HandS.Head2
import HandS.Walk
import KE.KExcSuper
import HandS.TryMany
import HandS.ExcOwn
import HandS.Small
import HandS.MakeKw
import HandS.MakeKwOnly
import PySem.Challenge.RW_owedanswers_k35_lines_beside_each_other
set_option Elab.async false
set_option linter.all false
set_option maxRecDepth 100000
set_option maxHeartbeats 4000000
/-! own library, part 1: the head's facts, calls by positional promises -/
namespace My
open PySem PySem.Spec PyProof.Rows L2
/-! ### the hook: facts as Bools over what the top left -/
abbrev FaB : Type := PySem.W.Frag → Bool
def obsM (fa : List FaB) (fn : List He5.DefA) (K : PySem.W.Frag) : He.AlD := ((fa.all fun f => f K) && fn.all fun d => d.ok K, fn.map fun d => He5.fnA K (d.at_ K))
def SaysM (fa : List FaB) (fn : List He5.DefA) (K : PySem.W.Frag) : Prop := obsM fa fn K = He5.valA fn
def obsMG (n : Nat) (fa : List FaB) (fn : List He5.DefA) (g : Addr → Option Obj) : He.AlD := obsM fa fn (He.frG g (He5.asA g n))
def hookM (n : Nat) (fa : List FaB) (fn : List He5.DefA) : PySem.W.Hook where
  α := He.AlD
  obs := fun s => obsMG n fa fn s.heap.get?
  val := fun _ => He5.valA fn
  says := fun _ h => ∃ K : PySem.W.Frag, K.In h ∧ SaysM fa fn K
  of := fun _ _ e => ⟨_, He.frG_in, e⟩
  keeps := fun _ _ _ ⟨K, hK, c⟩ k => ⟨K, PySem.W.Frag.In.keeps hK k, c⟩
theorem obsMG_eq {n : Nat} {fa : List FaB} {fn : List He5.DefA} {g : Addr → Option Obj} {s : Shared} (h : ∀ a, g a = s.heap.get? a) : obsMG n fa fn g = (hookM n fa fn).obs s := by
  have e : g = s.heap.get? := funext h
  rw [e] <;> rfl
section
variable {fa : List FaB} {fn : List He5.DefA} {K : PySem.W.Frag}
theorem SaysM.fact (c : SaysM fa fn K) (i : Nat) {f : FaB} (h : fa[i]? = some f := by rfl) : f K = true := by
  have c1 := (He.ba (show ((fa.all fun f => f K) && fn.all fun d => d.ok K) = true from congrArg (fun z : He.AlD => z.1) c)).1
  exact List.all_eq_true.mp c1 f (List.mem_of_getElem? h)
theorem SaysM.def_ (c : SaysM fa fn K) (i : Nat) {d : He5.DefA} (h : fn[i]? = some d := by rfl) : ∃ fd, L2.FunD K d.name d.qual d.params d.body d.scope (d.dvs K) (d.kws K) (d.at_ K) fd := by
  have c2 := (He.ba (show ((fa.all fun f => f K) && fn.all fun d => d.ok K) = true from congrArg (fun z : He.AlD => z.1) c)).2
  have e : fn.map (fun d => He5.fnA K (d.at_ K)) = fn.map He5.DefA.val := congrArg (fun z : He.AlD => z.2) c
  have e2 : (fn.map fun d => He5.fnA K (d.at_ K))[i]? = (fn.map He5.DefA.val)[i]? := by rw [e]
  rw [List.getElem?_map, List.getElem?_map, h] at e2
  exact He5.DefA.funD (Option.some.inj e2) (List.all_eq_true.mp c2 d (List.mem_of_getElem? h))
end
/-! ### a property -/
def prpA (C f : Str) (K : PySem.W.Frag) : Addr := match PySem.W.findIn K (.ref (He.ga K C)) f with
  | some (some (.ref p)) => p
  | _ => 0
def prpG (C f : Str) (K : PySem.W.Frag) : Addr := match PySem.W.recIn K (prpA C f K) "property" with
  | some (.ref g :: _) => g
  | _ => 0
def prpB (C f : Str) : FaB := fun K => He.eqO (PySem.W.findIn K (.ref (He.ga K C)) f) (some (some (.ref (prpA C f K)))) && (He.eqO (PySem.W.specialIn K (.ref (prpA C f K)) "__get__") (some (some (.builtin "property.__get__"))) &&
  (decide (PySem.W.takesIn K (.ref (prpA C f K)) = some true) && (match PySem.W.recIn K (prpA C f K) "property" with
    | some (.ref _ :: _) => true
    | _ => false)))
theorem prpB_ok {C f : Str} {K : PySem.W.Frag} (h : prpB C f K = true) : PropOf K (He.ga K C) f (prpA C f K) (prpG C f K) := by
  obtain ⟨h1, h⟩ := He.ba h
  obtain ⟨h2, h⟩ := He.ba h
  obtain ⟨h3, h4⟩ := He.ba h
  refine ⟨He.eqO_ok h1, He.eqO_ok h2, of_decide_eq_true h3, ?_⟩
  unfold prpG
  cases e : PySem.W.recIn K (prpA C f K) "property" with
  | none => rw [e] at h4; cases h4
  | some l =>
    rw [e] at h4
    cases l with
    | nil => cases h4
    | cons v r =>
      cases v with
      | ref g => exact ⟨r, rfl⟩
      | _ => cases h4
def gloF (x : Str) : PySem.W.Frag → Addr := fun K => He.ga K x
def mthF (C m : Str) : PySem.W.Frag → Addr := fun K => He.ma K (He.ga K C) m
/-! ### a def by a positional promise -/
section
variable {P : Program} {w : World} {K : PySem.W.Frag} {mg : Str → Option Value} {base : Heap} {x qual : Str} {params : Arguments} {body : List Stmt} {scope : Scope} {dvs : List V} {kws : List (Str × V)} {f : Addr} {fd : FuncData}
/-- a def without defaults -/
theorem FunD.R {N ps : List Str} {k : Nat} {sp : Sp} (F : FunD K x qual params body scope [] kws f fd) (S : FnScope N ps scope) (len : ∀ vs H Q E, sp vs H Q E → vs.length = ps.length)
    (hb : ∀ (kV doc pm : Value) (an : Option Addr) (cdv ct : Value) (us : List Value), us.length = ps.length → bindArgs (PySem.W.fnOf x qual params body scope .none kV doc pm an cdv ct) ⟨us, []⟩ = pure (ps.zip us))
    (hbody : ∀ (cdv : Value) (A : Around) (outer : List Env) (s : Shared) (H : Hp) (vs : List V) (Q : VK) (E : XK), Room k (A.deeper (envOfC qual scope s.heap.objs.size f cdv)) → sp vs H Q E →
      ∃ t, PSs (cxOf CX0 P w K mg base N qual scope f cdv A outer s H E).nox body t ∧ t { nx := fun _ H' => Q .non H', rt := Q } (start N vs) H) : FnR P w K mg base CX0 (k + 1) f sp := by
  have G : FnOk P w K mg base CX0 (k + 1) f fd ps sp := FunD.ok F S len fun cdv A outer s H vs Q E hr hsp => by
    obtain ⟨t, h, q⟩ := hbody cdv A outer s H vs Q E hr hsp
    exact ⟨t, h.nox, q⟩
  refine (FnOk.raw G (FunD.bindsN F hb) .nil).imp fun vs H Q E h => ?_
  rw [List.append_nil]
  exact h
end
section
variable {X : Cx} {CX : CXT} {k : Nat} {f C : Addr} {sp : Sp} {E : XK} {x m : Str} {e o : Expr} {es : List Expr} {ta : TE} {t : TA} {p pos apos : Pos}
/-- f(e, ..) by a positional promise -/
def tCallR (sp : Sp) (E : XK) (t : TA) : TE := fun σ H Q => t σ H fun vs H1 => sp vs H1 Q E
theorem pe_callR (F : FnR X.prog X.w X.K X.mg X.base CX k f sp) (hr : Room k X.A) (hg : Gl X x) (hm : X.mg x = some (.ref f)) (hk : PySem.W.keepIn X.K (.ref f) = true) (hx : Passes CX X E) (ha : PA X (e :: es) t)
    (hdb : (x == ("__debug__" : Str)) = false := by decide) (he : starEach (e :: es) X.env = (false, eval e X.env) :: starEach es X.env := by rfl) (hpl : (backTo pos (starEach es X.env)).any (·.1) = false := by rfl) :
    PE X (.Call (.Name x p) (e :: es) [] pos) (tCallR sp E t) := by
  refine ⟨fun pins s σ H Q I h => ?_⟩
  refine wpAny_Call_Name_kw (ld_glob I hg hm ?_ hdb)
  refine PySem.W.callWith_K (h₀ := X.base) I.ok.mod.kin hk (thn (ha.run pos pins s σ H _ I h) fun us s1 ⟨vs, H1, I1, r, q⟩ => ⟨I1.kIn, ?_⟩) he hpl
  exact wpAny_call (run_fnR F hr hx I1 r q)
theorem pe_callR0 (F : FnR X.prog X.w X.K X.mg X.base CX k f sp) (hr : Room k X.A) (hg : Gl X x) (hm : X.mg x = some (.ref f)) (hk : PySem.W.keepIn X.K (.ref f) = true) (hx : Passes CX X E)
    (hdb : (x == ("__debug__" : Str)) = false := by decide) : PE X (.Call (.Name x p) [] [] pos) (tCallR sp E tNil) := by
  refine ⟨fun pins s σ H Q I h => ?_⟩
  refine wpAny_Call_Name_kw (ld_glob I hg hm ?_ hdb)
  exact PySem.W.callWith_K0 I.kIn hk (wpAny_call (run_fnR (us := []) F hr hx I .nil h))
theorem pe_makeR0 (M : Mk X.K C f) (F : FnR X.prog X.w X.K X.mg X.base CX k f sp) (hr : Room (k + 1) X.A) (hg : Gl X x) (hm : X.mg x = some (.ref C)) (hx : Passes CX X E)
    (hdb : (x == ("__debug__" : Str)) = false := by decide) : PE X (.Call (.Name x p) [] [] pos) (StX.tMakeR C sp E tNil) := by
  refine ⟨fun pins s σ H Q I h => ?_⟩
  refine wpAny_Call_Name_kw (ld_glob I hg hm ?_ hdb)
  exact PySem.W.callWith_K0 I.kIn M.kp (StX.run_makeR (us := []) M F hr hx I .nil h)
theorem pe_methR0 {pl : Sem Bool} (he : PE X o ta) (c : Cls X.K C) (hm : Meth X.K C m f) (F : FnR X.prog X.w X.K X.mg X.base CX k f sp) (hr : Room k X.A) (hx : Passes CX X E)
    (ht : eval (.Call (.Attribute o m apos) [] [] pos) X.env = (do
      let ov ← eval o X.env
      standAt apos.atName
      let (f, first) ← holding [ov] (getMethod ov m pl)
      callWith pos f first (backTo pos (starEach [] X.env)) (backToKw pos (keywordEach [] X.env))) := by rfl) :
    PE X (.Call (.Attribute o m apos) [] [] pos) (tMethR C m sp E ta tNil) := by
  refine ⟨fun pins s σ H Q I h => ?_⟩
  refine PySem.W.methodCall_KW (pl := pl) (thn (he.run pins s σ H _ I h) fun u s1 ⟨x, H1, I1, rx, a, dx, fs, ex, ea, l, q⟩ => ?_) ht
  subst ex
  obtain rfl : u = Value.ref a := rx
  refine getmeth_ok I1 ea c hm l ?_
  exact PySem.W.callWith_K0 (first := [.ref a]) I1.kIn hm.kp (wpAny_call (run_fnR (us := [.ref a]) (vs := [.ref a]) F hr hx I1 (.cons rfl .nil) q))
/-- e.f, a property, by a positional promise -/
def tPropR (C : Addr) (sp : Sp) (E : XK) (ta : TE) : TE := fun σ H Q => ta σ H fun x H1 => ∃ a dx fs, x = .ref a ∧ H1 a = some (.ins C dx fs) ∧ sp [.ref a] H1 Q E
theorem pe_propR {pr g : Addr} {fl : Str} (he : PE X e ta) (c : Cls X.K C) (hp : PropOf X.K C fl pr g) (F : FnR X.prog X.w X.K X.mg X.base CX k g sp) (hr : Room (k + 1) X.A) (hx : Passes CX X.nox E)
    (hab : attributeBase e fl X.env (eval e X.env) = eval e X.env) : PE X (.Attribute e fl pos) (tPropR C sp E ta) := by
  refine ⟨fun pins s σ H Q I h => ?_⟩
  refine attr_of hab (thn (he.run pins s σ H _ I h) fun u s1 ⟨x, H1, I1, rx, a, dx, fs, ex, ea, q⟩ => ?_)
  subst ex
  obtain rfl : u = Value.ref a := rx
  obtain ⟨mA, O, _, _, _, _⟩ := ins_get I1.hok ea
  obtain ⟨od, J, _⟩ := O.look
  obtain ⟨rest, hrec⟩ := hp.rec_
  have I2 := I1.tok (s1.toks + 1)
  have hc : (PySem.W.clsIn X.K C).isSome = true := by
    obtain ⟨cd, hc, _⟩ := PySem.W.any_some c.hd
    rw [hc]
    rfl
  refine PySem.W.get_bind I1.kIn J (PySem.W.plainGet_of (c.get fl)).1 (PySem.W.findObj_data hc hp.at_ hp.get hp.tak) (PySem.W.plainGet_of (c.get fl)).2 (wpAny_call (PySem.W.prop_get (s := { s1 with toks := s1.toks + 1 }) I1.kIn hrec ?_))
  refine codeAny_mono (F X.A.in1 X.stack { s1 with toks := s1.toks + 1 } H1 [.ref a] [.ref a] Q E hr.in1 I2.env0.in1 (.cons rfl .nil) q) fun r s' hq => ?_
  cases r with
  | error er => exact False.elim (hx pins σ H1 { s1 with toks := s1.toks + 1 } er s' (I2.wish _) hq)
  | ok fl =>
    cases fl with
    | ret u =>
      obtain ⟨v, H', I3, rv, q3⟩ := I2.after hq
      show wpAny _ _ (handedOut u) _ _ _
      rw [PySem.W.handedOut_of (handed_of rv)]
      exact wpAny_pure ⟨v, H', I3, rv, q3⟩
    | next => exact False.elim hq
    | brk => exact False.elim hq
    | cont => exact False.elim hq
end
end My

set_option Elab.async false
set_option linter.all false
set_option maxRecDepth 100000
set_option maxHeartbeats 4000000
/-! own library, part 2 -/
namespace My
open PySem PySem.Spec PyProof.Rows L2
/-! ### list.extend of a tuple -/
theorem extend_tuple_any (l : Addr) (items : Array Value) (n : Nat) (b : Addr) (items2 : Array Value) (n2 : Nat) (dd : Option Addr) (sl : Array (Option Value)) (hs0 : ¬(!items.isEmpty && Builtin.List.listTooLong (items.size + items2.size)) = true) (hs1 : items.size ≤ sizeLine) (hs2 : items.size + items2.size ≤ sizeLine + 1) :
    Meets (Builtin.«list.extend» ⟨[.ref l, .ref b], []⟩) (fun _ R s => s.heap.get? l = some { cls := .type "list", dict := none, data := .seq items n, slots := #[] } ∧ s.heap.get? b = some { cls := .type "tuple", dict := dd, data := .seq items2 n2, slots := sl } ∧ R (.ok (.ret Value.none)) { s with heap := s.heap.update l (Obj.mapSeq fun x => x ++ items2), toks := s.toks }) :=
  .of_wp fun prog w A R s h => by
    obtain ⟨hp, g, d, tk, os⟩ := s; obtain ⟨hl, hb, h⟩ := h; have f1 := AutoSeq1.idx_int; have f2 := AutoSeq1.sub_tuple_tuple; have f3 := AutoSeq1.sub_list_list; have f4 := AutoSeq1.sub_tuple_list; have f5 := AutoSeq1.sub_list_tuple;
    have hz' : (items ++ items2).size ≤ sizeLine + 1 := by rw [Array.size_append]; exact hs2
    wp_walk using (wpAny_updateSeq hl rfl (hz := hs1) (_hz' := hz')), AutoSeq1.wpAny_loadPart' hl, AutoSeq1.wpAny_loadPart' hb; exact ⟨_, rfl, h⟩
section
variable {X : Cx}
def rExtendT (K : PySem.W.Frag) : V → List V → Hp → VK → Prop := fun x vs H Q => ∃ l b xs zs, x = .ref l ∧ vs = [.ref b] ∧ H l = some (.lst xs) ∧ SqT K H b zs ∧ xs.length + zs.length ≤ sizeLine ∧ Q .non (upd H l (.lst (xs ++ zs)))
theorem mt_extendT : MtM X "list.extend" (rExtendT X.K) := by
  intro pins s σ H x vs v us Q I rx rv h
  obtain ⟨l, b, xs, zs, rfl, rfl, hH, hB, hz, q⟩ := h
  cases rx
  obtain ⟨u, rfl, ru⟩ := rv.one
  cases ru
  obtain ⟨z, its, n, r, hl, e⟩ := I.lstM hH
  obtain ⟨its2, r2, ⟨o, e2, hc, n2, hd⟩, z2⟩ := I.tuple hB
  obtain ⟨oc, od, dt, osl⟩ := o
  have hc' : oc = .type "tuple" := hc
  have hd' : dt = .seq its2.toArray n2 := hd
  subst hc' hd'
  have hl2 := r2.length
  have hsz : its.toArray.size + its2.toArray.size ≤ sizeLine := by rw [List.size_toArray, List.size_toArray]; omega
  have hlong : ¬ (!its.toArray.isEmpty && Builtin.List.listTooLong (its.toArray.size + its2.toArray.size)) = true := by
    rw [notLongL hsz, Bool.and_false]
    exact Bool.false_ne_true
  refine call_meets F.slot_list_extend ⟨_, e, rfl⟩ F.entry_list_extend (F.args_list_extend_2 _ _)
    (extend_tuple_any l its.toArray n b its2.toArray n2 od osl hlong (by rw [List.size_toArray]; omega) (by omega)) ⟨e, e2, ?_⟩
  refine ⟨.non, _, I.lset (its' := its ++ its2) hH e (by simp) (r.append r2) ?_, rfl, q⟩
  rw [List.length_append]
  omega
/-! ### ** of wider ints -/
def CPowW (i j : Int) : Prop := 0 ≤ j ∧ j ≤ 64 ∧ i.natAbs < 2 ^ 4096
theorem op_powW : OpR X (binaryOp .Pow) (rI CPowW fun i j => .int (i ^ j.toNat)) := opI fun i j _ _ _ _ _ hc q => by
  obtain ⟨h0, h1, h2⟩ := hc
  refine pow_int h0 ?_ q
  have h3 : Builtin.Int.intBits i ≤ 4096 := by
    unfold Builtin.Int.intBits
    split
    · exact Nat.zero_le _
    · have := PySem.Flt.log2_lt_of (show 0 < 4096 by decide) h2
      omega
  have h4 : (Builtin.Int.intBits i : Int) * j ≤ 4096 * 64 := Int.mul_le_mul (by omega) h1 h0 (by decide)
  exact Int.le_trans h4 (by decide)
/-- a text constant, an int constant of the module -/
theorem pe_gs {x z : Str} {pos : Pos} (hg : Gl X x) (h : ∃ t, X.mg x = some (.str z t)) (hd : (x == ("__debug__" : Str)) = false := by decide) : PE X (.Name x pos) (tC (.str z)) := by
  obtain ⟨t, h⟩ := h
  exact pe_glob (v := .str z) hg h ⟨t, rfl⟩ hd
theorem pe_gi {x : Str} {i : Int} {pos : Pos} (hg : Gl X x) (h : ∃ t, X.mg x = some (.int i t)) (hd : (x == ("__debug__" : Str)) = false := by decide) : PE X (.Name x pos) (tC (.int i)) := by
  obtain ⟨t, h⟩ := h
  exact pe_glob (v := .int i) hg h ⟨t, rfl⟩ hd
end
/-! ### a def with one default, called without it; a def with a star -/
section
variable {P : Program} {w : World} {K : PySem.W.Frag} {mg : Str → Option Value} {base : Heap} {x qual : Str} {params : Arguments} {body : List Stmt} {scope : Scope} {dvs : List V} {kws : List (Str × V)} {f : Addr} {fd : FuncData}
/-- the promise says the whole list of parameters; the call has n of them -/
theorem FunD.Rd {N ps : List Str} {k : Nat} {sp : Sp} (n j : Nat) (F : FunD K x qual params body scope dvs kws f fd) (S : FnScope N ps scope) (len : ∀ vs H Q E, sp vs H Q E → vs.length = ps.length) (hd : dvs ≠ []) (hn : n + (dvs.length - j) = ps.length)
    (hb : ∀ (T : Addr) (kV doc pm : Value) (an : Option Addr) (cdv ct : Value) (us its : List Value), us.length = n → its.length = dvs.length →
      ∃ k, bindArgs (PySem.W.fnOf x qual params body scope (.ref T) kV doc pm an cdv ct) ⟨us, []⟩ = seqItems? (.ref T) >>= k ∧ k (some its.toArray) = pure (ps.zip (us ++ its.drop j)))
    (hbody : ∀ (cdv : Value) (A : Around) (outer : List Env) (s : Shared) (H : Hp) (vs : List V) (Q : VK) (E : XK), Room k (A.deeper (envOfC qual scope s.heap.objs.size f cdv)) → sp vs H Q E →
      ∃ t, PSs (cxOf CX0 P w K mg base N qual scope f cdv A outer s H E).nox body t ∧ t { nx := fun _ H' => Q .non H', rt := Q } (start N vs) H) :
    FnR P w K mg base CX0 (k + 1) f (fun vs H Q E => sp (vs ++ dvs.drop j) H Q E) := by
  have G : FnOk P w K mg base CX0 (k + 1) f fd ps sp := FunD.ok F S len fun cdv A outer s H vs Q E hr hsp => by
    obtain ⟨t, h, q⟩ := hbody cdv A outer s H vs Q E hr hsp
    exact ⟨t, h.nox, q⟩
  obtain ⟨ds, hv, hB⟩ := FunD.binds1 F n j hd hn hb
  exact FnOk.raw G hB hv
/-- def f(a, .., *v) -/
theorem FunD.Rs {N ps : List Str} {pv : Str} {k : Nat} {sp : Sp} (F : FunD K x qual params body scope [] kws f fd) (S : FnScope N (ps ++ [pv]) scope)
    (hb : ∀ (kV doc pm : Value) (an : Option Addr) (cdv ct : Value) (us rest : List Value), us.length = ps.length → bindArgs (PySem.W.fnOf x qual params body scope .none kV doc pm an cdv ct) ⟨us ++ rest, []⟩ = (newTuple rest >>= fun t => pure (ps.zip us ++ [(pv, t)])))
    (hbody : ∀ (cdv : Value) (A : Around) (outer : List Env) (s : Shared) (H : Hp) (vs : List V) (Q : VK) (E : XK), Room k (A.deeper (envOfC qual scope s.heap.objs.size f cdv)) → sp vs H Q E →
      ∃ t, PSs (cxOf CX0 P w K mg base N qual scope f cdv A outer s H E).nox body t ∧ t { nx := fun _ H' => Q .non H', rt := Q } (start N vs) H) :
    FnR P w K mg base CX0 (k + 1) f (fun vs H Q E => ∃ ws rest, vs = ws ++ rest ∧ ws.length = ps.length ∧ rest.length ≤ sizeLine ∧ ∀ p, H p = Option.none → sp (ws ++ [V.ref p]) (upd H p (.tup rest)) Q E) := by
  obtain ⟨oc, od, dV, kV, doc, pm, an, cdv, ct, osl, rfl, lk, hcd, hD, _⟩ := F.ex
  rcases hD with ⟨_, rfl⟩ | ⟨e, _⟩
  · refine StX.fn_star lk hcd S StX.cxUp_none (hb kV doc pm an cdv ct) fun A outer s H vs Q E hr hsp => ?_
    obtain ⟨t, h, q⟩ := hbody cdv A outer s H vs Q E hr hsp
    exact ⟨t, h.nox, q⟩
  · exact absurd rfl e
end
/-! ### heaps -/
theorem upd_other {H : Hp} {a b : Addr} {o : HO} (h : b ≠ a) : upd H a o b = H b := upd_ne h
theorem Same.upd_new {H H' : Hp} {p : Addr} {o : HO} (s : Same H H') (h : H' p = Option.none) : Same H (upd H' p o) := fun b u e => by
  rw [upd_ne (ne_of_none (s _ _ e) h)]
  exact s _ _ e
theorem Same.new {H : Hp} {p : Addr} {o : HO} (h : H p = Option.none) : Same H (upd H p o) := Same.upd_new (Same.refl H) h
/-- all but what stands at b is kept -/
def Kp (b : Addr) (H H' : Hp) : Prop := ∀ a o, a ≠ b → H a = some o → H' a = some o
theorem Kp.refl {b : Addr} (H : Hp) : Kp b H H := fun _ _ _ h => h
theorem Kp.trans {b : Addr} {H H1 H2 : Hp} (x : Kp b H H1) (y : Kp b H1 H2) : Kp b H H2 := fun a o n h => y a o n (x a o n h)
theorem Kp.of {b : Addr} {H H' : Hp} (s : Same H H') : Kp b H H' := fun a o _ h => s a o h
theorem Kp.put {b : Addr} {H : Hp} {o : HO} : Kp b H (upd H b o) := fun a u n h => by rw [upd_ne n]; exact h
theorem cxK {CX : CXT} {P : Program} {w : World} {K : PySem.W.Frag} {mg : Str → Option Value} {base : Heap} {N : List Str} {qual : Str} {scope : Scope} {f : Addr} {cd : Value} {A : Around} {outer : List Env} {s : Shared} {H : Hp} {E : XK} : (cxOf CX P w K mg base N qual scope f cd A outer s H E).K = K := rfl
/-! ### tests that are known -/
theorem ite_dec {c : Prop} [Decidable c] {A B : Prop} (h1 : c → A) (h2 : ¬ c → B) : if decide c = true then A else B := by
  by_cases h : c
  · rw [if_pos (decide_eq_true h)]; exact h1 h
  · rw [if_neg (by rw [decide_eq_false h]; exact Bool.false_ne_true)]; exact h2 h
theorem ite_b {b : Bool} {A B : Prop} (h1 : b = true → A) (h2 : b = false → B) : if b = true then A else B := by
  cases b with
  | true => exact iteT (h1 rfl)
  | false => exact iteF (h2 rfl)
end My

set_option Elab.async false
set_option linter.all false
set_option maxRecDepth 100000
set_option maxHeartbeats 4000000
/-! own library, part 3: rules whose readings are functional in the tracked heap -/
namespace My
open PySem PySem.Spec PyProof.Rows L2
section
variable {X : Cx}
theorem OpR.imp {f : Value → Value → Sem Value} {r r' : R2} (h : OpR X f r) (i : ∀ x y H Q, r' x y H Q → r x y H Q) : OpR X f r' := fun pins s σ H x y v u Q I a b c => h pins s σ H x y v u Q I a b (i _ _ _ _ c)
theorem CallR.imp {f : Value} {r r' : List V → Hp → VK → Prop} (h : CallR X f r) (i : ∀ x H Q, r' x H Q → r x H Q) : CallR X f r' := fun pins s σ H xs us Q I a c => h pins s σ H xs us Q I a (i _ _ _ c)
theorem MtR.imp {id : String} {r r' : V → List V → Hp → VK → Prop} (h : MtR X id r) (i : ∀ x y H Q, r' x y H Q → r x y H Q) : MtR X id r' := fun pins s σ H x xs v us Q I a b c => h pins s σ H x xs v us Q I a b (i _ _ _ _ c)
theorem IxR.imp {r r' : R2} (h : IxR X r) (i : ∀ x y H Q, r' x y H Q → r x y H Q) : IxR X r' := fun a b pins s σ H x y v u Q I p q c => h a b pins s σ H x y v u Q I p q (i _ _ _ _ c)
theorem SlR.imp {r r' : V → Option Int → Option Int → Hp → VK → Prop} (h : SlR X r) (i : ∀ x y z H Q, r' x y z H Q → r x y z H Q) : SlR X r' := fun pins s σ H x v vl vu lo hi sl Q I a b c d e => h pins s σ H x v vl vu lo hi sl Q I a b c d (i _ _ _ _ _ e)
theorem PE.imp {e : Expr} {t t' : TE} (h : PE X e t) (i : ∀ σ H Q, t' σ H Q → t σ H Q) : PE X e t' := ⟨fun pins s σ H Q I q => h.run pins s σ H Q I (i _ _ _ q)⟩
theorem PT.imp {e : Expr} {t t' : TT} (h : PT X e t) (i : ∀ σ H Q, t' σ H Q → t σ H Q) : PT X e t' := ⟨fun pins s σ H Q I q => h.run pins s σ H Q I (i _ _ _ q)⟩
theorem PS.imp {st : Stmt} {t t' : TS} (h : PS X st t) (i : ∀ D σ H, t' D σ H → t D σ H) : PS X st t' := ⟨fun pins s σ H D I q => h.run pins s σ H D I (i _ _ _ q)⟩
/-! ### lists and tuples that are tracked -/
def mIxL : R2 := fun x y H Q => ∃ p xs i v, x = .ref p ∧ y = .int i ∧ H p = some (.lst xs) ∧ atI xs i = some v ∧ Q v H
def mIxT : R2 := fun x y H Q => ∃ p xs i v, x = .ref p ∧ y = .int i ∧ H p = some (.tup xs) ∧ atI xs i = some v ∧ Q v H
theorem ixL : IxR X mIxL := IxR.imp ix_list fun x y H Q ⟨p, xs, i, v, a, b, c, d, e⟩ => ⟨p, xs, i, v, a, b, SqL.of c, d, e⟩
theorem ixT : IxR X mIxT := IxR.imp ix_tup fun x y H Q ⟨p, xs, i, v, a, b, c, d, e⟩ => ⟨p, xs, i, v, a, b, SqT.of c, d, e⟩
def mLenL : List V → Hp → VK → Prop := fun xs H Q => ∃ p ys, xs = [.ref p] ∧ H p = some (.lst ys) ∧ Q (.int (ys.length : Int)) H
def mLenT : List V → Hp → VK → Prop := fun xs H Q => ∃ p ys, xs = [.ref p] ∧ H p = some (.tup ys) ∧ Q (.int (ys.length : Int)) H
def mLenS : List V → Hp → VK → Prop := fun xs H Q => ∃ z : Str, xs = [.str z] ∧ z.length ≤ sizeLine ∧ Q (.int (z.length : Int)) H
def mLenD : List V → Hp → VK → Prop := fun xs H Q => ∃ p ys, xs = [.ref p] ∧ H p = some (.dK ys) ∧ Q (.int (ys.length : Int)) H
def mLenK (K : PySem.W.Frag) : List V → Hp → VK → Prop := fun xs H Q => ∃ p ys, xs = [.ref p] ∧ SqL K H p ys ∧ Q (.int (ys.length : Int)) H
theorem lenL : CallR X (.builtin "len") mLenL := CallR.imp call_len_seq fun x H Q ⟨p, ys, a, b, c⟩ => ⟨p, ys, a, .inl (SqL.of b), c⟩
theorem lenT : CallR X (.builtin "len") mLenT := CallR.imp call_len_seq fun x H Q ⟨p, ys, a, b, c⟩ => ⟨p, ys, a, .inr (SqT.of b), c⟩
theorem lenK : CallR X (.builtin "len") (mLenK X.K) := CallR.imp call_len_seq fun x H Q ⟨p, ys, a, b, c⟩ => ⟨p, ys, a, .inl b, c⟩
theorem lenS : CallR X (.builtin "len") mLenS := call_len_str
theorem lenD : CallR X (.builtin "len") mLenD := CallR.imp call_lenD fun x H Q ⟨p, ys, a, b, c⟩ => ⟨p, ys, a, b, c⟩
def mList : List V → Hp → VK → Prop := fun xs H Q => ∃ p ys, xs = [.ref p] ∧ H p = some (.lst ys) ∧ ∀ l, H l = none → Q (.ref l) (upd H l (.lst ys))
theorem listL : CallR X (.type "list") mList := CallR.imp call_list_of fun x H Q ⟨p, ys, a, b, c⟩ => ⟨p, ys, a, .inl (SqL.of b), c⟩
def mTupL : List V → Hp → VK → Prop := fun xs H Q => ∃ p ys, xs = [.ref p] ∧ H p = some (.lst ys) ∧ ∀ l, H l = none → Q (.ref l) (upd H l (.tup ys))
theorem tupL : CallR X (.type "tuple") mTupL := CallR.imp call_tuple_of fun x H Q ⟨p, ys, a, b, c⟩ => ⟨p, ys, a, .inl ⟨SqL.of b, c⟩⟩
def mSlL : V → Option Int → Option Int → Hp → VK → Prop := fun x lo hi H Q => ∃ a xs, x = .ref a ∧ H a = some (.lst xs) ∧ ∀ p, H p = none → Q (.ref p) (upd H p (.lst (cutV xs lo hi)))
theorem slL : SlR X mSlL := SlR.imp sl_list fun x lo hi H Q ⟨a, xs, e, h, q⟩ => ⟨a, xs, e, SqL.of h, q⟩
/-- ints -/
def mInt : List V → Hp → VK → Prop := fun xs H Q => ∃ i, xs = [.int i] ∧ Q (.int i) H
theorem int1 : CallR X (.type "int") mInt := CallR.imp call_int1 fun x H Q ⟨i, a, b⟩ => .inl ⟨i, a, b⟩
def mAbs : List V → Hp → VK → Prop := fun xs H Q => ∃ i, xs = [.int i] ∧ Q (.int (if i < 0 then -i else i)) H
theorem abs1 : CallR X (.builtin "abs") mAbs := call_abs
def mMax : List V → Hp → VK → Prop := fun xs H Q => ∃ i j, xs = [.int i, .int j] ∧ Q (.int (if j > i then j else i)) H
def mMin : List V → Hp → VK → Prop := fun xs H Q => ∃ i j, xs = [.int i, .int j] ∧ Q (.int (if j < i then j else i)) H
theorem max2 (hc : X.calm = true) : CallR X (.builtin "max") mMax := call_max2 hc
theorem min2 (hc : X.calm = true) : CallR X (.builtin "min") mMin := call_min2 hc
def mStr : List V → Hp → VK → Prop := fun xs H Q => ∃ i : Int, xs = [.int i] ∧ i.natAbs.log2 < 1920 ∧ Q (.str (toString i)) H
theorem str1 : CallR X (.type "str") mStr := call_str_int
def mAddS : R2 := fun x y H Q => ∃ i j : Str, x = .str i ∧ y = .str j ∧ i.length + j.length ≤ sizeLine ∧ Q (.str (i ++ j)) H
theorem addS : OpR X (binaryOp .Add) mAddS := op_add_str
def mIsN : R2 := fun x y H Q => y = .non ∧ Q (.bl (decide (x = .non))) H
def mNotN : R2 := fun x y H Q => y = .non ∧ Q (.bl (!decide (x = .non))) H
theorem isN : OpR X (compareOp .Is) mIsN := op_isN
theorem notN : OpR X (compareOp .IsNot) mNotN := op_notN
end
/-! ### kinds of what is tracked, for conditional rewriting -/
def isLst : Option HO → Bool
  | some (.lst _) => true
  | _ => false
def isDk : Option HO → Bool
  | some (.dK _) => true
  | _ => false
def dkOf : Option HO → List (Key × V)
  | some (.dK kvs) => kvs
  | _ => []
theorem isLst_lst {xs : List V} : isLst (some (.lst xs)) = true := rfl
theorem isDk_dk {xs : List (Key × V)} : isDk (some (.dK xs)) = true := rfl
theorem dkOf_dk {xs : List (Key × V)} : dkOf (some (.dK xs)) = xs := rfl
theorem isLst_ex {o : Option HO} (h : isLst o = true) : ∃ xs, o = some (.lst xs) := by
  cases o with
  | none => cases h
  | some u => cases u with
    | lst xs => exact ⟨xs, rfl⟩
    | _ => cases h
theorem isDk_ex {o : Option HO} (h : isDk o = true) : ∃ xs, o = some (.dK xs) := by
  cases o with
  | none => cases h
  | some u => cases u with
    | dK xs => exact ⟨xs, rfl⟩
    | _ => cases h
theorem tyV_list {K : PySem.W.Frag} {H : Hp} {p : Addr} (h : isLst (H p) = true) : tyV K "list" (.ref p) H = True := by
  obtain ⟨xs, e⟩ := isLst_ex h
  exact eq_true (Or.inl ⟨rfl, xs, SqL.of e⟩)
theorem IsD_dk {H : Hp} {p : Addr} (h : isDk (H p) = true) : IsD H p = True := by
  obtain ⟨xs, e⟩ := isDk_ex h
  exact eq_true (Or.inl ⟨xs, .inl e⟩)
theorem DGet_dk {H : Hp} {p : Addr} {k : Str} {r : Option V} (h : isDk (H p) = true) : DGet H p (.str k) r = (r = valV (dkOf (H p)) (Sum.inr k : Key)) := by
  obtain ⟨xs, e⟩ := isDk_ex h
  rw [e]
  apply propext
  constructor
  · rintro (⟨kvs, k', hr, hk, er⟩ | ⟨_, _, _, _, hk, _⟩)
    · have ek : k' = Sum.inr k := by
        cases k' with
        | inl i => cases hk
        | inr z =>
          have : V.str k = V.str z := hk
          injection this with q
          rw [q]
      have eq : kvs = xs := by
        rcases hr with hr | ⟨o, hr⟩
        · rw [e] at hr
          injection hr with hr
          injection hr with hr
          exact hr.symm
        · rw [e] at hr
          injection hr with hr
          cases hr
      rw [er, ek, eq]
      rfl
    · cases hk
  · intro er
    rw [er]
    exact DGet.k (k := Sum.inr k) e
theorem DPut_dk {H H' : Hp} {p : Addr} {k : Str} {v : V} (h : isDk (H p) = true) : DPut H p (.str k) v H' = ((dkOf (H p)).length < sizeLine ∧ H' = upd H p (.dK (putK (dkOf (H p)) (Sum.inr k : Key) v))) := by
  obtain ⟨xs, e⟩ := isDk_ex h
  rw [e]
  apply propext
  constructor
  · rintro (⟨kvs, k', hr, hk, hl, er⟩ | ⟨_, _, _, _, hk, _⟩)
    · have ek : k' = Sum.inr k := by
        cases k' with
        | inl i => cases hk
        | inr z =>
          have : V.str k = V.str z := hk
          injection this with q
          rw [q]
      rw [e] at hr
      injection hr with hr
      injection hr with hr
      subst hr ek
      exact ⟨hl, er⟩
    · cases hk
  · rintro ⟨hl, er⟩
    rw [er]
    exact DPut.k (k := Sum.inr k) e hl
/-! ### items by written places -/
section
variable {α : Type} {a b c d : α} {l : List α}
theorem atI_0 : atI (a :: l) 0 = some a := by
  unfold atI ixN
  simp
theorem atI_1 : atI (a :: b :: l) 1 = some b := by
  unfold atI ixN
  rw [if_pos (by decide), if_pos (by simp only [List.length_cons]; omega)]
  rfl
theorem atI_2 : atI (a :: b :: c :: l) 2 = some c := by
  unfold atI ixN
  rw [if_pos (by decide), if_pos (by simp only [List.length_cons]; omega)]
  rfl
theorem atI_3 : atI (a :: b :: c :: d :: l) 3 = some d := by
  unfold atI ixN
  rw [if_pos (by decide), if_pos (by simp only [List.length_cons]; omega)]
  rfl
theorem ixN_30 : ixN 3 0 = some 0 := rfl
theorem ixN_31 : ixN 3 1 = some 1 := rfl
theorem ixN_32 : ixN 3 2 = some 2 := rfl
end
end My

set_option Elab.async false
set_option linter.all false
set_option maxRecDepth 100000
set_option maxHeartbeats 4000000
/-! own library, part 4: kinds, nested data, walks -/
namespace My
open PySem PySem.Spec PyProof.Rows L2
/-! ### isinstance, by the tracked heap -/
def kdO : Option HO → String
  | some (.lst _) => "list"
  | some (.tup _) => "tuple"
  | some (.dK _) => "dict"
  | _ => "?"
def kdV (H : Hp) : V → String
  | .non => "NoneType"
  | .bl _ => "bool"
  | .int _ => "int"
  | .str _ => "str"
  | .ref a => kdO (H a)
  | _ => "?"
theorem kdO_q {o : Option HO} (h : kdO o ≠ "?") : (∃ xs, o = some (.lst xs) ∧ kdO o = "list") ∨ (∃ xs, o = some (.tup xs) ∧ kdO o = "tuple") ∨ ∃ xs, o = some (.dK xs) ∧ kdO o = "dict" := by
  cases o with
  | none => exact absurd rfl h
  | some u => cases u with
    | lst xs => exact .inl ⟨xs, rfl, rfl⟩
    | tup xs => exact .inr (.inl ⟨xs, rfl, rfl⟩)
    | dK xs => exact .inr (.inr ⟨xs, rfl, rfl⟩)
    | _ => exact absurd rfl h
theorem kdV_ty {K : PySem.W.Frag} {H : Hp} {x : V} (h : kdV H x ≠ "?") : TyX K H x (.type (kdV H x)) := by
  cases x with
  | non => exact .base .non
  | bl b => exact .base (.bl b)
  | int i => exact .base (.int i)
  | str z => exact .base (.str z)
  | byt b => exact absurd rfl h
  | flt b => exact absurd rfl h
  | ty n => exact absurd rfl h
  | ref a =>
    rcases kdO_q (o := H a) h with ⟨xs, e, e2⟩ | ⟨xs, e, e2⟩ | ⟨xs, e, e2⟩
    · show TyX K H (.ref a) (.type (kdO (H a)))
      rw [e2]; exact .base (.lst e)
    · show TyX K H (.ref a) (.type (kdO (H a)))
      rw [e2]; exact .base (.tup e)
    · show TyX K H (.ref a) (.type (kdO (H a)))
      rw [e2]; exact .base (.dK e)
def mIsi : List V → Hp → VK → Prop := fun xs H Q => ∃ (x : V) (n : String), xs = [x, .ty n] ∧ kdV H x ≠ "?" ∧ ∃ b, kitB (kdV H x) n = some b ∧ Q (.bl b) H
def mIsi2 : List V → Hp → VK → Prop := fun xs H Q => ∃ (x : V) (tp : Addr) (m n : String), xs = [x, .ref tp] ∧ H tp = some (.tup [.ty m, .ty n]) ∧ kdV H x ≠ "?" ∧ ∃ b c, kitB (kdV H x) m = some b ∧ kitB (kdV H x) n = some c ∧ Q (.bl (b || c)) H
section
variable {X : Cx}
theorem isi1 : CallR X (.builtin "isinstance") mIsi := CallR.imp call_isi fun xs H Q ⟨x, n, e, h, b, hb, q⟩ => ⟨x, .ty n, _, _, b, e, .ty n, kdV_ty h, kit_ty hb, q⟩
theorem isi2 : CallR X (.builtin "isinstance") mIsi2 := CallR.imp call_isiT fun xs H Q ⟨x, tp, m, n, e, ht, h, b, c, hb, hc, q⟩ => by
  refine ⟨x, tp, _, _, [.type m, .type n], b || c, e, ht, .cons (.ty m) (.cons (.ty n) .nil), kdV_ty h, ?_, q⟩
  refine kitAny_cons (kit_ty hb) (fun e => ?_) (fun e => by rw [e]; rfl)
  refine kitAny_cons (kit_ty hc) (fun e2 => ?_) (fun e2 => by rw [e2, Bool.or_true])
  rw [e, e2]
  exact kitAny_nil
end
theorem kdV_non {H : Hp} : kdV H .non = "NoneType" := rfl
theorem kdV_bl {H : Hp} {b : Bool} : kdV H (.bl b) = "bool" := rfl
theorem kdV_int {H : Hp} {i : Int} : kdV H (.int i) = "int" := rfl
theorem kdV_str {H : Hp} {z : Str} : kdV H (.str z) = "str" := rfl
theorem kdV_ref {H : Hp} {a : Addr} : kdV H (.ref a) = kdO (H a) := rfl
theorem kdO_lst {xs : List V} : kdO (some (.lst xs)) = "list" := rfl
theorem kdO_tup {xs : List V} : kdO (some (.tup xs)) = "tuple" := rfl
theorem kdO_dK {xs : List (Key × V)} : kdO (some (.dK xs)) = "dict" := rfl
theorem kit_NoneType_bool : kitB "NoneType" "bool" = some false := by decide +kernel
theorem kit_NoneType_int : kitB "NoneType" "int" = some false := by decide +kernel
theorem kit_NoneType_str : kitB "NoneType" "str" = some false := by decide +kernel
theorem kit_NoneType_list : kitB "NoneType" "list" = some false := by decide +kernel
theorem kit_NoneType_tuple : kitB "NoneType" "tuple" = some false := by decide +kernel
theorem kit_NoneType_dict : kitB "NoneType" "dict" = some false := by decide +kernel
theorem kit_bool_bool : kitB "bool" "bool" = some true := by decide +kernel
theorem kit_bool_int : kitB "bool" "int" = some true := by decide +kernel
theorem kit_bool_str : kitB "bool" "str" = some false := by decide +kernel
theorem kit_bool_list : kitB "bool" "list" = some false := by decide +kernel
theorem kit_bool_tuple : kitB "bool" "tuple" = some false := by decide +kernel
theorem kit_bool_dict : kitB "bool" "dict" = some false := by decide +kernel
theorem kit_int_bool : kitB "int" "bool" = some false := by decide +kernel
theorem kit_int_int : kitB "int" "int" = some true := by decide +kernel
theorem kit_int_str : kitB "int" "str" = some false := by decide +kernel
theorem kit_int_list : kitB "int" "list" = some false := by decide +kernel
theorem kit_int_tuple : kitB "int" "tuple" = some false := by decide +kernel
theorem kit_int_dict : kitB "int" "dict" = some false := by decide +kernel
theorem kit_str_bool : kitB "str" "bool" = some false := by decide +kernel
theorem kit_str_int : kitB "str" "int" = some false := by decide +kernel
theorem kit_str_str : kitB "str" "str" = some true := by decide +kernel
theorem kit_str_list : kitB "str" "list" = some false := by decide +kernel
theorem kit_str_tuple : kitB "str" "tuple" = some false := by decide +kernel
theorem kit_str_dict : kitB "str" "dict" = some false := by decide +kernel
theorem kit_list_bool : kitB "list" "bool" = some false := by decide +kernel
theorem kit_list_int : kitB "list" "int" = some false := by decide +kernel
theorem kit_list_str : kitB "list" "str" = some false := by decide +kernel
theorem kit_list_list : kitB "list" "list" = some true := by decide +kernel
theorem kit_list_tuple : kitB "list" "tuple" = some false := by decide +kernel
theorem kit_list_dict : kitB "list" "dict" = some false := by decide +kernel
theorem kit_tuple_bool : kitB "tuple" "bool" = some false := by decide +kernel
theorem kit_tuple_int : kitB "tuple" "int" = some false := by decide +kernel
theorem kit_tuple_str : kitB "tuple" "str" = some false := by decide +kernel
theorem kit_tuple_list : kitB "tuple" "list" = some false := by decide +kernel
theorem kit_tuple_tuple : kitB "tuple" "tuple" = some true := by decide +kernel
theorem kit_tuple_dict : kitB "tuple" "dict" = some false := by decide +kernel
theorem kit_dict_bool : kitB "dict" "bool" = some false := by decide +kernel
theorem kit_dict_int : kitB "dict" "int" = some false := by decide +kernel
theorem kit_dict_str : kitB "dict" "str" = some false := by decide +kernel
theorem kit_dict_list : kitB "dict" "list" = some false := by decide +kernel
theorem kit_dict_tuple : kitB "dict" "tuple" = some false := by decide +kernel
theorem kit_dict_dict : kitB "dict" "dict" = some true := by decide +kernel
/-! ### all of a tracked list of truth values -/
def mAll : List V → Hp → VK → Prop := fun vs H Q => ∃ (a : Addr) (xs : List V) (bs : List Bool), vs = [.ref a] ∧ H a = some (.lst xs) ∧ xs = bs.map V.bl ∧ Q (.bl (bs.all id)) H
def mAny : List V → Hp → VK → Prop := fun vs H Q => ∃ (a : Addr) (xs : List V) (bs : List Bool), vs = [.ref a] ∧ H a = some (.lst xs) ∧ xs = bs.map V.bl ∧ Q (.bl (bs.any id)) H
theorem all1 {X : Cx} (hc : X.calm = true) : CallR X (.builtin "all") mAll := CallR.imp (cr_all hc) fun vs H Q ⟨a, xs, bs, e, h, ex, q⟩ => ⟨a, bs, e, by rw [← ex]; exact SqL.of h, q⟩
theorem any1 {X : Cx} (hc : X.calm = true) : CallR X (.builtin "any") mAny := CallR.imp (cr_any hc) fun vs H Q ⟨a, xs, bs, e, h, ex, q⟩ => ⟨a, bs, e, by rw [← ex]; exact SqL.of h, q⟩
/-! ### data at any depth, tracked -/
mutual
inductive Da (H : Hp) : V → PyData → Prop
  | non : Da H .non .none
  | bl (b : Bool) : Da H (.bl b) (.bool b)
  | int (i : Int) : Da H (.int i) (.int i)
  | str (x : Str) : Da H (.str x) (.str x)
  | lst {a : Addr} {xs : List V} {ds : List PyData} : H a = some (.lst xs) → DaAll H xs ds → Da H (.ref a) (.list ds)
  | tup {a : Addr} {xs : List V} {ds : List PyData} : H a = some (.tup xs) → DaAll H xs ds → Da H (.ref a) (.tuple ds)
inductive DaAll (H : Hp) : List V → List PyData → Prop
  | nil : DaAll H [] []
  | cons {v : V} {vs : List V} {d : PyData} {ds : List PyData} : Da H v d → DaAll H vs ds → DaAll H (v :: vs) (d :: ds)
end
mutual
theorem Da.same {H H' : Hp} (s : Same H H') : ∀ (d : PyData) (v : V), Da H v d → Da H' v d
  | .none, _, h => by cases h; exact .non
  | .bool b, _, h => by cases h; exact .bl b
  | .int i, _, h => by cases h; exact .int i
  | .str x, _, h => by cases h; exact .str x
  | .list ds, _, h => by
    cases h with
    | lst e k => exact .lst (s _ _ e) (DaAll.same s ds _ k)
  | .tuple ds, _, h => by
    cases h with
    | tup e k => exact .tup (s _ _ e) (DaAll.same s ds _ k)
  | .dict _, _, h => by cases h
theorem DaAll.same {H H' : Hp} (s : Same H H') : ∀ (ds : List PyData) (vs : List V), DaAll H vs ds → DaAll H' vs ds
  | [], _, h => by cases h; exact .nil
  | d :: ds, _, h => by
    cases h with
    | cons a b => exact .cons (Da.same s d _ a) (DaAll.same s ds _ b)
end
mutual
theorem Da.dp {K : PySem.W.Frag} {H : Hp} : ∀ (d : PyData) (v : V), Da H v d → Dp K H v d
  | .none, _, h => by cases h; exact .non
  | .bool b, _, h => by cases h; exact .bl b
  | .int i, _, h => by cases h; exact .int i
  | .str x, _, h => by cases h; exact .str x
  | .list ds, _, h => by
    cases h with
    | lst e k => exact .lst (SqL.of e) (DaAll.dp ds _ k)
  | .tuple ds, _, h => by
    cases h with
    | tup e k => exact .tup (SqT.of e) (DaAll.dp ds _ k)
  | .dict _, _, h => by cases h
theorem DaAll.dp {K : PySem.W.Frag} {H : Hp} : ∀ (ds : List PyData) (vs : List V), DaAll H vs ds → DpAll K H vs ds
  | [], _, h => by cases h; exact .nil
  | d :: ds, _, h => by
    cases h with
    | cons a b => exact .cons (Da.dp d _ a) (DaAll.dp ds _ b)
end
theorem DaAll.length {H : Hp} : ∀ {vs : List V} {ds : List PyData}, DaAll H vs ds → vs.length = ds.length
  | _, _, .nil => rfl
  | _, _, .cons _ k => by rw [List.length_cons, List.length_cons, DaAll.length k]
theorem DaAll.get {H : Hp} : ∀ {vs : List V} {ds : List PyData} {i : Nat} {v : V}, DaAll H vs ds → vs[i]? = some v → ∃ d, ds[i]? = some d ∧ Da H v d
  | _, _, i, _, .nil, h => by cases i <;> cases h
  | _, _, 0, _, .cons a _, h => by injection h with h; subst h; exact ⟨_, rfl, a⟩
  | _, _, i + 1, v, .cons _ k, h => DaAll.get (i := i) k h
theorem DaAll.strs {H : Hp} : ∀ (q : List Str), DaAll H (q.map V.str) (q.map PyData.str)
  | [] => .nil
  | x :: q => .cons (.str x) (DaAll.strs q)
theorem DaAll.ints {H : Hp} : ∀ (q : List Int), DaAll H (q.map V.int) (q.map PyData.int)
  | [] => .nil
  | x :: q => .cons (.int x) (DaAll.ints q)
theorem walk_zipT {K : PySem.W.Frag} {a b : Addr} {xs ys : List V} {n : Nat} (hn : n = min xs.length ys.length) : Walk (RZ.ItzT K a b) n (fun H => SqT K H a xs ∧ SqT K H b ys) (YPair (fun i => xs[i]?) (fun i => ys[i]?)) := by
  subst hn
  refine ⟨fun i _ hi q => ?_, fun _ q => ⟨xs, ys, q.1, q.2, by omega⟩, fun i H v H' _ q y => ?_⟩
  · have z1 : i < xs.length := by omega
    have z2 : i < ys.length := by omega
    exact ⟨xs, ys, xs[i], ys[i], q.1, q.2, by simp [z1], by simp [z2]⟩
  · obtain ⟨T, x, z, y1, y2, y3, y4, y5⟩ := y
    exact ⟨T, x, z, y1, y2, y3, y4 xs q.1, y5 ys q.2⟩
/-! ### a, b = a tracked tuple -/
def gTupH (n : Nat) (t : TGs) : TG := fun v σ H Q => ∃ a xs, v = .ref a ∧ H a = some (.tup xs) ∧ xs.length = n ∧ t xs σ H Q
theorem PG.imp {X : Cx} {tg : Expr} {g g' : TG} (h : PG X tg g) (i : ∀ v σ H Q, g' v σ H Q → g v σ H Q) : PG X tg g' := ⟨fun pins s σ H v u Q I r q => h.run pins s σ H v u Q I r (i _ _ _ _ q)⟩
theorem pg_tupH {X : Cx} {es : List Expr} {k n : Nat} {pos : Pos} {t : TGs} (hc : X.calm = true) (h : PGs X es t) (hn : (assignEach es X.env).length = n := by rfl) (hst : (assignEach es X.env).findIdx? (·.1) = none := by rfl) : PG X (.Tuple es k pos) (gTupH n t) := PG.imp (pg_tup hc h hn hst) fun v σ H Q ⟨a, xs, e, he, hl, q⟩ => ⟨a, xs, e, SqT.of he, hl, q⟩
/-! ### loops as one word -/
def Loop (J : It) (g : TG) (tb : TS) (D : Ends) (σ : L2.St) (H : Hp) : Prop := ∃ W : Nat → Nat → L2.St → Hp → Prop, (∃ m, W 0 m σ H) ∧ ∀ i m σ H, W i m σ H → (J.stop i H ∧ D.nx σ H) ∨
  (J.go i H ∧ ∃ N : L2.St → Hp → Prop, (∀ σ' H', N σ' H' → ∃ m', m' < m ∧ W (i + 1) m' σ' H') ∧ ∀ x H', J.yld i H x H' → g x σ H' fun σ2 H2 => tb { D with nx := N, ct := N, bk := D.nx } σ2 H2)
theorem tFor_eq {wi : TI} {g : TG} {tb : TS} {D : Ends} {σ : L2.St} {H : Hp} : tFor wi g tb D σ H = wi σ H fun J H1 => Loop J g tb D σ H1 := rfl
theorem loop_it {J : It} {n : Nat} {G : Hp → Prop} {Y : Nat → Hp → V → Hp → Prop} (w : Walk J n G Y) {g : TG} {tb : TS} {D : Ends} {σ : L2.St} {H : Hp} (Pv : Nat → L2.St → Hp → Prop) (h0 : Pv 0 σ H) (hG : ∀ i σ H, i ≤ n → Pv i σ H → G H)
    (hs : ∀ i x σ H H', i < n → Pv i σ H → Y i H x H' → g x σ H' fun σ2 H2 => tb { D with nx := Pv (i + 1), ct := Pv (i + 1), bk := D.nx } σ2 H2) (hd : ∀ σ H, Pv n σ H → D.nx σ H) : Loop J g tb D σ H := for_it w Pv h0 hG hs hd
def LoopC (J : It) (g : TG) (tt : TT) (te : TE) (vs : List Nat) (σ : L2.St) (H1 : Hp) (D : Addr) (Qd : Hp → Prop) : Prop := ∃ W : Nat → Nat → Hp → Prop, (∃ m, W 0 m (upd H1 D (.lst []))) ∧ ∀ i m H, W i m H → (J.stop i H ∧ Qd H) ∨
  (J.go i H ∧ ∃ Nx : Hp → Prop, (∀ H', Nx H' → ∃ m', m' < m ∧ W (i + 1) m' H') ∧ ∀ x H', J.yld i H x H' → g x (wipe σ vs) H' fun σ2 H2 => wipe σ2 vs = wipe σ vs ∧ tt σ2 H2 fun b H3 =>
    if b = true then te σ2 H3 fun y H4 => ∃ acc, H4 D = some (.lst acc) ∧ acc.length < sizeLine ∧ Nx (upd H4 D (.lst (acc ++ [y]))) else Nx H3)
theorem tLc_eq {wi : TI} {g : TG} {tt : TT} {te : TE} {vs : List Nat} {σ : L2.St} {H : Hp} {Q : VK} : tLc wi g tt te vs σ H Q = wi σ H fun J H1 => ∀ D, H1 D = none → LoopC J g tt te vs σ H1 D (fun H' => Q (.ref D) H') := rfl
theorem loopC_it {J : It} {n : Nat} {G : Hp → Prop} {Y : Nat → Hp → V → Hp → Prop} (w : Walk J n G Y) {g : TG} {tt : TT} {te : TE} {vs : List Nat} {σ : L2.St} {H1 : Hp} {D : Addr} {Qd : Hp → Prop} (Pv : Nat → Hp → Prop) (h0 : Pv 0 (upd H1 D (.lst []))) (hG : ∀ i H, i ≤ n → Pv i H → G H)
    (hs : ∀ i x H H', i < n → Pv i H → Y i H x H' → g x (wipe σ vs) H' fun σ2 H2 => wipe σ2 vs = wipe σ vs ∧ tt σ2 H2 fun b H3 =>
      if b = true then te σ2 H3 fun y H4 => ∃ acc, H4 D = some (.lst acc) ∧ acc.length < sizeLine ∧ Pv (i + 1) (upd H4 D (.lst (acc ++ [y]))) else Pv (i + 1) H3) (hd : ∀ H, Pv n H → Qd H) : LoopC J g tt te vs σ H1 D Qd := lc_it w Pv h0 hG hs hd
/-! ### heaps that grow -/
theorem ne_new {H : Hp} {a p : Addr} {o : HO} (h : H a = some o) (hp : H p = none) : a ≠ p := ne_of_none h hp
end My

set_option Elab.async false
set_option linter.all false
set_option maxRecDepth 100000
set_option maxHeartbeats 4000000
/-! own library, part 5: an own error class E(OwedError) with  def __init__(self, f): super().__init__('..'); self.f = f -/
namespace PySem
namespace OwX
open PySem.W PySem.Calls PyProof.Rows PySem.HandSPX
def iB (msg fl : Str) (j : Nat) (p0 p1 p2 p3 p4 p5 q1 q2 q3 q4 : Pos) : List Stmt :=
  [.Expr (.Call (.Attribute (.Call (.Name "super" p0) [] [] p1) "__init__" p2) [.Constant (.str msg) j p3] [] p4) p5, .Assign [.Attribute (.Name "self" q1) fl q2] (.Name fl q3) q4]
/-- what the written part says of the class at C, of its __init__ at fI (its cell at cc, its code at cda) -/
structure OwTxt (prog : Program) (K : Frag) (mg : Str → Option Value) (C fI cc cda : Addr) (cn fl : Str) : Prop where
  gC : mg cn = some (.ref C)
  cls : ∃ nm q N bs bm sn sub ab col dd k0 k1 k2 k3 k5, K.lookup C = some (excClassObj nm q C N bs bm true sn sub ab col dd k0 k1 k2 k3 k5 "ValueError.__new__") ∧ refsVE bm = true
  sa : findIn K (.ref C) "__setattr__" = some (some (.builtin "object.__setattr__"))
  ga : findIn K (.ref C) "__getattribute__" = some (some (.builtin "BaseException.__getattribute__"))
  gg : findIn K (.ref C) "__getattr__" = some none
  noN : findIn K (.ref C) fl = some none
  iC : findIn K (.ref C) "__init__" = some (some (.ref fI))
  tC : typeIn K (.ref fI) = some (.type "function")
  kC : keepIn K (.ref C) = true
  exC : subIn K (.ref C) (.type "BaseException") = some true
  tyC : typeIn K (.ref C) = some (.type "type")
  hdC : hasDictIn K C = true
  self : mroIn K C (.ref C) = some true
  ve : subIn K (.ref C) (.type "ValueError") = some true
  sup : ks_superIn K C C "__init__" = some (some (.builtin "ValueError.__init__"))
  opq : nsIn K cStatics "thirdparty.any" = some none
  nsup : nsIn K mainGlobals "super" = some none
  cell : ∃ cl cld csl, K.lookup cc = some ⟨cl, cld, .cell (some (.ref C)), csl⟩
  code : ∃ ccl cdd vs ccs file tf, K.lookup cda = some ⟨ccl, cdd, .fields vs, ccs⟩ ∧ vs[2]? = some (.str file tf) ∧ ((prog.main.file : Str) == file) = true
  top : (prog.main.scope.names.lookup ("super" : Str)).isSome = false
  fn : ∃ (qual : Str) (params : Arguments) (body : List Stmt) (scope : Scope) (oc : Value) (od : Option Addr) (doc pm : Value) (an : Option Addr) (ct : Value) (osl : Array (Option Value)) (ar : Arg),
    K.lookup fI = some ⟨oc, od, .func (ksFn "__init__" qual params body scope .none .none doc pm an (.ref cda) ct cc), osl⟩ ∧ codeIn K (.ref cda) qual = true ∧ (params.posonlyargs ++ params.args).head? = some ar ∧ ar.arg = "self" ∧
    (∀ a b : Value, bindArgs (ksFn "__init__" qual params body scope .none .none doc pm an (.ref cda) ct cc) ⟨[a, b], []⟩ = pure [(("self" : Str), a), (fl, b)]) ∧
    (∃ msg j p0 p1 p2 p3 p4 p5 q1 q2 q3 q4, body = iB msg fl j p0 p1 p2 p3 p4 p5 q1 q2 q3 q4 ∧ (∃ pl : Env → Sem Bool, ∀ env : Env, eval (.Call (.Attribute (.Call (.Name "super" p0) [] [] p1) "__init__" p2) [.Constant (.str msg) j p3] [] p4) env = (do
        let ov ← attributeBase (.Call (.Name "super" p0) [] [] p1) "__init__" env (eval (.Call (.Name "super" p0) [] [] p1) env)
        standAt p2.atName
        let (f, first) ← holding [ov] (getMethod ov "__init__" (pl env))
        callWith p4 f first (backTo p4 (starEach [.Constant (.str msg) j p3] env)) [])) ∧
      (∀ env : Env, swapsWith (.Call (.Attribute (.Call (.Name "super" p0) [] [] p1) "__init__" p2) [.Constant (.str msg) j p3] [] p4) none p5.line env = pure false) ∧ (∀ env : Env, swapsWith (.Name fl q3) (some (.Attribute (.Name "self" q1) fl q2)) q4.line env = pure false)) ∧
    scope.kind = .function ∧ scope.isCoroutine = false ∧ scope.isGenerator = false ∧ (∀ y ∈ scope.names, y.2 ≠ .cell) ∧ scope.names.lookup ("self" : Str) = some .local ∧ scope.names.lookup fl = some .local ∧
    scope.names.lookup ("super" : Str) = some .globalImplicit ∧ scope.names.lookup ("__class__" : Str) = some .free ∧ ¬ fl = "self" ∧ (fl == ("__debug__" : Str)) = false
/-- what __init__ leaves of a fresh exception at x -/
structure InitEnd (fl : Str) (h h' : Heap) (x C dx t1 : Addr) (v : Value) : Prop where
  keep : ∀ b o, b ≠ x → h.get? b = some o → h'.get? b = some o
  obj : h'.get? x = some { cls := .ref C, dict := some dx, data := .fields #[.ref t1, .none, .none, .none, .bool false, .none] }
  dbig : h.objs.size ≤ dx
  dne : dx ≠ x
  ns : h'.Ns1 dx (fun y => if y = fl then some v else none)
section
variable {prog : Program} {w : World} {A : Around} {E : Value → Shared → Prop} {R : Result → Shared → Prop} {s : Shared} {K : Frag} {mg : Str → Option Value} {C fI cc cda : Addr} {cn fl : Str}
theorem ow_init (T : OwTxt prog K mg C fI cc cda cn fl) {x t0 : Addr} {v : Value} (X : K.In s.heap) (hg : s.heap.Ns mainGlobals mg) (hbl : ∃ mb, s.heap.Ns builtinsNs mb ∧ ∀ y : Str, y ≠ "__name__" → mb y = bootBuiltins y) (hlim : s.heap.NoLimit)
    (hx : s.heap.get? x = some (excO C t0)) (nKx : K.lookup x = none) (hroom : A.depth < recursionLimit)
    (hq : ∀ h' tk dx t1, InitEnd fl s.heap h' x C dx t1 v → R (.ok (.ret .none)) { s with heap := h', toks := tk }) :
    codeAny (model prog w) A (.call (.ref fI) ⟨[.ref x, v], []⟩) R s := by
  obtain ⟨qual, params, body, scope, oc, od, doc, pm, an, ct, osl, ar, hfn, hcd, hhd, har, hbi, ⟨msg, j, p0, p1, p2, p3, p4, p5, q1, q2, q3, q4, rfl, ⟨pl, hev⟩, hsw1, hsw2⟩, hk, hco, hgen, hce, ks, kf, ksu, kcl, nfs, ndb⟩ := T.fn
  obtain ⟨cl, cld, csl, hcell⟩ := T.cell
  obtain ⟨ccl, cdd, vs, ccs, file, tf, hcode, hvs, hfile⟩ := T.code
  obtain ⟨nm, q, N, bs, bm, sn, sub, ab, col, dd, k0, k1, k2, k3, k5, hC, hbm⟩ := T.cls
  obtain ⟨mb, hb, hbb⟩ := hbl
  have hcl : clsIn K C = some { name := nm, bases := bs, mro := .ref C :: bm, ns := N, qualname := q, hasDict := true, slotNames := sn, subclasses := sub, abstract := ab, collection := col, hasDel := false } := by unfold clsIn; rw [hC] <;> rfl
  refine ks_codeAny_call_defAt (binds := [("self", .ref x), (fl, v)]) hroom (X _ _ hfn) rfl hlim (codeRec_of X hcd) rfl (BindsTo.of_eq (hbi _ _)) hce ?_ (fun h1 hns hk1 => ?_) hco hgen hk
  · intro y hy
    rcases List.mem_cons.mp hy with rfl | hy
    · exact ks
    · rcases List.mem_cons.mp hy with rfl | hy
      · exact kf
      · cases hy
  have X1 : K.In h1 := X.keeps hk1
  have hg1 := hg.keeps hk1
  have hb1 := hb.keeps hk1
  have hx1 := hk1 _ _ hx
  have hself : (([("self", Value.ref x), (fl, v)] : List (Str × Value)).reverse.lookup ("self" : Str)) = some (.ref x) := by
    have e : (("self" : Str) == fl) = false := by simpa using fun z => nfs z.symm
    simp [List.lookup, e]
  have hfld : (([("self", Value.ref x), (fl, v)] : List (Str × Value)).reverse.lookup fl) = some v := by simp [List.lookup]
  have hkM : (scope.kind == ScopeKind.module) = false := by rw [hk]; rfl
  refine ks_wpAt_execs_cons (ks_wpAt_Expr_any (ks_wpAt_MethodCall (pl := pl _) ?_ (hev _)) (by show (scope.kind == ScopeKind.module && scope.more.any fun (n, _) => n == ("interactive" : Str)) = false; rw [hkM]; rfl) (hsw1 _))
  refine ks_wpAt_super_base ksu kcl (by decide) rfl (X1 _ _ hfn) rfl hhd rfl (X1 _ _ hcode) rfl hvs hfile T.top ?_
  refine ks_loadName_global hk ksu (loadGlobal_builtin hg1 (mg_none_of X hg T.nsup) hb1 ((hbb _ (by decide +kernel)).trans (by decide +kernel : bootBuiltins "super" = some (.type "super"))) ⟨rfl, ?_⟩)
  refine wpAny_loadName_free hk kcl rfl ⟨_, X1 _ _ hcell, rfl⟩ ?_
  rw [har]
  refine wpAny_loadName_local hk ks hns hself ?_
  obtain ⟨oD, hD1, hD2⟩ : ∃ oD, h1.get? C = some oD ∧ oD.data = .cls _ := ⟨_, X1 _ _ hC, rfl⟩
  refine ks_wpAny_isType_cls hD1 hD2 ⟨rfl, ?_⟩
  refine ks_wpAny_call_super hD1 hD2 hx1 rfl (fun c e => by cases e) (looks_mroIn X1 T.self) (fun h2 hso k2 => ?_)
  have X2 : K.In h2 := X1.keeps k2
  have hx2 := k2 _ _ hx1
  have J2 : InstAt h2 x (excO C t0) C none := ⟨hx2, rfl, rfl, trivial⟩
  refine kxs_getMethod kxs_ValueError (l₀ := .ref C :: bm) hso (looks_opaque X2 T.opq) ?_ rfl X2 ?_ (J2.type.andThen (looks_subIn X2 T.ve)) (ks_ne X2 J2 hcl) (by decide) ?_
  · exact fun A Q E s k q => wpAny_bind ((looks_clsIn X2 hcl) A _ E s k (wpAny_pure q))
  · have z := T.sup
    unfold ks_superIn at z
    rw [hcl] at z
    exact z
  have k3 : ∀ b o, h2.get? b = some o → (h2.push (kxs_mw "ValueError.__init__" x)).get? b = some o := fun b o e => Heap.get?_push_of_some _ e
  have hu3 : (h2.push (kxs_mw "ValueError.__init__" x)).get? h2.objs.size = some (kxs_mw "ValueError.__init__" x) := Heap.get?_push_at rfl rfl
  have hx3 := k3 _ _ hx2
  have hC3 := X2.keeps k3 _ _ hC
  refine kxs_callWith (i := "ValueError.__init__") (x := x) rfl (evalArgs_plain ?_)
  refine Calls.spliced_cons (Calls.Constant_str (k := j) (pos := p3) (Calls.spliced_nil ⟨hu3, ?_⟩))
  refine wpAny_call (codeAny_of_tree ?_)
  show wpAny _ _ (callAny (.ref h2.objs.size) _) _ _ _
  simp only [callAny]
  refine wpAny_bind (wpAny_load hu3 ?_)
  simp only [kxs_mw, show (Value.type "method-wrapper" == Value.type "method" || Value.type "method-wrapper" == Value.type "builtin_function_or_method" || Value.type "method-wrapper" == Value.type "method-wrapper") = true by decide, if_true]
  refine KFB.if_so (by decide) ?_
  refine wpAny_bind (check_bound_init F.excBase_ValueError.toExcCallFacts hC3 hx3 rfl ?_)
  refine wpAny_bind (wpAny_pure (wpAny_pure ?_))
  refine ⟨plainId_quiet F.excBase_ValueError.init.plain _, codeAny_builtin F.excBase_ValueError.initEntry ?_⟩
  refine exc_init_tree (cls := .ref C) (t0 := t0) (dv := none) (c2 := .none) (c3 := .none) (b4 := .bool false) hx3 (by show 1 ≤ sizeLine; decide) (fun h4 k4 hx4 ht4 => ?_)
  have hLx : s.heap.objs.size ≠ x := Nat.ne_of_gt (Heap.lt_size hx)
  have k14 : ∀ b o, b ≠ x → h1.get? b = some o → h4.get? b = some o := fun b o hb e => k4 b o hb (k3 b o (k2 b o e))
  have hns4 : h4.Ns s.heap.objs.size (fun y => ([("self", Value.ref x), (fl, v)] : List (Str × Value)).reverse.lookup y) := by
    obtain ⟨oL, es, ep, hL, r⟩ := hns
    exact ⟨oL, es, ep, k14 _ _ hLx hL, r⟩
  have X4 : K.In h4 := fun a o e => k14 a o (fun z => by rw [z, nKx] at e; cases e) (X1 a o e)
  refine wpAt_of_wpAny (wpAny_execs_cons (plainObj_wpAny_Assign_Attribute ?_ (hsw2 _)))
  refine wpAny_Name (wpAny_loadName_local hk kf hns4 hfld ?_) ndb
  refine wpAny_Name (wpAny_loadName_local hk ks hns4 hself ?_) (by decide)
  refine set_plain X4 (ox := excO C _) (od := none) ⟨hx4, rfl, rfl, trivial⟩ T.sa ?_
  refine exc_osa X4 hx4 hcl (show refsVE (.ref C :: bm) = true from hbm) rfl T.noN (fun h5 tk5 dx k5 dn dne hx5 hn5 => ?_)
  refine wpAny_execs_nil (hq h5 tk5 dx _ ⟨fun b o hb e => k5 b o hb (k14 b o hb (hk1 b o e)), hx5, Nat.le_of_lt (Nat.lt_of_lt_of_le hns4.lt dn), dne, hn5⟩)
/-- a made error -/
structure OwnMade (fl : Str) (h h' : Heap) (e C d : Addr) (v : Value) : Prop where
  keep : ∀ b o, h.get? b = some o → h'.get? b = some o
  new : h.objs.size ≤ e
  obj : ∃ oe vs, h'.get? e = some oe ∧ oe.cls = .ref C ∧ oe.dict = some d ∧ oe.data = .fields vs ∧ vs[1]? = some .none
  dbig : h.objs.size ≤ d
  dne : d ≠ e
  ns : h'.Ns1 d (fun y => if y = fl then some v else none)
theorem ow_made (T : OwTxt prog K mg C fI cc cda cn fl) {v : Value} (X : K.In s.heap) (hg : s.heap.Ns mainGlobals mg) (hbl : ∃ mb, s.heap.Ns builtinsNs mb ∧ ∀ y : Str, y ≠ "__name__" → mb y = bootBuiltins y) (hlim : s.heap.NoLimit) (hroom : A.depth + 1 < recursionLimit)
    (hq : ∀ h' tk e d, OwnMade fl s.heap h' e C d v → R (.ok (.ret (.ref e))) { s with heap := h', toks := tk }) :
    codeAny (model prog w) A (.call (.ref C) ⟨[v], []⟩) R s := by
  obtain ⟨nm, q, N, bs, bm, sn, sub, ab, col, dd, k0, k1, k2, k3, k5, hC, hbm⟩ := T.cls
  obtain ⟨hp, g, dr, tk, os⟩ := s
  have k : ∀ b o, hp.get? b = some o → ((hp.push (kdv_tup [v])).push (excO C hp.objs.size)).get? b = some o := fun b o e => Heap.get?_push_of_some _ (Heap.get?_push_of_some _ e)
  have hget : ((hp.push (kdv_tup [v])).push (excO C hp.objs.size)).get? (hp.objs.size + 1) = some (excO C hp.objs.size) := by heap_get
  have hnx : K.lookup (hp.objs.size + 1) = none := by
    cases e : K.lookup (hp.objs.size + 1) with
    | none => rfl
    | some o =>
      have z : hp.get? (hp.objs.size + 1) = some o := X _ _ e
      exact absurd (Nat.lt_of_succ_lt (Heap.lt_size z)) (Nat.lt_irrefl _)
  refine call_own F.excBase_ValueError (fun X => refsVE_contains X bm hbm) (X _ _ hC) (looks_findIn X T.iC) (fun self => bind_fn X self T.tC) (show 1 ≤ sizeLine by decide) ?_
  refine ow_init (s := ⟨(hp.push (kdv_tup [v])).push (excO C hp.objs.size), g, dr, tk, os⟩) T (X.keeps k) (hg.keeps k) ?_ (hlim.keeps k) hget hnx ?_ fun h' tk' dx t1 ⟨k', hx, dn, dne, hns⟩ => ?_
  · obtain ⟨mb, h1, h2⟩ := hbl
    exact ⟨mb, h1.keeps k, h2⟩
  · show A.depth + 1 < recursionLimit
    exact hroom
  · have old : ∀ b o, hp.get? b = some o → h'.get? b = some o := fun b o e => k' b o (Nat.ne_of_lt (Nat.lt_succ_of_lt (Heap.lt_size e))) (k b o e)
    have z : hp.objs.size + 1 + 1 ≤ dx := by
      first
        | (simpa only [Heap.size_push] using dn)
        | exact dn
        | (have q := dn; rw [Heap.size_push, Heap.size_push] at q; exact q)
    exact ⟨rfl, hq h' tk' (hp.objs.size + 1) dx ⟨old, Nat.le_succ _, ⟨_, _, hx, rfl, rfl, rfl, rfl⟩, Nat.le_trans (Nat.le_trans (Nat.le_succ _) (Nat.le_succ _)) z, dne, hns⟩⟩
end
end OwX
end PySem
namespace My
open PySem PySem.Spec PyProof.Rows L2
theorem relO_one {fl : Str} {v : V} {v' : Value} (r : RelV v v') (f : Str) : RelO (List.lookup f [(fl, v)]) (if f = fl then some v' else none) := by
  by_cases hw : f = fl
  · subst hw
    rw [if_pos rfl]
    have q : List.lookup f [(f, v)] = some v := by simp [List.lookup]
    rw [q]
    exact r
  · rw [if_neg hw]
    have qw : (f == fl) = false := by simpa using hw
    have q2 : List.lookup f [(fl, v)] = none := by simp [List.lookup, qw]
    rw [q2]
    trivial
section
variable {X : Cx} {C fI cc cda : Addr} {cn fl : Str}
/-- E(e) -/
def tMkOw (C : Addr) (fl : Str) (ta : TA) : L2.St → Hp → XK → Prop := fun σ H Q => ta σ H fun vs H1 => ∃ v, vs = [v] ∧ ∀ d, H1 d = none → Q (.ref C) (some d) (upd H1 d (.xd [(fl, v)]))
theorem pmk_ow {a : Expr} {ta : TA} {p pos : Pos} {k : Nat} (T : PySem.OwX.OwTxt X.prog X.K X.mg C fI cc cda cn fl) (hr : Room k X.A) (ha : PA X [a] ta) (hg : Gl X cn) (hdb : (cn == ("__debug__" : Str)) = false := by decide)
    (he : starEach (a :: []) X.env = (false, eval a X.env) :: starEach [] X.env := by rfl) (hpl : (backTo pos (starEach [] X.env)).any (·.1) = false := by rfl) :
    PMk X (.Call (.Name cn p) [a] [] pos) (tMkOw C fl ta) := by
  intro pins s σ H Q I h
  refine wpAny_Call_Name_kw (ld_glob I hg T.gC ?_ hdb)
  refine PySem.W.callWith_K (h₀ := X.base) I.ok.mod.kin T.kC (thn (ha.run pos pins s σ H _ I h) fun us s1 hh => ?_) he hpl
  obtain ⟨vs, H1, I1, r1, v, ev, q1⟩ := hh
  subst ev
  refine ⟨I1.kIn, ?_⟩
  cases r1 with
  | cons rv rn =>
    rename_i v' us'
    cases rn
    show wpAny _ _ (call (.ref C) [v']) _ _ _
    have hlim := I1.nolimit
    have hgl := I1.ok.mod.glob.keeps I1.bk
    have hbl : ∃ mb, s1.heap.Ns builtinsNs mb ∧ ∀ y : Str, y ≠ "__name__" → mb y = bootBuiltins y := by
      obtain ⟨mb, z1, z2⟩ := I1.ok.mod.blt
      exact ⟨mb, z1.keeps I1.bk, z2⟩
    obtain ⟨hp, g, dr, tk, os⟩ := s1
    refine wpAny_call (PySem.OwX.ow_made T I1.kIn hgl hbl hlim (by have := hr.dp; omega) fun h' tk' e d M => ?_)
    show MkP X pins σ Q (.ref e) ⟨h', g, dr, tk', os⟩
    obtain ⟨oe, fv, hoe, hc, hd, hdat, h1⟩ := M.obj
    have hns := M.ns
    obtain ⟨G', g1, g2⟩ := restrict h' fun b => decide (b ≠ e)
    have gk : ∀ b, b ≠ e → G'.get? b = h'.get? b := fun b hb => g1 b (decide_eq_true hb)
    have ge : G'.get? e = none := g2 e (by simp)
    have old : ∀ b o, hp.get? b = some o → G'.get? b = some o := fun b o q => (gk b (Nat.ne_of_lt (Nat.lt_of_lt_of_le (Heap.lt_size q) M.new))).trans (M.keep b o q)
    have ob : ObjOk X.prog X.w (upd H1 d (.xd [(fl, v)])) G' d (.xd [(fl, v)]) := ⟨_, hns.at (fun o q => (gk d M.dne).trans q), fun f => relO_one rv f⟩
    have J : Inv X pins σ (upd H1 d (.xd [(fl, v)])) ⟨G', g, dr, tk', os⟩ := I1.laid (t' := tk') old M.dbig ob
    refine ⟨e, oe, fv, ⟨G', g, dr, tk', os⟩, _, .ref C, some d, rfl, J, fun b o q => ?_, ge, hoe, ⟨hc, hd⟩, hdat, h1, ?_, rfl, I1.bare, raises_own T.exC T.tyC, q1 d (I1.hok.fresh M.dbig)⟩
    · by_cases hb : b = e
      · have q' : G'.get? b = some o := q
        rw [hb, ge] at q'; cases q'
      · exact (gk b hb).symm.trans q
    · rw [upd_ne (Ne.symm M.dne)]
      exact I1.hok.fresh M.new
/-- raise E(e) -/
def tRaiseOw (C : Addr) (fl : Str) (W : WX) (ta : TA) : TS := fun _ σ H => tMkOw C fl ta σ H fun cls d H' => W cls d σ H'
theorem ps_raiseOw {a : Expr} {ta : TA} {W : WX} {p pos pos2 : Pos} {k : Nat} (hc : X.calm = true) (T : PySem.OwX.OwTxt X.prog X.K X.mg C fI cc cda cn fl) (hr : Room k X.A) (tk : Takes X W) (ha : PA X [a] ta) (hg : Gl X cn) (hdb : (cn == ("__debug__" : Str)) = false := by decide)
    (he : starEach (a :: []) X.env = (false, eval a X.env) :: starEach [] X.env := by rfl) (hpl : (backTo pos (starEach [] X.env)).any (·.1) = false := by rfl) :
    PS X (.Raise (some (.Call (.Name cn p) [a] [] pos)) none pos2) (tRaiseOw C fl W ta) := ps_raise hc tk (pmk_ow T hr ha hg hdb he hpl)
/-- e.f, e the exception that the suite holds (at a; its class cls, its dict d) -/
def tFldOw (C : Addr) (fl : Str) (a : Addr) (cls : Value) (d : Option Addr) (te : TE) : TE := fun σ H Q => te σ H fun x H1 => x = .ref a ∧ cls = .ref C ∧ ∃ (dd : Addr) (v : V), d = some dd ∧ H1 dd = some (.xd [(fl, v)]) ∧ Q v H1
theorem pe_fldOw {a : Addr} {oe : Obj} {cls : Value} {d : Option Addr} {pn : List (Addr × Obj)} {e : Expr} {te : TE} {pos : Pos} (T : PySem.OwX.OwTxt X.prog X.K X.mg C fI cc cda cn fl) (hz : Zc cls d oe) (hf : ∃ vs, oe.data = .fields vs) (he : PE (X.suite a ((a, oe) :: pn)) e te)
    (hb : attributeBase e fl X.env (eval e X.env) = eval e X.env) :
    PE (X.suite a ((a, oe) :: pn)) (.Attribute e fl pos) (tFldOw C fl a cls d te) := by
  refine ⟨fun pins s σ H Q I h => ?_⟩
  refine attr_of hb (thn (he.run pins s σ H _ I h) fun u s1 hh => ?_)
  obtain ⟨x, H1, I1, rx, ex, ec, dd, v, ed, ea, q⟩ := hh
  subst ex
  obtain rfl : u = Value.ref a := rx
  subst ec
  subst ed
  obtain ⟨ha, _⟩ := I1.pin (a, oe) (List.mem_append_left _ List.mem_cons_self)
  obtain ⟨vs, hd⟩ := hf
  have hx : ObjOk X.prog X.w H1 s1.heap dd (.xd [(fl, v)]) := I1.hok dd _ ea
  obtain ⟨mA, hns, hr⟩ := hx
  obtain ⟨od, ho, hl⟩ := lookIn_ns hns
  have l : List.lookup fl [(fl, v)] = some v := by simp [List.lookup]
  obtain ⟨u, hu, ru⟩ := RelO.some_of (v := v) (o := mA fl) (by rw [← l]; exact hr fl)
  have J : PySem.W.InstAt s1.heap a oe C (some od) := ⟨ha, hz.1, by unfold PySem.W.notCls; rw [hd] <;> rfl, by rw [hz.2]; exact ho⟩
  exact HandSPX.exc_get I1.kIn J T.ga T.gg T.exC (PySem.W.findObj_own T.hdC T.noN rfl (by rw [hl, hu])) (handed_of ru) ⟨v, H1, I1.tok _, ru, q⟩
end
end My

set_option Elab.async false
set_option linter.all false
set_option maxRecDepth 100000
set_option maxHeartbeats 4000000
/-! own library, part 6: the head with own errors; calls that may raise; try with several clauses -/
namespace My
open PySem PySem.Spec PyProof.Rows L2
/-! ### the hook, with __init__ of own errors (their closure is the cell of the class) -/
/-- an own error: class, field, the def -/
structure DefX where
  cls : Str
  fld : Str
  qual : Str
  params : Arguments
  body : List Stmt
  scope : Scope
def fnXo (K : PySem.W.Frag) (a : Addr) : He.FnW := match K.lookup a with
  | some ⟨_, _, .func fd, _⟩ => some (fd.name, fd.qualname, fd.params, fd.body, fd.scope, fd.globals, [], fd.builtins)
  | _ => none
def DefX.val (d : DefX) : He.FnW := some ("__init__", d.qual, d.params, .stmts d.body, d.scope, mainGlobals, [], builtinsNs)
def exI (cn : Str) (K : PySem.W.Frag) : Addr := He.ma K (He.ga K cn) "__init__"
def exC (cn : Str) (K : PySem.W.Frag) : Addr := match K.lookup (exI cn K) with
  | some ⟨_, _, .func fd, _⟩ => (match fd.closure with
    | [(_, c)] => c
    | _ => 0)
  | _ => 0
def exD (cn : Str) (K : PySem.W.Frag) : Addr := match K.lookup (exI cn K) with
  | some ⟨_, _, .func fd, _⟩ => (match fd.code with
    | .ref c => c
    | _ => 0)
  | _ => 0
def isNo : Value → Bool
  | .none => true
  | _ => false
def clsB (K : PySem.W.Frag) (C : Addr) : Bool := match K.lookup C with
  | some ⟨.type t, _, .cls ⟨_, _, .ref c :: bm, _, _, true, _, _, _, _, false⟩, ⟨[_, _, _, _, some (.builtin b), _]⟩⟩ => t == "type" && (decide (c = C) && (PySem.HandSPX.refsVE bm && b == "ValueError.__new__"))
  | _ => false
def fnB (K : PySem.W.Frag) (cn q : Str) : Bool := match K.lookup (exI cn K) with
  | some ⟨_, _, .func fd, _⟩ => PySem.W.codeIn K fd.code q && (decide (fd.code = .ref (exD cn K)) && (decide (fd.closure = [(("__class__" : Str), exC cn K)]) && (isNo fd.defaults && isNo fd.kwdefaults)))
  | _ => false
def cellB (K : PySem.W.Frag) (cn : Str) : Bool := match K.lookup (exC cn K) with
  | some ⟨_, _, .cell (some v), _⟩ => decide (v = .ref (He.ga K cn))
  | _ => false
def codeB (file : Str) (K : PySem.W.Frag) (cn : Str) : Bool := match K.lookup (exD cn K) with
  | some ⟨_, _, .fields vs, _⟩ => (match (vs[2]? : Option Value) with
    | some (.str f _) => file == f
    | _ => false)
  | _ => false
/-- all that is asked of the error cn with field fl -/
def owL (file cn fl q : Str) (K : PySem.W.Frag) : List Bool := [
  He.eqO (PySem.W.nsIn K mainGlobals cn) (some (some (.ref (He.ga K cn)))),
  clsB K (He.ga K cn),
  He.eqO (PySem.W.findIn K (.ref (He.ga K cn)) "__setattr__") (some (some (.builtin "object.__setattr__"))),
  He.eqO (PySem.W.findIn K (.ref (He.ga K cn)) "__getattribute__") (some (some (.builtin "BaseException.__getattribute__"))),
  He.eqO (PySem.W.findIn K (.ref (He.ga K cn)) "__getattr__") (some none),
  He.eqO (PySem.W.findIn K (.ref (He.ga K cn)) fl) (some none),
  He.eqO (PySem.W.findIn K (.ref (He.ga K cn)) "__init__") (some (some (.ref (exI cn K)))),
  decide (PySem.W.typeIn K (.ref (exI cn K)) = some (.type "function")),
  PySem.W.keepIn K (.ref (He.ga K cn)),
  decide (PySem.W.subIn K (.ref (He.ga K cn)) (.type "BaseException") = some true),
  decide (PySem.W.typeIn K (.ref (He.ga K cn)) = some (.type "type")),
  PySem.W.hasDictIn K (He.ga K cn),
  decide (PySem.W.mroIn K (He.ga K cn) (.ref (He.ga K cn)) = some true),
  decide (PySem.W.subIn K (.ref (He.ga K cn)) (.type "ValueError") = some true),
  He.eqO (PySem.W.ks_superIn K (He.ga K cn) (He.ga K cn) "__init__") (some (some (.builtin "ValueError.__init__"))),
  He.eqO (PySem.W.nsIn K cStatics "thirdparty.any") (some none),
  He.eqO (PySem.W.nsIn K mainGlobals "super") (some none),
  cellB K cn,
  codeB file K cn,
  fnB K cn q]
def DefX.ok (file : Str) (K : PySem.W.Frag) (d : DefX) : Bool := (owL file d.cls d.fld d.qual K).all id
def obsX (file : Str) (fa : List FaB) (fn : List He5.DefA) (fx : List DefX) (K : PySem.W.Frag) : He.AlD :=
  ((fa.all fun f => f K) && (fn.all (fun d => d.ok K) && fx.all fun d => d.ok file K), fn.map (fun d => He5.fnA K (d.at_ K)) ++ fx.map fun d => fnXo K (exI d.cls K))
def valX (fn : List He5.DefA) (fx : List DefX) : He.AlD := (true, fn.map He5.DefA.val ++ fx.map DefX.val)
def SaysX (file : Str) (fa : List FaB) (fn : List He5.DefA) (fx : List DefX) (K : PySem.W.Frag) : Prop := obsX file fa fn fx K = valX fn fx
def obsXG (n : Nat) (file : Str) (fa : List FaB) (fn : List He5.DefA) (fx : List DefX) (g : Addr → Option Obj) : He.AlD := obsX file fa fn fx (He.frG g (He5.asA g n))
def hookX (n : Nat) (file : Str) (fa : List FaB) (fn : List He5.DefA) (fx : List DefX) : PySem.W.Hook where
  α := He.AlD
  obs := fun s => obsXG n file fa fn fx s.heap.get?
  val := fun _ => valX fn fx
  says := fun _ h => ∃ K : PySem.W.Frag, K.In h ∧ SaysX file fa fn fx K
  of := fun _ _ e => ⟨_, He.frG_in, e⟩
  keeps := fun _ _ _ ⟨K, hK, c⟩ k => ⟨K, PySem.W.Frag.In.keeps hK k, c⟩
theorem obsXG_eq {n : Nat} {file : Str} {fa : List FaB} {fn : List He5.DefA} {fx : List DefX} {g : Addr → Option Obj} {s : Shared} (h : ∀ a, g a = s.heap.get? a) : obsXG n file fa fn fx g = (hookX n file fa fn fx).obs s := by
  have e : g = s.heap.get? := funext h
  rw [e] <;> rfl
section
variable {file : Str} {fa : List FaB} {fn : List He5.DefA} {fx : List DefX} {K : PySem.W.Frag}
theorem SaysX.b (c : SaysX file fa fn fx K) : ((fa.all fun f => f K) && (fn.all (fun d => d.ok K) && fx.all fun d => d.ok file K)) = true := congrArg (fun z : He.AlD => z.1) c
theorem SaysX.fact (c : SaysX file fa fn fx K) (i : Nat) {f : FaB} (h : fa[i]? = some f := by rfl) : f K = true := List.all_eq_true.mp (He.ba c.b).1 f (List.mem_of_getElem? h)
theorem SaysX.fn_ (c : SaysX file fa fn fx K) : fn.map (fun d => He5.fnA K (d.at_ K)) = fn.map He5.DefA.val ∧ fx.map (fun d => fnXo K (exI d.cls K)) = fx.map DefX.val := by
  have e : fn.map (fun d => He5.fnA K (d.at_ K)) ++ fx.map (fun d => fnXo K (exI d.cls K)) = fn.map He5.DefA.val ++ fx.map DefX.val := congrArg (fun z : He.AlD => z.2) c
  exact List.append_inj e (by simp)
theorem SaysX.def_ (c : SaysX file fa fn fx K) (i : Nat) {d : He5.DefA} (h : fn[i]? = some d := by rfl) : ∃ fd, L2.FunD K d.name d.qual d.params d.body d.scope (d.dvs K) (d.kws K) (d.at_ K) fd := by
  have e2 : (fn.map fun d => He5.fnA K (d.at_ K))[i]? = (fn.map He5.DefA.val)[i]? := by rw [c.fn_.1]
  rw [List.getElem?_map, List.getElem?_map, h] at e2
  exact He5.DefA.funD (Option.some.inj e2) (List.all_eq_true.mp (He.ba (He.ba c.b).2).1 d (List.mem_of_getElem? h))
/-- what the text itself says of such an __init__ -/
structure OwSt (fl : Str) (qual : Str) (params : Arguments) (body : List Stmt) (scope : Scope) : Prop where
  ar : ∃ ar : Arg, (params.posonlyargs ++ params.args).head? = some ar ∧ ar.arg = "self"
  bind : ∀ (doc pm : Value) (an : Option Addr) (cda : Addr) (ct : Value) (cc : Addr) (a b : Value), bindArgs (PySem.W.ksFn "__init__" qual params body scope .none .none doc pm an (.ref cda) ct cc) ⟨[a, b], []⟩ = pure [(("self" : Str), a), (fl, b)]
  body : ∃ msg j p0 p1 p2 p3 p4 p5 q1 q2 q3 q4, body = PySem.OwX.iB msg fl j p0 p1 p2 p3 p4 p5 q1 q2 q3 q4 ∧ (∃ pl : Env → Sem Bool, ∀ env : Env, eval (.Call (.Attribute (.Call (.Name "super" p0) [] [] p1) "__init__" p2) [.Constant (.str msg) j p3] [] p4) env = (do
        let ov ← attributeBase (.Call (.Name "super" p0) [] [] p1) "__init__" env (eval (.Call (.Name "super" p0) [] [] p1) env)
        standAt p2.atName
        let (f, first) ← holding [ov] (getMethod ov "__init__" (pl env))
        callWith p4 f first (backTo p4 (starEach [.Constant (.str msg) j p3] env)) [])) ∧
      (∀ env : Env, swapsWith (.Call (.Attribute (.Call (.Name "super" p0) [] [] p1) "__init__" p2) [.Constant (.str msg) j p3] [] p4) none p5.line env = pure false) ∧ (∀ env : Env, swapsWith (.Name fl q3) (some (.Attribute (.Name "self" q1) fl q2)) q4.line env = pure false)
  sc : scope.kind = .function ∧ scope.isCoroutine = false ∧ scope.isGenerator = false ∧ (∀ y ∈ scope.names, y.2 ≠ .cell) ∧ scope.names.lookup ("self" : Str) = some .local ∧ scope.names.lookup fl = some .local ∧
    scope.names.lookup ("super" : Str) = some .globalImplicit ∧ scope.names.lookup ("__class__" : Str) = some .free ∧ ¬ fl = "self" ∧ (fl == ("__debug__" : Str)) = false
theorem isNo_ok {v : Value} (h : isNo v = true) : v = .none := by
  cases v with
  | none => rfl
  | _ => cases h
theorem clsB_ok {C : Addr} (h : clsB K C = true) : ∃ nm q N bs bm sn sub ab col dd k0 k1 k2 k3 k5, K.lookup C = some (excClassObj nm q C N bs bm true sn sub ab col dd k0 k1 k2 k3 k5 "ValueError.__new__") ∧ PySem.HandSPX.refsVE bm = true := by
  unfold clsB at h
  split at h
  · rename_i e
    obtain ⟨h1, h⟩ := He.ba h
    obtain ⟨h2, h⟩ := He.ba h
    obtain ⟨h3, h4⟩ := He.ba h
    obtain rfl := of_decide_eq_true h2
    obtain rfl := eq_of_beq h1
    obtain rfl := eq_of_beq h4
    exact ⟨_, _, _, _, _, _, _, _, _, _, _, _, _, _, _, e, h3⟩
  · cases h
theorem SaysX.ow {mg : Str → Option Value} {h : Heap} {P : Program} (c : SaysX file fa fn fx K) (X : K.In h) (G : h.Ns mainGlobals mg) (i : Nat) {d : DefX} (hi : fx[i]? = some d) (st : OwSt d.fld d.qual d.params d.body d.scope) (hfile : ((P.main.file : Str) == file) = true) (htop : (P.main.scope.names.lookup ("super" : Str)).isSome = false) :
    PySem.OwX.OwTxt P K mg (He.ga K d.cls) (exI d.cls K) (exC d.cls K) (exD d.cls K) d.cls d.fld := by
  have hf : fnXo K (exI d.cls K) = d.val := by
    have e2 : (fx.map fun d => fnXo K (exI d.cls K))[i]? = (fx.map DefX.val)[i]? := by rw [c.fn_.2]
    rw [List.getElem?_map, List.getElem?_map, hi] at e2
    exact Option.some.inj e2
  have hb : ∀ b ∈ owL file d.cls d.fld d.qual K, b = true := fun b hb => List.all_eq_true.mp (List.all_eq_true.mp (He.ba (He.ba c.b).2).2 d (List.mem_of_getElem? hi)) b hb
  unfold owL at hb
  simp only [List.forall_mem_cons] at hb
  obtain ⟨b1, b2, b3, b4, b5, b6, b7, b8, b9, b10, b11, b12, b13, b14, b15, b16, b17, b18, b19, b20, _⟩ := hb
  refine ⟨PySem.W.mg_of X G (He.eqO_ok b1), clsB_ok b2, He.eqO_ok b3, He.eqO_ok b4, He.eqO_ok b5, He.eqO_ok b6, He.eqO_ok b7, of_decide_eq_true b8, b9, of_decide_eq_true b10, of_decide_eq_true b11, b12, of_decide_eq_true b13, of_decide_eq_true b14, He.eqO_ok b15, He.eqO_ok b16, He.eqO_ok b17, ?_, ?_, htop, ?_⟩
  · unfold cellB at b18
    split at b18
    · rename_i e
      rw [of_decide_eq_true b18] at e
      exact ⟨_, _, _, e⟩
    · cases b18
  · unfold codeB at b19
    split at b19
    · rename_i e
      split at b19
      · rename_i e2
        obtain rfl := eq_of_beq b19
        exact ⟨_, _, _, _, _, _, e, e2, hfile⟩
      · cases b19
    · cases b19
  · unfold fnB at b20
    unfold fnXo at hf
    split at b20
    · rename_i oc od fd osl e
      rw [e] at hf
      obtain ⟨n1, n2, n3, n4, n5, n6, n7, n8, n9, n10, n11, n12, n13, n14, n15⟩ := fd
      obtain ⟨c1, b20⟩ := He.ba b20
      obtain ⟨c2, b20⟩ := He.ba b20
      obtain ⟨c3, b20⟩ := He.ba b20
      obtain ⟨c4, c5⟩ := He.ba b20
      have g2 : n13 = .ref (exD d.cls K) := of_decide_eq_true c2
      have g3 : n7 = [(("__class__" : Str), exC d.cls K)] := of_decide_eq_true c3
      have g4 : n8 = .none := isNo_ok c4
      have g5 : n9 = .none := isNo_ok c5
      have e2 : (some (n1, n2, n3, n4, n5, n6, ([] : List (Str × Addr)), n15) : He.FnW) = some (("__init__" : Str), d.qual, d.params, FuncBody.stmts d.body, d.scope, mainGlobals, [], builtinsNs) := hf
      simp only [Option.some.injEq, Prod.mk.injEq] at e2
      obtain ⟨h1, h2, h3, h4, h5, h6, -, h8⟩ := e2
      subst h1 h2 h3 h4 h5 h6 h8 g4 g5
      rw [g2, g3] at e
      obtain ⟨ar, a1, a2⟩ := st.ar
      refine ⟨_, _, _, _, _, _, _, _, _, _, _, ar, e, by rw [← g2]; exact c1, a1, a2, fun a b => st.bind _ _ _ _ _ _ a b, st.body, st.sc⟩
    · cases b20
end
end My

set_option Elab.async false
set_option linter.all false
set_option maxRecDepth 100000
set_option maxHeartbeats 4000000
/-! own library, part 7: calls that may raise, defs that may raise, try with several clauses (each with or without a name) -/
namespace My
open PySem PySem.Spec PyProof.Rows L2
/-! ### calls, the wish may look at the slots -/
section
variable {X : Cx} {CX : CXT} {k : Nat} {f C : Addr} {sp : Sp} {E : L2.St → XK} {x m : Str} {e o : Expr} {es : List Expr} {ta : TE} {t : TA} {p pos apos : Pos}
theorem run_fnX {pins : List (Addr × Obj)} {σ : L2.St} {H : Hp} {s : Shared} {Q : VK} {us : List Value} {vs : List V} (F : FnR X.prog X.w X.K X.mg X.base CX k f sp) (hr : Room k X.A) (hx : PassesAt CX X σ (E σ)) (I : Inv X pins σ H s) (r : Vals vs us) (h : sp vs H Q (E σ)) :
    codeAny (model X.prog X.w) X.A (.call (.ref f) ⟨us, []⟩) (fun r s' => match r with | .ok (.ret v) => EP X pins σ Q v s' | .ok _ => False | .error e => X.xe e s') s := by
  refine codeAny_mono (F X.A X.stack s H us vs Q (E σ) hr I.env0 r h) fun r s' hq => ?_
  cases r with
  | error e => exact hx pins H s e s' I hq
  | ok fl =>
    cases fl with
    | ret u => exact I.after hq
    | next => exact False.elim hq
    | brk => exact False.elim hq
    | cont => exact False.elim hq
def tCallX (sp : Sp) (E : L2.St → XK) (t : TA) : TE := fun σ H Q => t σ H fun vs H1 => sp vs H1 Q (E σ)
theorem pe_callX (F : FnR X.prog X.w X.K X.mg X.base CX k f sp) (hr : Room k X.A) (hg : Gl X x) (hm : X.mg x = some (.ref f)) (hk : PySem.W.keepIn X.K (.ref f) = true) (hx : ∀ σ, PassesAt CX X σ (E σ)) (ha : PA X (e :: es) t)
    (hdb : (x == ("__debug__" : Str)) = false := by decide) (he : starEach (e :: es) X.env = (false, eval e X.env) :: starEach es X.env := by rfl) (hpl : (backTo pos (starEach es X.env)).any (·.1) = false := by rfl) :
    PE X (.Call (.Name x p) (e :: es) [] pos) (tCallX sp E t) := by
  refine ⟨fun pins s σ H Q I h => ?_⟩
  refine wpAny_Call_Name_kw (ld_glob I hg hm ?_ hdb)
  refine PySem.W.callWith_K (h₀ := X.base) I.ok.mod.kin hk (thn (ha.run pos pins s σ H _ I h) fun us s1 ⟨vs, H1, I1, r, q⟩ => ⟨I1.kIn, ?_⟩) he hpl
  exact wpAny_call (run_fnX F hr (hx σ) I1 r q)
theorem pe_callX0 (F : FnR X.prog X.w X.K X.mg X.base CX k f sp) (hr : Room k X.A) (hg : Gl X x) (hm : X.mg x = some (.ref f)) (hk : PySem.W.keepIn X.K (.ref f) = true) (hx : ∀ σ, PassesAt CX X σ (E σ))
    (hdb : (x == ("__debug__" : Str)) = false := by decide) : PE X (.Call (.Name x p) [] [] pos) (tCallX sp E tNil) := by
  refine ⟨fun pins s σ H Q I h => ?_⟩
  refine wpAny_Call_Name_kw (ld_glob I hg hm ?_ hdb)
  exact PySem.W.callWith_K0 I.kIn hk (wpAny_call (run_fnX (us := []) F hr (hx σ) I .nil h))
/-- o.m(e, ..) -/
def tMethX (C : Addr) (m : Str) (sp : Sp) (E : L2.St → XK) (ta : TE) (t : TA) : TE := fun σ H Q => ta σ H fun x H1 => ∃ a dx fs, x = .ref a ∧ H1 a = some (.ins C dx fs) ∧ fs.lookup m = none ∧ t σ H1 fun vs H2 => sp (x :: vs) H2 Q (E σ)
theorem pe_methX {pl : Sem Bool} (he : PE X o ta) (c : Cls X.K C) (hm : Meth X.K C m f) (F : FnR X.prog X.w X.K X.mg X.base CX k f sp) (hr : Room k X.A) (hx : ∀ σ, PassesAt CX X σ (E σ)) (ha : PA X (e :: es) t)
    (hst : starEach (e :: es) X.env = (false, eval e X.env) :: starEach es X.env := by rfl) (hpl : (backTo pos (starEach es X.env)).any (·.1) = false := by rfl)
    (ht : eval (.Call (.Attribute o m apos) (e :: es) [] pos) X.env = (do
      let ov ← eval o X.env
      standAt apos.atName
      let (f, first) ← holding [ov] (getMethod ov m pl)
      callWith pos f first (backTo pos (starEach (e :: es) X.env)) (backToKw pos (keywordEach [] X.env))) := by rfl) :
    PE X (.Call (.Attribute o m apos) (e :: es) [] pos) (tMethX C m sp E ta t) := by
  refine ⟨fun pins s σ H Q I h => ?_⟩
  refine PySem.W.methodCall_KW (pl := pl) (thn (he.run pins s σ H _ I h) fun u s1 ⟨x, H1, I1, rx, a, dx, fs, ex, ea, l, q⟩ => ?_) ht
  subst ex
  obtain rfl : u = Value.ref a := rx
  refine getmeth_ok I1 ea c hm l ?_
  refine PySem.W.callWith_K (first := [.ref a]) (h₀ := X.base) I.ok.mod.kin hm.kp (thn (ha.run pos pins s1 σ H1 _ I1 q) fun us s2 ⟨vs, H2, I2, r, q2⟩ => ⟨I2.kIn, ?_⟩) hst hpl
  exact wpAny_call (run_fnX (us := .ref a :: us) (vs := .ref a :: vs) F hr (hx σ) I2 (.cons rfl r) q2)
theorem pe_methX0 {pl : Sem Bool} (he : PE X o ta) (c : Cls X.K C) (hm : Meth X.K C m f) (F : FnR X.prog X.w X.K X.mg X.base CX k f sp) (hr : Room k X.A) (hx : ∀ σ, PassesAt CX X σ (E σ))
    (ht : eval (.Call (.Attribute o m apos) [] [] pos) X.env = (do
      let ov ← eval o X.env
      standAt apos.atName
      let (f, first) ← holding [ov] (getMethod ov m pl)
      callWith pos f first (backTo pos (starEach [] X.env)) (backToKw pos (keywordEach [] X.env))) := by rfl) :
    PE X (.Call (.Attribute o m apos) [] [] pos) (tMethX C m sp E ta tNil) := by
  refine ⟨fun pins s σ H Q I h => ?_⟩
  refine PySem.W.methodCall_KW (pl := pl) (thn (he.run pins s σ H _ I h) fun u s1 ⟨x, H1, I1, rx, a, dx, fs, ex, ea, l, q⟩ => ?_) ht
  subst ex
  obtain rfl : u = Value.ref a := rx
  refine getmeth_ok I1 ea c hm l ?_
  exact PySem.W.callWith_K0 (first := [.ref a]) I1.kIn hm.kp (wpAny_call (run_fnX (us := [.ref a]) (vs := [.ref a]) F hr (hx σ) I1 (.cons rfl .nil) q))
end
/-! ### defs that may raise -/
section
variable {P : Program} {w : World} {K : PySem.W.Frag} {mg : Str → Option Value} {base : Heap} {x qual : Str} {params : Arguments} {body : List Stmt} {scope : Scope} {dvs : List V} {kws : List (Str × V)} {f : Addr} {fd : FuncData}
theorem FunD.RX {N ps : List Str} {k : Nat} {sp : Sp} (F : FunD K x qual params body scope [] kws f fd) (S : FnScope N ps scope) (len : ∀ vs H Q E, sp vs H Q E → vs.length = ps.length)
    (hb : ∀ (kV doc pm : Value) (an : Option Addr) (cdv ct : Value) (us : List Value), us.length = ps.length → bindArgs (PySem.W.fnOf x qual params body scope .none kV doc pm an cdv ct) ⟨us, []⟩ = pure (ps.zip us))
    (hbody : ∀ (cdv : Value) (A : Around) (outer : List Env) (s : Shared) (H : Hp) (vs : List V) (Q : VK) (E : XK), Room k (A.deeper (envOfC qual scope s.heap.objs.size f cdv)) → sp vs H Q E →
      ∃ t, PSs (cxOf (L2.CX P w) P w K mg base N qual scope f cdv A outer s H E) body t ∧ t { nx := fun _ H' => Q .non H', rt := Q } (start N vs) H) : FnR P w K mg base (L2.CX P w) (k + 1) f sp := by
  have G : FnOk P w K mg base (L2.CX P w) (k + 1) f fd ps sp := FunD.ok F S len hbody
  refine (FnOk.raw G (FunD.bindsN F hb) .nil).imp fun vs H Q E h => ?_
  rw [List.append_nil]
  exact h
theorem FunD.RdX {N ps : List Str} {k : Nat} {sp : Sp} (n j : Nat) (F : FunD K x qual params body scope dvs kws f fd) (S : FnScope N ps scope) (len : ∀ vs H Q E, sp vs H Q E → vs.length = ps.length) (hd : dvs ≠ []) (hn : n + (dvs.length - j) = ps.length)
    (hb : ∀ (T : Addr) (kV doc pm : Value) (an : Option Addr) (cdv ct : Value) (us its : List Value), us.length = n → its.length = dvs.length →
      ∃ k, bindArgs (PySem.W.fnOf x qual params body scope (.ref T) kV doc pm an cdv ct) ⟨us, []⟩ = seqItems? (.ref T) >>= k ∧ k (some its.toArray) = pure (ps.zip (us ++ its.drop j)))
    (hbody : ∀ (cdv : Value) (A : Around) (outer : List Env) (s : Shared) (H : Hp) (vs : List V) (Q : VK) (E : XK), Room k (A.deeper (envOfC qual scope s.heap.objs.size f cdv)) → sp vs H Q E →
      ∃ t, PSs (cxOf (L2.CX P w) P w K mg base N qual scope f cdv A outer s H E) body t ∧ t { nx := fun _ H' => Q .non H', rt := Q } (start N vs) H) :
    FnR P w K mg base (L2.CX P w) (k + 1) f (fun vs H Q E => sp (vs ++ dvs.drop j) H Q E) := by
  have G : FnOk P w K mg base (L2.CX P w) (k + 1) f fd ps sp := FunD.ok F S len hbody
  obtain ⟨ds, hv, hB⟩ := FunD.binds1 F n j hd hn hb
  exact FnOk.raw G hB hv
/-- def f(a, .., *v) -/
theorem FunD.RsX {N ps : List Str} {pv : Str} {k : Nat} {sp : Sp} (F : FunD K x qual params body scope [] kws f fd) (S : FnScope N (ps ++ [pv]) scope)
    (hb : ∀ (kV doc pm : Value) (an : Option Addr) (cdv ct : Value) (us rest : List Value), us.length = ps.length → bindArgs (PySem.W.fnOf x qual params body scope .none kV doc pm an cdv ct) ⟨us ++ rest, []⟩ = (newTuple rest >>= fun t => pure (ps.zip us ++ [(pv, t)])))
    (hbody : ∀ (cdv : Value) (A : Around) (outer : List Env) (s : Shared) (H : Hp) (vs : List V) (Q : VK) (E : XK), Room k (A.deeper (envOfC qual scope s.heap.objs.size f cdv)) → sp vs H Q E →
      ∃ t, PSs (cxOf (L2.CX P w) P w K mg base N qual scope f cdv A outer s H E) body t ∧ t { nx := fun _ H' => Q .non H', rt := Q } (start N vs) H) :
    FnR P w K mg base (L2.CX P w) (k + 1) f (fun vs H Q E => ∃ ws rest, vs = ws ++ rest ∧ ws.length = ps.length ∧ rest.length ≤ sizeLine ∧ ∀ p, H p = Option.none → sp (ws ++ [V.ref p]) (upd H p (.tup rest)) Q E) := by
  obtain ⟨oc, od, dV, kV, doc, pm, an, cdv, ct, osl, rfl, lk, hcd, hD, _⟩ := F.ex
  rcases hD with ⟨_, rfl⟩ | ⟨e, _⟩
  · exact StX.fn_star lk hcd S StX.cxUp (hb kV doc pm an cdv ct) fun A outer s H vs Q E hr hsp => hbody cdv A outer s H vs Q E hr hsp
  · exact absurd rfl e
/-- what raises nothing may stand where something may -/
theorem FnR.up {CX : CXT} {k : Nat} {sp : Sp} (F : FnR P w K mg base CX0 k f sp) : FnR P w K mg base CX k f sp := fun A outer s H us vs Q E hr e0 r hs => codeAny_mono (F A outer s H us vs Q E hr e0 r hs) fun r s' hq => by
  cases r with
  | error e => exact False.elim hq
  | ok fl => cases fl <;> exact hq
end
/-! ### try -/
/-- what an error wishes of a clause:  (slot of its name or none, class, suite) -/
abbrev Cl : Type := Option Nat × Value × (Addr → Value → Option Addr → TS)
def endsA : Option Nat → Ends → Ends
  | none, D => D
  | some i, D => { nx := fun σ' H' => D.nx (σ'.set i none) H', rt := D.rt, bk := fun σ' H' => D.bk (σ'.set i none) H', ct := fun σ' H' => D.ct (σ'.set i none) H' }
def putA : Option Nat → Addr → L2.St → L2.St
  | none, _, σ => σ
  | some i, a, σ => σ.set i (some (.ref a))
def wCls (K : PySem.W.Frag) (Wout : WX) (D : Ends) : List Cl → WX
  | [] => Wout
  | (n, c, ts) :: r => fun cls d σ H => ∃ b, PySem.W.exmOne K cls c = some b ∧ (b = true → ∀ a, H a = none → ts a cls d (endsA n D) (putA n a σ) H) ∧ (b = false → wCls K Wout D r cls d σ H)
abbrev SuiteOk (X : Cx) (body : List Stmt) (ts : Addr → Value → Option Addr → TS) : Prop :=
  ∀ (a : Addr) (oe : Obj) (cls : Value) (d : Option Addr) (pn : List (Addr × Obj)), Zc cls d oe → (∃ vs, oe.data = .fields vs) → PSs (X.suite a ((a, oe) :: pn)) body (ts a cls d)
inductive ClsOk (X : Cx) : List ExceptHandler → List Cl → Prop
  | nil : ClsOk X [] []
  | bare {x : Str} {c : Value} {ts : Addr → Value → Option Addr → TS} {b₀ : Stmt} {suite : List Stmt} {np pos' : Pos} {hds : List ExceptHandler} {l : List Cl} (hc : Names X x c) (hsu : SuiteOk X (b₀ :: suite) ts) (r : ClsOk X hds l) :
      ClsOk X (.ExceptHandler (some (.Name x np)) none (b₀ :: suite) pos' :: hds) ((none, c, ts) :: l)
  | as {x n : Str} {i : Nat} {c : Value} {ts : Addr → Value → Option Addr → TS} {b₀ : Stmt} {suite : List Stmt} {np pos' : Pos} {hds : List ExceptHandler} {l : List Cl} (hc : Names X x c) (hi : X.N[i]? = some n) (hln : X.env.kindOf n = some .local) (hsu : SuiteOk X (b₀ :: suite) ts) (r : ClsOk X hds l) :
      ClsOk X (.ExceptHandler (some (.Name x np)) (some n) (b₀ :: suite) pos' :: hds) ((some i, c, ts) :: l)
section
variable {X : Cx} {pins : List (Addr × Obj)} {σ : L2.St} {H : Hp} {D : Ends}
/-- a suite's end is an end of the try -/
theorem SP.back {q : Addr × Obj} {a : Addr} {f : Flow} {s : Shared} (ok : X.Ok) (h : SP (X.suite a (q :: (X.pn ++ pins))) [] D f s) : SP X pins D f s := by
  cases f with
  | next => obtain ⟨σ', H', S, z⟩ := h; exact ⟨_, _, S.unsuite ok, z⟩
  | brk => obtain ⟨σ', H', S, z⟩ := h; exact ⟨_, _, S.unsuite ok, z⟩
  | cont => obtain ⟨σ', H', S, z⟩ := h; exact ⟨_, _, S.unsuite ok, z⟩
  | ret u => obtain ⟨v, σ', H', S, r, z⟩ := h; exact ⟨_, _, _, S.unsuite ok, r, z⟩
theorem SP.gone {i : Nat} {n : Str} {f : Flow} {s : Shared} {pos : Pos} {M : Model} {A : Around} {E : Value → Shared → Prop} (hN : X.N.Nodup) (hi : X.N[i]? = some n) (hl : X.env.kindOf n = some .local) (h : SP X pins (endsA (some i) D) f s) :
    wpAny M A (do bindName X.env n .none; unbindBehindTheSuite X.env n pos) (fun _ s' => SP X pins D f s') E s := by
  cases f with
  | next => obtain ⟨σ', H', S, z⟩ := h; exact gone_ok S hN hi hl fun s7 J => ⟨_, _, J, z⟩
  | brk => obtain ⟨σ', H', S, z⟩ := h; exact gone_ok S hN hi hl fun s7 J => ⟨_, _, J, z⟩
  | cont => obtain ⟨σ', H', S, z⟩ := h; exact gone_ok S hN hi hl fun s7 J => ⟨_, _, J, z⟩
  | ret u => obtain ⟨v, σ', H', S, r, z⟩ := h; exact gone_ok S hN hi hl fun s7 J => ⟨_, _, _, J, r, z⟩
theorem SP.ofTry {f : Flow} {s : Shared} {xe : Value → Shared → Prop} (ok : X.Ok) (h : SP (X.tr (X.pn ++ pins) xe) [] D f s) : SP X pins D f s := by
  cases f with
  | next => obtain ⟨σ', H', S, z⟩ := h; exact ⟨_, _, S.ofTry ok, z⟩
  | brk => obtain ⟨σ', H', S, z⟩ := h; exact ⟨_, _, S.ofTry ok, z⟩
  | cont => obtain ⟨σ', H', S, z⟩ := h; exact ⟨_, _, S.ofTry ok, z⟩
  | ret u => obtain ⟨v, σ', H', S, r, z⟩ := h; exact ⟨_, _, _, S.ofTry ok, r, z⟩
variable {hds : List ExceptHandler} {l : List Cl} {Wout : WX} {a : Addr} {B : Heap} {sI s' : Shared} {cls : Value} {d : Option Addr}
/-- an exception on the ground, before the clauses -/
theorem clauses (hs : X.stack = X.env :: X.outer) (hf : X.env.frame = some X.env.locals) (hN : X.N.Nodup) (tk : Takes X Wout) (J : Inv X pins σ H sI) (nb : ∀ b o, sI.heap.get? b = some o → b ∉ frs X.stack → B.get? b = some o) (up : sI.heap.UpToSlots s'.heap)
    (fl : HandSPX.FlyingZ B (X.env :: X.outer) a (Zc cls d) s'.heap) (na : H a = none) (os : s'.os = sI.os) (ag : AllBare s'.gens) (hk : ClsOk X hds l) : wCls X.K Wout D l cls d σ H → wpAny (model X.prog X.w) X.A (handleBy (.ref a) X.env hds) (SP X pins D) X.xe s' := by
  have ok := J.ok
  have at_ : ∀ {h : Heap}, HandSPX.FlyingZ B (X.env :: X.outer) a (Zc cls d) h → s'.heap.UpToSlots h → ∃ oe, Zc cls d oe ∧ (∃ vs, oe.data = .fields vs) ∧ h.get? a = some oe ∧ Inv X pins σ H { s' with heap := h } ∧ Inv (X.suite a ((a, oe) :: (X.pn ++ pins))) [] σ H { s' with heap := h } := fun {h} f4 u4 => by
    obtain ⟨oe, vs, he, hz, hd⟩ := f4.there
    have nfr : a ∉ frs (X.env :: X.outer) := fun hm => by
      obtain ⟨_, o', e', hnf⟩ := (f4.2.2.1).mem hm
      rw [he] at e'; cases e'
      exact hnf _ hd
    have nL : a ≠ X.env.locals := fun z => nfr (List.mem_filterMap.mpr ⟨X.env, List.mem_cons_self, by rw [hf, z]⟩)
    have nF : a ∉ X.fs := fun hm => by
      obtain ⟨e, he, q⟩ := List.mem_filterMap.mp hm
      exact nfr (List.mem_filterMap.mpr ⟨e, List.mem_cons_of_mem _ he, q⟩)
    have J4 : Inv X pins σ H { s' with heap := h } := J.landed nb f4.1 (up.trans u4) os ag
    exact ⟨oe, hz, ⟨_, hd⟩, he, J4, J4.suite he hd na nL nF⟩
  obtain ⟨oe0, hz0, hd0, he0, J0, S0⟩ := at_ fl (Heap.UpToSlots.refl _)
  have test : ∀ {x : Str} {np : Pos} {c : Value} {b : Bool} {Q : Bool → Shared → Prop} {E : Value → Shared → Prop}, Names X x c → PySem.W.exmOne X.K cls c = some b → Q b s' → wpAny (model X.prog X.w) (X.A.mark (some (.ref a))) (eval (.Name x np) X.env) (fun c s₁ => wpAny (model X.prog X.w) (X.A.mark (some (.ref a))) (excMatches (.ref a) c) Q E s₁) E s' := fun {x np c b Q E} hc hb1 q => by
    have LT : PySem.W.Looks (model X.prog X.w) s'.heap (typeOf (.ref a)) cls := fun A Q E s k q => wpAny_typeOf_ref (k _ _ he0) (by rw [hz0.1]; exact q)
    have LM := PySem.W.exm_one (M := model X.prog X.w) J0.kIn LT hb1
    obtain ⟨hg, hdbg, hm | ⟨hm, hv, hnn⟩⟩ := hc
    · exact ld_glob (X := X.suite a ((a, oe0) :: (X.pn ++ pins))) S0 hg hm (LM.here q) hdbg
    · exact ld_blt (X := X.suite a ((a, oe0) :: (X.pn ++ pins))) S0 hg hm hv (LM.here q) hnn hdbg
  induction hk with
  | nil =>
    intro w
    refine wpAny_handleBy_nil ?_
    obtain ⟨k1, k2, k3, oe, vs, T, oT, ts', he, hz, hd, h1, hr⟩ := id fl
    unfold PySem.passOn
    refine wpAny_bind (wpAny_field he hd h1 ?_)
    rw [if_neg (show ¬ ((Value.ref T == Value.none) = true) from by simp)]
    have fin : wpAny (model X.prog X.w) X.A (setFlight (.ref a) X.env.frame) (fun _ s4 => wpAny (model X.prog X.w) X.A (throw (.ref a) : Sem Flow) (SP X pins D) X.xe s4) X.xe s' := by
      rw [hf]
      refine HandSPX.setFlight_upZ fl fun h4 hh4 up4 => wpAny_throw (tk _ _ ?_)
      exact ⟨a, B, sI, pins, σ, H, cls, d, rfl, J, nb, up.trans up4, .inr (.inr (by rw [hs]; exact hh4)), na, os, ag, w⟩
    first
      | exact wpAny_bind (wpAny_pure (wpAny_bind fin))
      | exact wpAny_bind fin
  | bare hc hsu r ih =>
    intro w
    obtain ⟨b, hb1, hyes, hno⟩ := w
    refine wpAny_handleBy_cons (codeAny_handlers_test (test hc hb1 ?_)) (by intro q; cases q)
    cases b with
    | true =>
      refine codeAny_handlers_suite (HandSPX.lands_againZ fl fun h4 fl4 up4 => ?_)
      obtain ⟨oe, hz, hd, he, J4, S4⟩ := at_ fl4 up4
      exact wpAny_mono ((hsu a oe cls d (X.pn ++ pins) hz hd).run [] _ _ H _ S4 (hyes rfl a na)) (fun f s6 hsp => SP.back ok hsp) (fun _ _ z => False.elim z)
    | false => exact ih (hno rfl)
  | as hc hi hln hsu r ih =>
    intro w
    obtain ⟨b, hb1, hyes, hno⟩ := w
    refine wpAny_handleBy_cons (codeAny_handlers_test (test hc hb1 ?_)) (by intro q; cases q)
    cases b with
    | true =>
      refine codeAny_handlers_suite_as (HandSPX.lands_againZ fl fun h4 fl4 up4 => ?_)
      obtain ⟨oe, hz, hd, he, J4, S4⟩ := at_ fl4 up4
      refine store_ok (X := X.suite a ((a, oe) :: (X.pn ++ pins))) (v := .ref a) S4 hN hi (.inl hln) rfl (fun s5 S5 => ?_) (.inr hln)
      exact wpAny_mono ((hsu a oe cls d (X.pn ++ pins) hz hd).run [] s5 _ H _ S5 (hyes rfl a na)) (fun f s6 hsp => SP.gone hN hi hln (SP.back ok hsp)) (fun _ _ z => False.elim z)
    | false => exact ih (hno rfl)
end
section
variable {X : Cx} {body : List Stmt} {h₀ : ExceptHandler} {hds : List ExceptHandler} {l : List Cl} {pos : Pos} {tb : WX → TS} {Wout : WX}
theorem ps_tryC (hs : X.stack = X.env :: X.outer) (hf : X.env.frame = some X.env.locals) (hN : X.N.Nodup) (tk : Takes X Wout)
    (hb : ∀ (W : WX) (pn : List (Addr × Obj)) (xe : Value → Shared → Prop), Takes (X.tr pn xe) W → PassesOwn (model X.prog X.w) X.A X.env xe → PSs (X.tr pn xe) body (tb W))
    (hh : ClsOk X (h₀ :: hds) l) : PS X (.Try body (h₀ :: hds) [] [] pos) (fun D σ H => tb (wCls X.K Wout D l) D σ H) := by
  refine ⟨fun pins s σ H D I h => ?_⟩
  have ok := I.ok
  have hfr : X.A.frames = some (X.env :: X.outer) := by rw [ok.frames, hs]
  refine wpAny_Try_except ?_
  refine wpAny_mono ((hb (wCls X.K Wout D l) (X.pn ++ pins) (fun e s₁ => wpAny (model X.prog X.w) X.A (noteFrame e X.env) (fun _ s₂ => wpAny (model X.prog X.w) X.A (setFlight e none) (fun _ s₃ =>
    wpAny (model X.prog X.w) X.A (handleBy e X.env (h₀ :: hds)) (SP X pins D) X.xe s₃) X.xe s₂) X.xe s₁) (fun u s' xx => ?_) PassesOwn.looking).run [] s σ H D (I.toTry _) h) (fun f s1 hsp => ?_) (fun e s1 he => he)
  · obtain ⟨a, B, sI, pins', σ', H', cls, d, rfl, J', nb, up, sky, na, os, ag, w⟩ := xx
    have sky' : Sky B (X.env :: X.outer) a (Zc cls d) X.env.locals s'.heap := by rw [← hs]; exact sky
    show wpAny (model X.prog X.w) X.A (noteFrame (.ref a) X.env) _ _ _
    exact Sky.land Zc.steady hfr hf sky' fun h3 fl3 up3 => clauses (s' := { s' with heap := h3 }) hs hf hN tk (J'.ofTry ok) nb (up.trans up3) fl3 na os ag hh w
  · have z := SP.ofTry ok hsp
    cases f with
    | next =>
      obtain ⟨σ', H', J', q⟩ := z
      exact wpAny_execs_nil ⟨σ', H', J', q⟩
    | brk => exact z
    | cont => exact z
    | ret u => exact z
end
end My

set_option Elab.async false
set_option linter.all false
set_option maxRecDepth 100000
set_option maxHeartbeats 4000000
/-! own library, part 8: own __len__, __contains__, __getitem__, __setitem__; more values -/
namespace My
open PySem PySem.Spec PyProof.Rows L2
section
variable {X : Cx} {k : Nat} {f C : Addr} {sp : Sp} {E : XK}
/-- a method by a special name -/
structure Spc (K : PySem.W.Frag) (C : Addr) (m : Str) (f : Addr) : Prop where
  at_ : PySem.W.findIn K (.ref C) m = some (some (.ref f))
  fi : PySem.W.isFn K (.ref f) = true
theorem inst_at {pins : List (Addr × Obj)} {σ : L2.St} {H : Hp} {s : Shared} {a dx : Addr} {fs : List (Str × V)} (I : Inv X pins σ H s) (ea : H a = some (.ins C dx fs)) : ∃ ox od, PySem.W.InstAt s.heap a ox C od := by
  obtain ⟨mA, O, _, _, _, _⟩ := ins_get I.hok ea
  obtain ⟨od, J, _⟩ := O.look
  exact ⟨_, _, J⟩
/-- len(o) -/
def mLenO (C : Addr) (sp : Sp) : List V → Hp → VK → Prop := fun xs H Q => ∃ a dx fs, xs = [.ref a] ∧ H a = some (.ins C dx fs) ∧ sp [.ref a] H (fun v H' => ∃ n : Int, v = .int n ∧ 0 ≤ n ∧ n < 2 ^ 63 ∧ Q v H') (fun _ _ _ => False)
theorem lenO (F : FnR X.prog X.w X.K X.mg X.base CX0 k f sp) (hr : Room (k + 1) X.A) (S : Spc X.K C "__len__" f) : CallR X (.builtin "len") (mLenO C sp) := by
  intro pins s σ H xs us Q I rv h
  obtain ⟨a, dx, fs, rfl, ea, hsp⟩ := h
  obtain ⟨u, rfl, ru⟩ := rv.one
  cases ru
  obtain ⟨ox, od, J⟩ := inst_at I ea
  refine Calls.call_function_entry kind_len plain_len entry_len (args_len1 _) ?_
  unfold Builtin.«len»
  refine wpAny_bind (m := oneArg "len" _) (wpAny_pure ?_)
  refine wpAny_bind (m := callSpecial? (.ref a) (Str.ofString "__len__")) (PySem.W.special_fn I.kIn J S.at_ (beq_iff_eq.mp S.fi) (wpAny_call ?_))
  refine codeAny_mono (F X.A.in1 X.stack s H [.ref a] [.ref a] _ _ hr.in1 I.env0.in1 (.cons rfl .nil) hsp) fun r s' hq => ?_
  cases r with
  | error er => exact False.elim hq
  | ok fl =>
    cases fl with
    | ret u =>
      obtain ⟨v, H', I3, rv3, n, rfl, h0, h1, q3⟩ := I.after hq
      obtain ⟨t, rfl⟩ := rv3
      refine wpAny_bind (wpAny_holding (wpAny_pure ?_))
      refine wpAny_bind (wpAny_letGo ?_)
      show wpAny _ _ (if n < 0 then _ else _) _ _ _
      rw [if_neg (by omega)]
      show wpAny _ _ (if n ≥ 2 ^ 63 then _ else _) _ _ _
      rw [if_neg (by omega)]
      exact wpAny_bind (wpAny_mkInt (wpAny_pure ⟨_, rfl, ⟨.int n, H', I3.tok _, ⟨_, rfl⟩, q3⟩⟩))
    | next => exact False.elim hq
    | brk => exact False.elim hq
    | cont => exact False.elim hq
/-- x in o, x not in o -/
def rInO (C : Addr) (sp : Sp) : R2 := fun x y H Q => ∃ a dx fs, y = .ref a ∧ H a = some (.ins C dx fs) ∧ sp [.ref a, x] H (fun v H' => ∃ b : Bool, v = .bl b ∧ Q (.bl b) H') (fun _ _ _ => False)
def rNotInO (C : Addr) (sp : Sp) : R2 := fun x y H Q => ∃ a dx fs, y = .ref a ∧ H a = some (.ins C dx fs) ∧ sp [.ref a, x] H (fun v H' => ∃ b : Bool, v = .bl b ∧ Q (.bl (!b)) H') (fun _ _ _ => False)
theorem run_con {pins : List (Addr × Obj)} {σ : L2.St} {H : Hp} {s : Shared} {a dx : Addr} {fs : List (Str × V)} {x : V} {v : Value} {R : Bool → Hp → Prop} {Q : Bool → Shared → Prop} (F : FnR X.prog X.w X.K X.mg X.base CX0 k f sp) (hr : Room k X.A) (S : Spc X.K C "__contains__" f) (I : Inv X pins σ H s) (ea : H a = some (.ins C dx fs)) (rx : RelV x v)
    (h : sp [.ref a, x] H (fun v H' => ∃ b : Bool, v = .bl b ∧ R b H') (fun _ _ _ => False)) (hq : ∀ b s' H', Inv X pins σ H' s' → R b H' → Q b s') : wpAny (model X.prog X.w) X.A (contains (.ref a) v) Q X.xe s := by
  obtain ⟨ox, od, J⟩ := inst_at I ea
  unfold contains
  refine wpAny_holding (wpAny_bind (wpAny_bind (J.type.here ((PySem.W.looks_findIn I.kIn S.at_).here ?_))))
  rw [if_neg (by simp)]
  refine wpAny_bind (PySem.W.unlessNone_K I.kIn J S.at_ S.fi (wpAny_call ?_))
  refine codeAny_mono (F X.A X.stack s H [.ref a, v] [.ref a, x] _ _ hr I.env0 (.cons rfl (.cons rx .nil)) h) fun r s' hz => ?_
  cases r with
  | error er => exact False.elim hz
  | ok fl =>
    cases fl with
    | ret u =>
      obtain ⟨y, H', I3, ry, b, rfl, q3⟩ := I.after hz
      obtain rfl : u = Value.bool b := ry
      exact wpAny_truthy_bool (hq b _ H' I3 q3)
    | next => exact False.elim hz
    | brk => exact False.elim hz
    | cont => exact False.elim hz
theorem op_inO (F : FnR X.prog X.w X.K X.mg X.base CX0 k f sp) (hr : Room k X.A) (S : Spc X.K C "__contains__" f) : OpR X (compareOp .In) (rInO C sp) := by
  intro pins s σ H x y v u Q I rx ry h
  obtain ⟨a, dx, fs, rfl, ea, hsp⟩ := h
  cases ry
  exact wpAny_bind (run_con F hr S I ea rx hsp fun b s' H' I' q => wpAny_pure ⟨.bl b, H', I', rfl, q⟩)
theorem op_notInO (F : FnR X.prog X.w X.K X.mg X.base CX0 k f sp) (hr : Room k X.A) (S : Spc X.K C "__contains__" f) : OpR X (compareOp .NotIn) (rNotInO C sp) := by
  intro pins s σ H x y v u Q I rx ry h
  obtain ⟨a, dx, fs, rfl, ea, hsp⟩ := h
  cases ry
  exact wpAny_bind (run_con F hr S I ea rx hsp fun b s' H' I' q => wpAny_pure ⟨.bl (!b), H', I', rfl, q⟩)
end
end My

set_option Elab.async false
set_option linter.all false
set_option maxRecDepth 100000
set_option maxHeartbeats 4000000
/-! own library, part 9: items and lengths of a list or a text -/
namespace My
open PySem PySem.Spec PyProof.Rows L2
section
variable {X : Cx}
/-- x[i], x a tracked list or a text -/
def mIxA : R2 := fun x y H Q => mIxL x y H Q ∨ rIxS x y H Q
theorem ixA : IxR X mIxA := IxR.or ixL ix_str
def mLenA : List V → Hp → VK → Prop := fun xs H Q => mLenL xs H Q ∨ mLenS xs H Q
theorem lenA : CallR X (.builtin "len") mLenA := CallR.or lenL lenS
end
end My
namespace My
open PySem PySem.Spec PyProof.Rows L2
section
variable {X : Cx}
/-- x in (e, ..): the tuple isn't tracked -/
def tInT (neg : Bool) (ta : TE) (t : TA) : TE := fun σ H Q => ta σ H fun x H1 => t σ H1 fun xs H2 => xs.length ≤ sizeLine ∧ flatV x = true ∧ xs.all flatV = true ∧ Q (.bl (if neg then !inV x xs else inV x xs)) H2
theorem pe_inT {a : Expr} {es : List Expr} {x1 : Nat} {ta : TE} {t : TA} {p2 pos : Pos} (ha : PE X a ta) (h : PA X es t) (hm : behindInMarks .In (.Tuple es x1 p2) = false := by rfl) : PE X (.Compare a [.In] [.Tuple es x1 p2] pos) (tInT false ta t) := by
  refine ⟨fun pins s σ H Q I hq => ?_⟩
  refine wpAny_Compare1 (thn (ha.run pins s σ H _ I hq) fun v s1 ⟨x, H1, I1, rx, q1⟩ => ?_) hm
  refine wpAny_Tuple_spliced (thn (h.run p2 pins s1 σ H1 _ I1 q1) fun us s2 ⟨xs, H2, I2, r, z, fx, fs, q⟩ => ⟨by rw [← r.length]; exact z, ?_⟩)
  refine SeqAt.in_tupleAt (items := us.toArray) (eqU x) ⟨_, Heap.get?_push_size _ rfl, rfl, _, rfl⟩ (fun w hw => mem_eqAt rx fx r fs w (by simpa using hw)) ⟨.bl _, H2, I2.kept (t' := s2.toks) (fun b u e => Heap.get?_push_of_some _ e), rfl, ?_⟩
  rw [show us.toArray.any (eqU x) = us.any (eqU x) by simp, any_eqU r fs]
  exact q
theorem pe_notInT {a : Expr} {es : List Expr} {x1 : Nat} {ta : TE} {t : TA} {p2 pos : Pos} (ha : PE X a ta) (h : PA X es t) (hm : behindInMarks .NotIn (.Tuple es x1 p2) = false := by rfl) : PE X (.Compare a [.NotIn] [.Tuple es x1 p2] pos) (tInT true ta t) := by
  refine ⟨fun pins s σ H Q I hq => ?_⟩
  refine wpAny_Compare1 (thn (ha.run pins s σ H _ I hq) fun v s1 ⟨x, H1, I1, rx, q1⟩ => ?_) hm
  refine wpAny_Tuple_spliced (thn (h.run p2 pins s1 σ H1 _ I1 q1) fun us s2 ⟨xs, H2, I2, r, z, fx, fs, q⟩ => ⟨by rw [← r.length]; exact z, ?_⟩)
  refine SeqAt.notIn_tupleAt (items := us.toArray) (eqU x) ⟨_, Heap.get?_push_size _ rfl, rfl, _, rfl⟩ (fun w hw => mem_eqAt rx fx r fs w (by simpa using hw)) ⟨.bl _, H2, I2.kept (t' := s2.toks) (fun b u e => Heap.get?_push_of_some _ e), rfl, ?_⟩
  rw [show us.toArray.any (eqU x) = us.any (eqU x) by simp, any_eqU r fs]
  exact q
end
theorem ofS_eq (a b : String) : (Str.ofString a = Str.ofString b) = (a = b) := by
  apply propext
  constructor
  · intro h
    rw [Str.ofString_eq_toList, Str.ofString_eq_toList] at h
    injection h with h
    have h1 : a.toList.map Char.toNat = b.toList.map Char.toNat := by
      have := congrArg Array.toList h
      simpa using this
    have inj : ∀ x y : List Char, x.map Char.toNat = y.map Char.toNat → x = y := by
      intro x
      induction x with
      | nil => intro y h; cases y with
        | nil => rfl
        | cons c y => cases h
      | cons c x ih => intro y h; cases y with
        | nil => cases h
        | cons d y =>
          rw [List.map_cons, List.map_cons] at h
          injection h with h2 h3
          rw [Char.toNat_inj.mp h2, ih y h3]
    exact String.toList_inj.mp (inj _ _ h1)
  · intro h; rw [h]
theorem inV_nil (x : V) : inV x [] = false := rfl
theorem inV_str (x y : Str) (r : List V) : inV (.str x) (.str y :: r) = (decide (x = y) || inV (.str x) r) := by
  unfold inV
  rw [List.any_cons]
  congr 1
  by_cases h : x = y
  · subst h; simp [eqV]
  · have h2 : ¬ y = x := fun e => h e.symm
    simp [h, h2, eqV]
theorem flatV_str (x : Str) : flatV (.str x) = true := rfl
theorem flatV_int (x : Int) : flatV (.int x) = true := rfl
theorem flatV_non : flatV .non = true := rfl
def mIntB : List V → Hp → VK → Prop := fun xs H Q => ∃ k, xs = [.bl k] ∧ Q (.int (if k then 1 else 0)) H
theorem intB {X : Cx} : CallR X (.type "int") mIntB := CallR.imp call_int1 fun x H Q ⟨i, a, b⟩ => .inr ⟨i, a, b⟩
end My
namespace My
open PySem PySem.Spec PyProof.Rows L2
section
variable {X : Cx}
theorem pt_inT {a : Expr} {es : List Expr} {x1 : Nat} {ta : TE} {t : TA} {p2 pos : Pos} (ha : PE X a ta) (h : PA X es t) (hm : behindInMarks .In (.Tuple es x1 p2) = false := by rfl) : PT X (.Compare a [.In] [.Tuple es x1 p2] pos) (tTest (tInT false ta t)) := by
  refine ⟨fun pins s σ H Q I hq => ?_⟩
  refine wpAny_isTrue_Compare1 (thn (ha.run pins s σ H _ I hq) fun v s1 ⟨x, H1, I1, rx, q1⟩ => ?_) hm
  refine wpAny_Tuple_spliced (thn (h.run p2 pins s1 σ H1 _ I1 q1) fun us s2 ⟨xs, H2, I2, r, z, fx, fs, q⟩ => ⟨by rw [← r.length]; exact z, ?_⟩)
  refine SeqAt.in_tupleAt (items := us.toArray) (eqU x) ⟨_, Heap.get?_push_size _ rfl, rfl, _, rfl⟩ (fun w hw => mem_eqAt rx fx r fs w (by simpa using hw)) ?_
  rw [show us.toArray.any (eqU x) = us.any (eqU x) by simp, any_eqU r fs]
  obtain ⟨k, e, q⟩ := q
  have e2 : (xs.any fun y => eqV y x) = k := by injection e
  rw [e2]
  exact wpAny_truthy_bool ⟨H2, I2.kept (t' := s2.toks) (fun b u e => Heap.get?_push_of_some _ e), q⟩
theorem pt_notInT {a : Expr} {es : List Expr} {x1 : Nat} {ta : TE} {t : TA} {p2 pos : Pos} (ha : PE X a ta) (h : PA X es t) (hm : behindInMarks .NotIn (.Tuple es x1 p2) = false := by rfl) : PT X (.Compare a [.NotIn] [.Tuple es x1 p2] pos) (tTest (tInT true ta t)) := by
  refine ⟨fun pins s σ H Q I hq => ?_⟩
  refine wpAny_isTrue_Compare1 (thn (ha.run pins s σ H _ I hq) fun v s1 ⟨x, H1, I1, rx, q1⟩ => ?_) hm
  refine wpAny_Tuple_spliced (thn (h.run p2 pins s1 σ H1 _ I1 q1) fun us s2 ⟨xs, H2, I2, r, z, fx, fs, q⟩ => ⟨by rw [← r.length]; exact z, ?_⟩)
  refine SeqAt.notIn_tupleAt (items := us.toArray) (eqU x) ⟨_, Heap.get?_push_size _ rfl, rfl, _, rfl⟩ (fun w hw => mem_eqAt rx fx r fs w (by simpa using hw)) ?_
  rw [show us.toArray.any (eqU x) = us.any (eqU x) by simp, any_eqU r fs]
  obtain ⟨k, e, q⟩ := q
  have e2 : (!(xs.any fun y => eqV y x)) = k := by injection e
  rw [e2]
  exact wpAny_truthy_bool ⟨H2, I2.kept (t' := s2.toks) (fun b u e => Heap.get?_push_of_some _ e), q⟩
/-! ### {k: v, ..} with distinct keys -/
theorem exk_nil {P : List (Key × V) → Prop} : (∃ kvs : List (Key × V), ([] : List (V × V)) = kvs.map (fun kv => (kV kv.1, kv.2)) ∧ P kvs) = P [] := by
  apply propext
  constructor
  · rintro ⟨kvs, e, h⟩
    cases kvs with
    | nil => exact h
    | cons _ _ => cases e
  · intro h; exact ⟨[], rfl, h⟩
theorem exk_str {P : List (Key × V) → Prop} {x : Str} {v : V} {ps : List (V × V)} : (∃ kvs : List (Key × V), ((.str x, v) :: ps) = kvs.map (fun kv => (kV kv.1, kv.2)) ∧ P kvs) = (∃ kvs : List (Key × V), ps = kvs.map (fun kv => (kV kv.1, kv.2)) ∧ P ((.inr x, v) :: kvs)) := by
  apply propext
  constructor
  · rintro ⟨kvs, e, h⟩
    cases kvs with
    | nil => cases e
    | cons kv r =>
      obtain ⟨k, u⟩ := kv
      rw [List.map_cons] at e
      injection e with e1 e2
      injection e1 with e3 e4
      cases k with
      | inl i => cases e3
      | inr z =>
        have : V.str x = V.str z := e3
        injection this with q
        subst q e4
        exact ⟨r, e2, h⟩
  · rintro ⟨kvs, e, h⟩
    exact ⟨(.inr x, v) :: kvs, by rw [List.map_cons, ← e]; rfl, h⟩
theorem putK_new {kvs : List (Key × V)} {k : Key} {v : V} (h : k ∉ kvs.map (·.1)) : putK kvs k v = kvs ++ [(k, v)] := by
  unfold putK
  rw [if_neg]
  intro z
  obtain ⟨kv, h1, h2⟩ := List.any_eq_true.mp z
  exact h (List.mem_map.mpr ⟨kv, h1, of_decide_eq_true h2⟩)
theorem mergeK_new : ∀ (more kvs : List (Key × V)), ((kvs ++ more).map (·.1)).Nodup → mergeK kvs more = kvs ++ more
  | [], kvs, _ => by simp [mergeK]
  | (k, v) :: r, kvs, h => by
    have hn : k ∉ kvs.map (·.1) := by
      rw [List.map_append, List.map_cons] at h
      intro z
      exact (List.nodup_append.mp h).2.2 _ z _ List.mem_cons_self rfl
    show mergeK (putK kvs k v) r = _
    rw [putK_new hn, mergeK_new r (kvs ++ [(k, v)]) (by simpa using h)]
    simp
theorem mergeK_lit {kvs : List (Key × V)} (h : (kvs.map (·.1)).Nodup) : mergeK [] kvs = kvs := by
  have := mergeK_new kvs [] (by simpa using h)
  simpa using this
end
end My
namespace My
open PySem PySem.Spec PyProof.Rows L2
theorem leS0 : (0 ≤ sizeLine) = True := eq_true (by decide)
theorem leS1 : (1 ≤ sizeLine) = True := eq_true (by decide)
theorem leS2 : (2 ≤ sizeLine) = True := eq_true (by decide)
theorem leS3 : (3 ≤ sizeLine) = True := eq_true (by decide)
theorem leS4 : (4 ≤ sizeLine) = True := eq_true (by decide)
theorem leS5 : (5 ≤ sizeLine) = True := eq_true (by decide)
theorem leS6 : (6 ≤ sizeLine) = True := eq_true (by decide)
theorem leS7 : (7 ≤ sizeLine) = True := eq_true (by decide)
theorem leS8 : (8 ≤ sizeLine) = True := eq_true (by decide)
theorem leS9 : (9 ≤ sizeLine) = True := eq_true (by decide)
theorem leS10 : (10 ≤ sizeLine) = True := eq_true (by decide)
theorem leS11 : (11 ≤ sizeLine) = True := eq_true (by decide)
theorem leS12 : (12 ≤ sizeLine) = True := eq_true (by decide)
/-- a list of two lists, picked twice -/
theorem pick22 {H : Hp} {a b c d : V} {s r : Bool} {Q : VK} (k : ∀ H', Same H H' → Q (if s = true then (if r = true then d else c) else (if r = true then b else a)) H') : ∀ p, H p = none → ∀ p1, upd H p (.lst [a, b]) p1 = none → ∀ p2, upd (upd H p (.lst [a, b])) p1 (.lst [c, d]) p2 = none →
    ∃ x, atI [V.ref p, V.ref p1] (if s = true then 1 else 0) = some x ∧ ∃ p3, x = V.ref p3 ∧ ∃ y, upd (upd (upd H p (.lst [a, b])) p1 (.lst [c, d])) p2 (.lst [V.ref p, V.ref p1]) p3 = some (.lst y) ∧ ∃ z, atI y (if r = true then 1 else 0) = some z ∧ Q z (upd (upd (upd H p (.lst [a, b])) p1 (.lst [c, d])) p2 (.lst [V.ref p, V.ref p1])) := by
  intro p hp p1 hp1 p2 hp2
  have e1 : p ≠ p1 := fun e => by rw [← e, upd_same] at hp1; cases hp1
  have e2 : p1 ≠ p2 := fun e => by rw [← e, upd_same] at hp2; cases hp2
  have e3 : p ≠ p2 := fun e => by rw [← e, upd_ne e1, upd_same] at hp2; cases hp2
  have K := k _ (Same.upd_new (Same.upd_new (Same.new hp) hp1) hp2 (o := .lst [V.ref p, V.ref p1]))
  cases s
  · refine ⟨.ref p, rfl, p, rfl, [a, b], by rw [upd_ne e3, upd_ne e1, upd_same], ?_⟩
    cases r
    · exact ⟨a, rfl, K⟩
    · exact ⟨b, rfl, K⟩
  · refine ⟨.ref p1, rfl, p1, rfl, [c, d], by rw [upd_ne e2, upd_same], ?_⟩
    cases r
    · exact ⟨c, rfl, K⟩
    · exact ⟨d, rfl, K⟩
end My
namespace My
open PySem PySem.Spec PyProof.Rows L2
theorem none_of {H H2 : Hp} {p : Addr} (s : Same H H2) (h : H2 p = none) : H p = none := by
  cases q : H p with
  | none => rfl
  | some o => rw [s _ _ q] at h; cases h
theorem Kp.upd {d : Addr} {H G : Hp} {o : HO} (k : Kp d H G) : Kp d H (L2.upd G d o) := fun b u n h => by rw [upd_ne n]; exact k b u n h
theorem Kp.new {d p : Addr} {H G : Hp} {o : HO} (k : Kp d H G) (hp : G p = none) : Kp d H (L2.upd G p o) := fun b u n h => Same.new hp _ _ (k b u n h)
theorem cut1 (a : V) (l : List V) : cutV (a :: l) (some 1) none = l := by
  have e1 : HT.sIx (l.length + 1) 0 (some 1) = 1 := by
    simp only [HT.sIx]
    split <;> omega
  have e2 : HT.sIx (l.length + 1) (l.length + 1) none = l.length + 1 := rfl
  unfold cutV
  rw [List.length_cons, e1, e2]
  simp
end My
namespace My
open PySem PySem.Spec PyProof.Rows L2
def mBoolB : List V → Hp → VK → Prop := fun xs H Q => ∃ k, xs = [.bl k] ∧ Q (.bl k) H
theorem boolB {X : Cx} : CallR X (.type "bool") mBoolB := CallR.imp call_bool1 fun x H Q ⟨i, a, b⟩ => .inr ⟨i, a, b⟩
end My
namespace My
open PySem PySem.Spec PyProof.Rows L2
/-- a == [], a a tracked list -/
def rEqNil (neg : Bool) : R2 := fun x y H Q => ∃ a b xs, x = .ref a ∧ y = .ref b ∧ H a = some (.lst xs) ∧ H b = some (.lst []) ∧ Q (.bl (if neg then !xs.isEmpty else xs.isEmpty)) H
theorem rc_nil {X : Cx} {pins : List (Addr × Obj)} {σ : L2.St} {H : Hp} {s : Shared} {a b : Addr} {xs : List V} (hu : X.A.units + 64 < cLine) (I : L2.Inv X pins σ H s) (ha : H a = some (.lst xs)) (hb : H b = some (.lst [])) : SeqAt.RcAt X.A s (.ref a) (.ref b) xs.isEmpty := by
  obtain ⟨us, r1, p1, _⟩ := I.list (SqL.of ha)
  obtain ⟨ws, r2, p2, _⟩ := I.list (SqL.of hb)
  cases r2
  cases r1 with
  | nil => exact SeqAt.RcAt.lists (e := fun _ => true) p1.isList p2.isList rfl (by omega) (fun j h1 h2 => absurd h1 (by simp))
  | cons rv rr => exact SeqAt.RcAt.lists_lengths p1.isList p2.isList (by simp) (by omega)
theorem op_eqNil {X : Cx} (hu : X.A.units + 64 < cLine) : OpR X (compareOp .Eq) (rEqNil false) := by
  intro pins s σ H x y v u Q I rx ry h
  obtain ⟨a, b, xs, rfl, rfl, ha, hb, q⟩ := h
  cases rx
  cases ry
  exact rc_nil hu I ha hb _ _ _ _ ⟨.bl _, H, I, rfl, q⟩
end My
namespace My
open PySem PySem.Spec PyProof.Rows L2
theorem none_kp {d p : Addr} {H G : Hp} {u : HO} (k : Kp d H G) (hd : G d = some u) (hp : G p = none) : H p = none := by
  cases e : H p with
  | none => rfl
  | some o =>
    by_cases h : p = d
    · rw [h, hd] at hp; cases hp
    · rw [k _ _ h e] at hp; cases hp
/-- data that lies in what is new in H' (over H) -/
def DaF (H H' : Hp) (v : V) (d : PyData) : Prop := ∀ H'', (∀ c o, H c = none → H' c = some o → H'' c = some o) → Da H'' v d
theorem DaF.here {H H' : Hp} {v : V} {d : PyData} (h : DaF H H' v d) : Da H' v d := h H' fun _ _ _ e => e
/-- a join behind the first statement -/
theorem seq_cut {s1 s2 : TS} {D : Ends} {σ : L2.St} {H : Hp} (P : L2.St → Hp → Prop) (h1 : ∀ R : L2.St → Hp → Prop, (∀ σ' H', P σ' H' → R σ' H') → s1 { D with nx := R } σ H) (h2 : ∀ σ' H', P σ' H' → s2 D σ' H') : tSeq s1 s2 D σ H := h1 _ h2
end My

set_option Elab.async false
set_option linter.all false
set_option maxRecDepth 100000
set_option maxHeartbeats 4000000
/-! own library, part 10: calls with keywords -/
namespace My
open PySem PySem.Spec PyProof.Rows L2
abbrev SpK := List V → List V → Hp → VK → XK → Prop
/-- a promise for n positional values and the keywords ks -/
def FnK (P : Program) (w : World) (K : PySem.W.Frag) (mg : Str → Option Value) (base : Heap) (CX : CXT) (k : Nat) (f : Addr) (n : Nat) (ks : List Str) (sp : SpK) : Prop :=
  ∀ (A : Around) (outer : List Env) (s : Shared) (H : Hp) (us ws : List Value) (vs zs : List V) (Q : VK) (E : XK), Room k A → Env0 P w K mg base A outer s H → Vals vs us → Vals zs ws → vs.length = n → zs.length = ks.length → sp vs zs H Q E →
    codeAny (model P w) A (.call (.ref f) ⟨us, ks.zip ws⟩) (CR CX outer P w H s Q E) s
theorem FnK.of {P : Program} {w : World} {K : PySem.W.Frag} {mg : Str → Option Value} {base : Heap} {CX : CXT} {k n : Nat} {f : Addr} {fd : FuncData} {ps ks : List Str} {sp : Sp} {g : List Value → List Value → List Value} {gV : List V → List V → List V} (F : FnOk P w K mg base CX k f fd ps sp) (hb : KBn K fd ps n ks g gV) :
    FnK P w K mg base CX k f n ks (fun vs zs => sp (gV vs zs)) := fun A outer s H us ws vs zs Q E hr e0 r rz l1 l2 hs =>
  F.run A outer s H ⟨us, ks.zip ws⟩ (g us ws) (gV vs zs) Q E hr e0 (hb.to s us ws (e0.mod.kin.keeps fun b o e => (e0.bs b o e).1) (r.length.symm.trans l1) (rz.length.symm.trans l2)) (hb.rel r rz) hs
section
variable {X : Cx} {CX : CXT} {k n : Nat} {f C : Addr} {ks : List Str} {sp : SpK} {E : L2.St → XK} {x m : Str} {e o : Expr} {es : List Expr} {kws : List Keyword} {ta : TE} {t tk : TA} {p pos apos : Pos}
theorem run_fnK {pins : List (Addr × Obj)} {σ : L2.St} {H : Hp} {s : Shared} {Q : VK} {us ws : List Value} {vs zs : List V} (F : FnK X.prog X.w X.K X.mg X.base CX k f n ks sp) (hr : Room k X.A) (hx : PassesAt CX X σ (E σ)) (I : L2.Inv X pins σ H s) (r : Vals vs us) (rz : Vals zs ws) (l1 : vs.length = n) (l2 : zs.length = ks.length) (h : sp vs zs H Q (E σ)) :
    codeAny (model X.prog X.w) X.A (.call (.ref f) ⟨us, ks.zip ws⟩) (fun r s' => match r with | .ok (.ret v) => EP X pins σ Q v s' | .ok _ => False | .error e => X.xe e s') s := by
  refine codeAny_mono (F X.A X.stack s H us ws vs zs Q (E σ) hr I.env0 r rz l1 l2 h) fun r s' hq => ?_
  cases r with
  | error e => exact hx pins H s e s' I hq
  | ok fl =>
    cases fl with
    | ret u => exact I.after hq
    | next => exact False.elim hq
    | brk => exact False.elim hq
    | cont => exact False.elim hq
/-- f(e, .., k = v, ..) -/
def tCallKW (n m : Nat) (sp : SpK) (E : L2.St → XK) (t tk : TA) : TE := fun σ H Q => t σ H fun vs H1 => tk σ H1 fun zs H2 => vs.length = n ∧ zs.length = m ∧ sp vs zs H2 Q (E σ)
theorem pe_callKW (F : FnK X.prog X.w X.K X.mg X.base CX k f n ks sp) (hr : Room k X.A) (hg : Gl X x) (hm : X.mg x = some (.ref f)) (hk : PySem.W.keepIn X.K (.ref f) = true) (hx : ∀ σ, PassesAt CX X σ (E σ)) (ha : PA X (e :: es) t) (hkw : PK X kws tk)
    (hall : (backToKw pos (keywordEach kws X.env)).all (·.1.isSome) = true := by rfl) (hks : (backToKw pos (keywordEach kws X.env)).filterMap (·.1) = ks := by rfl) (hdb : (x == ("__debug__" : Str)) = false := by decide)
    (he : starEach (e :: es) X.env = (false, eval e X.env) :: starEach es X.env := by rfl) (hpl : ((backTo pos (starEach (e :: es) X.env)).any (·.1) || (backToKw pos (keywordEach kws X.env)).any (·.1.isNone)) = false := by rfl) :
    PE X (.Call (.Name x p) (e :: es) kws pos) (tCallKW n ks.length sp E t tk) := by
  refine ⟨fun pins s σ H Q I h => ?_⟩
  refine wpAny_Call_Name_kw (ld_glob I hg hm ?_ hdb)
  refine PySem.W.callWith_KW (h₀ := X.base) I.ok.mod.kin hk hall (thn (ha.run pos pins s σ H _ I h) fun us s1 ⟨vs, H1, I1, r, q⟩ => ?_) hpl he
  refine thn (hkw.run pos pins s1 σ H1 _ I1 q) fun ws s2 ⟨zs, H2, I2, rz, l1, l2, q2⟩ => ⟨I2.kIn, ?_⟩
  rw [hks]
  exact wpAny_call (run_fnK F hr (hx σ) I2 r rz l1 l2 q2)
theorem pe_callKW0 (F : FnK X.prog X.w X.K X.mg X.base CX k f 0 ks sp) (hr : Room k X.A) (hg : Gl X x) (hm : X.mg x = some (.ref f)) (hk : PySem.W.keepIn X.K (.ref f) = true) (hx : ∀ σ, PassesAt CX X σ (E σ)) (hkw : PK X kws tk)
    (hall : (backToKw pos (keywordEach kws X.env)).all (·.1.isSome) = true := by rfl) (hks : (backToKw pos (keywordEach kws X.env)).filterMap (·.1) = ks := by rfl) (hdb : (x == ("__debug__" : Str)) = false := by decide)
    (hpl : ((backTo pos (starEach [] X.env)).any (·.1) || (backToKw pos (keywordEach kws X.env)).any (·.1.isNone)) = false := by rfl) :
    PE X (.Call (.Name x p) [] kws pos) (tCallKW 0 ks.length sp E tNil tk) := by
  refine ⟨fun pins s σ H Q I h => ?_⟩
  refine wpAny_Call_Name_kw (ld_glob I hg hm ?_ hdb)
  refine PySem.W.callWith_KW0 (h₀ := X.base) I.ok.mod.kin hk hall ?_ hpl
  refine thn (hkw.run pos pins s σ H _ I h) fun ws s2 ⟨zs, H2, I2, rz, l1, l2, q2⟩ => ⟨I2.kIn, ?_⟩
  rw [hks]
  exact wpAny_call (run_fnK (us := []) (vs := []) F hr (hx σ) I2 .nil rz rfl l2 q2)
/-- o.m(e, .., k = v, ..) -/
def tMethKW (C : Addr) (m : Str) (n j : Nat) (sp : SpK) (E : L2.St → XK) (ta : TE) (t tk : TA) : TE := fun σ H Q => ta σ H fun x H1 => ∃ a dx fs, x = .ref a ∧ H1 a = some (.ins C dx fs) ∧ fs.lookup m = none ∧ t σ H1 fun vs H2 => tk σ H2 fun zs H3 => vs.length = n ∧ zs.length = j ∧ sp (x :: vs) zs H3 Q (E σ)
theorem pe_methKW0 {pl : Sem Bool} (he : PE X o ta) (c : Cls X.K C) (hm : Meth X.K C m f) (F : FnK X.prog X.w X.K X.mg X.base CX k f 1 ks sp) (hr : Room k X.A) (hx : ∀ σ, PassesAt CX X σ (E σ)) (hkw : PK X kws tk)
    (hall : (backToKw pos (keywordEach kws X.env)).all (·.1.isSome) = true := by rfl) (hks : (backToKw pos (keywordEach kws X.env)).filterMap (·.1) = ks := by rfl)
    (hpl : ((backTo pos (starEach [] X.env)).any (·.1) || (backToKw pos (keywordEach kws X.env)).any (·.1.isNone)) = false := by rfl)
    (ht : eval (.Call (.Attribute o m apos) [] kws pos) X.env = (do
      let ov ← eval o X.env
      standAt apos.atName
      let (f, first) ← holding [ov] (getMethod ov m pl)
      callWith pos f first (backTo pos (starEach [] X.env)) (backToKw pos (keywordEach kws X.env))) := by rfl) :
    PE X (.Call (.Attribute o m apos) [] kws pos) (tMethKW C m 0 ks.length sp E ta tNil tk) := by
  refine ⟨fun pins s σ H Q I h => ?_⟩
  refine PySem.W.methodCall_KW (pl := pl) (thn (he.run pins s σ H _ I h) fun u s1 ⟨x, H1, I1, rx, a, dx, fs, ex, ea, l, q⟩ => ?_) ht
  subst ex
  obtain rfl : u = Value.ref a := rx
  refine getmeth_ok I1 ea c hm l ?_
  refine PySem.W.callWith_KW0 (first := [.ref a]) (h₀ := X.base) I.ok.mod.kin hm.kp hall ?_ hpl
  refine thn (hkw.run pos pins s1 σ H1 _ I1 q) fun ws s2 ⟨zs, H2, I2, rz, l1, l2, q2⟩ => ⟨I2.kIn, ?_⟩
  rw [hks]
  exact wpAny_call (run_fnK (us := [.ref a]) (vs := [.ref a]) F hr (hx σ) I2 (.cons rfl .nil) rz rfl l2 q2)
theorem pe_methKW {pl : Sem Bool} (ho : PE X o ta) (c : Cls X.K C) (hm : Meth X.K C m f) (F : FnK X.prog X.w X.K X.mg X.base CX k f (n + 1) ks sp) (hr : Room k X.A) (hx : ∀ σ, PassesAt CX X σ (E σ)) (ha : PA X (e :: es) t) (hkw : PK X kws tk)
    (hall : (backToKw pos (keywordEach kws X.env)).all (·.1.isSome) = true := by rfl) (hks : (backToKw pos (keywordEach kws X.env)).filterMap (·.1) = ks := by rfl)
    (he : starEach (e :: es) X.env = (false, eval e X.env) :: starEach es X.env := by rfl) (hpl : ((backTo pos (starEach (e :: es) X.env)).any (·.1) || (backToKw pos (keywordEach kws X.env)).any (·.1.isNone)) = false := by rfl)
    (ht : eval (.Call (.Attribute o m apos) (e :: es) kws pos) X.env = (do
      let ov ← eval o X.env
      standAt apos.atName
      let (f, first) ← holding [ov] (getMethod ov m pl)
      callWith pos f first (backTo pos (starEach (e :: es) X.env)) (backToKw pos (keywordEach kws X.env))) := by rfl) :
    PE X (.Call (.Attribute o m apos) (e :: es) kws pos) (tMethKW C m n ks.length sp E ta t tk) := by
  refine ⟨fun pins s σ H Q I h => ?_⟩
  refine PySem.W.methodCall_KW (pl := pl) (thn (ho.run pins s σ H _ I h) fun u s1 ⟨x, H1, I1, rx, a, dx, fs, ex, ea, l, q⟩ => ?_) ht
  subst ex
  obtain rfl : u = Value.ref a := rx
  refine getmeth_ok I1 ea c hm l ?_
  refine PySem.W.callWith_KW (first := [.ref a]) (h₀ := X.base) I.ok.mod.kin hm.kp hall (thn (ha.run pos pins s1 σ H1 _ I1 q) fun us s2 ⟨vs, H2, I2, r, q2⟩ => ?_) hpl he
  refine thn (hkw.run pos pins s2 σ H2 _ I2 q2) fun ws s3 ⟨zs, H3, I3, rz, l1, l2, q3⟩ => ⟨I3.kIn, ?_⟩
  rw [hks]
  exact wpAny_call (run_fnK (us := .ref a :: us) (vs := .ref a :: vs) F hr (hx σ) I3 (.cons rfl r) rz (congrArg Nat.succ l1) l2 q3)
theorem passA0 (σ : L2.St) : PassesAt CX0 X σ ((fun _ => E0) σ) := fun _ _ _ _ _ _ h => h.elim
end
end My

set_option Elab.async false
set_option linter.all false
set_option maxRecDepth 100000
set_option maxHeartbeats 4000000
/-! own library Av, part 1: values as trees (what no one changes any more is told by its content), live cells by address -/
namespace Av
open PySem PySem.Spec PyProof.Rows L2 My
inductive D where
  | non | bl (b : Bool) | int (i : Int) | str (x : Str) | ty (n : String) | ref (a : Addr)
  | tup (xs : List D) | lst (xs : List D) | rol (xs : List D) | dct (kvs : List (D × D)) | dtt (kvs : List (D × D)) | obj (C : Addr) (fs : List (Str × D)) | exc (a dd C : Addr) (fs : List (Str × D))
inductive AO where
  | lst (xs : List D) | dct (kvs : List (D × D)) | dtt (kvs : List (D × D)) | ins (C : Addr) (fs : List (Str × D))
abbrev AH := Addr → Option AO
def put (A : AH) (a : Addr) (o : AO) : AH := fun b => if b = a then some o else A b
def del (A : AH) (a : Addr) : AH := fun b => if b = a then none else A b
theorem put_same {A : AH} {a : Addr} {o : AO} : put A a o a = some o := by unfold put; rw [if_pos rfl]
theorem put_ne {A : AH} {a b : Addr} {o : AO} (h : b ≠ a) : put A a o b = A b := by unfold put; rw [if_neg h]
theorem put_put {A : AH} {a : Addr} {o u : AO} : put (put A a o) a u = put A a u := by funext b; unfold put; split <;> rfl
theorem del_put {A : AH} {a : Addr} {o : AO} (h : A a = none) : del (put A a o) a = A := by
  funext b; unfold del put
  by_cases e : b = a
  · rw [if_pos e, e, h]
  · rw [if_neg e, if_neg e]
def frz : AO → D
  | .lst xs => .lst xs
  | .dct kvs => .dct kvs
  | .dtt kvs => .dtt kvs
  | .ins C fs => .obj C fs
def sOk (x : Str) : Prop := PySem.PyData.strOk x = true
def dK : Key → D
  | .inl i => .int i
  | .inr x => .str x
def okK : Key → Prop
  | .inl _ => True
  | .inr x => sOk x
def TupE (K : PySem.W.Frag) (H : Hp) (a : Addr) (xs : List V) : Prop := H a = some (.tup xs) ∨ ∃ (o : Obj) (its : Array Value) (n : Nat), K.lookup a = some o ∧ o.cls = .type "tuple" ∧ o.data = .seq its n ∧ its.size ≤ sizeLine ∧ Vals xs its.toList
theorem TupE.sq {K : PySem.W.Frag} {H : Hp} {a : Addr} {xs : List V} (h : TupE K H a xs) : SqT K H a xs := h.imp (fun e => .inl e) id
mutual
inductive Rep (K : PySem.W.Frag) (F : Addr → Prop) (H : Hp) : D → V → Prop
  | non : Rep K F H .non .non
  | bl (b : Bool) : Rep K F H (.bl b) (.bl b)
  | int (i : Int) : Rep K F H (.int i) (.int i)
  | str {x : Str} : sOk x → Rep K F H (.str x) (.str x)
  | ty (n : String) : Rep K F H (.ty n) (.ty n)
  | ref (a : Addr) : Rep K F H (.ref a) (.ref a)
  | tup {a : Addr} {ds : List D} {vs : List V} : TupE K H a vs → Reps K F H ds vs → Rep K F H (.tup ds) (.ref a)
  | lst {a : Addr} {ds : List D} {vs : List V} : F a → H a = some (.lst vs) → Reps K F H ds vs → Rep K F H (.lst ds) (.ref a)
  | rol {a : Addr} {ds : List D} {vs : List V} : F a → Rd H a (.lst vs) → Reps K F H ds vs → Rep K F H (.rol ds) (.ref a)
  | rolK {a : Addr} {ds : List D} {vs : List V} : (∃ (o : Obj) (its : Array Value) (n : Nat), K.lookup a = some o ∧ o.cls = .type "list" ∧ o.dict = none ∧ o.data = .seq its n ∧ its.size ≤ sizeLine ∧ Vals vs its.toList) → Reps K F H ds vs → Rep K F H (.rol ds) (.ref a)
  | dk {a : Addr} {ds : List (D × D)} {vs : List (Key × V)} : F a → Rd H a (.dK vs) → RepK K F H ds vs → Rep K F H (.dct ds) (.ref a)
  | dt {a : Addr} {ds : List (D × D)} {vs : List (List Key × V)} : F a → Rd H a (.dT vs) → RepT K F H ds vs → Rep K F H (.dtt ds) (.ref a)
  | obj {a C dx : Addr} {ds : List (Str × D)} {vs : List (Str × V)} : F a → H a = some (.ins C dx vs) → RepF K F H ds vs → Rep K F H (.obj C ds) (.ref a)
  | exc {a dd C : Addr} {ds : List (Str × D)} {vs : List (Str × V)} : H dd = some (.xd vs) → RepF K F H ds vs → Rep K F H (.exc a dd C ds) (.ref a)
inductive Reps (K : PySem.W.Frag) (F : Addr → Prop) (H : Hp) : List D → List V → Prop
  | nil : Reps K F H [] []
  | cons {d : D} {v : V} {ds : List D} {vs : List V} : Rep K F H d v → Reps K F H ds vs → Reps K F H (d :: ds) (v :: vs)
inductive RepF (K : PySem.W.Frag) (F : Addr → Prop) (H : Hp) : List (Str × D) → List (Str × V) → Prop
  | nil : RepF K F H [] []
  | cons {n : Str} {d : D} {v : V} {ds : List (Str × D)} {vs : List (Str × V)} : Rep K F H d v → RepF K F H ds vs → RepF K F H ((n, d) :: ds) ((n, v) :: vs)
inductive RepK (K : PySem.W.Frag) (F : Addr → Prop) (H : Hp) : List (D × D) → List (Key × V) → Prop
  | nil : RepK K F H [] []
  | cons {k : Key} {d : D} {v : V} {ds : List (D × D)} {vs : List (Key × V)} : okK k → Rep K F H d v → RepK K F H ds vs → RepK K F H ((dK k, d) :: ds) ((k, v) :: vs)
inductive RepT (K : PySem.W.Frag) (F : Addr → Prop) (H : Hp) : List (D × D) → List (List Key × V) → Prop
  | nil : RepT K F H [] []
  | cons {k : List Key} {d : D} {v : V} {ds : List (D × D)} {vs : List (List Key × V)} : (∀ x ∈ k, okK x) → Rep K F H d v → RepT K F H ds vs → RepT K F H ((.tup (k.map dK), d) :: ds) ((k, v) :: vs)
end
/-- what a represented value leans on is kept -/
structure Kept (F F' : Addr → Prop) (H H' : Hp) : Prop where
  f : ∀ a, F a → F' a
  t : ∀ a xs, H a = some (.tup xs) → H' a = some (.tup xs)
  m : ∀ a xs, F a → H a = some (.lst xs) → H' a = some (.lst xs)
  l : ∀ a xs, F a → Rd H a (.lst xs) → Rd H' a (.lst xs)
  k : ∀ a xs, F a → Rd H a (.dK xs) → Rd H' a (.dK xs)
  d : ∀ a xs, F a → Rd H a (.dT xs) → Rd H' a (.dT xs)
  i : ∀ a C dx fs, F a → H a = some (.ins C dx fs) → H' a = some (.ins C dx fs)
  x : ∀ a fs, H a = some (.xd fs) → H' a = some (.xd fs)
mutual
theorem Rep.kept {K : PySem.W.Frag} {F F' : Addr → Prop} {H H' : Hp} (s : Kept F F' H H') : ∀ {d : D} {v : V}, Rep K F H d v → Rep K F' H' d v
  | _, _, .non => .non
  | _, _, .bl b => .bl b
  | _, _, .int i => .int i
  | _, _, .str h => .str h
  | _, _, .ty n => .ty n
  | _, _, .ref a => .ref a
  | _, _, .tup e r => .tup (e.imp (s.t _ _) id) (Reps.kept s r)
  | _, _, .lst f e r => .lst (s.f _ f) (s.m _ _ f e) (Reps.kept s r)
  | _, _, .rol f e r => .rol (s.f _ f) (s.l _ _ f e) (Reps.kept s r)
  | _, _, .rolK e r => .rolK e (Reps.kept s r)
  | _, _, .dk f e r => .dk (s.f _ f) (s.k _ _ f e) (RepK.kept s r)
  | _, _, .dt f e r => .dt (s.f _ f) (s.d _ _ f e) (RepT.kept s r)
  | _, _, .obj f e r => .obj (s.f _ f) (s.i _ _ _ _ f e) (RepF.kept s r)
  | _, _, .exc e r => .exc (s.x _ _ e) (RepF.kept s r)
theorem Reps.kept {K : PySem.W.Frag} {F F' : Addr → Prop} {H H' : Hp} (s : Kept F F' H H') : ∀ {d : List D} {v : List V}, Reps K F H d v → Reps K F' H' d v
  | _, _, .nil => .nil
  | _, _, .cons a r => .cons (Rep.kept s a) (Reps.kept s r)
theorem RepF.kept {K : PySem.W.Frag} {F F' : Addr → Prop} {H H' : Hp} (s : Kept F F' H H') : ∀ {d : List (Str × D)} {v : List (Str × V)}, RepF K F H d v → RepF K F' H' d v
  | _, _, .nil => .nil
  | _, _, .cons a r => .cons (Rep.kept s a) (RepF.kept s r)
theorem RepK.kept {K : PySem.W.Frag} {F F' : Addr → Prop} {H H' : Hp} (s : Kept F F' H H') : ∀ {d : List (D × D)} {v : List (Key × V)}, RepK K F H d v → RepK K F' H' d v
  | _, _, .nil => .nil
  | _, _, .cons o a r => .cons o (Rep.kept s a) (RepK.kept s r)
theorem RepT.kept {K : PySem.W.Frag} {F F' : Addr → Prop} {H H' : Hp} (s : Kept F F' H H') : ∀ {d : List (D × D)} {v : List (List Key × V)}, RepT K F H d v → RepT K F' H' d v
  | _, _, .nil => .nil
  | _, _, .cons o a r => .cons o (Rep.kept s a) (RepT.kept s r)
end
/-- a live object -/
inductive RepO (K : PySem.W.Frag) (F : Addr → Prop) (H : Hp) : AO → HO → Prop
  | lst {ds : List D} {vs : List V} : Reps K F H ds vs → RepO K F H (.lst ds) (.lst vs)
  | dk {ds : List (D × D)} {vs : List (Key × V)} : RepK K F H ds vs → RepO K F H (.dct ds) (.dK vs)
  | dt {ds : List (D × D)} {vs : List (List Key × V)} : RepT K F H ds vs → RepO K F H (.dtt ds) (.dT vs)
  | ins {C dx : Addr} {ds : List (Str × D)} {vs : List (Str × V)} : RepF K F H ds vs → RepO K F H (.ins C ds) (.ins C dx vs)
section
variable {K : PySem.W.Frag} {F F' F'' : Addr → Prop} {H H' H'' : Hp} {A A' A'' : AH}
theorem RepO.kept (s : Kept F F' H H') {o : AO} {ho : HO} (r : RepO K F H o ho) : RepO K F' H' o ho := by
  cases r with
  | lst r => exact .lst (r.kept s)
  | dk r => exact .dk (r.kept s)
  | dt r => exact .dt (r.kept s)
  | ins r => exact .ins (r.kept s)
theorem RepO.frz {a : Addr} (f : F a) {o : AO} {ho : HO} (e : H a = some ho) (r : RepO K F H o ho) : Rep K F H (frz o) (.ref a) := by
  cases r with
  | lst r => exact .lst f e r
  | dk r => exact .dk f (.of e) r
  | dt r => exact .dt f (.of e) r
  | ins r => exact .obj f e r
structure Rel (K : PySem.W.Frag) (F : Addr → Prop) (A : AH) (H : Hp) : Prop where
  live : ∀ a o, A a = some o → ¬ F a ∧ ∃ ho, H a = some ho ∧ RepO K F H o ho
  there : ∀ a, F a → ∃ ho, H a = some ho
structure Ext (F : Addr → Prop) (A : AH) (H : Hp) (F' : Addr → Prop) (A' : AH) (H' : Hp) : Prop where
  f : ∀ a, F a → F' a
  k : ∀ a o, A a = none → H a = some o → A' a = none ∧ H' a = some o
  g : ∀ a o, A a = none → H a = some o → F' a → F a
theorem Ext.refl : Ext F A H F A H := ⟨fun _ h => h, fun _ _ h e => ⟨h, e⟩, fun _ _ _ _ h => h⟩
theorem Ext.trans (x : Ext F A H F' A' H') (y : Ext F' A' H' F'' A'' H'') : Ext F A H F'' A'' H'' := ⟨fun a h => y.f a (x.f a h), fun a o h e => y.k a o (x.k a o h e).1 (x.k a o h e).2, fun a o h e f => x.g a o h e (y.g a o (x.k a o h e).1 (x.k a o h e).2 f)⟩
theorem Rel.dead (R : Rel K F A H) {a : Addr} (f : F a) : A a = none := by
  cases e : A a with
  | none => rfl
  | some o => exact absurd f (R.live a o e).1
theorem Rel.dead2 (R : Rel K F A H) {a : Addr} {ho : HO} (e : H a = some ho) (n : ∀ o, ¬ RepO K F H o ho) : A a = none := by
  cases q : A a with
  | none => rfl
  | some o =>
    obtain ⟨_, h2, e2, r⟩ := R.live a o q
    rw [e] at e2; cases e2
    exact absurd r (n o)
theorem Rel.fresh (R : Rel K F A H) {p : Addr} (hp : H p = none) : A p = none ∧ ¬ F p := by
  constructor
  · cases q : A p with
    | none => rfl
    | some o => obtain ⟨_, _, e, _⟩ := R.live p o q; rw [hp] at e; cases e
  · intro f
    obtain ⟨_, e⟩ := R.there p f
    rw [hp] at e; cases e
theorem Rd.keep {a : Addr} {u : HO} (h : ∀ o, H a = some o → H' a = some o) (r : Rd H a u) : Rd H' a u := by
  rcases r with r | ⟨o, r⟩
  · exact .inl (h _ r)
  · exact .inr ⟨o, h _ r⟩
theorem Ext.kept (R : Rel K F A H) (x : Ext F A H F' A' H') : Kept F F' H H' where
  f := x.f
  t := fun a xs r => (x.k _ _ (R.dead2 r (fun o h => by cases h)) r).2
  m := fun a xs f e => (x.k _ _ (R.dead f) e).2
  l := fun a xs f r => Rd.keep (fun o e => (x.k _ _ (R.dead f) e).2) r
  k := fun a xs f r => Rd.keep (fun o e => (x.k _ _ (R.dead f) e).2) r
  d := fun a xs f r => Rd.keep (fun o e => (x.k _ _ (R.dead f) e).2) r
  i := fun a C dx fs f e => (x.k _ _ (R.dead f) e).2
  x := fun a fs e => (x.k _ _ (R.dead2 e (fun o h => by cases h)) e).2
theorem ext_new (R : Rel K F A H) {p : Addr} {ho : HO} (hp : H p = none) : Ext F A H F A (upd H p ho) := ⟨fun _ h => h, fun a o h e => ⟨h, by rw [upd_ne (ne_of_none e hp)]; exact e⟩, fun _ _ _ _ h => h⟩
theorem Rel.lay (R : Rel K F A H) {p : Addr} {ho : HO} (hp : H p = none) : Rel K F A (upd H p ho) := ⟨fun a o e => by
    obtain ⟨n, h2, e2, r⟩ := R.live a o e
    exact ⟨n, h2, by rw [upd_ne (ne_of_none e2 hp)]; exact e2, r.kept ((ext_new R hp).kept R)⟩, fun a f => by
    obtain ⟨h2, e2⟩ := R.there a f
    exact ⟨h2, by rw [upd_ne (ne_of_none e2 hp)]; exact e2⟩⟩
/-- a new live object -/
theorem Rel.newL (R : Rel K F A H) {p : Addr} {o : AO} {ho : HO} (hp : H p = none) (r : RepO K F H o ho) : Rel K F (put A p o) (upd H p ho) ∧ Ext F A H F (put A p o) (upd H p ho) := by
  have k := (ext_new R hp (ho := ho)).kept R
  have R1 := R.lay hp (ho := ho)
  refine ⟨⟨fun a o' e => ?_, R1.there⟩, fun _ h => h, fun a u h e => ⟨?_, (ext_new R hp).k a u h e |>.2⟩, fun _ _ _ _ h => h⟩
  · by_cases q : a = p
    · subst q
      rw [put_same] at e; cases e
      exact ⟨(R.fresh hp).2, ho, upd_same, r.kept k⟩
    · rw [put_ne q] at e; exact R1.live a o' e
  · rw [put_ne (ne_of_none e hp)]; exact h
theorem kept_frz {p : Addr} : Kept F (fun a => F a ∨ a = p) H H := ⟨fun _ h => .inl h, fun _ _ h => h, fun _ _ _ h => h, fun _ _ _ h => h, fun _ _ _ h => h, fun _ _ _ h => h, fun _ _ _ _ _ h => h, fun _ _ h => h⟩
/-- a new object that no one will change -/
theorem Rel.newF (R : Rel K F A H) {p : Addr} {o : AO} {ho : HO} (hp : H p = none) (r : RepO K F H o ho) :
    Rel K (fun a => F a ∨ a = p) A (upd H p ho) ∧ Ext F A H (fun a => F a ∨ a = p) A (upd H p ho) ∧ Rep K (fun a => F a ∨ a = p) (upd H p ho) (frz o) (.ref p) := by
  have x0 := ext_new R hp (ho := ho)
  have R1 := R.lay hp (ho := ho)
  have x1 : Ext F A H (fun a => F a ∨ a = p) A (upd H p ho) := ⟨fun _ h => .inl h, x0.k, fun a o h e f => by
    rcases f with f | f
    · exact f
    · rw [f, hp] at e; cases e⟩
  have k1 : Kept F (fun a => F a ∨ a = p) (upd H p ho) (upd H p ho) := kept_frz
  refine ⟨⟨fun a o' e => ?_, fun a f => ?_⟩, x1, (r.kept (x1.kept R)).frz (.inr rfl) upd_same⟩
  · obtain ⟨n, h2, e2, r2⟩ := R1.live a o' e
    refine ⟨fun z => ?_, h2, e2, r2.kept k1⟩
    rcases z with z | z
    · exact n z
    · rw [z, (R.fresh hp).1] at e; cases e
  · rcases f with f | f
    · exact R1.there a f
    · exact ⟨ho, by rw [f]; exact upd_same⟩
theorem Rel.newT (R : Rel K F A H) {p : Addr} {ds : List D} {vs : List V} (hp : H p = none) (r : Reps K F H ds vs) : Rel K F A (upd H p (.tup vs)) ∧ Ext F A H F A (upd H p (.tup vs)) ∧ Rep K F (upd H p (.tup vs)) (.tup ds) (.ref p) :=
  ⟨R.lay hp, ext_new R hp, .tup (.inl upd_same) (r.kept ((ext_new R hp).kept R))⟩
/-- a live object is changed -/
theorem Rel.put (R : Rel K F A H) {a : Addr} {o o' : AO} {ho' : HO} (e : A a = some o) (r : RepO K F H o' ho') : Rel K F (put A a o') (upd H a ho') ∧ Ext F A H F (put A a o') (upd H a ho') := by
  obtain ⟨n, ho, eh, r0⟩ := R.live a o e
  have x : Ext F A H F (Av.put A a o') (upd H a ho') := ⟨fun _ h => h, fun b u h q => by
    have : b ≠ a := fun z => by rw [z, e] at h; cases h
    rw [put_ne this, upd_ne this]; exact ⟨h, q⟩, fun _ _ _ _ h => h⟩
  have k := x.kept R
  refine ⟨⟨fun b u q => ?_, fun b f => ?_⟩, x⟩
  · by_cases z : b = a
    · subst z
      rw [put_same] at q; cases q
      exact ⟨n, ho', upd_same, r.kept k⟩
    · rw [put_ne z] at q
      obtain ⟨n2, h2, e2, r2⟩ := R.live b u q
      exact ⟨n2, h2, by rw [upd_ne z]; exact e2, r2.kept k⟩
  · have : b ≠ a := fun z => n (z ▸ f)
    rw [upd_ne this]; exact R.there b f
theorem Rel.sub (R : Rel K F A H) (s : ∀ a o, A' a = some o → A a = some o) : Rel K F A' H ∧ Ext F A H F A' H := by
  refine ⟨⟨fun a o e => R.live a o (s a o e), R.there⟩, fun _ h => h, fun a o h e => ⟨?_, e⟩, fun _ _ _ _ h => h⟩
  cases q : A' a with
  | none => rfl
  | some u => rw [s a u q] at h; cases h
/-- from now on no one changes it -/
theorem Rel.frz (R : Rel K F A H) {a : Addr} {o : AO} (e : A a = some o) : Rel K (fun b => F b ∨ b = a) (del A a) H ∧ Ext F A H (fun b => F b ∨ b = a) (del A a) H ∧ Rep K (fun b => F b ∨ b = a) H (Av.frz o) (.ref a) := by
  obtain ⟨n, ho, eh, r0⟩ := R.live a o e
  have s : ∀ b u, del A a b = some u → A b = some u ∧ b ≠ a := fun b u q => by
    unfold del at q
    by_cases z : b = a
    · rw [if_pos z] at q; cases q
    · rw [if_neg z] at q; exact ⟨q, z⟩
  obtain ⟨R1, x1⟩ := R.sub (fun b u q => (s b u q).1)
  have k1 : Kept F (fun b => F b ∨ b = a) H H := kept_frz
  refine ⟨⟨fun b u q => ?_, fun b f => ?_⟩, ⟨fun _ h => .inl h, x1.k, fun b o h q f => ?_⟩, (r0.kept k1).frz (.inr rfl) eh⟩
  · obtain ⟨n2, h2, e2, r2⟩ := R1.live b u q
    refine ⟨fun z => ?_, h2, e2, r2.kept k1⟩
    rcases z with z | z
    · exact n2 z
    · exact (s b u q).2 z
  · rcases f with f | f
    · exact R.there b f
    · exact ⟨ho, by rw [f]; exact eh⟩
  · rcases f with f | f
    · exact f
    · rw [f, e] at h; cases h
/-- a hidden object is changed -/
theorem kept_hid {p : Addr} {ho ho' : HO} (nF : ¬ F p) (e : H p = some ho) (nt : ∀ xs, ho ≠ .tup xs) (nz : ∀ o u, ho ≠ .frz o u) (nx : ∀ fs, ho ≠ .xd fs) : Kept F F H (upd H p ho') := by
  have ne : ∀ {a : Addr}, F a → a ≠ p := fun f z => nF (z ▸ f)
  have rd : ∀ {a : Addr} {u : HO}, a ≠ p → Rd H a u → Rd (upd H p ho') a u := fun n r => Rd.keep (fun o q => by rw [upd_ne n]; exact q) r
  refine ⟨fun _ h => h, fun a xs r => ?_, fun a xs f q => by rw [upd_ne (ne f)]; exact q, fun a xs f r => rd (ne f) r, fun a xs f r => rd (ne f) r, fun a xs f r => rd (ne f) r, fun a C dx fs f q => by rw [upd_ne (ne f)]; exact q, fun a fs q => ?_⟩
  · rw [upd_ne (fun z => by subst z; rw [e] at r; cases r; exact nt _ rfl)]; exact r
  · rw [upd_ne (fun z => by subst z; rw [e] at q; cases q; exact nx _ rfl)]; exact q
theorem Rel.hid (R : Rel K F A H) {p : Addr} {ho ho' : HO} (nF : ¬ F p) (nA : A p = none) (e : H p = some ho) (nt : ∀ xs, ho ≠ .tup xs) (nz : ∀ o u, ho ≠ .frz o u) (nx : ∀ fs, ho ≠ .xd fs) : Rel K F A (upd H p ho') := by
  have k := kept_hid (ho' := ho') nF e nt nz nx
  refine ⟨fun a o q => ?_, fun a f => ?_⟩
  · obtain ⟨n, h2, e2, r⟩ := R.live a o q
    have : a ≠ p := fun z => by rw [z, nA] at q; cases q
    exact ⟨n, h2, by rw [upd_ne this]; exact e2, r.kept k⟩
  · have : a ≠ p := fun z => nF (z ▸ f)
    rw [upd_ne this]; exact R.there a f
/-- a hidden object comes forth -/
theorem Rel.showL (R : Rel K F A H) {p : Addr} {o : AO} {ho : HO} (nF : ¬ F p) (e : H p = some ho) (r : RepO K F H o ho) : Rel K F (Av.put A p o) H := by
  refine ⟨fun a u q => ?_, R.there⟩
  by_cases z : a = p
  · subst z; rw [put_same] at q; cases q; exact ⟨nF, ho, e, r⟩
  · rw [put_ne z] at q; exact R.live a u q
theorem Rel.showF (R : Rel K F A H) {p : Addr} {o : AO} {ho : HO} (nA : A p = none) (e : H p = some ho) (r : RepO K F H o ho) : Rel K (fun a => F a ∨ a = p) A H ∧ Rep K (fun a => F a ∨ a = p) H (Av.frz o) (.ref p) := by
  have k1 : Kept F (fun b => F b ∨ b = p) H H := kept_frz
  refine ⟨⟨fun a u q => ?_, fun a f => ?_⟩, (r.kept k1).frz (.inr rfl) e⟩
  · obtain ⟨n, h2, e2, r2⟩ := R.live a u q
    refine ⟨fun z => ?_, h2, e2, r2.kept k1⟩
    rcases z with z | z
    · exact n z
    · rw [z, nA] at q; cases q
  · rcases f with f | f
    · exact R.there a f
    · exact ⟨ho, by rw [f]; exact e⟩
end
/-! ### small facts -/
section
variable {K : PySem.W.Frag} {F : Addr → Prop} {H : Hp}
theorem Reps.length : ∀ {ds : List D} {vs : List V}, Reps K F H ds vs → ds.length = vs.length
  | _, _, .nil => rfl
  | _, _, .cons _ r => by rw [List.length_cons, List.length_cons, Reps.length r]
theorem Reps.get : ∀ {ds : List D} {vs : List V} {i : Nat} {v : V}, Reps K F H ds vs → vs[i]? = some v → ∃ d, ds[i]? = some d ∧ Rep K F H d v
  | _, _, i, _, .nil, h => by cases i <;> cases h
  | _, _, 0, _, .cons a _, h => by injection h with h; subst h; exact ⟨_, rfl, a⟩
  | _, _, i + 1, v, .cons _ k, h => Reps.get (i := i) k h
theorem Reps.get' : ∀ {ds : List D} {vs : List V} {i : Nat} {d : D}, Reps K F H ds vs → ds[i]? = some d → ∃ v, vs[i]? = some v ∧ Rep K F H d v
  | _, _, i, _, .nil, h => by cases i <;> cases h
  | _, _, 0, _, .cons a _, h => by injection h with h; subst h; exact ⟨_, rfl, a⟩
  | _, _, i + 1, v, .cons _ k, h => Reps.get' (i := i) k h
theorem Reps.append : ∀ {ds es : List D} {vs us : List V}, Reps K F H ds vs → Reps K F H es us → Reps K F H (ds ++ es) (vs ++ us)
  | _, _, _, _, .nil, s => s
  | _, _, _, _, .cons a r, s => .cons a (Reps.append r s)
theorem Reps.take : ∀ {ds : List D} {vs : List V} (n : Nat), Reps K F H ds vs → Reps K F H (ds.take n) (vs.take n)
  | _, _, 0, _ => .nil
  | _, _, _ + 1, .nil => .nil
  | _, _, n + 1, .cons a r => .cons a (Reps.take n r)
theorem Reps.drop : ∀ {ds : List D} {vs : List V} (n : Nat), Reps K F H ds vs → Reps K F H (ds.drop n) (vs.drop n)
  | _, _, 0, r => r
  | _, _, _ + 1, .nil => .nil
  | _, _, n + 1, .cons _ r => Reps.drop n r
theorem Reps.set {d : D} {v : V} (q : Rep K F H d v) : ∀ {ds : List D} {vs : List V} (n : Nat), Reps K F H ds vs → Reps K F H (ds.set n d) (vs.set n v)
  | _, _, _, .nil => .nil
  | _, _, 0, .cons _ r => .cons q r
  | _, _, n + 1, .cons a r => .cons a (Reps.set q n r)
theorem RepF.lookup : ∀ {ds : List (Str × D)} {vs : List (Str × V)} {f : Str} {d : D}, RepF K F H ds vs → ds.lookup f = some d → ∃ v, vs.lookup f = some v ∧ Rep K F H d v
  | _, _, f, d, .nil, h => by cases h
  | _, _, f, d, .cons (n := n) a r, h => by
    by_cases e : (f == n) = true
    · rw [List.lookup, e] at h; cases h
      exact ⟨_, by rw [List.lookup, e], a⟩
    · have e' : (f == n) = false := by simpa using e
      rw [List.lookup, e'] at h
      obtain ⟨v, h1, h2⟩ := RepF.lookup r h
      exact ⟨v, by rw [List.lookup, e']; exact h1, h2⟩
theorem RepF.lookup0 : ∀ {ds : List (Str × D)} {vs : List (Str × V)} {f : Str}, RepF K F H ds vs → ds.lookup f = none → vs.lookup f = none
  | _, _, f, .nil, h => rfl
  | _, _, f, .cons (n := n) a r, h => by
    by_cases e : (f == n) = true
    · rw [List.lookup, e] at h; cases h
    · have e' : (f == n) = false := by simpa using e
      rw [List.lookup, e'] at h ⊢
      exact RepF.lookup0 r h
theorem RepF.length : ∀ {ds : List (Str × D)} {vs : List (Str × V)}, RepF K F H ds vs → ds.length = vs.length
  | _, _, .nil => rfl
  | _, _, .cons _ r => by rw [List.length_cons, List.length_cons, RepF.length r]
end
/-- slots -/
inductive RepS (K : PySem.W.Frag) (F : Addr → Prop) (H : Hp) : List (Option D) → List (Option V) → Prop
  | nil : RepS K F H [] []
  | no {v : Option V} {ds : List (Option D)} {vs : List (Option V)} : RepS K F H ds vs → RepS K F H (none :: ds) (v :: vs)
  | yes {d : D} {v : V} {ds : List (Option D)} {vs : List (Option V)} : Rep K F H d v → RepS K F H ds vs → RepS K F H (some d :: ds) (some v :: vs)
section
variable {K : PySem.W.Frag} {F F' : Addr → Prop} {H H' : Hp}
theorem RepS.kept (s : Kept F F' H H') : ∀ {d : List (Option D)} {v : List (Option V)}, RepS K F H d v → RepS K F' H' d v
  | _, _, .nil => .nil
  | _, _, .no r => .no (RepS.kept s r)
  | _, _, .yes a r => .yes (a.kept s) (RepS.kept s r)
theorem RepS.get : ∀ {ds : List (Option D)} {vs : List (Option V)} {i : Nat} {d : D}, RepS K F H ds vs → ds[i]? = some (some d) → ∃ v, vs[i]? = some (some v) ∧ Rep K F H d v
  | _, _, i, _, .nil, h => by cases i <;> cases h
  | _, _, 0, _, .no _, h => by cases h
  | _, _, 0, _, .yes a _, h => by cases h; exact ⟨_, rfl, a⟩
  | _, _, i + 1, d, .no k, h => RepS.get (i := i) k h
  | _, _, i + 1, d, .yes _ k, h => RepS.get (i := i) k h
theorem RepS.set {d : D} {v : V} (q : Rep K F H d v) : ∀ {ds : List (Option D)} {vs : List (Option V)} (n : Nat), RepS K F H ds vs → RepS K F H (ds.set n (some d)) (vs.set n (some v))
  | _, _, _, .nil => .nil
  | _, _, 0, .no r => .yes q r
  | _, _, 0, .yes _ r => .yes q r
  | _, _, n + 1, .no r => .no (RepS.set q n r)
  | _, _, n + 1, .yes a r => .yes a (RepS.set q n r)
theorem RepS.unset : ∀ {ds : List (Option D)} {vs : List (Option V)} {x : Option V} (n : Nat), RepS K F H ds vs → RepS K F H (ds.set n none) (vs.set n x)
  | _, _, _, _, .nil => .nil
  | _, _, _, 0, .no r => .no r
  | _, _, _, 0, .yes _ r => .no r
  | _, _, x, n + 1, .no r => .no (RepS.unset n r)
  | _, _, x, n + 1, .yes a r => .yes a (RepS.unset n r)
theorem RepS.nones : ∀ (n : Nat) (vs : List (Option V)), vs.length = n → RepS K F H (List.replicate n none) vs
  | 0, [], _ => .nil
  | n + 1, v :: vs, h => .no (RepS.nones n vs (by simpa using h))
  | 0, _ :: _, h => by cases h
  | _ + 1, [], h => by cases h
end
end Av

set_option Elab.async false
set_option linter.all false
set_option maxRecDepth 100000
set_option maxHeartbeats 4000000
/-! own library Av, part 2: readings over trees and live cells -/
namespace Av
open PySem PySem.Spec PyProof.Rows L2 My
abbrev AX := Addr → List (Str × D) → AH → Prop
abbrev AQ := D → AH → Prop
abbrev ASt := List (Option D)
abbrev AK (α : Type) := AH → (α → AH → Prop) → AX → Prop
abbrev AM (α : Type) := ASt → AK α
abbrev AE := AM D
abbrev AT := AM Bool
abbrev AA := AM (List D)
def Gx (K : PySem.W.Frag) (W : WX) (F : Addr → Prop) (A : AH) (H : Hp) (σ : L2.St) (E : AX) : Prop :=
  ∀ C fs A' F' H' dd fv, E C fs A' → Ext F A H F' A' H' → Rel K F' A' H' → H' dd = some (.xd fv) → RepF K F' H' fs fv → W (.ref C) (some dd) σ H'
structure At (K : PySem.W.Frag) (W : WX) (δ : ASt) (σ : L2.St) (H : Hp) (F : Addr → Prop) (A : AH) (E : AX) (ds : List D) (vs : List V) : Prop where
  rel : Rel K F A H
  sl : RepS K F H δ σ
  gx : Gx K W F A H σ E
  held : Reps K F H ds vs
abbrev RP (α β : Type) := (Addr → Prop) → Hp → α → β → Prop
def Post {α β : Type} (K : PySem.W.Frag) (Rp : RP α β) (F : Addr → Prop) (A : AH) (H : Hp) (Q' : α → AH → Prop) (Q : β → Hp → Prop) : Prop :=
  ∀ x A' F' H' y, Q' x A' → Ext F A H F' A' H' → Rel K F' A' H' → Rp F' H' x y → Q y H'
def Lf {α β : Type} (Rp : RP α β) (K : PySem.W.Frag) (W : WX) (δ : ASt) (ds : List D) (vs : List V) (k : AK α) (σ : L2.St) (H : Hp) (Q : β → Hp → Prop) : Prop :=
  ∃ F A Q' E', At K W δ σ H F A E' ds vs ∧ k A Q' E' ∧ Post K Rp F A H Q' Q
def lift {α β : Type} (Rp : RP α β) (K : PySem.W.Frag) (W : WX) (t : AM α) : L2.St → Hp → (β → Hp → Prop) → Prop := fun σ H Q => ∃ δ, Lf Rp K W δ [] [] (t δ) σ H Q
abbrev liftE (K : PySem.W.Frag) (W : WX) (t : AE) : TE := lift (Rep K) K W t
abbrev liftT (K : PySem.W.Frag) (W : WX) (t : AT) : TT := lift (fun _ _ x y => x = y) K W t
abbrev liftA (K : PySem.W.Frag) (W : WX) (t : AA) : TA := lift (Reps K) K W t
section
variable {α β γ ε : Type} {R1 : RP α β} {R2 : RP γ ε} {K : PySem.W.Frag} {W : WX} {δ : ASt} {σ : L2.St} {H H' : Hp} {F F' : Addr → Prop} {A A' : AH} {E : AX} {ds : List D} {vs : List V}
theorem Gx.step (g : Gx K W F A H σ E) (x : Ext F A H F' A' H') : Gx K W F' A' H' σ E := fun C fs A2 F2 H2 dd fv e x2 => g C fs A2 F2 H2 dd fv e (x.trans x2)
theorem At.step (a : At K W δ σ H F A E ds vs) (x : Ext F A H F' A' H') (R : Rel K F' A' H') : At K W δ σ H' F' A' E ds vs := ⟨R, a.sl.kept (x.kept a.rel), a.gx.step x, a.held.kept (x.kept a.rel)⟩
theorem Post.step {Q' : α → AH → Prop} {Q : β → Hp → Prop} (p : Post K R1 F A H Q' Q) (x : Ext F A H F' A' H') : Post K R1 F' A' H' Q' Q := fun y A2 F2 H2 z q x2 => p y A2 F2 H2 z q (x.trans x2)
theorem lift.mono {t : AM α} {Q Q2 : β → Hp → Prop} (h : lift R1 K W t σ H Q) (i : ∀ y H', Q y H' → Q2 y H') : lift R1 K W t σ H Q2 := by
  obtain ⟨δ, F, A, Q', E', a, k, p⟩ := h
  exact ⟨δ, F, A, Q', E', a, k, fun x A' F' H' y q x2 r rp => i _ _ (p x A' F' H' y q x2 r rp)⟩
theorem Lf.core {t : AM α} {k : α → AK γ} {Q : ε → Hp → Prop} (h : Lf R2 K W δ ds vs (fun A Q E => t δ A (fun x A1 => k x A1 Q E) E) σ H Q) :
    lift R1 K W t σ H (fun y H1 => ∃ x F1 A1 Q' E', At K W δ σ H1 F1 A1 E' ds vs ∧ R1 F1 H1 x y ∧ k x A1 Q' E' ∧ Post K R2 F1 A1 H1 Q' Q) := by
  obtain ⟨F, A, Q', E', a, kk, p⟩ := h
  exact ⟨δ, F, A, _, E', ⟨a.rel, a.sl, a.gx, .nil⟩, kk, fun x A1 F1 H1 y q x1 r rp => ⟨x, F1, A1, Q', E', a.step x1 r, rp, q, p.step x1⟩⟩
theorem Lf.bindE {t : AE} {k : D → AK γ} {Q : ε → Hp → Prop} (h : Lf R2 K W δ ds vs (fun A Q E => t δ A (fun x A1 => k x A1 Q E) E) σ H Q) :
    liftE K W t σ H (fun y H1 => ∃ x, Lf R2 K W δ (x :: ds) (y :: vs) (k x) σ H1 Q) :=
  (Lf.core (R1 := Rep K) h).mono fun y H1 ⟨x, F1, A1, Q', E', a, r, q, p⟩ => ⟨x, F1, A1, Q', E', ⟨a.rel, a.sl, a.gx, .cons r a.held⟩, q, p⟩
theorem Lf.bindA {t : AA} {k : List D → AK γ} {Q : ε → Hp → Prop} (h : Lf R2 K W δ ds vs (fun A Q E => t δ A (fun x A1 => k x A1 Q E) E) σ H Q) :
    liftA K W t σ H (fun y H1 => ∃ x, Lf R2 K W δ (x ++ ds) (y ++ vs) (k x) σ H1 Q) :=
  (Lf.core (R1 := Reps K) h).mono fun y H1 ⟨x, F1, A1, Q', E', a, r, q, p⟩ => ⟨x, F1, A1, Q', E', ⟨a.rel, a.sl, a.gx, r.append a.held⟩, q, p⟩
theorem Lf.bindT {t : AT} {k : Bool → AK γ} {Q : ε → Hp → Prop} (h : Lf R2 K W δ ds vs (fun A Q E => t δ A (fun x A1 => k x A1 Q E) E) σ H Q) :
    liftT K W t σ H (fun y H1 => Lf R2 K W δ ds vs (k y) σ H1 Q) :=
  (Lf.core (R1 := fun _ _ x y => x = y) h).mono fun y H1 ⟨x, F1, A1, Q', E', a, r, q, p⟩ => by subst r; exact ⟨F1, A1, Q', E', a, q, p⟩
/-- the last step -/
theorem Lf.out {t : AM γ} {Q : ε → Hp → Prop} (h : Lf R2 K W δ ds vs (t δ) σ H Q) : lift R2 K W t σ H Q := by
  obtain ⟨F, A, Q', E', a, kk, p⟩ := h
  exact ⟨δ, F, A, Q', E', ⟨a.rel, a.sl, a.gx, .nil⟩, kk, p⟩
end
/-! ### reading cells -/
def asX (A : AH) : D → Option (List D)
  | .lst xs => some xs
  | .ref a => match A a with
    | some (.lst xs) => some xs
    | _ => none
  | _ => none
def asL (A : AH) : D → Option (List D)
  | .lst xs => some xs
  | .rol xs => some xs
  | .ref a => match A a with
    | some (.lst xs) => some xs
    | _ => none
  | _ => none
def asT : D → Option (List D)
  | .tup xs => some xs
  | _ => none
def asD (A : AH) : D → Option (List (D × D))
  | .dct xs => some xs
  | .ref a => match A a with
    | some (.dct xs) => some xs
    | _ => none
  | _ => none
def asO (A : AH) : D → Option (Addr × List (Str × D))
  | .obj C fs => some (C, fs)
  | .ref a => match A a with
    | some (.ins C fs) => some (C, fs)
    | _ => none
  | _ => none
/-- a new object -/
def aNew (live : Bool) (o : AO) (A : AH) (Q : AQ) : Prop := match live with
  | true => ∀ p, A p = none → Q (.ref p) (put A p o)
  | false => Q (frz o) A
section
variable {K : PySem.W.Frag} {F : Addr → Prop} {A : AH} {H : Hp} {d : D} {v : V}
theorem asL_ok (R : Rel K F A H) (r : Rep K F H d v) {xs : List D} (e : asL A d = some xs) : ∃ a vs, v = .ref a ∧ SqL K H a vs ∧ Reps K F H xs vs := by
  cases r with
  | lst f h r => cases e; exact ⟨_, _, rfl, SqL.of h, r⟩
  | rol f h r => cases e; exact ⟨_, _, rfl, .inl h, r⟩
  | rolK h r => cases e; exact ⟨_, _, rfl, .inr h, r⟩
  | ref a =>
    simp only [asL] at e
    split at e
    · rename_i ys q
      cases e
      obtain ⟨_, ho, eh, r⟩ := R.live a _ q
      cases r with
      | lst r => exact ⟨a, _, rfl, SqL.of eh, r⟩
    · cases e
  | _ => cases e
theorem asX_ok (R : Rel K F A H) (r : Rep K F H d v) {xs : List D} (e : asX A d = some xs) : ∃ a vs, v = .ref a ∧ H a = some (.lst vs) ∧ Reps K F H xs vs := by
  cases r with
  | lst f h r => cases e; exact ⟨_, _, rfl, h, r⟩
  | ref a =>
    simp only [asX] at e
    split at e
    · rename_i ys q
      cases e
      obtain ⟨_, ho, eh, r⟩ := R.live a _ q
      cases r with
      | lst r => exact ⟨a, _, rfl, eh, r⟩
    · cases e
  | _ => cases e
theorem asTe_ok (r : Rep K F H d v) {xs : List D} (e : asT d = some xs) : ∃ a vs, v = .ref a ∧ TupE K H a vs ∧ Reps K F H xs vs := by
  cases r with
  | tup h r => cases e; exact ⟨_, _, rfl, h, r⟩
  | _ => cases e
theorem asT_ok (r : Rep K F H d v) {xs : List D} (e : asT d = some xs) : ∃ a vs, v = .ref a ∧ SqT K H a vs ∧ Reps K F H xs vs := by
  cases r with
  | tup h r => cases e; exact ⟨_, _, rfl, h.sq, r⟩
  | _ => cases e
theorem asD_ok (R : Rel K F A H) (r : Rep K F H d v) {xs : List (D × D)} (e : asD A d = some xs) : ∃ a vs, v = .ref a ∧ Rd H a (.dK vs) ∧ RepK K F H xs vs := by
  cases r with
  | dk f h r => cases e; exact ⟨_, _, rfl, h, r⟩
  | ref a =>
    simp only [asD] at e
    split at e
    · rename_i ys q
      cases e
      obtain ⟨_, ho, eh, r⟩ := R.live a _ q
      cases r with
      | dk r => exact ⟨a, _, rfl, .of eh, r⟩
    · cases e
  | _ => cases e
theorem asO_ok (R : Rel K F A H) (r : Rep K F H d v) {C : Addr} {fs : List (Str × D)} (e : asO A d = some (C, fs)) : ∃ a dx vs, v = .ref a ∧ H a = some (.ins C dx vs) ∧ RepF K F H fs vs := by
  cases r with
  | obj f h r => cases e; exact ⟨_, _, _, rfl, h, r⟩
  | ref a =>
    simp only [asO] at e
    split at e
    · rename_i C' ys q
      cases e
      obtain ⟨_, ho, eh, r⟩ := R.live a _ q
      cases r with
      | ins r => exact ⟨a, _, _, rfl, eh, r⟩
    · cases e
  | _ => cases e
end
section
variable {K : PySem.W.Frag} {W : WX} {δ : ASt} {σ : L2.St} {H : Hp} {F : Addr → Prop} {A : AH} {E : AX} {ds : List D} {vs : List V} {Q' : AQ} {Q : VK}
/-- a new object is laid -/
theorem aNew_ok {live : Bool} {o : AO} {ho : HO} (R : Rel K F A H) (r : RepO K F H o ho) (h : aNew live o A Q') (p : Post K (Rep K) F A H Q' Q) : ∀ a, H a = none → Q (.ref a) (upd H a ho) := fun a ha => by
  cases live with
  | true =>
    obtain ⟨R1, x1⟩ := R.newL ha r
    exact p _ _ _ _ _ (h a (R.fresh ha).1) x1 R1 (.ref a)
  | false =>
    obtain ⟨R1, x1, r1⟩ := R.newF ha r
    exact p _ _ _ _ _ h x1 R1 r1
theorem tup_ok {xs : List D} {us : List V} (R : Rel K F A H) (r : Reps K F H xs us) (h : Q' (.tup xs) A) (p : Post K (Rep K) F A H Q' Q) : ∀ a, H a = none → Q (.ref a) (upd H a (.tup us)) := fun a ha => by
  obtain ⟨R1, x1, r1⟩ := R.newT ha r
  exact p _ _ _ _ _ h x1 R1 r1
end
/-! ### expressions -/
section
variable {X : Cx} {W : WX} {pos : Pos}
def aVar (i : Nat) : AE := fun δ A Q _ => ∃ d, δ[i]? = some (some d) ∧ Q d A
def aC (d : D) : AE := fun _ A Q _ => Q d A
theorem ae_var {e : Expr} {i : Nat} (h : PE X e (tVar i)) : PE X e (liftE X.K W (aVar i)) := PE.imp h fun σ H Q ⟨δ, F, A, Q', E', a, ⟨d, e, q⟩, p⟩ => by
  obtain ⟨v, e1, r⟩ := a.sl.get e
  exact ⟨v, e1, p _ _ _ _ _ q Ext.refl a.rel r⟩
theorem ae_c {e : Expr} {v : V} {d : D} (h : PE X e (tC v)) (hr : ∀ F H, Rep X.K F H d v) : PE X e (liftE X.K W (aC d)) := PE.imp h fun σ H Q ⟨δ, F, A, Q', E', a, q, p⟩ => p _ _ _ _ _ q Ext.refl a.rel (hr _ _)
theorem ae_int {i : Int} {j pos} : PE X (.Constant (.int i) j pos) (liftE X.K W (aC (.int i))) := ae_c pe_int fun _ _ => .int i
theorem ae_bl {b : Bool} {j pos} : PE X (.Constant (.bool b) j pos) (liftE X.K W (aC (.bl b))) := ae_c pe_bl fun _ _ => .bl b
theorem ae_non {j pos} : PE X (.Constant .none j pos) (liftE X.K W (aC .non)) := ae_c pe_non fun _ _ => .non
theorem ae_str {x : Str} {j pos} (h : sOk x := by unfold sOk; decide +kernel) : PE X (.Constant (.str x) j pos) (liftE X.K W (aC (.str x))) := ae_c pe_str fun _ _ => .str h
/-- binary -/
abbrev G2 := D → D → AK D
def Lift2 (K : PySem.W.Frag) (g : G2) (r : R2) : Prop := ∀ (W : WX) δ σ H x y v u Q, Lf (Rep K) K W δ [y, x] [u, v] (g x y) σ H Q → r v u H Q
def aOp (g : G2) (ta tb : AE) : AE := fun δ A Q E => ta δ A (fun x A1 => tb δ A1 (fun y A2 => g x y A2 Q E) E) E
variable {a b c : Expr} {ta tb tc : AE} {g : G2} {r : R2}
theorem lift_op (L : Lift2 X.K g r) {σ : L2.St} {H : Hp} {Q : VK} (h : liftE X.K W (aOp g ta tb) σ H Q) : tOp r (liftE X.K W ta) (liftE X.K W tb) σ H Q := by
  obtain ⟨δ, h⟩ := h
  exact (Lf.bindE (k := fun x A1 Q E => tb δ A1 (fun y A2 => g x y A2 Q E) E) h).mono fun v1 H1 ⟨x1, h1⟩ => (Lf.bindE (k := fun y => g x1 y) h1).mono fun v2 H2 ⟨x2, h2⟩ => L W δ σ H2 x1 x2 v1 v2 Q h2
theorem ae_op {op : Operator} (L : Lift2 X.K g r) (ho : OpR X (binaryOp op) r) (ha : PE X a (liftE X.K W ta)) (hb : PE X b (liftE X.K W tb)) : PE X (.BinOp a op b pos) (liftE X.K W (aOp g ta tb)) := PE.imp (pe_op ho ha hb) fun σ H Q h => lift_op L h
theorem ae_cmp {op : CmpOp} (L : Lift2 X.K g r) (ho : OpR X (compareOp op) r) (ha : PE X a (liftE X.K W ta)) (hb : PE X b (liftE X.K W tb)) (hm : behindInMarks op b = false) : PE X (.Compare a [op] [b] pos) (liftE X.K W (aOp g ta tb)) := PE.imp (pe_cmpR ho ha hb hm) fun σ H Q h => lift_op L h
theorem ae_ix (L : Lift2 X.K g r) (hr : IxR X r) (ha : PE X a (liftE X.K W ta)) (hb : PE X b (liftE X.K W tb)) (hs : PlainIx b) : PE X (.Subscript a b pos) (liftE X.K W (aOp g ta tb)) := PE.imp (pe_ix hr ha hb hs) fun σ H Q h => lift_op L h
/-- a value's truth as a test -/
def aB (t : AE) : AT := fun δ A Q E => t δ A (fun x A1 => ∃ c, x = .bl c ∧ Q c A1) E
theorem lift_B {t : AE} {σ : L2.St} {H : Hp} {Q : Bool → Hp → Prop} (h : liftT X.K W (aB t) σ H Q) : tB (liftE X.K W t) σ H Q := by
  obtain ⟨δ, h⟩ := h
  refine (Lf.bindE (k := fun x A1 Q _ => ∃ c, x = .bl c ∧ Q c A1) h).mono fun v1 H1 ⟨x1, F, A, Q', E', a, ⟨c, e, q⟩, p⟩ => ?_
  subst e
  cases a.held with
  | cons r _ => cases r; exact ⟨c, rfl, p _ _ _ _ _ q Ext.refl a.rel rfl⟩
theorem at_cmp {op : CmpOp} (L : Lift2 X.K g r) (ho : OpR X (compareOp op) r) (ha : PE X a (liftE X.K W ta)) (hb : PE X b (liftE X.K W tb)) (hm : behindInMarks op b = false) : PT X (.Compare a [op] [b] pos) (liftT X.K W (aB (aOp g ta tb))) :=
  PT.imp (pt_cmpR ho ha hb hm) fun σ H Q h => by
    have := lift_B h
    exact (show tTest (tOp r (liftE X.K W ta) (liftE X.K W tb)) σ H Q from lift_op L this)
theorem at_val {e : Expr} {t : AE} (h : PE X e (liftE X.K W t)) (he : ∀ whole, isTrue e X.env whole = (do let v ← whole; standAt e.pos; holding [v] (truthy v)) := by intro _; rfl) : PT X e (liftT X.K W (aB t)) := PT.imp (pt_val h he) fun σ H Q h => lift_B h
/-- unary -/
abbrev G1 := D → AK D
def Lift1 (K : PySem.W.Frag) (g : G1) (r : V → Hp → VK → Prop) : Prop := ∀ (W : WX) δ σ H x v Q, Lf (Rep K) K W δ [x] [v] (g x) σ H Q → r v H Q
def aUn (g : G1) (ta : AE) : AE := fun δ A Q E => ta δ A (fun x A1 => g x A1 Q E) E
theorem lift_un {g : G1} {r : V → Hp → VK → Prop} (L : Lift1 X.K g r) {σ : L2.St} {H : Hp} {Q : VK} (h : liftE X.K W (aUn g ta) σ H Q) : liftE X.K W ta σ H (fun x H1 => r x H1 Q) := by
  obtain ⟨δ, h⟩ := h
  exact (Lf.bindE (k := g) h).mono fun v1 H1 ⟨x1, h1⟩ => L W δ σ H1 x1 v1 Q h1
theorem ae_un {op : UnaryOp} {g : G1} {r : V → Hp → VK → Prop} (L : Lift1 X.K g r) (ho : UnR X (unaryOp op) r) (ha : PE X a (liftE X.K W ta)) : PE X (.UnaryOp op a pos) (liftE X.K W (aUn g ta)) := PE.imp (pe_un ho ha) fun σ H Q h => lift_un L h
/-- truth of any value -/
def truD (A : AH) : D → Option Bool
  | .non => some false
  | .bl b => some b
  | .int i => some (i != 0)
  | .str x => some ((x.length : Int) != 0)
  | .tup xs => some (!xs.isEmpty)
  | .lst xs => some (!xs.isEmpty)
  | .ref a => match A a with
    | some (.lst xs) => some (!xs.isEmpty)
    | _ => none
  | _ => none
def lenOk : D → Prop
  | .str x => x.length ≤ sizeLine
  | _ => True
theorem reps_empty {K : PySem.W.Frag} {F : Addr → Prop} {H : Hp} {xs : List D} {us : List V} (r : Reps K F H xs us) : (!xs.isEmpty) = !us.isEmpty := by cases r <;> rfl
theorem truD_ok {K : PySem.W.Frag} {F : Addr → Prop} {A : AH} {H : Hp} {d : D} {v : V} (R : Rel K F A H) (r : Rep K F H d v) {b : Bool} (l : lenOk d) (e : truD A d = some b) : TruV K v H b := by
  cases r with
  | non => cases e; exact rfl
  | bl b => cases e; exact rfl
  | int i => cases e; exact rfl
  | str h => cases e; exact ⟨l, rfl⟩
  | tup h r => cases e; exact .inr (.inl ⟨_, h.sq, reps_empty r⟩)
  | lst f h r => cases e; exact .inl ⟨_, SqL.of h, reps_empty r⟩
  | ref a =>
    simp only [truD] at e
    split at e
    · rename_i ys q
      cases e
      obtain ⟨_, ho, eh, r⟩ := R.live a _ q
      cases r with
      | lst r => exact .inl ⟨_, SqL.of eh, reps_empty r⟩
    · cases e
  | _ => cases e
def aTru (t : AE) : AT := fun δ A Q E => t δ A (fun x A1 => lenOk x ∧ ∃ b, truD A1 x = some b ∧ Q b A1) E
theorem at_truth (ha : PE X a (liftE X.K W ta)) (he : ∀ whole, isTrue a X.env whole = (do let v ← whole; standAt a.pos; holding [v] (truthy v)) := by intro _; rfl) : PT X a (liftT X.K W (aTru ta)) := PT.imp (pt_truth ha he) fun σ H Q ⟨δ, h⟩ => by
  refine (Lf.bindE (k := fun x A1 Q _ => lenOk x ∧ ∃ b, truD A1 x = some b ∧ Q b A1) h).mono fun v1 H1 ⟨x1, F, A, Q', E', a, ⟨l, b, e, q⟩, p⟩ => ?_
  cases a.held with
  | cons r _ => exact ⟨b, truD_ok a.rel r l e, p _ _ _ _ _ q Ext.refl a.rel rfl⟩
def aOrV (ta tb : AE) : AE := fun δ A Q E => ta δ A (fun x A1 => lenOk x ∧ ∃ b, truD A1 x = some b ∧ if b = true then Q x A1 else tb δ A1 Q E) E
def aAndV (ta tb : AE) : AE := fun δ A Q E => ta δ A (fun x A1 => lenOk x ∧ ∃ b, truD A1 x = some b ∧ if b = true then tb δ A1 Q E else Q x A1) E
def aNotV (ta : AE) : AE := fun δ A Q E => ta δ A (fun x A1 => lenOk x ∧ ∃ b, truD A1 x = some b ∧ Q (.bl (!b)) A1) E
variable {rest : List Expr}
theorem ae_one {op} {t : AE} (h : PE X a (liftE X.K W t)) : PE X (.BoolOp op [a] pos) (liftE X.K W t) := pe_one h
theorem ae_or (ha : PE X a (liftE X.K W ta)) (hb : PE X (.BoolOp .Or (b :: rest) pos) (liftE X.K W tb)) : PE X (.BoolOp .Or (a :: b :: rest) pos) (liftE X.K W (aOrV ta tb)) := PE.imp (pe_orT ha hb) fun σ H Q ⟨δ, h⟩ => by
  refine (Lf.bindE (k := fun x A1 Q E => lenOk x ∧ ∃ b, truD A1 x = some b ∧ if b = true then Q x A1 else tb δ A1 Q E) h).mono fun v1 H1 ⟨x1, F, A, Q', E', a, ⟨l, b, e, q⟩, p⟩ => ?_
  cases a.held with
  | cons r n =>
    refine ⟨b, truD_ok a.rel r l e, ?_⟩
    split
    · rw [if_pos (by assumption)] at q; exact p _ _ _ _ _ q Ext.refl a.rel r
    · rw [if_neg (by assumption)] at q; exact ⟨δ, F, A, Q', E', ⟨a.rel, a.sl, a.gx, .nil⟩, q, p⟩
theorem ae_and (ha : PE X a (liftE X.K W ta)) (hb : PE X (.BoolOp .And (b :: rest) pos) (liftE X.K W tb)) : PE X (.BoolOp .And (a :: b :: rest) pos) (liftE X.K W (aAndV ta tb)) := PE.imp (pe_andT ha hb) fun σ H Q ⟨δ, h⟩ => by
  refine (Lf.bindE (k := fun x A1 Q E => lenOk x ∧ ∃ b, truD A1 x = some b ∧ if b = true then tb δ A1 Q E else Q x A1) h).mono fun v1 H1 ⟨x1, F, A, Q', E', a, ⟨l, b, e, q⟩, p⟩ => ?_
  cases a.held with
  | cons r n =>
    refine ⟨b, truD_ok a.rel r l e, ?_⟩
    split
    · rw [if_pos (by assumption)] at q; exact ⟨δ, F, A, Q', E', ⟨a.rel, a.sl, a.gx, .nil⟩, q, p⟩
    · rw [if_neg (by assumption)] at q; exact p _ _ _ _ _ q Ext.refl a.rel r
theorem ae_not (ha : PE X a (liftE X.K W ta)) : PE X (.UnaryOp .Not a pos) (liftE X.K W (aNotV ta)) := PE.imp (pe_notT ha) fun σ H Q ⟨δ, h⟩ => by
  refine (Lf.bindE (k := fun x A1 Q E => lenOk x ∧ ∃ b, truD A1 x = some b ∧ Q (D.bl (!b)) A1) h).mono fun v1 H1 ⟨x1, F, A, Q', E', a, ⟨l, b, e, q⟩, p⟩ => ?_
  cases a.held with
  | cons r n => exact ⟨b, truD_ok a.rel r l e, p _ _ _ _ _ q Ext.refl a.rel (.bl _)⟩
variable {tA tB' : AT}
def aAnd (t u : AT) : AT := fun δ A Q E => t δ A (fun c A1 => if c = true then u δ A1 Q E else Q false A1) E
def aOr (t u : AT) : AT := fun δ A Q E => t δ A (fun c A1 => if c = true then Q true A1 else u δ A1 Q E) E
def aNot (t : AT) : AT := fun δ A Q E => t δ A (fun c A1 => Q (!c) A1) E
theorem PW.imp {e : Expr} {t t' : TT} (h : PW X e t) (i : ∀ σ H Q, t' σ H Q → t σ H Q) : PW X e t' := ⟨fun wh pins s σ H Q I q => h.run wh pins s σ H Q I (i _ _ _ q)⟩
theorem aw_and1 (ha : PT X a (liftT X.K W tA)) : PW X (.BoolOp .And [a] pos) (liftT X.K W tA) := pw_and1 ha
theorem aw_or1 (ha : PT X a (liftT X.K W tA)) : PW X (.BoolOp .Or [a] pos) (liftT X.K W tA) := pw_or1 ha
theorem aw_and (ha : PT X a (liftT X.K W tA)) (hb : PW X (.BoolOp .And (b :: rest) pos) (liftT X.K W tB')) : PW X (.BoolOp .And (a :: b :: rest) pos) (liftT X.K W (aAnd tA tB')) := PW.imp (pw_and ha hb) fun σ H Q ⟨δ, h⟩ => by
  refine (Lf.bindT (k := fun c A1 Q E => if c = true then tB' δ A1 Q E else Q false A1) h).mono fun c H1 ⟨F, A, Q', E', a, q, p⟩ => ?_
  dsimp only at q
  split
  · rw [if_pos (by assumption)] at q; exact ⟨δ, F, A, Q', E', a, q, p⟩
  · rw [if_neg (by assumption)] at q; exact p _ _ _ _ _ q Ext.refl a.rel rfl
theorem aw_or (ha : PT X a (liftT X.K W tA)) (hb : PW X (.BoolOp .Or (b :: rest) pos) (liftT X.K W tB')) : PW X (.BoolOp .Or (a :: b :: rest) pos) (liftT X.K W (aOr tA tB')) := PW.imp (pw_or ha hb) fun σ H Q ⟨δ, h⟩ => by
  refine (Lf.bindT (k := fun c A1 Q E => if c = true then Q true A1 else tB' δ A1 Q E) h).mono fun c H1 ⟨F, A, Q', E', a, q, p⟩ => ?_
  dsimp only at q
  split
  · rw [if_pos (by assumption)] at q; exact p _ _ _ _ _ q Ext.refl a.rel rfl
  · rw [if_neg (by assumption)] at q; exact ⟨δ, F, A, Q', E', a, q, p⟩
theorem at_not (ha : PT X a (liftT X.K W tA)) : PT X (.UnaryOp .Not a pos) (liftT X.K W (aNot tA)) := PT.imp (pt_not ha) fun σ H Q ⟨δ, h⟩ =>
  (Lf.bindT (k := fun c A1 Q E => Q (!c) A1) h).mono fun c H1 ⟨F, A, Q', E', a, q, p⟩ => p _ _ _ _ _ q Ext.refl a.rel rfl
def aIf (t : AT) (ta tb : AE) : AE := fun δ A Q E => t δ A (fun c A1 => if c = true then ta δ A1 Q E else tb δ A1 Q E) E
theorem ae_if (hc : PT X c (liftT X.K W tA)) (ha : PE X a (liftE X.K W ta)) (hb : PE X b (liftE X.K W tb)) : PE X (.IfExp c a b pos) (liftE X.K W (aIf tA ta tb)) := PE.imp (pe_ifExp hc ha hb) fun σ H Q ⟨δ, h⟩ => by
  refine (Lf.bindT (k := fun c A1 Q E => if c = true then ta δ A1 Q E else tb δ A1 Q E) h).mono fun c H1 ⟨F, A, Q', E', a, q, p⟩ => ?_
  dsimp only at q
  split
  · rw [if_pos (by assumption)] at q; exact ⟨δ, F, A, Q', E', a, q, p⟩
  · rw [if_neg (by assumption)] at q; exact ⟨δ, F, A, Q', E', a, q, p⟩
variable {g' : G2} {r' : R2}
def aChain (g g' : G2) (ta tb tc : AE) : AE := fun δ A Q E => ta δ A (fun x A1 => tb δ A1 (fun y A2 => g x y A2 (fun z A3 => ∃ k, z = .bl k ∧ if k = true then tc δ A3 (fun w A4 => g' y w A4 Q E) E else Q (.bl false) A3) E) E) E
variable {es : List Expr} {te : AE} {t : AA}
def aNil : AA := fun _ A Q _ => Q [] A
def aCons (te : AE) (t : AA) : AA := fun δ A Q E => te δ A (fun x A1 => t δ A1 (fun xs A2 => Q (x :: xs) A2) E) E
theorem PA.imp {es : List Expr} {t t' : TA} (h : PA X es t) (i : ∀ σ H Q, t' σ H Q → t σ H Q) : PA X es t' := ⟨fun pos pins s σ H Q I q => h.run pos pins s σ H Q I (i _ _ _ q)⟩
theorem aa_nil : PA X [] (liftA X.K W aNil) := PA.imp pa_nil fun σ H Q ⟨δ, F, A, Q', E', a, q, p⟩ => p _ _ _ _ _ q Ext.refl a.rel .nil
theorem aa_cons (ha : PE X a (liftE X.K W te)) (hr : PA X es (liftA X.K W t)) (hs : starEach (a :: es) X.env = (false, eval a X.env) :: starEach es X.env := by rfl) : PA X (a :: es) (liftA X.K W (aCons te t)) := PA.imp (pa_cons ha hr hs) fun σ H Q ⟨δ, h⟩ =>
  (Lf.bindE (k := fun x A1 Q E => t δ A1 (fun xs A2 => Q (x :: xs) A2) E) h).mono fun v1 H1 ⟨x1, h1⟩ => (Lf.core (R1 := Reps X.K) (k := fun xs A2 Q E => Q (x1 :: xs) A2) h1).mono fun vs H2 ⟨xs, F, A, Q', E', a, r, q, p⟩ => by
    cases a.held with
    | cons r0 _ => exact p _ _ _ _ _ q Ext.refl a.rel (.cons r0 r)
def aTup (t : AA) : AE := fun δ A Q E => t δ A (fun xs A1 => xs.length ≤ sizeLine ∧ Q (.tup xs) A1) E
theorem ae_tup {x1} (h : PA X es (liftA X.K W t)) : PE X (.Tuple es x1 pos) (liftE X.K W (aTup t)) := PE.imp (pe_tup h) fun σ H Q ⟨δ, h⟩ =>
  (Lf.core (R1 := Reps X.K) (k := fun xs A1 Q E => xs.length ≤ sizeLine ∧ Q (.tup xs) A1) h).mono fun vs H1 ⟨xs, F, A, Q', E', a, r, ⟨z, q⟩, p⟩ => ⟨by rw [← r.length]; exact z, tup_ok a.rel r q p⟩
def aLst (live : Bool) (t : AA) : AE := fun δ A Q E => t δ A (fun xs A1 => xs.length ≤ sizeLine ∧ aNew live (.lst xs) A1 Q) E
theorem ae_lst (live : Bool) (h : PA X es (liftA X.K W t)) : PE X (.List es pos) (liftE X.K W (aLst live t)) := PE.imp (pe_lst h) fun σ H Q ⟨δ, h⟩ =>
  (Lf.core (R1 := Reps X.K) (k := fun xs A1 Q E => xs.length ≤ sizeLine ∧ aNew live (.lst xs) A1 Q) h).mono fun vs H1 ⟨xs, F, A, Q', E', a, r, ⟨z, q⟩, p⟩ => ⟨by rw [← r.length]; exact z, aNew_ok a.rel (.lst r) q p⟩
/-- a builtin by its arguments -/
abbrev GA := List D → AK D
def LiftA (K : PySem.W.Frag) (g : GA) (r : List V → Hp → VK → Prop) : Prop := ∀ (W : WX) δ σ H xs vs Q, Lf (Rep K) K W δ xs vs (g xs) σ H Q → r vs H Q
def aCB (g : GA) (t : AA) : AE := fun δ A Q E => t δ A (fun xs A1 => g xs A1 Q E) E
theorem lift_cb {gg : GA} {rr : List V → Hp → VK → Prop} (L : LiftA X.K gg rr) {σ : L2.St} {H : Hp} {Q : VK} (h : liftE X.K W (aCB gg t) σ H Q) : tCB rr (liftA X.K W t) σ H Q := by
  obtain ⟨δ, h⟩ := h
  exact (Lf.bindA (k := gg) h).mono fun vs H1 ⟨xs, h1⟩ => by rw [List.append_nil, List.append_nil] at h1; exact L W δ σ H1 xs vs Q h1
def aFrz (te : AE) : AE := fun δ A Q E => te δ A (fun d A1 => ∃ a o, d = .ref a ∧ A1 a = some o ∧ Q (frz o) (del A1 a)) E
theorem ae_frz {e : Expr} (h : PE X e (liftE X.K W te)) : PE X e (liftE X.K W (aFrz te)) := PE.imp h fun σ H Q ⟨δ, F, A, Q', E', a, q, p⟩ => by
  refine ⟨δ, F, A, _, E', a, q, fun x A1 F1 H1 y ⟨b, o, e1, e2, q1⟩ x1 R1 r1 => ?_⟩
  subst e1
  cases r1
  obtain ⟨R2, x2, r2⟩ := R1.frz e2
  exact p _ _ _ _ _ q1 (x1.trans x2) R2 r2
end
end Av

set_option Elab.async false
set_option linter.all false
set_option maxRecDepth 100000
set_option maxHeartbeats 4000000
/-! own library Av, part 3: statements, loops, comprehensions, calls, defs -/
namespace Av
open PySem PySem.Spec PyProof.Rows L2 My
structure AEnds where
  nx : ASt → AH → Prop
  rt : AQ
  bk : ASt → AH → Prop := fun _ _ => False
  ct : ASt → AH → Prop := fun _ _ => False
  ex : Addr → List (Str × D) → ASt → AH → Prop := fun _ _ _ _ => False
abbrev AS := AEnds → ASt → AH → Prop
structure EndsOk (K : PySem.W.Frag) (W : WX) (F : Addr → Prop) (A : AH) (H : Hp) (D' : AEnds) (E : Ends) : Prop where
  nx : ∀ δ A' F' H' σ, D'.nx δ A' → Ext F A H F' A' H' → Rel K F' A' H' → RepS K F' H' δ σ → E.nx σ H'
  rt : ∀ d A' F' H' v, D'.rt d A' → Ext F A H F' A' H' → Rel K F' A' H' → Rep K F' H' d v → E.rt v H'
  bk : ∀ δ A' F' H' σ, D'.bk δ A' → Ext F A H F' A' H' → Rel K F' A' H' → RepS K F' H' δ σ → E.bk σ H'
  ct : ∀ δ A' F' H' σ, D'.ct δ A' → Ext F A H F' A' H' → Rel K F' A' H' → RepS K F' H' δ σ → E.ct σ H'
  ex : ∀ C fs δ A' F' H' σ dd fv, D'.ex C fs δ A' → Ext F A H F' A' H' → Rel K F' A' H' → RepS K F' H' δ σ → H' dd = some (.xd fv) → RepF K F' H' fs fv → W (.ref C) (some dd) σ H'
def liftS (K : PySem.W.Frag) (W : WX) (t : AS) : TS := fun E σ H => ∃ F A δ D', Rel K F A H ∧ RepS K F H δ σ ∧ t D' δ A ∧ EndsOk K W F A H D' E
section
variable {α β : Type} {R1 : RP α β} {K : PySem.W.Frag} {W : WX} {δ : ASt} {σ : L2.St} {H H' : Hp} {F F' : Addr → Prop} {A A' : AH} {D' : AEnds} {E : Ends}
theorem EndsOk.step (e : EndsOk K W F A H D' E) (x : Ext F A H F' A' H') : EndsOk K W F' A' H' D' E :=
  ⟨fun δ A2 F2 H2 σ q x2 => e.nx δ A2 F2 H2 σ q (x.trans x2), fun δ A2 F2 H2 σ q x2 => e.rt δ A2 F2 H2 σ q (x.trans x2), fun δ A2 F2 H2 σ q x2 => e.bk δ A2 F2 H2 σ q (x.trans x2), fun δ A2 F2 H2 σ q x2 => e.ct δ A2 F2 H2 σ q (x.trans x2), fun C fs δ A2 F2 H2 σ dd fv q x2 => e.ex C fs δ A2 F2 H2 σ dd fv q (x.trans x2)⟩
theorem EndsOk.gx (R : Rel K F A H) (s : RepS K F H δ σ) (e : EndsOk K W F A H D' E) : Gx K W F A H σ (fun C fs A1 => D'.ex C fs δ A1) := fun C fs A2 F2 H2 dd fv q x2 R2 h r => e.ex C fs δ A2 F2 H2 σ dd fv q x2 R2 (s.kept (x2.kept R)) h r
theorem EndsOk.setNx {n : ASt → AH → Prop} {n' : L2.St → Hp → Prop} (e : EndsOk K W F A H D' E) (h : ∀ δ A' F' H' σ, n δ A' → Ext F A H F' A' H' → Rel K F' A' H' → RepS K F' H' δ σ → n' σ H') : EndsOk K W F A H { D' with nx := n } { E with nx := n' } := ⟨h, e.rt, e.bk, e.ct, e.ex⟩
/-- an expression in a statement -/
theorem st_core {t : AM α} {k : α → AH → Prop} (R : Rel K F A H) (s : RepS K F H δ σ) (e : EndsOk K W F A H D' E) (h : t δ A k (fun C fs A1 => D'.ex C fs δ A1)) :
    lift R1 K W t σ H (fun y H1 => ∃ x F1 A1, R1 F1 H1 x y ∧ Rel K F1 A1 H1 ∧ RepS K F1 H1 δ σ ∧ k x A1 ∧ EndsOk K W F1 A1 H1 D' E ∧ Ext F A H F1 A1 H1) :=
  ⟨δ, F, A, _, _, ⟨R, s, e.gx R s, .nil⟩, h, fun x A1 F1 H1 y q x1 R1' r => ⟨x, F1, A1, r, R1', s.kept (x1.kept R), q, e.step x1, x1⟩⟩
end
section
variable {X : Cx} {W : WX} {pos : Pos} {st : Stmt} {rest : List Stmt} {t u : AS} {te : AE} {e : Expr}
def aNext : AS := fun D δ A => D.nx δ A
def aBrk : AS := fun D δ A => D.bk δ A
def aCont : AS := fun D δ A => D.ct δ A
def aSeq (t u : AS) : AS := fun D δ A => t { D with nx := u D } δ A
theorem PSs.imp {sts : List Stmt} {t t' : TS} (h : PSs X sts t) (i : ∀ D σ H, t' D σ H → t D σ H) : PSs X sts t' := ⟨fun pins s σ H D I q => h.run pins s σ H D I (i _ _ _ q)⟩
theorem next_ok {sts : List Stmt} (h : PSs X sts tNext) : PSs X sts (liftS X.K W aNext) := PSs.imp h fun D σ H ⟨F, A, δ, D', R, s, q, e⟩ => e.nx _ _ _ _ _ q Ext.refl R s
theorem ass_nil : PSs X [] (liftS X.K W aNext) := next_ok pss_nil
theorem as_pass : PS X (.Pass pos) (liftS X.K W aNext) := PS.imp ps_pass fun D σ H ⟨F, A, δ, D', R, s, q, e⟩ => e.nx _ _ _ _ _ q Ext.refl R s
theorem as_doc {x j pos pos'} : PS X (.Expr (.Constant (.str x) j pos) pos') (liftS X.K W aNext) := PS.imp ps_doc fun D σ H ⟨F, A, δ, D', R, s, q, e⟩ => e.nx _ _ _ _ _ q Ext.refl R s
theorem as_break : PS X (.Break pos) (liftS X.K W aBrk) := PS.imp ps_break fun D σ H ⟨F, A, δ, D', R, s, q, e⟩ => e.bk _ _ _ _ _ q Ext.refl R s
theorem as_continue : PS X (.Continue pos) (liftS X.K W aCont) := PS.imp ps_continue fun D σ H ⟨F, A, δ, D', R, s, q, e⟩ => e.ct _ _ _ _ _ q Ext.refl R s
theorem ass_cons (h1 : PS X st (liftS X.K W t)) (h2 : PSs X rest (liftS X.K W u)) : PSs X (st :: rest) (liftS X.K W (aSeq t u)) := PSs.imp (pss_cons h1 h2) fun D σ H ⟨F, A, δ, D', R, s, q, e⟩ =>
  ⟨F, A, δ, { D' with nx := u D' }, R, s, q, e.setNx fun δ1 A1 F1 H1 σ1 q1 x1 R1 s1 => ⟨F1, A1, δ1, D', R1, s1, q1, e.step x1⟩⟩
theorem ass_one (h1 : PS X st (liftS X.K W t)) : PSs X [st] (liftS X.K W t) := pss_one h1
def aDrop (te : AE) : AS := fun D δ A => te δ A (fun _ A1 => D.nx δ A1) (fun C fs A1 => D.ex C fs δ A1)
theorem as_expr (he : PE X e (liftE X.K W te)) (hs : swapsWith e none pos.line X.env = pure false := by rfl) : PS X (.Expr e pos) (liftS X.K W (aDrop te)) := PS.imp (ps_expr he hs) fun D σ H ⟨F, A, δ, D', R, s, q, e⟩ =>
  (st_core (R1 := Rep X.K) R s e q).mono fun y H1 ⟨x, F1, A1, r, R1, s1, q1, e1, x1⟩ => e1.nx _ _ _ _ _ q1 Ext.refl R1 s1
def aRet (te : AE) : AS := fun D δ A => te δ A D.rt (fun C fs A1 => D.ex C fs δ A1)
theorem as_ret (he : PE X e (liftE X.K W te)) : PS X (.Return (some e) pos) (liftS X.K W (aRet te)) := PS.imp (ps_ret he) fun D σ H ⟨F, A, δ, D', R, s, q, e⟩ =>
  (st_core (R1 := Rep X.K) R s e q).mono fun y H1 ⟨x, F1, A1, r, R1, s1, q1, e1, x1⟩ => e1.rt _ _ _ _ _ q1 Ext.refl R1 r
def aRetN : AS := fun D _ A => D.rt .non A
theorem as_retN : PS X (.Return none pos) (liftS X.K W aRetN) := PS.imp ps_retN fun D σ H ⟨F, A, δ, D', R, s, q, e⟩ => e.rt _ _ _ _ _ q Ext.refl R .non
def aIfS (c : AT) (t u : AS) : AS := fun D δ A => c δ A (fun b A1 => if b = true then t D δ A1 else u D δ A1) (fun C fs A1 => D.ex C fs δ A1)
theorem as_if {c : Expr} {a b : List Stmt} {tc : AT} (hc : PT X c (liftT X.K W tc)) (ha : PSs X a (liftS X.K W t)) (hb : PSs X b (liftS X.K W u)) : PS X (.If c a b pos) (liftS X.K W (aIfS tc t u)) := PS.imp (ps_if hc ha hb) fun D σ H ⟨F, A, δ, D', R, s, q, e⟩ => by
  refine (st_core (R1 := fun _ _ x y => x = y) R s e q).mono fun y H1 ⟨x, F1, A1, r, R1, s1, q1, e1, x1⟩ => ?_
  subst r
  split
  · rw [if_pos (by assumption)] at q1; exact ⟨F1, A1, δ, D', R1, s1, q1, e1⟩
  · rw [if_neg (by assumption)] at q1; exact ⟨F1, A1, δ, D', R1, s1, q1, e1⟩
/-! patterns -/
inductive Pat where
  | nm (i : Nat) | tp (ps : List Pat)
mutual
def bindP : Pat → D → ASt → Option ASt
  | .nm i, d, δ => some (δ.set i (some d))
  | .tp ps, .tup ds, δ => bindPs ps ds δ
  | .tp _, _, _ => none
def bindPs : List Pat → List D → ASt → Option ASt
  | [], [], δ => some δ
  | p :: ps, d :: ds, δ => match bindP p d δ with
    | some δ' => bindPs ps ds δ'
    | none => none
  | _, _, _ => none
end
mutual
def slP : Pat → List Nat
  | .nm i => [i]
  | .tp ps => slPs ps
def slPs : List Pat → List Nat
  | [] => []
  | p :: ps => slP p ++ slPs ps
end
mutual
def tgOf (K : PySem.W.Frag) : Pat → TG
  | .nm i => gName i
  | .tp ps => gTup K ps.length (tgsOf K ps)
def tgsOf (K : PySem.W.Frag) : List Pat → TGs
  | [] => gNil
  | p :: ps => gCons (tgOf K p) (tgsOf K ps)
end
theorem wipe_set {σ : L2.St} {i : Nat} {x : Option V} : ∀ {vs : List Nat}, i ∈ vs → wipe (σ.set i x) vs = wipe σ vs
  | v :: vs, h => by
    show (wipe (σ.set i x) vs).set v none = (wipe σ vs).set v none
    by_cases e : i ∈ vs
    · rw [wipe_set e]
    · have : i = v := by
        rcases List.mem_cons.mp h with h | h
        · exact h
        · exact absurd h e
      subst this
      have aux : ∀ (ws : List Nat), (wipe (σ.set i x) ws).set i none = (wipe σ ws).set i none := fun ws => by
        induction ws with
        | nil => show (σ.set i x).set i none = σ.set i none; rw [List.set_set]
        | cons w ws ih =>
          show ((wipe (σ.set i x) ws).set w none).set i none = ((wipe σ ws).set w none).set i none
          by_cases q : w = i
          · subst q; rw [List.set_set, List.set_set, ih]
          · rw [List.set_comm _ _ q, ih, List.set_comm _ _ (Ne.symm q)]
      exact aux vs
mutual
theorem bindP_ok {K : PySem.W.Frag} {F : Addr → Prop} {H : Hp} : ∀ (p : Pat) {d : D} {v : V} {δ δ' : ASt} {σ : L2.St}, bindP p d δ = some δ' → Rep K F H d v → RepS K F H δ σ → ∃ σ', (∀ Q : L2.St → Hp → Prop, Q σ' H → tgOf K p v σ H Q) ∧ RepS K F H δ' σ' ∧ ∀ vs, (∀ i ∈ slP p, i ∈ vs) → wipe σ' vs = wipe σ vs
  | .nm i, d, v, δ, δ', σ, e, r, s => by
    simp only [bindP, Option.some.injEq] at e
    subst e
    exact ⟨σ.set i (some v), fun Q q => by rw [tgOf]; exact q, s.set r i, fun vs h => wipe_set (h i (by simp [slP]))⟩
  | .tp ps, d, v, δ, δ', σ, e, r, s => by
    cases r with
    | tup h r =>
      simp only [bindP] at e
      have hl : ps.length = _ := bindPs_len ps e
      obtain ⟨σ', h1, h2, h3⟩ := bindPs_ok ps e r s
      refine ⟨σ', fun Q q => ?_, h2, fun vs hv => h3 vs (by simpa [slP] using hv)⟩
      rw [tgOf]
      exact ⟨_, _, rfl, h.sq, by rw [hl]; exact r.length.symm, h1 Q q⟩
    | _ => simp only [bindP] at e; cases e
theorem bindPs_ok {K : PySem.W.Frag} {F : Addr → Prop} {H : Hp} : ∀ (ps : List Pat) {ds : List D} {us : List V} {δ δ' : ASt} {σ : L2.St}, bindPs ps ds δ = some δ' → Reps K F H ds us → RepS K F H δ σ → ∃ σ', (∀ Q : L2.St → Hp → Prop, Q σ' H → tgsOf K ps us σ H Q) ∧ RepS K F H δ' σ' ∧ ∀ vs, (∀ i ∈ slPs ps, i ∈ vs) → wipe σ' vs = wipe σ vs
  | [], ds, us, δ, δ', σ, e, r, s => by
    cases r with
    | nil => simp only [bindPs, Option.some.injEq] at e; subst e; exact ⟨σ, fun Q q => by rw [tgsOf]; exact ⟨rfl, q⟩, s, fun _ _ => rfl⟩
    | cons _ _ => simp only [bindPs] at e; cases e
  | p :: ps, ds, us, δ, δ', σ, e, r, s => by
    cases r with
    | nil => simp only [bindPs] at e; cases e
    | cons a r =>
      simp only [bindPs] at e
      split at e
      · rename_i δ1 q
        obtain ⟨σ1, h1, h2, h3⟩ := bindP_ok p q a s
        obtain ⟨σ2, k1, k2, k3⟩ := bindPs_ok ps e r h2
        refine ⟨σ2, fun Q q => ?_, k2, fun vs hv => ?_⟩
        · rw [tgsOf]
          exact ⟨_, _, rfl, h1 (fun σ' H' => tgsOf K ps _ σ' H' Q) (k1 Q q)⟩
        · rw [k3 vs fun i hi => hv i (by simp [slPs, hi]), h3 vs fun i hi => hv i (by simp [slPs, hi])]
      · cases e
theorem bindPs_len : ∀ (ps : List Pat) {ds : List D} {δ δ' : ASt}, bindPs ps ds δ = some δ' → ps.length = ds.length
  | [], [], _, _, _ => rfl
  | [], _ :: _, _, _, e => by simp only [bindPs] at e; cases e
  | _ :: _, [], _, _, e => by simp only [bindPs] at e; cases e
  | p :: ps, d :: ds, δ, δ', e => by
    simp only [bindPs] at e
    split at e
    · rw [List.length_cons, List.length_cons, bindPs_len ps e]
    · cases e
end
def aAsg (te : AE) (p : Pat) : AS := fun D δ A => te δ A (fun d A1 => ∃ δ', bindP p d δ = some δ' ∧ D.nx δ' A1) (fun C fs A1 => D.ex C fs δ A1)
theorem lift_asg {p : Pat} {D : Ends} {σ : L2.St} {H : Hp} (h : liftS X.K W (aAsg te p) D σ H) : tAsg (liftE X.K W te) (tgOf X.K p) D σ H := by
  obtain ⟨F, A, δ, D', R, s, q, e⟩ := h
  refine (st_core (R1 := Rep X.K) R s e q).mono fun y H1 ⟨x, F1, A1, r, R1, s1, ⟨δ', b, q1⟩, e1, x1⟩ => ?_
  obtain ⟨σ', h1, h2, _⟩ := bindP_ok p b r s1
  exact h1 _ (e1.nx _ _ _ _ _ q1 Ext.refl R1 h2)
theorem as_asg {tg : Expr} {p : Pat} (he : PE X e (liftE X.K W te)) (hg : PG X tg (tgOf X.K p)) (hs : swapsWithSole [tg] e pos.line X.env = pure false := by rfl) (hw : swappedStores [tg] e X.env = pure none := by rfl)
    (h1 : (assignEach [tg] X.env).map (·.2) = [assign tg X.env] := by rfl) : PS X (.Assign [tg] e pos) (liftS X.K W (aAsg te p)) := PS.imp (ps_asg he hg hs hw h1) fun D σ H h => lift_asg h
theorem as_set {i : Nat} {x : Str} {pos' : Pos} (hN : X.N.Nodup) (hi : X.N[i]? = some x) (hx : Loc X.env.scope x) (he : PE X e (liftE X.K W te)) (hs : swapsWith e (some (.Name x pos')) pos.line X.env = pure false := by rfl) (hf : X.fn x = true ∨ X.env.scope.names.lookup x = some .local := by first | exact .inl rfl | exact .inr rfl | assumption) :
    PS X (.Assign [.Name x pos'] e pos) (liftS X.K W (aAsg te (.nm i))) := PS.imp (ps_set hN hi hx he hs hf) fun D σ H h => by
  have := lift_asg h
  rw [tgOf] at this
  exact this
def aPar (is : List Nat) (t : AA) : AS := fun D δ A => t δ A (fun ds A1 => ∃ δ', bindPs (is.map .nm) ds δ = some δ' ∧ D.nx δ' A1) (fun C fs A1 => D.ex C fs δ A1)
theorem lift_par2 {i j : Nat} {t : AA} {D : Ends} {σ : L2.St} {H : Hp} (h : liftS X.K W (aPar [i, j] t) D σ H) : tPar i j (liftA X.K W t) D σ H := by
  obtain ⟨F, A, δ, D', R, s, q, e⟩ := h
  refine (st_core (R1 := Reps X.K) R s e q).mono fun y H1 ⟨x, F1, A1, r, R1, s1, ⟨δ', b, q1⟩, e1, x1⟩ => ?_
  have hl := bindPs_len _ b
  match x, y, r, hl with
  | [d1, d2], [v1, v2], .cons r1 (.cons r2 .nil), _ =>
    simp only [List.map, bindPs, bindP, Option.some.injEq] at b
    subst b
    exact ⟨v1, v2, rfl, e1.nx _ _ _ _ _ q1 Ext.refl R1 ((s1.set r1 i).set r2 j)⟩
theorem lift_par3 {i j l : Nat} {t : AA} {D : Ends} {σ : L2.St} {H : Hp} (h : liftS X.K W (aPar [i, j, l] t) D σ H) : tPar3 i j l (liftA X.K W t) D σ H := by
  obtain ⟨F, A, δ, D', R, s, q, e⟩ := h
  refine (st_core (R1 := Reps X.K) R s e q).mono fun y H1 ⟨x, F1, A1, r, R1, s1, ⟨δ', b, q1⟩, e1, x1⟩ => ?_
  have hl := bindPs_len _ b
  match x, y, r, hl with
  | [d1, d2, d3], [v1, v2, v3], .cons r1 (.cons r2 (.cons r3 .nil)), _ =>
    simp only [List.map, bindPs, bindP, Option.some.injEq] at b
    subst b
    exact ⟨v1, v2, v3, rfl, e1.nx _ _ _ _ _ q1 Ext.refl R1 (((s1.set r1 i).set r2 j).set r3 l)⟩
/-! ### iterators -/
structure ItOk (K : PySem.W.Frag) (J : It) (gd : AH → Prop) (ds : List D) (hs : List D) (us : List V) : Prop where
  go : ∀ F A H i, Rel K F A H → gd A → Reps K F H hs us → i < ds.length → J.go i H
  stop : ∀ F A H i, Rel K F A H → gd A → Reps K F H hs us → ds.length ≤ i → J.stop i H
  yld : ∀ F A H i x H', Rel K F A H → gd A → Reps K F H hs us → J.yld i H x H' → i < ds.length → ∃ d, ds[i]? = some d ∧ Ext F A H F A H' ∧ Rel K F A H' ∧ Rep K F H' d x
abbrev IA := (AH → Prop) × List D
def RepI (K : PySem.W.Frag) : RP IA It := fun F H x J => ∃ hs us, Reps K F H hs us ∧ ItOk K J x.1 x.2 hs us
abbrev AI := AM IA
abbrev liftI (K : PySem.W.Frag) (W : WX) (t : AI) : TI := lift (RepI K) K W t
def aLoop (gd : AH → Prop) (p : Pat) (tb : AS) (N : AEnds) : List D → ASt → AH → Prop
  | [], δ, A => gd A ∧ N.nx δ A
  | d :: ds, δ, A => gd A ∧ ∃ δ2, bindP p d δ = some δ2 ∧ tb { N with nx := aLoop gd p tb N ds, ct := aLoop gd p tb N ds, bk := N.nx } δ2 A
def aFor (ti : AI) (p : Pat) (tb : AS) : AS := fun D δ A => ti δ A (fun i A1 => aLoop i.1 p tb D i.2 δ A1) (fun C fs A1 => D.ex C fs δ A1)
theorem aLoop_gd {gd : AH → Prop} {p : Pat} {tb : AS} {N : AEnds} {ds : List D} {δ : ASt} {A : AH} (h : aLoop gd p tb N ds δ A) : gd A := by cases ds <;> exact h.1
theorem lift_for {ti : AI} {p : Pat} {tb : AS} {D : Ends} {σ : L2.St} {H : Hp} (h : liftS X.K W (aFor ti p tb) D σ H) : tFor (liftI X.K W ti) (tgOf X.K p) (liftS X.K W tb) D σ H := by
  obtain ⟨F, A, δ, D', R, s, q, e⟩ := h
  refine (st_core (R1 := RepI X.K) R s e q).mono fun J H1 ⟨x, F1, A1, ⟨hs, us, rh, ok⟩, R1, s1, q1, e1, x1⟩ => ?_
  obtain ⟨gd, ds⟩ := x
  refine ⟨fun i m σ H => m + i = ds.length + 1 ∧ i ≤ ds.length ∧ ∃ F A δ, Rel X.K F A H ∧ RepS X.K F H δ σ ∧ Reps X.K F H hs us ∧ aLoop gd p tb D' (ds.drop i) δ A ∧ EndsOk X.K W F A H D' D, ⟨ds.length + 1, rfl, Nat.zero_le _, F1, A1, δ, R1, s1, rh, q1, e1⟩, ?_⟩
  rintro i m σ H ⟨hm, hi, F, A, δ, R, s, rh, q, e⟩
  have hgd := aLoop_gd q
  by_cases hl : ds.length ≤ i
  · refine .inl ⟨ok.stop F A H i R hgd rh hl, ?_⟩
    rw [List.drop_eq_nil_of_le hl] at q
    exact e.nx _ _ _ _ _ q.2 Ext.refl R s
  · have hlt : i < ds.length := by omega
    refine .inr ⟨ok.go F A H i R hgd rh hlt, _, fun σ' H' h => ⟨m - 1, by omega, h⟩, fun x H' hy => ?_⟩
    obtain ⟨d, ed, x2, R2, r2⟩ := ok.yld F A H i x H' R hgd rh hy hlt
    rw [List.drop_eq_getElem_cons hlt] at q
    have : ds[i] = d := by
      rw [List.getElem?_eq_getElem hlt] at ed
      exact Option.some.inj ed
    rw [this] at q
    obtain ⟨_, δ2, b, q⟩ := q
    obtain ⟨σ2, h1, h2, _⟩ := bindP_ok p b r2 (s.kept (x2.kept R))
    have rh2 := rh.kept (x2.kept R)
    have e2 := e.step x2
    refine h1 (fun σ2 H2 => liftS X.K W tb { D with nx := _, ct := _, bk := D.nx } σ2 H2) ⟨F, A, δ2, _, R2, h2, q, ?_⟩
    refine ⟨fun δ3 A3 F3 H3 σ3 q3 x3 R3 s3 => ?_, e2.rt, fun δ3 A3 F3 H3 σ3 q3 x3 R3 s3 => e2.nx _ _ _ _ _ q3 x3 R3 s3, fun δ3 A3 F3 H3 σ3 q3 x3 R3 s3 => ?_, e2.ex⟩
    · exact ⟨by omega, by omega, F3, A3, δ3, R3, s3, rh2.kept (x3.kept R2), q3, e2.step x3⟩
    · exact ⟨by omega, by omega, F3, A3, δ3, R3, s3, rh2.kept (x3.kept R2), q3, e2.step x3⟩
theorem as_for {tg iter : Expr} {body : List Stmt} {ti : AI} {p : Pat} {tb : AS} (hp : PassesOwn (model X.prog X.w) X.A X.env X.xe) (hc : X.calm = true) (hi : PI X tg iter (liftI X.K W ti)) (hg : PG X tg (tgOf X.K p)) (hb : PSs X body (liftS X.K W tb))
    (hs : ∀ x, foldedSetIterable iter X.env x = pure x := by intro _; rfl) : PS X (.For tg iter body [] pos) (liftS X.K W (aFor ti p tb)) := PS.imp (ps_for hp hc hi hg hb hs) fun D σ H h => lift_for h
def aWhile (c : AT) (tb : AS) : AS := fun D δ A => ∃ V : Nat → ASt → AH → Prop, (∃ m, V m δ A) ∧ ∀ m δ A, V m δ A →
  c δ A (fun b A1 => if b = true then ∃ N : ASt → AH → Prop, (∀ δ' A', N δ' A' → ∃ m', m' < m ∧ V m' δ' A') ∧ tb { D with nx := N, ct := N, bk := D.nx } δ A1 else D.nx δ A1) (fun C fs A1 => D.ex C fs δ A1)
theorem as_while {c : Expr} {body : List Stmt} {tc : AT} {tb : AS} (hp : PassesOwn (model X.prog X.w) X.A X.env X.xe) (hc : PT X c (liftT X.K W tc)) (hb : PSs X body (liftS X.K W tb)) : PS X (.While c body [] pos) (liftS X.K W (aWhile tc tb)) := PS.imp (ps_while hp hc hb) fun D σ H ⟨F, A, δ, D', R, s, q, e⟩ => by
  obtain ⟨V, ⟨m0, v0⟩, turn⟩ := q
  refine ⟨fun m σ H => ∃ F A δ, Rel X.K F A H ∧ RepS X.K F H δ σ ∧ V m δ A ∧ EndsOk X.K W F A H D' D, ⟨m0, F, A, δ, R, s, v0, e⟩, ?_⟩
  rintro m σ H ⟨F, A, δ, R, s, v, e⟩
  refine (st_core (R1 := fun _ _ x y => x = y) R s e (turn m δ A v)).mono fun y H1 ⟨x, F1, A1, r, R1, s1, q1, e1, x1⟩ => ?_
  subst r
  split
  · rw [if_pos (by assumption)] at q1
    obtain ⟨N, hN, q2⟩ := q1
    refine ⟨_, fun σ' H' h => h, F1, A1, δ, _, R1, s1, q2, ?_⟩
    refine ⟨fun δ3 A3 F3 H3 σ3 q3 x3 R3 s3 => ?_, e1.rt, fun δ3 A3 F3 H3 σ3 q3 x3 R3 s3 => e1.nx _ _ _ _ _ q3 x3 R3 s3, fun δ3 A3 F3 H3 σ3 q3 x3 R3 s3 => ?_, e1.ex⟩
    · obtain ⟨m', hm, v'⟩ := hN _ _ q3
      exact ⟨m', hm, F3, A3, δ3, R3, s3, v', e1.step x3⟩
    · obtain ⟨m', hm, v'⟩ := hN _ _ q3
      exact ⟨m', hm, F3, A3, δ3, R3, s3, v', e1.step x3⟩
  · rw [if_neg (by assumption)] at q1; exact e1.nx _ _ _ _ _ q1 Ext.refl R1 s1
end
end Av

set_option Elab.async false
set_option linter.all false
set_option maxRecDepth 100000
set_option maxHeartbeats 4000000
/-! own library Av, part 4: comprehensions, calls, defs, errors -/
namespace Av
open PySem PySem.Spec PyProof.Rows L2 My
abbrev noW : WX := fun _ _ _ _ => False
abbrev noX : AX := fun _ _ _ => False
def wipeA (δ : ASt) : List Nat → ASt
  | [] => δ
  | v :: vs => (wipeA δ vs).set v none
theorem RepS.wipe {K : PySem.W.Frag} {F : Addr → Prop} {H : Hp} {δ : ASt} {σ : L2.St} (s : RepS K F H δ σ) : ∀ vs : List Nat, RepS K F H (wipeA δ vs) (wipe σ vs)
  | [] => s
  | v :: vs => (RepS.wipe s vs).unset v
theorem gx_no {K : PySem.W.Frag} {F : Addr → Prop} {A : AH} {H : Hp} {W : WX} {σ : L2.St} : Gx K W F A H σ noX := fun _ _ _ _ _ _ _ h => h.elim
/-- a new object in the place of a hidden one, over the world where it was not yet -/
theorem show_ok {K : PySem.W.Frag} {F F1 : Addr → Prop} {A A1 : AH} {H H1 : Hp} {Q' : AQ} {Q : VK} {live : Bool} {o : AO} {ho : HO} {p : Addr} (R : Rel K F A H) (x : Ext F1 A1 H1 F A H) (h1 : H1 p = none) (nF : ¬ F p) (nA : A p = none) (e : H p = some ho) (r : RepO K F H o ho) (h : aNew live o A Q') (po : Post K (Rep K) F1 A1 H1 Q' Q) : Q (.ref p) H := by
  cases live with
  | true =>
    refine po _ _ _ _ _ (h p nA) ⟨x.f, fun a u q w => ?_, x.g⟩ (R.showL nF e r) (.ref p)
    rw [put_ne (ne_of_none w h1)]; exact x.k a u q w
  | false =>
    obtain ⟨R2, r2⟩ := R.showF nA e r
    refine po _ _ _ _ _ h ⟨fun a f => .inl (x.f a f), x.k, fun a u q w f => ?_⟩ R2 r2
    rcases f with f | f
    · exact x.g a u q w f
    · rw [f, h1] at w; cases w
section
variable {X : Cx} {W : WX} {pos : Pos}
def aComp (gd : AH → Prop) (p : Pat) (tt : AT) (te : AE) (δ : ASt) : List D → List D → AH → (List D → AH → Prop) → Prop
  | [], acc, A, Q => gd A ∧ Q acc A
  | d :: ds, acc, A, Q => gd A ∧ ∃ δ2, bindP p d δ = some δ2 ∧ tt δ2 A (fun b A1 => if b = true then te δ2 A1 (fun y A2 => acc.length < sizeLine ∧ aComp gd p tt te δ ds (acc ++ [y]) A2 Q) noX else aComp gd p tt te δ ds acc A1 Q) noX
theorem aComp_gd {gd : AH → Prop} {p : Pat} {tt : AT} {te : AE} {δ : ASt} {ds acc : List D} {A : AH} {Q : List D → AH → Prop} (h : aComp gd p tt te δ ds acc A Q) : gd A := by cases ds <;> exact h.1
def aLc (live : Bool) (ti : AI) (p : Pat) (tt : AT) (te : AE) (vs : List Nat) : AE := fun δ A Q E => ti δ A (fun i A1 => aComp i.1 p tt te (wipeA δ vs) i.2 [] A1 (fun xs A2 => aNew live (.lst xs) A2 Q)) E
theorem lift_lc {live : Bool} {ti : AI} {p : Pat} {tt : AT} {te : AE} {vs : List Nat} (hv : ∀ i ∈ slP p, i ∈ vs) {σ : L2.St} {H : Hp} {Q : VK} (h : liftE X.K W (aLc live ti p tt te vs) σ H Q) :
    tLc (liftI X.K W ti) (tgOf X.K p) (liftT X.K noW tt) (liftE X.K noW te) vs σ H Q := by
  obtain ⟨δ, h⟩ := h
  refine (Lf.core (R1 := RepI X.K) (k := fun i A1 Q E => aComp i.1 p tt te (wipeA δ vs) i.2 [] A1 (fun xs A2 => aNew live (.lst xs) A2 Q)) h).mono fun J H1 ⟨x, F1, A1, Q', E', a, ⟨hs, us, rh, ok⟩, q, po⟩ => ?_
  obtain ⟨gd, ds⟩ := x
  intro Dd hDd
  have R0 := a.rel.lay hDd (ho := .lst [])
  have x0 := ext_new a.rel hDd (ho := .lst [])
  have k0 := x0.kept a.rel
  refine ⟨fun i m H => m + i = ds.length + 1 ∧ i ≤ ds.length ∧ ∃ F A acc av, Rel X.K F A H ∧ A Dd = none ∧ ¬ F Dd ∧ H Dd = some (.lst av) ∧ Reps X.K F H acc av ∧ RepS X.K F H (wipeA δ vs) (wipe σ vs) ∧ Reps X.K F H hs us ∧
    aComp gd p tt te (wipeA δ vs) (ds.drop i) acc A (fun xs A2 => aNew live (.lst xs) A2 Q') ∧ Ext F1 A1 H1 F A H, ⟨ds.length + 1, rfl, Nat.zero_le _, F1, A1, [], [], R0, (a.rel.fresh hDd).1, (a.rel.fresh hDd).2, upd_same, .nil, (a.sl.wipe vs).kept k0, rh.kept k0, q, x0⟩, ?_⟩
  rintro i m H ⟨hm, hi, F, A, acc, av, R, nA, nF, eD, ra, s, rh, q, xx⟩
  have hgd := aComp_gd q
  by_cases hl : ds.length ≤ i
  · refine .inl ⟨ok.stop F A H i R hgd rh hl, ?_⟩
    rw [List.drop_eq_nil_of_le hl] at q
    exact show_ok R xx hDd nF nA eD (.lst ra) q.2 po
  · have hlt : i < ds.length := by omega
    refine .inr ⟨ok.go F A H i R hgd rh hlt, _, fun H' h => ⟨m - 1, by omega, h⟩, fun x H' hy => ?_⟩
    obtain ⟨d, ed, x2, R2, r2⟩ := ok.yld F A H i x H' R hgd rh hy hlt
    rw [List.drop_eq_getElem_cons hlt] at q
    have : ds[i] = d := by
      rw [List.getElem?_eq_getElem hlt] at ed
      exact Option.some.inj ed
    rw [this] at q
    obtain ⟨_, δ2, b, q⟩ := q
    have k2 := x2.kept R
    obtain ⟨σ2, h1, h2, h3⟩ := bindP_ok p b r2 (s.kept k2)
    have aux : ∀ ws : List Nat, (∀ v ∈ ws, v ∈ vs) → wipe (wipe σ ws) vs = wipe σ vs := fun ws => by
      induction ws with
      | nil => intro _; rfl
      | cons w ws ih =>
        intro hw
        show wipe ((wipe σ ws).set w none) vs = wipe σ vs
        rw [wipe_set (hw w List.mem_cons_self), ih fun v hv => hw v (List.mem_cons_of_mem _ hv)]
    refine h1 _ ⟨(h3 vs hv).trans (aux vs fun _ h => h), ?_⟩
    have eD2 := (x2.k Dd _ nA eD).2
    refine ⟨δ2, F, A, _, noX, ⟨R2, h2, gx_no, .nil⟩, q, fun bb A3 F3 H3 y q3 x3 R3 ey => ?_⟩
    subst ey
    have k3 := x3.kept R2
    obtain ⟨nA3, eD3⟩ := x3.k Dd _ nA eD2
    have nF3 : ¬ F3 Dd := fun z => nF (x3.g Dd _ nA eD2 z)
    have xx3 := (xx.trans x2).trans x3
    split
    · rw [if_pos (by assumption)] at q3
      refine ⟨δ2, F3, A3, _, noX, ⟨R3, h2.kept k3, gx_no, .nil⟩, q3, fun y A4 F4 H4 v ⟨hz, q4⟩ x4 R4 r4 => ?_⟩
      have k4 := x4.kept R3
      obtain ⟨nA4, eD4⟩ := x4.k Dd _ nA3 eD3
      have nF4 : ¬ F4 Dd := fun z => nF3 (x4.g Dd _ nA3 eD3 z)
      have xx4 := xx3.trans x4
      have ra4 := ((ra.kept k2).kept k3).kept k4
      have kh : Kept F4 F4 H4 (upd H4 Dd (.lst (av ++ [v]))) := kept_hid nF4 eD4 (fun _ z => by cases z) (fun _ _ z => by cases z) (fun _ z => by cases z)
      refine ⟨av, eD4, by rw [← ra4.length]; exact hz, by omega, by omega, F4, A4, acc ++ [y], av ++ [v], R4.hid nF4 nA4 eD4 (fun _ z => by cases z) (fun _ _ z => by cases z) (fun _ z => by cases z), nA4, nF4, upd_same, (ra4.append (.cons r4 .nil)).kept kh, ((((s.kept k2).kept k3).kept k4).kept kh), ((((rh.kept k2).kept k3).kept k4).kept kh), q4, xx4.f, fun a o w e => ?_, xx4.g⟩
      rw [upd_ne (ne_of_none e hDd)]
      exact xx4.k a o w e
    · rw [if_neg (by assumption)] at q3
      exact ⟨by omega, by omega, F3, A3, acc, av, R3, nA3, nF3, eD3, (ra.kept k2).kept k3, (s.kept k2).kept k3, (rh.kept k2).kept k3, q3, xx3⟩
end
end Av

set_option Elab.async false
set_option linter.all false
set_option maxRecDepth 100000
set_option maxHeartbeats 4000000
/-! own library Av, part 5: calls, defs, fields, errors, iterators -/
namespace Av
open PySem PySem.Spec PyProof.Rows L2 My
abbrev ASp := List D → AH → AQ → AX → Prop
def liftSp (K : PySem.W.Frag) (asp : ASp) : Sp := fun vs H Q E => ∃ F A ds Q' E', Rel K F A H ∧ Reps K F H ds vs ∧ asp ds A Q' E' ∧ Post K (Rep K) F A H Q' Q ∧ Gx K (fun cls d _ H => E cls d H) F A H [] E'
abbrev anyX : XK := fun _ _ _ => True
/-- a call of a def, by its promise -/
structure Tag {β : Type} (_ : β) : Type where mk ::
def Call (asp : ASp) (ds : List D) (A : AH) (Q : AQ) (E : AX) (_ : Tag (Q, E)) : Prop := asp ds A Q E
def aCall (asp : ASp) (t : AA) : AE := fun δ A Q E => t δ A (fun ds A1 => Call asp ds A1 Q E ⟨⟩) E
section
variable {X : Cx} {CX : CXT} {W : WX} {k : Nat} {f C : Addr} {asp : ASp} {x m fl : Str} {e o : Expr} {es : List Expr} {ta tv : AE} {t : AA} {p pos pos' apos : Pos}
theorem Lf.sp {δ : ASt} {σ : L2.St} {H : Hp} {xs : List D} {vs : List V} {Q : VK} (h : Lf (Rep X.K) X.K W δ xs vs (asp xs) σ H Q) : liftSp X.K asp vs H Q (WE W σ) := by
  obtain ⟨F, A, Q', E', a, q, p⟩ := h
  exact ⟨F, A, xs, Q', E', a.rel, a.held, q, p, a.gx⟩
theorem sp_any {vs : List V} {H : Hp} {Q : VK} {E : XK} {K : PySem.W.Frag} (h : liftSp K asp vs H Q E) : liftSp K asp vs H Q anyX := by
  obtain ⟨F, A, ds, Q', E', a, b, c, d, e⟩ := h
  exact ⟨F, A, ds, Q', E', a, b, c, d, fun _ _ _ _ _ _ _ _ _ _ _ _ => trivial⟩
theorem lift_call {σ : L2.St} {H : Hp} {Q : VK} (h : liftE X.K W (aCall asp t) σ H Q) : liftA X.K W t σ H (fun vs H1 => liftSp X.K asp vs H1 Q (WE W σ)) := by
  obtain ⟨δ, h⟩ := h
  exact (Lf.bindA (k := asp) h).mono fun vs H1 ⟨xs, h1⟩ => by rw [List.append_nil, List.append_nil] at h1; exact h1.sp
theorem ae_callX (F : FnR X.prog X.w X.K X.mg X.base (L2.CX X.prog X.w) k f (liftSp X.K asp)) (hr : Room k X.A) (hg : Gl X x) (hm : X.mg x = some (.ref f)) (hk : PySem.W.keepIn X.K (.ref f) = true) (tk : Takes X W) (ha : PA X (e :: es) (liftA X.K W t))
    (hdb : (x == ("__debug__" : Str)) = false := by decide) (he : starEach (e :: es) X.env = (false, eval e X.env) :: starEach es X.env := by rfl) (hpl : (backTo pos (starEach es X.env)).any (·.1) = false := by rfl) :
    PE X (.Call (.Name x p) (e :: es) [] pos) (liftE X.K W (aCall asp t)) := PE.imp (pe_callX F hr hg hm hk (passAt tk) ha hdb he hpl) fun σ H Q h => lift_call h
theorem ae_callR (F : FnR X.prog X.w X.K X.mg X.base CX0 k f (liftSp X.K asp)) (hr : Room k X.A) (hg : Gl X x) (hm : X.mg x = some (.ref f)) (hk : PySem.W.keepIn X.K (.ref f) = true) (ha : PA X (e :: es) (liftA X.K W t))
    (hdb : (x == ("__debug__" : Str)) = false := by decide) (he : starEach (e :: es) X.env = (false, eval e X.env) :: starEach es X.env := by rfl) (hpl : (backTo pos (starEach es X.env)).any (·.1) = false := by rfl) :
    PE X (.Call (.Name x p) (e :: es) [] pos) (liftE X.K W (aCall asp t)) := PE.imp (pe_callR (E := anyX) F hr hg hm hk pass0 ha hdb he hpl) fun σ H Q h => (lift_call h).mono fun vs H1 h1 => sp_any h1
theorem ae_callR0 (F : FnR X.prog X.w X.K X.mg X.base CX0 k f (liftSp X.K asp)) (hr : Room k X.A) (hg : Gl X x) (hm : X.mg x = some (.ref f)) (hk : PySem.W.keepIn X.K (.ref f) = true)
    (hdb : (x == ("__debug__" : Str)) = false := by decide) : PE X (.Call (.Name x p) [] [] pos) (liftE X.K W (aCall asp aNil)) := PE.imp (pe_callR0 (E := anyX) F hr hg hm hk pass0 hdb) fun σ H Q ⟨δ, h⟩ => sp_any (Lf.sp (W := W) (δ := δ) (σ := σ) h)
theorem ae_callX0 (F : FnR X.prog X.w X.K X.mg X.base (L2.CX X.prog X.w) k f (liftSp X.K asp)) (hr : Room k X.A) (hg : Gl X x) (hm : X.mg x = some (.ref f)) (hk : PySem.W.keepIn X.K (.ref f) = true) (tk : Takes X W)
    (hdb : (x == ("__debug__" : Str)) = false := by decide) : PE X (.Call (.Name x p) [] [] pos) (liftE X.K W (aCall asp aNil)) := PE.imp (pe_callX0 F hr hg hm hk (passAt tk) hdb) fun σ H Q ⟨δ, h⟩ => Lf.sp (W := W) (δ := δ) (σ := σ) h
/-- o.m(..) -/
def aMeth (C : Addr) (m : Str) (asp : ASp) (ta : AE) (t : AA) : AE := fun δ A Q E => ta δ A (fun x A1 => (∃ fs, asO A1 x = some (C, fs) ∧ fs.lookup m = none) ∧ t δ A1 (fun ds A2 => Call asp (x :: ds) A2 Q E ⟨⟩) E) E
theorem reps_mid {K : PySem.W.Frag} {F : Addr → Prop} {H : Hp} {xs : List D} {us : List V} {x : D} {v : V} (r : Reps K F H (xs ++ [x]) (us ++ [v])) (h : xs.length = us.length) : Reps K F H (x :: xs) (v :: us) := by
  have r1 := r.take xs.length
  have r2 := r.drop xs.length
  rw [List.take_left' rfl, h, List.take_left' rfl] at r1
  rw [List.drop_left' rfl, h, List.drop_left' rfl] at r2
  cases r2 with
  | cons a _ => exact .cons a r1
theorem lift_meth {σ : L2.St} {H : Hp} {Q : VK} (h : liftE X.K W (aMeth C m asp ta t) σ H Q) : liftE X.K W ta σ H (fun x H1 => ∃ a dx fs, x = .ref a ∧ H1 a = some (.ins C dx fs) ∧ fs.lookup m = none ∧ liftA X.K W t σ H1 (fun vs H2 => liftSp X.K asp (x :: vs) H2 Q (WE W σ))) := by
  obtain ⟨δ, h⟩ := h
  refine (Lf.bindE (k := fun x A1 Q E => (∃ fs, asO A1 x = some (C, fs) ∧ fs.lookup m = none) ∧ t δ A1 (fun ds A2 => asp (x :: ds) A2 Q E) E) h).mono fun v H1 ⟨x, F, A, Q', E', a, ⟨⟨fs, eo, lo⟩, q⟩, p⟩ => ?_
  cases a.held with
  | cons r0 _ =>
    obtain ⟨b, dx, vs, rfl, eb, rf⟩ := asO_ok a.rel r0 eo
    refine ⟨b, dx, vs, rfl, eb, rf.lookup0 lo, ?_⟩
    refine (Lf.core (R1 := Reps X.K) (k := fun ds A2 Q E => asp (x :: ds) A2 Q E) (ds := [x]) (vs := [V.ref b]) (δ := δ) ⟨F, A, Q', E', ⟨a.rel, a.sl, a.gx, .cons r0 .nil⟩, q, p⟩).mono fun us H2 ⟨ds, F2, A2, Q2, E2, a2, r2, q2, p2⟩ => ?_
    cases a2.held with
    | cons r3 _ => exact ⟨F2, A2, x :: ds, Q2, E2, a2.rel, .cons r3 r2, q2, p2, a2.gx⟩
theorem ae_methX {pl : Sem Bool} (he : PE X o (liftE X.K W ta)) (c : Cls X.K C) (hm : Meth X.K C m f) (F : FnR X.prog X.w X.K X.mg X.base (L2.CX X.prog X.w) k f (liftSp X.K asp)) (hr : Room k X.A) (tk : Takes X W) (ha : PA X (e :: es) (liftA X.K W t))
    (hst : starEach (e :: es) X.env = (false, eval e X.env) :: starEach es X.env := by rfl) (hpl : (backTo pos (starEach es X.env)).any (·.1) = false := by rfl)
    (ht : eval (.Call (.Attribute o m apos) (e :: es) [] pos) X.env = (do
      let ov ← eval o X.env
      standAt apos.atName
      let (f, first) ← holding [ov] (getMethod ov m pl)
      callWith pos f first (backTo pos (starEach (e :: es) X.env)) (backToKw pos (keywordEach [] X.env))) := by rfl) :
    PE X (.Call (.Attribute o m apos) (e :: es) [] pos) (liftE X.K W (aMeth C m asp ta t)) := PE.imp (pe_methX he c hm F hr (passAt tk) ha hst hpl ht) fun σ H Q h => lift_meth h
theorem ae_methX0 {pl : Sem Bool} (he : PE X o (liftE X.K W ta)) (c : Cls X.K C) (hm : Meth X.K C m f) (F : FnR X.prog X.w X.K X.mg X.base (L2.CX X.prog X.w) k f (liftSp X.K asp)) (hr : Room k X.A) (tk : Takes X W)
    (ht : eval (.Call (.Attribute o m apos) [] [] pos) X.env = (do
      let ov ← eval o X.env
      standAt apos.atName
      let (f, first) ← holding [ov] (getMethod ov m pl)
      callWith pos f first (backTo pos (starEach [] X.env)) (backToKw pos (keywordEach [] X.env))) := by rfl) :
    PE X (.Call (.Attribute o m apos) [] [] pos) (liftE X.K W (aMeth C m asp ta aNil)) := PE.imp (pe_methX0 he c hm F hr (passAt tk) ht) fun σ H Q h => (lift_meth h).mono fun x H1 ⟨a, dx, fs, e1, e2, e3, z⟩ => ⟨a, dx, fs, e1, e2, e3, by
      obtain ⟨δ, F, A, Q', E', at_, q, p⟩ := z
      exact p _ _ _ _ _ q Ext.refl at_.rel .nil⟩
theorem ae_methR {pl : Sem Bool} (he : PE X o (liftE X.K W ta)) (c : Cls X.K C) (hm : Meth X.K C m f) (F : FnR X.prog X.w X.K X.mg X.base CX0 k f (liftSp X.K asp)) (hr : Room k X.A) (ha : PA X (e :: es) (liftA X.K W t))
    (hst : starEach (e :: es) X.env = (false, eval e X.env) :: starEach es X.env := by rfl) (hpl : (backTo pos (starEach es X.env)).any (·.1) = false := by rfl)
    (ht : eval (.Call (.Attribute o m apos) (e :: es) [] pos) X.env = (do
      let ov ← eval o X.env
      standAt apos.atName
      let (f, first) ← holding [ov] (getMethod ov m pl)
      callWith pos f first (backTo pos (starEach (e :: es) X.env)) (backToKw pos (keywordEach [] X.env))) := by rfl) :
    PE X (.Call (.Attribute o m apos) (e :: es) [] pos) (liftE X.K W (aMeth C m asp ta t)) := PE.imp (pe_methR (E := anyX) he c hm F hr pass0 ha hst hpl ht) fun σ H Q h => (lift_meth h).mono fun x H1 ⟨a, dx, fs, e1, e2, e3, z⟩ => ⟨a, dx, fs, e1, e2, e3, z.mono fun vs H2 h2 => sp_any h2⟩
theorem ae_methR0 {pl : Sem Bool} (he : PE X o (liftE X.K W ta)) (c : Cls X.K C) (hm : Meth X.K C m f) (F : FnR X.prog X.w X.K X.mg X.base CX0 k f (liftSp X.K asp)) (hr : Room k X.A)
    (ht : eval (.Call (.Attribute o m apos) [] [] pos) X.env = (do
      let ov ← eval o X.env
      standAt apos.atName
      let (f, first) ← holding [ov] (getMethod ov m pl)
      callWith pos f first (backTo pos (starEach [] X.env)) (backToKw pos (keywordEach [] X.env))) := by rfl) :
    PE X (.Call (.Attribute o m apos) [] [] pos) (liftE X.K W (aMeth C m asp ta aNil)) := PE.imp (pe_methR0 (E := anyX) he c hm F hr pass0 ht) fun σ H Q h => (lift_meth h).mono fun x H1 ⟨a, dx, fs, e1, e2, e3, z⟩ => ⟨a, dx, fs, e1, e2, e3, by
      obtain ⟨δ, F, A, Q', E', at_, q, p⟩ := z
      exact sp_any (p _ _ _ _ _ q Ext.refl at_.rel .nil)⟩
/-- a property -/
def aProp (C : Addr) (asp : ASp) (ta : AE) : AE := fun δ A Q E => ta δ A (fun x A1 => (∃ fs, asO A1 x = some (C, fs)) ∧ Call asp [x] A1 Q E ⟨⟩) E
theorem ae_prop {pr g : Addr} (he : PE X e (liftE X.K W ta)) (c : Cls X.K C) (hp : PropOf X.K C fl pr g) (F : FnR X.prog X.w X.K X.mg X.base CX0 k g (liftSp X.K asp)) (hr : Room (k + 1) X.A)
    (hab : attributeBase e fl X.env (eval e X.env) = eval e X.env) : PE X (.Attribute e fl pos) (liftE X.K W (aProp C asp ta)) := PE.imp (pe_propR (E := anyX) he c hp F hr pass0 hab) fun σ H Q ⟨δ, h⟩ => by
  refine (Lf.bindE (k := fun x A1 Q E => (∃ fs, asO A1 x = some (C, fs)) ∧ asp [x] A1 Q E) h).mono fun v H1 ⟨x, F, A, Q', E', a, ⟨⟨fs, eo⟩, q⟩, p⟩ => ?_
  cases a.held with
  | cons r0 _ =>
    obtain ⟨b, dx, vs, rfl, eb, rf⟩ := asO_ok a.rel r0 eo
    exact ⟨b, dx, vs, rfl, eb, sp_any (K := X.K) (E := WE W σ) ⟨F, A, [x], Q', E', a.rel, .cons r0 .nil, q, p, a.gx⟩⟩
/-- a field -/
def aFld (K : PySem.W.Frag) (f : Str) (ta : AE) : AE := fun δ A Q E => ta δ A (fun x A1 => ∃ C fs v, asO A1 x = some (C, fs) ∧ Cls K C ∧ NoAttr K C f ∧ fs.lookup f = some v ∧ Q v A1) E
theorem ae_fld (he : PE X e (liftE X.K W ta)) (hb : attributeBase e fl X.env (eval e X.env) = eval e X.env) : PE X (.Attribute e fl pos) (liftE X.K W (aFld X.K fl ta)) := PE.imp (pe_fld he hb) fun σ H Q ⟨δ, h⟩ => by
  refine (Lf.bindE (k := fun x A1 Q E => ∃ C fs v, asO A1 x = some (C, fs) ∧ Cls X.K C ∧ NoAttr X.K C fl ∧ fs.lookup fl = some v ∧ Q v A1) h).mono fun v H1 ⟨x, F, A, Q', E', a, ⟨C, fs, d, eo, c1, c2, l, q⟩, p⟩ => ?_
  cases a.held with
  | cons r0 _ =>
    obtain ⟨b, dx, vs, rfl, eb, rf⟩ := asO_ok a.rel r0 eo
    obtain ⟨u, lu, ru⟩ := rf.lookup l
    exact ⟨b, C, dx, vs, u, rfl, eb, c1, c2, lu, p _ _ _ _ _ q Ext.refl a.rel ru⟩
def putFA (f : Str) (v : D) : List (Str × D) → List (Str × D)
  | [] => [(f, v)]
  | (g, x) :: r => if g = f then (g, v) :: r else (g, x) :: putFA f v r
theorem RepF.put {K : PySem.W.Frag} {F : Addr → Prop} {H : Hp} {f : Str} {d : D} {v : V} (q : Rep K F H d v) : ∀ {ds : List (Str × D)} {vs : List (Str × V)}, RepF K F H ds vs → RepF K F H (putFA f d ds) (putF f v vs)
  | _, _, .nil => .cons q .nil
  | _, _, .cons (n := n) a r => by
    rw [putFA, putF]
    split
    · exact .cons q r
    · exact .cons a (RepF.put q r)
def aSetFld (K : PySem.W.Frag) (f : Str) (ta tv : AE) : AS := fun D δ A => tv δ A (fun y A1 => ta δ A1 (fun x A2 => ∃ a C fs, x = .ref a ∧ A2 a = some (.ins C fs) ∧ Cls K C ∧ NoAttr K C f ∧ fs.length < 1000 ∧ D.nx δ (put A2 a (.ins C (putFA f y fs)))) (fun C fs A1 => D.ex C fs δ A1)) (fun C fs A1 => D.ex C fs δ A1)
theorem as_fld {value : Expr} (ha : PE X o (liftE X.K W ta)) (hv : PE X value (liftE X.K W tv)) (hs : swapsWith value (some (.Attribute o fl pos')) pos.line X.env = pure false) : PS X (.Assign [.Attribute o fl pos'] value pos) (liftS X.K W (aSetFld X.K fl ta tv)) := PS.imp (ps_fld ha hv hs) fun D σ H ⟨F, A, δ, D', R, s, q, e⟩ => by
  refine (st_core (R1 := Rep X.K) R s e q).mono fun y H1 ⟨dy, F1, A1, r1, R1, s1, q1, e1, x1⟩ => ?_
  refine (st_core (R1 := Rep X.K) R1 s1 e1 q1).mono fun x H2 ⟨dx, F2, A2, r2, R2, s2, ⟨a, C, fs, ex, ea, c1, c2, l, q2⟩, e2, x2⟩ => ?_
  subst ex
  cases r2
  obtain ⟨_, ho, eh, ro⟩ := R2.live a _ ea
  cases ro with
  | ins ro =>
    have ry := r1.kept (x2.kept R1)
    obtain ⟨R3, x3⟩ := R2.put ea (RepO.ins (ro.put ry))
    exact ⟨a, C, _, _, rfl, eh, c1, c2, by rw [← ro.length]; exact l, e2.nx _ _ _ _ _ q2 x3 R3 (s2.kept (x3.kept R2))⟩
/-- o.f op= e, ints -/
def aAugFld (K : PySem.W.Frag) (f : Str) (g : Int → Int → Int) (ta tv : AE) : AS := fun D δ A => ta δ A (fun x A1 => ∃ a C fs i, x = .ref a ∧ A1 a = some (.ins C fs) ∧ Cls K C ∧ NoAttr K C f ∧ fs.lookup f = some (.int i) ∧ tv δ A1 (fun y A2 => ∃ j fs', y = .int j ∧ A2 a = some (.ins C fs') ∧ fs'.length < 1000 ∧ D.nx δ (put A2 a (.ins C (putFA f (.int (g i j)) fs')))) (fun C fs A1 => D.ex C fs δ A1)) (fun C fs A1 => D.ex C fs δ A1)
theorem as_fldaug {g : Int → Int → Int} {op : Operator} {rd : V → V → Hp → VK → Prop} (hrd : ∀ i j H Q, Q (.int (g i j)) H → rd (.int i) (.int j) H Q) (ha : PE X o (liftE X.K W ta)) (hv : PE X e (liftE X.K W tv)) (ho : InOp X op rd) : PS X (.AugAssign (.Attribute o fl pos') op e pos) (liftS X.K W (aAugFld X.K fl g ta tv)) := PS.imp (ps_fldaug ha hv ho) fun D σ H ⟨F, A, δ, D', R, s, q, e⟩ => by
  refine (st_core (R1 := Rep X.K) R s e q).mono fun x H1 ⟨dx, F1, A1, r1, R1, s1, ⟨a, C, fs, i, ex, ea, c1, c2, l, q1⟩, e1, x1⟩ => ?_
  subst ex
  cases r1
  obtain ⟨_, ho, eh, ro⟩ := R1.live a _ ea
  cases ro with
  | ins ro =>
    obtain ⟨u, lu, ru⟩ := ro.lookup l
    cases ru
    refine ⟨a, C, _, _, _, rfl, eh, c1, c2, lu, ?_⟩
    refine (st_core (R1 := Rep X.K) R1 s1 e1 q1).mono fun y H2 ⟨dy, F2, A2, r2, R2, s2, ⟨j, fs', ey, ea2, l2, q2⟩, e2, x2⟩ => ?_
    subst ey
    cases r2
    obtain ⟨_, ho2, eh2, ro2⟩ := R2.live a _ ea2
    cases ro2 with
    | ins ro2 =>
      obtain ⟨R3, x3⟩ := R2.put ea2 (RepO.ins (ro2.put (.int (g i j))))
      exact hrd i j H2 _ ⟨_, _, eh2, by rw [← ro2.length]; exact l2, e2.nx _ _ _ _ _ q2 x3 R3 (s2.kept (x3.kept R2))⟩
/-- x op= e, ints -/
def aAug (i : Nat) (g : Int → Int → Int) (te : AE) : AS := fun D δ A => ∃ z, δ[i]? = some (some (.int z)) ∧ te δ A (fun y A1 => ∃ j, y = .int j ∧ D.nx (δ.set i (some (.int (g z j)))) A1) (fun C fs A1 => D.ex C fs δ A1)
theorem lift_aug {i : Nat} {g : Int → Int → Int} {te : AE} {D : Ends} {σ : L2.St} {H : Hp} (h : liftS X.K W (aAug i g te) D σ H) : tAug i (liftE X.K W te) (ipI g) D σ H := by
  obtain ⟨F, A, δ, D', R, s, ⟨z, ez, q⟩, e⟩ := h
  obtain ⟨v, ev, rv⟩ := s.get ez
  cases rv
  refine ⟨_, ev, (st_core (R1 := Rep X.K) R s e q).mono fun y H1 ⟨d, F1, A1, r1, R1, s1, ⟨j, ey, q1⟩, e1, x1⟩ => ?_⟩
  subst ey
  cases r1
  exact ⟨z, j, rfl, rfl, e1.nx _ _ _ _ _ q1 Ext.refl R1 (s1.set (.int _) i)⟩
/-- raise E(e) -/
def aRaise (C : Addr) (fl : Str) (t : AA) : AS := fun D δ A => t δ A (fun ds A1 => ∃ v, ds = [v] ∧ D.ex C [(fl, v)] δ A1) (fun C fs A1 => D.ex C fs δ A1)
theorem as_raise {a : Expr} {cn : Str} {fI cc cda : Addr} {pos2 : Pos} (hc : X.calm = true) (T : PySem.OwX.OwTxt X.prog X.K X.mg C fI cc cda cn fl) (hr : Room k X.A) (tk : Takes X W) (ha : PA X [a] (liftA X.K W t)) (hg : Gl X cn) (hdb : (cn == ("__debug__" : Str)) = false := by decide)
    (he : starEach (a :: []) X.env = (false, eval a X.env) :: starEach [] X.env := by rfl) (hpl : (backTo pos (starEach [] X.env)).any (·.1) = false := by rfl) :
    PS X (.Raise (some (.Call (.Name cn p) [a] [] pos)) none pos2) (liftS X.K W (aRaise C fl t)) := PS.imp (ps_raiseOw hc T hr tk ha hg hdb he hpl) fun D σ H ⟨F, A, δ, D', R, s, q, e⟩ => by
  refine (st_core (R1 := Reps X.K) R s e q).mono fun vs H1 ⟨ds, F1, A1, r1, R1, s1, ⟨v, ed, q1⟩, e1, x1⟩ => ?_
  subst ed
  match vs, r1 with
  | [u], .cons ru .nil =>
    refine ⟨u, rfl, fun d hd => ?_⟩
    have x2 := ext_new R1 hd (ho := .xd [(fl, u)])
    have k2 := x2.kept R1
    exact e1.ex _ _ _ _ _ _ _ _ _ q1 x2 (R1.lay hd) (s1.kept k2) upd_same (.cons (ru.kept k2) .nil)
/-! ### defs -/
def fin (Q : AQ) : AQ := fun d A' => ∃ A'', (∀ a o, A'' a = some o → A' a = some o) ∧ Q d A''
theorem fin_id {Q : AQ} {d : D} {A : AH} (h : Q d A) : fin Q d A := ⟨A, fun _ _ e => e, h⟩
def aStart (N : List Str) (ds : List D) : ASt := ds.map some ++ List.replicate (N.length - ds.length) none
theorem start_ok {K : PySem.W.Frag} {F : Addr → Prop} {H : Hp} {N : List Str} {ds : List D} {vs : List V} (r : Reps K F H ds vs) : RepS K F H (aStart N ds) (L2.start N vs) := by
  unfold aStart L2.start
  rw [r.length]
  have : ∀ {ds : List D} {vs : List V} (n : Nat), Reps K F H ds vs → RepS K F H (ds.map some ++ List.replicate n none) (vs.map some ++ List.replicate n none) := by
    intro ds vs n r
    induction ds generalizing vs with
    | nil => cases r; exact RepS.nones n _ (by simp)
    | cons d ds ih => cases r with
      | cons a r => exact .yes a (ih r)
  exact this _ r
def endsOf (Q : AQ) (E : AX) : AEnds := { nx := fun _ A' => fin Q .non A', rt := fin Q, ex := fun C fs _ A' => ∃ A'', (∀ a o, A'' a = some o → A' a = some o) ∧ E C fs A'' }
theorem ends_ok {K : PySem.W.Frag} {W : WX} {F : Addr → Prop} {A : AH} {H : Hp} {Q' : AQ} {E' : AX} {Q : VK} {E : XK} (hW : ∀ c d σ H, E c d H → W c d σ H) (p : Post K (Rep K) F A H Q' Q) (g : Gx K (fun cls d _ H => E cls d H) F A H [] E') : EndsOk K W F A H (endsOf Q' E') { nx := fun _ H' => Q .non H', rt := Q } := by
  refine ⟨fun δ A1 F1 H1 σ ⟨A2, hs, q⟩ x R s => ?_, fun d A1 F1 H1 v ⟨A2, hs, q⟩ x R r => ?_, fun _ _ _ _ _ h => h.elim, fun _ _ _ _ _ h => h.elim, fun C fs δ A1 F1 H1 σ dd fv ⟨A2, hs, q⟩ x R s h r => ?_⟩
  · obtain ⟨R2, x2⟩ := R.sub hs
    exact p _ _ _ _ _ q (x.trans x2) R2 .non
  · obtain ⟨R2, x2⟩ := R.sub hs
    exact p _ _ _ _ _ q (x.trans x2) R2 (r.kept (x2.kept R))
  · obtain ⟨R2, x2⟩ := R.sub hs
    exact hW _ _ _ _ (g C fs A2 F1 H1 dd fv q (x.trans x2) R2 h (r.kept (x2.kept R)))
end
section
variable {P : Program} {w : World} {K : PySem.W.Frag} {mg : Str → Option Value} {base : Heap} {x qual : Str} {params : Arguments} {body : List Stmt} {scope : Scope} {dvs : List V} {kws : List (Str × V)} {f : Addr} {fd : FuncData} {N ps : List Str} {k : Nat} {asp : ASp}
/-- a def that raises nothing, by its body -/
theorem bodyR {dd : List V} (hb : ∀ (cdv : Value) (A0 : Around) (outer : List Env) (s : Shared) (H : Hp) (E0 : XK) (ds : List D) (A : AH) (Q : AQ) (E : AX), Room k (A0.deeper (envOfC qual scope s.heap.objs.size f cdv)) → asp ds A Q E →
      ∃ ts, PSs (cxOf CX0 P w K mg base N qual scope f cdv A0 outer s H E0).nox body (liftS K noW ts) ∧ ts (endsOf Q noX) (aStart N ds) A) :
    ∀ (cdv : Value) (A : Around) (outer : List Env) (s : Shared) (H : Hp) (vs : List V) (Q : VK) (E : XK), Room k (A.deeper (envOfC qual scope s.heap.objs.size f cdv)) → liftSp K asp vs H Q E →
      ∃ t, PSs (cxOf CX0 P w K mg base N qual scope f cdv A outer s H E).nox body t ∧ t { nx := fun _ H' => Q .non H', rt := Q } (L2.start N vs) H := by
  intro cdv A0 outer s H vs Q E hr ⟨F, A, ds, Q', E', R, r, q, p, g⟩
  obtain ⟨ts, h1, h2⟩ := hb cdv A0 outer s H E ds A Q' E' hr q
  exact ⟨_, h1, F, A, aStart N ds, endsOf Q' noX, R, start_ok r, h2, ends_ok (E := fun _ _ _ => False) (fun _ _ _ _ h => h) p (fun _ _ _ _ _ _ _ h => h.elim)⟩
theorem bodyX (hb : ∀ (cdv : Value) (A0 : Around) (outer : List Env) (s : Shared) (H : Hp) (E0 : XK) (ds : List D) (A : AH) (Q : AQ) (E : AX), Room k (A0.deeper (envOfC qual scope s.heap.objs.size f cdv)) → asp ds A Q E →
      ∃ ts, PSs (cxOf (L2.CX P w) P w K mg base N qual scope f cdv A0 outer s H E0) body (liftS K (fun c d _ H => E0 c d H) ts) ∧ ts (endsOf Q E) (aStart N ds) A) :
    ∀ (cdv : Value) (A : Around) (outer : List Env) (s : Shared) (H : Hp) (vs : List V) (Q : VK) (E : XK), Room k (A.deeper (envOfC qual scope s.heap.objs.size f cdv)) → liftSp K asp vs H Q E →
      ∃ t, PSs (cxOf (L2.CX P w) P w K mg base N qual scope f cdv A outer s H E) body t ∧ t { nx := fun _ H' => Q .non H', rt := Q } (L2.start N vs) H := by
  intro cdv A0 outer s H vs Q E hr ⟨F, A, ds, Q', E', R, r, q, p, g⟩
  obtain ⟨ts, h1, h2⟩ := hb cdv A0 outer s H E ds A Q' E' hr q
  exact ⟨_, h1, F, A, aStart N ds, endsOf Q' E', R, start_ok r, h2, ends_ok (E := E) (fun _ _ _ _ h => h) p g⟩
theorem liftSp_len {n : Nat} (len : ∀ ds A Q E, asp ds A Q E → ds.length = n) : ∀ vs H Q E, liftSp K asp vs H Q E → vs.length = n := fun vs H Q E ⟨F, A, ds, Q', E', R, r, q, p, g⟩ => by rw [← r.length]; exact len _ _ _ _ q
theorem FunD.AR (F : FunD K x qual params body scope [] kws f fd) (S : FnScope N ps scope) (len : ∀ ds A Q E, asp ds A Q E → ds.length = ps.length)
    (hb : ∀ (kV doc pm : Value) (an : Option Addr) (cdv ct : Value) (us : List Value), us.length = ps.length → bindArgs (PySem.W.fnOf x qual params body scope .none kV doc pm an cdv ct) ⟨us, []⟩ = pure (ps.zip us))
    (hbody : ∀ (cdv : Value) (A0 : Around) (outer : List Env) (s : Shared) (H : Hp) (E0 : XK) (ds : List D) (A : AH) (Q : AQ) (E : AX), Room k (A0.deeper (envOfC qual scope s.heap.objs.size f cdv)) → asp ds A Q E →
      ∃ ts, PSs (cxOf CX0 P w K mg base N qual scope f cdv A0 outer s H E0).nox body (liftS K noW ts) ∧ ts (endsOf Q noX) (aStart N ds) A) : FnR P w K mg base CX0 (k + 1) f (liftSp K asp) :=
  My.FunD.R F S (liftSp_len len) hb (bodyR (dd := []) hbody)
theorem FunD.AX (F : FunD K x qual params body scope [] kws f fd) (S : FnScope N ps scope) (len : ∀ ds A Q E, asp ds A Q E → ds.length = ps.length)
    (hb : ∀ (kV doc pm : Value) (an : Option Addr) (cdv ct : Value) (us : List Value), us.length = ps.length → bindArgs (PySem.W.fnOf x qual params body scope .none kV doc pm an cdv ct) ⟨us, []⟩ = pure (ps.zip us))
    (hbody : ∀ (cdv : Value) (A0 : Around) (outer : List Env) (s : Shared) (H : Hp) (E0 : XK) (ds : List D) (A : AH) (Q : AQ) (E : AX), Room k (A0.deeper (envOfC qual scope s.heap.objs.size f cdv)) → asp ds A Q E →
      ∃ ts, PSs (cxOf (L2.CX P w) P w K mg base N qual scope f cdv A0 outer s H E0) body (liftS K (fun c d _ H => E0 c d H) ts) ∧ ts (endsOf Q E) (aStart N ds) A) : FnR P w K mg base (L2.CX P w) (k + 1) f (liftSp K asp) :=
  My.FunD.RX F S (liftSp_len len) hb (bodyX hbody)
end
end Av

set_option Elab.async false
set_option linter.all false
set_option maxRecDepth 100000
set_option maxHeartbeats 4000000
/-! own library Av, part 6: making objects, iterators, places, operators -/
namespace Av
open PySem PySem.Spec PyProof.Rows L2 My
section
variable {K : PySem.W.Frag} {F : Addr → Prop} {H : Hp}
theorem Reps.one {d : D} {vs : List V} (r : Reps K F H [d] vs) : ∃ v, vs = [v] ∧ Rep K F H d v := by
  cases r with
  | cons a r => cases r; exact ⟨_, rfl, a⟩
theorem Reps.two {d e : D} {vs : List V} (r : Reps K F H [d, e] vs) : ∃ v u, vs = [v, u] ∧ Rep K F H d v ∧ Rep K F H e u := by
  cases r with
  | cons a r => obtain ⟨u, rfl, b⟩ := r.one; exact ⟨_, _, rfl, a, b⟩
theorem Reps.three {d e f : D} {vs : List V} (r : Reps K F H [d, e, f] vs) : ∃ v u w, vs = [v, u, w] ∧ Rep K F H d v ∧ Rep K F H e u ∧ Rep K F H f w := by
  cases r with
  | cons a r => obtain ⟨u, w, rfl, b, c⟩ := r.two; exact ⟨_, _, _, rfl, a, b, c⟩
theorem Reps.none {vs : List V} (r : Reps K F H [] vs) : vs = [] := by cases r; rfl
end
section
variable {X : Cx} {W : WX} {k : Nat} {f C : Addr} {asp : ASp} {x fl : Str} {a b e o : Expr} {es : List Expr} {ta tb te tv : AE} {t : AA} {p pos pos' apos : Pos}
/-! ### C(..) -/
def aMake (live : Bool) (C : Addr) (asp : ASp) (t : AA) : AE := fun δ A Q E => t δ A (fun ds A1 => ∀ x, A1 x = none → Call asp (.ref x :: ds) (put A1 x (.ins C [])) (fun d A2 => d = .non ∧ match live with
  | true => Q (.ref x) A2
  | false => ∃ fs, A2 x = some (.ins C fs) ∧ Q (.obj C fs) (del A2 x)) E ⟨⟩) E
theorem make_ok {live : Bool} {σ : L2.St} {H : Hp} {Q : VK} (h : liftE X.K W (aMake live C asp t) σ H Q) : liftA X.K W t σ H (fun vs H1 => ∀ x dx, H1 x = none → H1 dx = none → dx ≠ x → liftSp X.K asp (V.ref x :: vs) (upd (upd H1 dx (.own x)) x (.ins C dx [])) (fun v H2 => v = .non ∧ Q (.ref x) H2) (WE W σ)) := by
  obtain ⟨δ, h⟩ := h
  refine (Lf.core (R1 := Reps X.K) (k := fun ds A1 Q E => ∀ x, A1 x = none → asp (.ref x :: ds) (put A1 x (.ins C [])) (fun d A2 => d = .non ∧ match live with
    | true => Q (D.ref x) A2
    | false => ∃ fs, A2 x = some (.ins C fs) ∧ Q (D.obj C fs) (del A2 x)) E) h).mono fun vs H1 ⟨ds, F, A, Q', E', a, r, q, po⟩ x dx hx hdx hne => ?_
  have R1 := a.rel.lay hdx (ho := .own x)
  have x1 := ext_new a.rel hdx (ho := .own x)
  have hx1 : upd H1 dx (.own x) x = none := by rw [upd_ne (Ne.symm hne)]; exact hx
  obtain ⟨R2, x2⟩ := R1.newL (o := .ins C []) (ho := .ins C dx []) hx1 (.ins .nil)
  have xx := x1.trans x2
  have k2 := xx.kept a.rel
  refine ⟨F, put A x (.ins C []), .ref x :: ds, _, E', R2, .cons (.ref x) (r.kept k2), q x (a.rel.fresh hx).1, fun d A3 F3 H3 v ⟨ed, q3⟩ x3 R3 r3 => ?_, a.gx.step xx⟩
  subst ed
  cases r3
  refine ⟨rfl, ?_⟩
  cases live with
  | true => exact po _ _ _ _ _ q3 (xx.trans x3) R3 (.ref x)
  | false =>
    obtain ⟨fs, e3, q3⟩ := q3
    obtain ⟨R4, x4, r4⟩ := R3.frz e3
    exact po _ _ _ _ _ q3 ((xx.trans x3).trans x4) R4 r4
theorem ae_makeR (live : Bool) (M : Mk X.K C f) (F : FnR X.prog X.w X.K X.mg X.base CX0 k f (liftSp X.K asp)) (hr : Room (k + 1) X.A) (hg : Gl X x) (hm : X.mg x = some (.ref C)) (ha : PA X (e :: es) (liftA X.K W t)) (hdb : (x == ("__debug__" : Str)) = false := by decide)
    (he : starEach (e :: es) X.env = (false, eval e X.env) :: starEach es X.env := by rfl) (hpl : (backTo pos (starEach es X.env)).any (·.1) = false := by rfl) : PE X (.Call (.Name x p) (e :: es) [] pos) (liftE X.K W (aMake live C asp t)) :=
  PE.imp (StX.pe_makeR (E := anyX) M F hr hg hm pass0 ha hdb he hpl) fun σ H Q h => (make_ok h).mono fun vs H1 z x dx h1 h2 h3 => sp_any (z x dx h1 h2 h3)
theorem ae_makeR0 (live : Bool) (M : Mk X.K C f) (F : FnR X.prog X.w X.K X.mg X.base CX0 k f (liftSp X.K asp)) (hr : Room (k + 1) X.A) (hg : Gl X x) (hm : X.mg x = some (.ref C)) (hdb : (x == ("__debug__" : Str)) = false := by decide) :
    PE X (.Call (.Name x p) [] [] pos) (liftE X.K W (aMake live C asp aNil)) :=
  PE.imp (pe_makeR0 (E := anyX) M F hr hg hm pass0 hdb) fun σ H Q h => by
    obtain ⟨δ, F, A, Q', E', at_, q, po⟩ := (make_ok h).mono fun vs H1 z x dx h1 h2 h3 => sp_any (z x dx h1 h2 h3)
    exact po _ _ _ _ _ q Ext.refl at_.rel .nil
/-! ### iterators -/
def aItL (te : AE) : AI := fun δ A Q E => te δ A (fun d A1 => ∃ xs, asL A1 d = some xs ∧ Q (fun A => asL A d = some xs, xs) A1) E
theorem itOk_list {K : PySem.W.Frag} {d : D} {a : Addr} {xs : List D} : ItOk K (Itl K a) (fun A => asL A d = some xs) xs [d] [V.ref a] where
  go := fun F A H i R g r hi => by
    cases r with
    | cons r0 _ =>
      obtain ⟨a', vs, e, hs, rr⟩ := asL_ok R r0 g
      cases e
      have hl : i < vs.length := by rw [← rr.length]; exact hi
      exact ⟨vs, vs[i], hs, List.getElem?_eq_getElem hl⟩
  stop := fun F A H i R g r hi => by
    cases r with
    | cons r0 _ =>
      obtain ⟨a', vs, e, hs, rr⟩ := asL_ok R r0 g
      cases e
      exact ⟨vs, hs, by rw [← rr.length]; exact hi⟩
  yld := fun F A H i x H' R g r y hi => by
    cases r with
    | cons r0 _ =>
      obtain ⟨a', vs, e, hs, rr⟩ := asL_ok R r0 g
      cases e
      obtain ⟨rfl, hy⟩ := y
      obtain ⟨d', e', r'⟩ := rr.get (hy vs hs)
      exact ⟨d', e', Ext.refl, R, r'⟩
theorem PI.imp {tg iter : Expr} {wi wi' : TI} (h : PI X tg iter wi) (i : ∀ σ H R, wi' σ H R → wi σ H R) : PI X tg iter wi' := ⟨fun pins s σ H R I q => h.run pins s σ H R I (i _ _ _ q)⟩
theorem ai_list {tg : Expr} (he : PE X e (liftE X.K W te)) : PI X tg e (liftI X.K W (aItL te)) := PI.imp (pi_list he) fun σ H R ⟨δ, h⟩ => by
  refine (Lf.bindE (k := fun d A1 Q E => ∃ xs, asL A1 d = some xs ∧ Q (fun A => asL A d = some xs, xs) A1) h).mono fun v H1 ⟨d, F, A, Q', E', a, ⟨xs, g, q⟩, po⟩ => ?_
  cases a.held with
  | cons r0 n =>
    obtain ⟨a', vs, rfl, hs, rr⟩ := asL_ok a.rel r0 g
    exact ⟨a', rfl, ⟨vs, hs⟩, po _ _ _ _ _ q Ext.refl a.rel ⟨[d], [V.ref a'], .cons r0 .nil, itOk_list⟩⟩
def aItT (te : AE) : AI := fun δ A Q E => te δ A (fun d A1 => ∃ xs, asT d = some xs ∧ Q (fun _ => True, xs) A1) E
theorem itOk_tup {K : PySem.W.Frag} {a : Addr} {xs : List D} : ItOk K (Itt K a) (fun _ => True) xs [.tup xs] [V.ref a] where
  go := fun F A H i R g r hi => by
    cases r with
    | cons r0 _ =>
      obtain ⟨a', vs, e, hs, rr⟩ := asT_ok r0 rfl
      cases e
      have hl : i < vs.length := by rw [← rr.length]; exact hi
      exact ⟨vs, vs[i], hs, List.getElem?_eq_getElem hl⟩
  stop := fun F A H i R g r hi => by
    cases r with
    | cons r0 _ =>
      obtain ⟨a', vs, e, hs, rr⟩ := asT_ok r0 rfl
      cases e
      exact ⟨vs, hs, by rw [← rr.length]; exact hi⟩
  yld := fun F A H i x H' R g r y hi => by
    cases r with
    | cons r0 _ =>
      obtain ⟨a', vs, e, hs, rr⟩ := asT_ok r0 rfl
      cases e
      obtain ⟨rfl, hy⟩ := y
      obtain ⟨d', e', r'⟩ := rr.get (hy vs hs)
      exact ⟨d', e', Ext.refl, R, r'⟩
theorem ai_tup {tg : Expr} (he : PE X e (liftE X.K W te)) : PI X tg e (liftI X.K W (aItT te)) := PI.imp (pi_tup he) fun σ H R ⟨δ, h⟩ => by
  refine (Lf.bindE (k := fun d A1 Q E => ∃ xs, asT d = some xs ∧ Q (fun _ => True, xs) A1) h).mono fun v H1 ⟨d, F, A, Q', E', a, ⟨xs, g, q⟩, po⟩ => ?_
  cases a.held with
  | cons r0 n =>
    have : d = .tup xs := by
      cases d <;> simp only [asT] at g <;> first | (cases g; done) | (cases g; rfl)
    subst this
    obtain ⟨a', vs, rfl, hs, rr⟩ := asT_ok r0 g
    exact ⟨a', rfl, ⟨vs, hs⟩, po _ _ _ _ _ q Ext.refl a.rel ⟨[.tup xs], [V.ref a'], .cons r0 .nil, itOk_tup⟩⟩
def rngL (lo : Int) (n : Nat) : List D := (List.range n).map fun (i : Nat) => D.int (lo + (i : Int))
theorem itOk_rng {K : PySem.W.Frag} {lo : Int} {n : Nat} : ItOk K (Itr lo n) (fun _ => True) (rngL lo n) [] [] where
  go := fun F A H i R g r hi => by show i < n; simpa [rngL] using hi
  stop := fun F A H i R g r hi => by show n ≤ i; simpa [rngL] using hi
  yld := fun F A H i x H' R g r y hi => by
    obtain ⟨rfl, rfl⟩ := y
    exact ⟨.int (lo + i), by
      have : i < n := by simpa [rngL] using hi
      simp [rngL, this], Ext.refl, R, .int _⟩
def aRng1 (t : AA) : AI := fun δ A Q E => t δ A (fun ds A1 => ∃ j, ds = [.int j] ∧ -(2 ^ 62) ≤ j ∧ j < 2 ^ 62 ∧ Q (fun _ => True, rngL 0 j.toNat) A1) E
def aRng2 (t : AA) : AI := fun δ A Q E => t δ A (fun ds A1 => ∃ i j, ds = [.int i, .int j] ∧ (-(2 ^ 62) ≤ i ∧ i < 2 ^ 62 ∧ -(2 ^ 62) ≤ j ∧ j < 2 ^ 62) ∧ Q (fun _ => True, rngL i (j - i).toNat) A1) E
theorem ai_range1 {tg : Expr} (hg : Gl X "range") (hm : X.mg "range" = none) (ha : PA X [a] (liftA X.K W t)) (hs : starEach [a] X.env = [(false, eval a X.env)] := by rfl) : PI X tg (.Call (.Name "range" p) [a] [] pos) (liftI X.K W (aRng1 t)) := PI.imp (pi_range1 hg hm ha hs) fun σ H R ⟨δ, h⟩ => by
  refine (Lf.core (R1 := Reps X.K) (k := fun ds A1 Q E => ∃ j, ds = [.int j] ∧ -(2 ^ 62) ≤ j ∧ j < 2 ^ 62 ∧ Q (fun _ => True, rngL 0 j.toNat) A1) h).mono fun vs H1 ⟨ds, F, A, Q', E', a, r, ⟨j, ed, h1, h2, q⟩, po⟩ => ?_
  subst ed
  obtain ⟨v, rfl, r0⟩ := r.one
  · cases r0; exact ⟨j, rfl, h1, h2, po _ _ _ _ _ q Ext.refl a.rel ⟨[], [], .nil, itOk_rng⟩⟩
theorem ai_range2 {tg : Expr} (hg : Gl X "range") (hm : X.mg "range" = none) (ha : PA X [a, b] (liftA X.K W t)) (hs : starEach [a, b] X.env = [(false, eval a X.env), (false, eval b X.env)] := by rfl) (hs2 : starEach [b] X.env = [(false, eval b X.env)] := by rfl) : PI X tg (.Call (.Name "range" p) [a, b] [] pos) (liftI X.K W (aRng2 t)) := PI.imp (pi_range2 hg hm ha hs hs2) fun σ H R ⟨δ, h⟩ => by
  refine (Lf.core (R1 := Reps X.K) (k := fun ds A1 Q E => ∃ i j, ds = [.int i, .int j] ∧ (-(2 ^ 62) ≤ i ∧ i < 2 ^ 62 ∧ -(2 ^ 62) ≤ j ∧ j < 2 ^ 62) ∧ Q (fun _ => True, rngL i (j - i).toNat) A1) h).mono fun vs H1 ⟨ds, F, A, Q', E', a, r, ⟨i, j, ed, h1, q⟩, po⟩ => ?_
  subst ed
  obtain ⟨v, u, rfl, r0, r1⟩ := r.two
  · cases r0; cases r1; exact ⟨i, j, rfl, h1, po _ _ _ _ _ q Ext.refl a.rel ⟨[], [], .nil, itOk_rng⟩⟩
/-- signs of a text -/
def chL (x : Str) : List D := x.cps.toList.map fun c => .str ⟨#[c]⟩
theorem sOk_ch {x : Str} (h : sOk x) {c : Nat} (hc : c ∈ x.cps.toList) : sOk ⟨#[c]⟩ := by
  unfold sOk PySem.PyData.strOk at *
  have := (Array.all_eq_true'.mp h) c (by simpa using hc)
  simpa using this
theorem itOk_str {K : PySem.W.Frag} {x : Str} (hx : sOk x) : ItOk K (Its x) (fun _ => True) (chL x) [] [] where
  go := fun F A H i R g r hi => by show i < x.cps.size; simpa [chL] using hi
  stop := fun F A H i R g r hi => by show x.cps.size ≤ i; simpa [chL] using hi
  yld := fun F A H i y H' R g r yy hi => by
    obtain ⟨rfl, c, hc, rfl⟩ := yy
    have hc' : x.cps.toList[i]? = some c := by simpa using hc
    exact ⟨.str ⟨#[c]⟩, by simp [chL, hc'], Ext.refl, R, .str (sOk_ch hx (List.mem_of_getElem? hc'))⟩
def aItS (te : AE) : AI := fun δ A Q E => te δ A (fun d A1 => ∃ x, d = .str x ∧ Q (fun _ => True, chL x) A1) E
theorem ai_str {tg : Expr} (he : PE X e (liftE X.K W te)) : PI X tg e (liftI X.K W (aItS te)) := PI.imp (pi_str he) fun σ H R ⟨δ, h⟩ => by
  refine (Lf.bindE (k := fun d A1 Q E => ∃ x, d = .str x ∧ Q (fun _ => True, chL x) A1) h).mono fun v H1 ⟨d, F, A, Q', E', a, ⟨x, g, q⟩, po⟩ => ?_
  subst g
  cases a.held with
  | cons r0 n => cases r0 with
    | str hx => exact ⟨x, rfl, po _ _ _ _ _ q Ext.refl a.rel ⟨[], [], .nil, itOk_str hx⟩⟩
def enumL (xs : List D) : List D := xs.mapIdx fun i d => .tup [.int (i : Nat), d]
theorem itOk_enum {K : PySem.W.Frag} {d : D} {a : Addr} {xs : List D} : ItOk K (Ite K a) (fun A => asL A d = some xs) (enumL xs) [d] [V.ref a] where
  go := fun F A H i R g r hi => (itOk_list (K := K) (d := d) (a := a) (xs := xs)).go F A H i R g r (by simpa [enumL] using hi)
  stop := fun F A H i R g r hi => (itOk_list (K := K) (d := d) (a := a) (xs := xs)).stop F A H i R g r (by simpa [enumL] using hi)
  yld := fun F A H i x H' R g r y hi => by
    cases r with
    | cons r0 _ =>
      obtain ⟨a', vs, e, hs, rr⟩ := asL_ok R r0 g
      cases e
      obtain ⟨T, z, rfl, hT, rfl, hy⟩ := y
      obtain ⟨d', e', r'⟩ := rr.get (hy vs hs)
      obtain ⟨R2, x2, r2⟩ := R.newT (ds := [.int (i : Nat), d']) (vs := [.int (i : Nat), z]) hT (.cons (.int _) (.cons r' .nil))
      exact ⟨_, by simp [enumL, e'], x2, R2, r2⟩
def aEnum (t : AA) : AI := fun δ A Q E => t δ A (fun ds A1 => ∃ d xs, ds = [d] ∧ asL A1 d = some xs ∧ Q (fun A => asL A d = some xs, enumL xs) A1) E
theorem ai_enum {tpos : Pos} {elts : List Expr} {kk : Nat} (hg : Gl X "enumerate") (hm : X.mg "enumerate" = none) (ha : PA X [e] (liftA X.K W t)) (hs : starEach [e] X.env = [(false, eval e X.env)] := by rfl) :
    PI X (.Tuple elts kk tpos) (.Call (.Name "enumerate" p) [e] [] pos) (liftI X.K W (aEnum t)) := PI.imp (pi_enum hg hm ha hs) fun σ H R ⟨δ, h⟩ => by
  refine (Lf.core (R1 := Reps X.K) (k := fun ds A1 Q E => ∃ d xs, ds = [d] ∧ asL A1 d = some xs ∧ Q (fun A => asL A d = some xs, enumL xs) A1) h).mono fun vs H1 ⟨ds, F, A, Q', E', a, r, ⟨d, xs, ed, g, q⟩, po⟩ => ?_
  subst ed
  obtain ⟨v, rfl, r0⟩ := r.one
  · obtain ⟨a', vs, rfl, hs, rr⟩ := asL_ok a.rel r0 g
    exact ⟨a', vs, rfl, hs, po _ _ _ _ _ q Ext.refl a.rel ⟨[d], [V.ref a'], .cons r0 .nil, itOk_enum⟩⟩
def zipL (xs ys : List D) : List D := List.zipWith (fun x y => .tup [x, y]) xs ys
theorem itOk_zip {K : PySem.W.Frag} {d d2 : D} {a b : Addr} {xs ys : List D} : ItOk K (Itz K a b) (fun A => asL A d = some xs ∧ asL A d2 = some ys) (zipL xs ys) [d, d2] [V.ref a, V.ref b] where
  go := fun F A H i R g r hi => by
    match r with
    | .cons r0 (.cons r1 .nil) =>
      obtain ⟨a', vs, e, hs, rr⟩ := asL_ok R r0 g.1
      obtain ⟨b', us, e2, hs2, rr2⟩ := asL_ok R r1 g.2
      cases e; cases e2
      have h1 := rr.length
      have h2 := rr2.length
      simp [zipL] at hi
      have l1 : i < vs.length := by omega
      have l2 : i < us.length := by omega
      exact ⟨vs, us, vs[i], us[i], hs, hs2, List.getElem?_eq_getElem l1, List.getElem?_eq_getElem l2⟩
  stop := fun F A H i R g r hi => by
    match r with
    | .cons r0 (.cons r1 .nil) =>
      obtain ⟨a', vs, e, hs, rr⟩ := asL_ok R r0 g.1
      obtain ⟨b', us, e2, hs2, rr2⟩ := asL_ok R r1 g.2
      cases e; cases e2
      have h1 := rr.length
      have h2 := rr2.length
      simp [zipL] at hi
      exact ⟨vs, us, hs, hs2, by omega⟩
  yld := fun F A H i x H' R g r y hi => by
    match r with
    | .cons r0 (.cons r1 .nil) =>
      obtain ⟨a', vs, e, hs, rr⟩ := asL_ok R r0 g.1
      obtain ⟨b', us, e2, hs2, rr2⟩ := asL_ok R r1 g.2
      cases e; cases e2
      obtain ⟨T, z, z2, rfl, hT, rfl, hy, hy2⟩ := y
      obtain ⟨d', e', r'⟩ := rr.get (hy vs hs)
      obtain ⟨d'', e'', r''⟩ := rr2.get (hy2 us hs2)
      obtain ⟨R2, x2, r2⟩ := R.newT (ds := [d', d'']) (vs := [z, z2]) hT (.cons r' (.cons r'' .nil))
      exact ⟨_, by simp [zipL, List.getElem?_zipWith, e', e''], x2, R2, r2⟩
def aZip (t : AA) : AI := fun δ A Q E => t δ A (fun ds A1 => ∃ d d2 xs ys, ds = [d, d2] ∧ asL A1 d = some xs ∧ asL A1 d2 = some ys ∧ Q (fun A => asL A d = some xs ∧ asL A d2 = some ys, zipL xs ys) A1) E
theorem ai_zip {e2 : Expr} {tpos : Pos} {elts : List Expr} {kk : Nat} (hg : Gl X "zip") (hm : X.mg "zip" = none) (ha : PA X [e, e2] (liftA X.K W t)) (hs : starEach [e, e2] X.env = (false, eval e X.env) :: starEach [e2] X.env := by rfl) (hpl : (backTo pos (starEach [e2] X.env)).any (·.1) = false := by rfl) :
    PI X (.Tuple elts kk tpos) (.Call (.Name "zip" p) [e, e2] [] pos) (liftI X.K W (aZip t)) := PI.imp (pi_zip hg hm ha hs hpl) fun σ H R ⟨δ, h⟩ => by
  refine (Lf.core (R1 := Reps X.K) (k := fun ds A1 Q E => ∃ d d2 xs ys, ds = [d, d2] ∧ asL A1 d = some xs ∧ asL A1 d2 = some ys ∧ Q (fun A => asL A d = some xs ∧ asL A d2 = some ys, zipL xs ys) A1) h).mono fun vs H1 ⟨ds, F, A, Q', E', a, r, ⟨d, d2, xs, ys, ed, g, g2, q⟩, po⟩ => ?_
  subst ed
  obtain ⟨v, u, rfl, r0, r1⟩ := r.two
  · obtain ⟨a', vs, rfl, hs, rr⟩ := asL_ok a.rel r0 g
    obtain ⟨b', us, rfl, hs2, rr2⟩ := asL_ok a.rel r1 g2
    exact ⟨a', b', vs, us, rfl, hs, hs2, po _ _ _ _ _ q Ext.refl a.rel ⟨[d, d2], [V.ref a', V.ref b'], .cons r0 (.cons r1 .nil), itOk_zip⟩⟩
/-! ### comprehension rules -/
def aYes : AT := fun _ A Q _ => Q true A
theorem PTs.imp {ifs : List Expr} {t t' : TT} (h : PTs X ifs t) (i : ∀ σ H Q, t' σ H Q → t σ H Q) : PTs X ifs t' := ⟨fun pins s σ H Q I q => h.run pins s σ H Q I (i _ _ _ q)⟩
theorem ats_nil : PTs X [] (liftT X.K W aYes) := PTs.imp pts_nil fun σ H Q ⟨δ, F, A, Q', E', a, q, po⟩ => po _ _ _ _ _ q Ext.refl a.rel rfl
theorem ats_one {c : Expr} {t : AT} (h : PT X c (liftT X.K W t)) : PTs X [c] (liftT X.K W t) := pts_one h
theorem ae_lc (live : Bool) {elt tg iter : Expr} {ifs : List Expr} {scope : Scope} {own : List (Str × Nat)} {ti : AI} {pt : Pat} {tt : AT} (hc : X.calm = true) (hN : X.N.Nodup) (hi : PI X tg iter (liftI X.K W ti)) (ok : BlkOk X.N X.env.scope scope own) (hv : ∀ i ∈ slP pt, i ∈ own.map (·.2))
    (hg : ∀ (s : Shared) (H : Hp) (C : Addr) (cl : List (Str × Addr)) (fp : List Addr), PG (X.blk s H scope (compEnvC scope cl C X.env) fp) tg (tgOf X.K pt)) (ht : ∀ (s : Shared) (H : Hp) (C : Addr) (cl : List (Str × Addr)) (fp : List Addr), PTs (X.blk s H scope (compEnvC scope cl C X.env) fp) ifs (liftT X.K noW tt))
    (he : ∀ (s : Shared) (H : Hp) (C : Addr) (cl : List (Str × Addr)) (fp : List Addr), PE (X.blk s H scope (compEnvC scope cl C X.env) fp) elt (liftE X.K noW te)) (hs : ∀ x, foldedSetIterable iter X.env x = pure x := by intro _; rfl) :
    PE X (.ListComp elt [⟨tg, iter, ifs, 0⟩] scope pos) (liftE X.K W (aLc live ti pt tt te (own.map (·.2)))) := PE.imp (pe_lc hc hN hi ok hg ht he hs) fun σ H Q h => lift_lc hv h
theorem as_setLc (live : Bool) {i : Nat} {y : Str} {py : Pos} {elt tg iter : Expr} {ifs : List Expr} {scope : Scope} {own : List (Str × Nat)} {spos : Pos} {ti : AI} {pt : Pat} {tt : AT} (hc : X.calm = true) (hN : X.N.Nodup) (hy : X.N[i]? = some y) (hyl : X.env.scope.names.lookup y = some .local)
    (hsw : swapsWith (.ListComp elt [⟨tg, iter, ifs, 0⟩] scope pos) (some (.Name y py)) spos.line X.env = pure true) (hi : PI X tg iter (liftI X.K W ti)) (ok : BlkOk X.N X.env.scope scope own) (hv : ∀ i ∈ slP pt, i ∈ own.map (·.2))
    (hg : ∀ (s : Shared) (H : Hp) (C : Addr) (cl : List (Str × Addr)) (fp : List Addr), PG (X.blk s H scope (compEnvC scope cl C X.env) fp) tg (tgOf X.K pt)) (ht : ∀ (s : Shared) (H : Hp) (C : Addr) (cl : List (Str × Addr)) (fp : List Addr), PTs (X.blk s H scope (compEnvC scope cl C X.env) fp) ifs (liftT X.K noW tt))
    (he : ∀ (s : Shared) (H : Hp) (C : Addr) (cl : List (Str × Addr)) (fp : List Addr), PE (X.blk s H scope (compEnvC scope cl C X.env) fp) elt (liftE X.K noW te)) (hs : ∀ x, foldedSetIterable iter X.env x = pure x := by intro _; rfl) :
    PS X (.Assign [.Name y py] (.ListComp elt [⟨tg, iter, ifs, 0⟩] scope pos) spos) (liftS X.K W (aAsg (aLc live ti pt tt te (own.map (·.2))) (.nm i))) := PS.imp (ps_setLc hc hN hy hyl hsw hi ok hg ht he hs) fun D σ H h => by
  have h1 := lift_asg h
  rw [tgOf] at h1
  exact lift_lc hv h1
/-! ### general targets -/
abbrev AG := D → ASt → AH → (ASt → AH → Prop) → AX → Prop
def liftG (K : PySem.W.Frag) (W : WX) (g : AG) : TG := fun v σ H Q => ∃ F A δ d Q' E', At K W δ σ H F A E' [d] [v] ∧ g d δ A Q' E' ∧ ∀ δ' A' F' H' σ', Q' δ' A' → Ext F A H F' A' H' → Rel K F' A' H' → RepS K F' H' δ' σ' → Q σ' H'
end
end Av

set_option Elab.async false
set_option linter.all false
set_option maxRecDepth 100000
set_option maxHeartbeats 4000000
/-! own library Av, part 7: try, general targets, operators, dicts -/
namespace Av
open PySem PySem.Spec PyProof.Rows L2 My
/-! ### try -/
abbrev ACl : Type := Option Nat × Value × (Addr → Addr → Addr → List (Str × D) → AS)
def endsAA : Option Nat → AEnds → AEnds
  | none, N => { nx := N.nx, rt := N.rt, bk := N.bk, ct := N.ct }
  | some i, N => { nx := fun δ A => N.nx (δ.set i none) A, rt := N.rt, bk := fun δ A => N.bk (δ.set i none) A, ct := fun δ A => N.ct (δ.set i none) A }
def putAA : Option Nat → D → ASt → ASt
  | none, _, δ => δ
  | some i, d, δ => δ.set i (some d)
def aHandle (K : PySem.W.Frag) (N : AEnds) : List ACl → Addr → List (Str × D) → ASt → AH → Prop
  | [], C, fs, δ, A => N.ex C fs δ A
  | (n, c, ts) :: r, C, fs, δ, A => ∃ b, PySem.W.exmOne K (.ref C) c = some b ∧ (b = true → ∀ a dd, ts a dd C fs (endsAA n N) (putAA n (.exc a dd C fs) δ) A) ∧ (b = false → aHandle K N r C fs δ A)
def aTry (K : PySem.W.Frag) (tb : AS) (l : List ACl) : AS := fun N δ A => tb { N with ex := fun C fs δ A => aHandle K N l C fs δ A } δ A
def vcl (K : PySem.W.Frag) : ACl → Cl := fun c => (c.1, c.2.1, fun a cls d D σ H => ∃ C dd fs, cls = .ref C ∧ d = some dd ∧ liftS K noW (c.2.2 a dd C fs) D σ H)
abbrev ASuite (X : Cx) (body : List Stmt) (ts : Addr → Addr → Addr → List (Str × D) → AS) : Prop :=
  ∀ (a dd C : Addr) (fs : List (Str × D)) (oe : Obj) (pn : List (Addr × Obj)), Zc (.ref C) (some dd) oe → (∃ vs, oe.data = .fields vs) → PSs (X.suite a ((a, oe) :: pn)) body (liftS X.K noW (ts a dd C fs))
theorem ASuite.v {X : Cx} {body : List Stmt} {c : ACl} (h : ASuite X body c.2.2) : SuiteOk X body (vcl X.K c).2.2 := fun a oe cls d pn hz hf => ⟨fun pins s σ H D I ⟨C, dd, fs, e1, e2, q⟩ => by
  subst e1; subst e2
  exact (h a dd C fs oe pn hz hf).run pins s σ H D I q⟩
inductive AClsOk (X : Cx) : List ExceptHandler → List ACl → Prop
  | nil : AClsOk X [] []
  | bare {x : Str} {c : Value} {ts : Addr → Addr → Addr → List (Str × D) → AS} {b₀ : Stmt} {suite : List Stmt} {np pos' : Pos} {hds : List ExceptHandler} {l : List ACl} (hc : Names X x c) (hsu : ASuite X (b₀ :: suite) ts) (r : AClsOk X hds l) :
      AClsOk X (.ExceptHandler (some (.Name x np)) none (b₀ :: suite) pos' :: hds) ((none, c, ts) :: l)
  | as {x n : Str} {i : Nat} {c : Value} {ts : Addr → Addr → Addr → List (Str × D) → AS} {b₀ : Stmt} {suite : List Stmt} {np pos' : Pos} {hds : List ExceptHandler} {l : List ACl} (hc : Names X x c) (hi : X.N[i]? = some n) (hln : X.env.kindOf n = some .local) (hsu : ASuite X (b₀ :: suite) ts) (r : AClsOk X hds l) :
      AClsOk X (.ExceptHandler (some (.Name x np)) (some n) (b₀ :: suite) pos' :: hds) ((some i, c, ts) :: l)
theorem AClsOk.v {X : Cx} : ∀ {hds : List ExceptHandler} {l : List ACl}, AClsOk X hds l → ClsOk X hds (l.map (vcl X.K))
  | _, _, .nil => .nil
  | _, _, .bare hc hsu r => .bare hc (ASuite.v (c := (none, _, _)) hsu) r.v
  | _, _, .as hc hi hln hsu r => .as hc hi hln (ASuite.v (c := (some _, _, _)) hsu) r.v
theorem handle_w {K : PySem.W.Frag} {W : WX} {E : Ends} {N : AEnds} {C dd : Addr} {fs : List (Str × D)} {fv : List (Str × V)} {δ : ASt} {σ : L2.St} {F : Addr → Prop} {A : AH} {H : Hp} (R : Rel K F A H) (s : RepS K F H δ σ) (hd : H dd = some (.xd fv)) (rf : RepF K F H fs fv) (e : EndsOk K W F A H N E) :
    ∀ (l : List ACl), aHandle K N l C fs δ A → wCls K W E (l.map (vcl K)) (.ref C) (some dd) σ H
  | [], h => e.ex _ _ _ _ _ _ _ _ _ h Ext.refl R s hd rf
  | (n, c, ts) :: r, h => by
    obtain ⟨b, hb, hy, hn⟩ := h
    refine ⟨b, hb, fun eb a ha => ?_, fun eb => handle_w R s hd rf e r (hn eb)⟩
    refine ⟨C, dd, fs, rfl, rfl, F, A, putAA n (.exc a dd C fs) δ, endsAA n N, R, ?_, hy eb a dd, ?_⟩
    · cases n with
      | none => exact s
      | some i => exact s.set (.exc hd rf) i
    · cases n with
      | none => exact ⟨e.nx, e.rt, e.bk, e.ct, fun _ _ _ _ _ _ _ _ _ h => h.elim⟩
      | some i => exact ⟨fun δ A1 F1 H1 σ q x R1 s1 => e.nx _ _ _ _ _ q x R1 (s1.unset i), e.rt, fun δ A1 F1 H1 σ q x R1 s1 => e.bk _ _ _ _ _ q x R1 (s1.unset i), fun δ A1 F1 H1 σ q x R1 s1 => e.ct _ _ _ _ _ q x R1 (s1.unset i), fun _ _ _ _ _ _ _ _ _ h => h.elim⟩
section
variable {X : Cx} {W : WX} {k : Nat} {f C : Addr} {asp : ASp} {x fl : Str} {a b e o : Expr} {es : List Expr} {ta tb te tv : AE} {t : AA} {p pos pos' apos : Pos}
theorem as_try {body : List Stmt} {h₀ : ExceptHandler} {hds : List ExceptHandler} {l : List ACl} {tb : AS} (hs : X.stack = X.env :: X.outer) (hf : X.env.frame = some X.env.locals) (hN : X.N.Nodup) (tk : Takes X W)
    (hb : ∀ (W : WX) (pn : List (Addr × Obj)) (xe : Value → Shared → Prop), Takes (X.tr pn xe) W → PassesOwn (model X.prog X.w) X.A X.env xe → PSs (X.tr pn xe) body (liftS X.K W tb))
    (hh : AClsOk X (h₀ :: hds) l) : PS X (.Try body (h₀ :: hds) [] [] pos) (liftS X.K W (aTry X.K tb l)) :=
  PS.imp (ps_tryC (tb := fun W => liftS X.K W tb) hs hf hN tk hb hh.v) fun D σ H ⟨F, A, δ, D', R, s, q, e⟩ =>
    ⟨F, A, δ, _, R, s, q, ⟨e.nx, e.rt, e.bk, e.ct, fun C fs δ1 A1 F1 H1 σ1 dd fv h x R1 s1 hd rf => handle_w R1 s1 hd rf (e.step x) l h⟩⟩
/-- e.f of a caught error -/
def aFldX (a dd C CC : Addr) (fl : Str) (te : AE) : AE := fun δ A Q E => te δ A (fun x A1 => ∃ v, x = .exc a dd C [(fl, v)] ∧ C = CC ∧ Q v A1) E
theorem ae_fldOw {aa dd CC C fI cc cda : Addr} {cn : Str} {oe : Obj} {pn : List (Addr × Obj)} (T : PySem.OwX.OwTxt X.prog X.K X.mg C fI cc cda cn fl) (hz : Zc (.ref CC) (some dd) oe) (hf : ∃ vs, oe.data = .fields vs) (he : PE (X.suite aa ((aa, oe) :: pn)) e (liftE X.K W te))
    (hb : attributeBase e fl X.env (eval e X.env) = eval e X.env) : PE (X.suite aa ((aa, oe) :: pn)) (.Attribute e fl pos) (liftE X.K W (aFldX aa dd CC C fl te)) := PE.imp (pe_fldOw T hz hf he hb) fun σ H Q ⟨δ, h⟩ => by
  refine (Lf.bindE (k := fun x A1 Q E => ∃ v, x = .exc aa dd CC [(fl, v)] ∧ CC = C ∧ Q v A1) h).mono fun v H1 ⟨d, F, A, Q', E', at_, ⟨w, ed, ec, q⟩, po⟩ => ?_
  subst ed
  cases at_.held with
  | cons r0 n => cases r0 with
    | exc h1 h2 => cases h2 with
      | cons r1 r2 => cases r2; exact ⟨rfl, by rw [ec], dd, _, rfl, h1, po _ _ _ _ _ q Ext.refl at_.rel r1⟩
/-! ### operators -/
variable {K : PySem.W.Frag}
def gI (c : Int → Int → Prop) (g : Int → Int → D) : G2 := fun x y A Q _ => ∃ i j, x = .int i ∧ y = .int j ∧ c i j ∧ Q (g i j) A
def gI0 (g : Int → Int → D) : G2 := fun x y A Q _ => ∃ i j, x = .int i ∧ y = .int j ∧ Q (g i j) A
theorem l2_I {c : Int → Int → Prop} {g : Int → Int → D} {gv : Int → Int → V} (h : ∀ i j F H, Rep K F H (g i j) (gv i j)) : Lift2 K (gI c g) (rI c gv) := fun W δ σ H x y v u Q ⟨F, A, Q', E', a, ⟨i, j, e1, e2, hc, q⟩, po⟩ => by
  subst e1; subst e2
  obtain ⟨u', v', e, r1, r2⟩ := a.held.two
  cases e; cases r1; cases r2
  exact ⟨i, j, rfl, rfl, hc, po _ _ _ _ _ q Ext.refl a.rel (h i j _ _)⟩
theorem l2_I0 {g : Int → Int → D} {gv : Int → Int → V} (h : ∀ i j F H, Rep K F H (g i j) (gv i j)) : Lift2 K (gI0 g) (rI0 gv) := fun W δ σ H x y v u Q ⟨F, A, Q', E', a, ⟨i, j, e1, e2, q⟩, po⟩ => by
  subst e1; subst e2
  obtain ⟨u', v', e, r1, r2⟩ := a.held.two
  cases e; cases r1; cases r2
  exact ⟨i, j, rfl, rfl, po _ _ _ _ _ q Ext.refl a.rel (h i j _ _)⟩
def gOr (g h : G2) : G2 := fun x y A Q E => g x y A Q E ∨ h x y A Q E
theorem l2_or {g h : G2} {r s : R2} (a : Lift2 K g r) (b : Lift2 K h s) : Lift2 K (gOr g h) (fun x y H Q => r x y H Q ∨ s x y H Q) := fun W δ σ H x y v u Q ⟨F, A, Q', E', at_, q, po⟩ => by
  rcases q with q | q
  · exact .inl (a W δ σ H x y v u Q ⟨F, A, Q', E', at_, q, po⟩)
  · exact .inr (b W δ σ H x y v u Q ⟨F, A, Q', E', at_, q, po⟩)
theorem sOk_app {x y : Str} (h1 : sOk x) (h2 : sOk y) : sOk (x ++ y) := by
  unfold sOk PySem.PyData.strOk at *
  show (x.cps ++ y.cps).all _ = true
  rw [Array.all_append, h1, h2]; rfl
/-- texts -/
def gCatS : G2 := fun x y A Q _ => ∃ i j, x = .str i ∧ y = .str j ∧ i.length + j.length ≤ sizeLine ∧ Q (.str (i ++ j)) A
theorem l2_catS : Lift2 K gCatS mAddS := fun W δ σ H x y v u Q ⟨F, A, Q', E', a, ⟨i, j, e1, e2, hc, q⟩, po⟩ => by
  subst e1; subst e2
  obtain ⟨u', v', e, r1, r2⟩ := a.held.two
  cases e
  cases r1 with
  | str h1 => cases r2 with
    | str h2 => exact ⟨i, j, rfl, rfl, hc, po _ _ _ _ _ q Ext.refl a.rel (.str (sOk_app h2 h1))⟩
/-- lists -/
def gCatL (live : Bool) : G2 := fun x y A Q _ => ∃ xs ys, asX A x = some xs ∧ asX A y = some ys ∧ xs.length + ys.length ≤ sizeLine ∧ aNew live (.lst (xs ++ ys)) A Q
theorem l2_catL {live : Bool} : Lift2 K (gCatL live) rCat := fun W δ σ H x y v u Q ⟨F, A, Q', E', a, ⟨xs, ys, e1, e2, hc, q⟩, po⟩ => by
  obtain ⟨u', v', e, r1, r2⟩ := a.held.two
  cases e
  obtain ⟨b1, us, rfl, h1, q1⟩ := asX_ok a.rel r2 e1
  obtain ⟨b2, ws, rfl, h2, q2⟩ := asX_ok a.rel r1 e2
  exact ⟨b1, b2, us, ws, rfl, rfl, h1, h2, by rw [← q1.length, ← q2.length]; exact hc, aNew_ok a.rel (.lst (q1.append q2)) q po⟩
/-- tuples -/
def gCatT : G2 := fun x y A Q _ => ∃ xs ys, x = .tup xs ∧ y = .tup ys ∧ xs.length + ys.length ≤ sizeLine ∧ Q (.tup (xs ++ ys)) A
theorem l2_catT : Lift2 K gCatT (rCatA K) := fun W δ σ H x y v u Q ⟨F, A, Q', E', a, ⟨xs, ys, e1, e2, hc, q⟩, po⟩ => by
  subst e1; subst e2
  obtain ⟨u', v', e, r1, r2⟩ := a.held.two
  cases e
  obtain ⟨b1, us, rfl, h1, q1⟩ := asTe_ok r2 rfl
  obtain ⟨b2, ws, rfl, h2, q2⟩ := asTe_ok r1 rfl
  refine ⟨b1, b2, us, ws, rfl, rfl, h1.sq, h2.sq, by rw [← q1.length, ← q2.length]; exact hc, fun z => ?_, fun _ z => ?_, fun _ _ => ?_⟩
  · subst z
    cases q1
    exact po _ _ _ _ _ q Ext.refl a.rel (.tup h2 q2)
  · subst z
    cases q2
    rw [List.append_nil] at q
    exact po _ _ _ _ _ q Ext.refl a.rel (.tup h1 q1)
  · exact tup_ok a.rel (q1.append q2) q po
def gAdd (live : Bool) : G2 := gOr (gI0 fun i j => .int (i + j)) (gOr gCatS (gOr (gCatL live) gCatT))
theorem ae_add (live : Bool) (ha : PE X a (liftE X.K W ta)) (hb : PE X b (liftE X.K W tb)) : PE X (.BinOp a .Add b pos) (liftE X.K W (aOp (gAdd live) ta tb)) :=
  ae_op (l2_or (l2_I0 fun i j _ _ => .int _) (l2_or l2_catS (l2_or l2_catL l2_catT))) (op_add.or (addS.or (op_cat.or op_catA))) ha hb
theorem ae_sub (ha : PE X a (liftE X.K W ta)) (hb : PE X b (liftE X.K W tb)) : PE X (.BinOp a .Sub b pos) (liftE X.K W (aOp (gI0 fun i j => .int (i - j)) ta tb)) := ae_op (l2_I0 fun i j _ _ => .int _) op_sub ha hb
def gRep (live : Bool) : G2 := fun x y A Q _ => ∃ xs n, asX A x = some xs ∧ y = .int n ∧ -(2 ^ 63) ≤ n ∧ n < 2 ^ 63 ∧ xs.length * n.toNat ≤ sizeLine ∧ aNew live (.lst (List.replicate n.toNat xs).flatten) A Q
theorem reps_rep {F : Addr → Prop} {H : Hp} {xs : List D} {us : List V} (r : Reps K F H xs us) : ∀ n : Nat, Reps K F H (List.replicate n xs).flatten (List.replicate n us).flatten
  | 0 => .nil
  | n + 1 => by rw [List.replicate_succ, List.replicate_succ, List.flatten_cons, List.flatten_cons]; exact r.append (reps_rep r n)
theorem l2_rep {live : Bool} : Lift2 K (gRep live) rRep := fun W δ σ H x y v u Q ⟨F, A, Q', E', a, ⟨xs, n, e1, e2, n1, n2, hc, q⟩, po⟩ => by
  subst e2
  obtain ⟨u', v', e, r1, r2⟩ := a.held.two
  cases e; cases r1
  obtain ⟨b1, us, rfl, h1, q1⟩ := asX_ok a.rel r2 e1
  exact ⟨b1, n, us, rfl, rfl, h1, n1, n2, by rw [← q1.length]; exact hc, aNew_ok a.rel (.lst (reps_rep q1 _)) q po⟩
def gMul (live : Bool) : G2 := gOr (gI CMulW fun i j => .int (i * j)) (gRep live)
theorem ae_mul (live : Bool) (ha : PE X a (liftE X.K W ta)) (hb : PE X b (liftE X.K W tb)) : PE X (.BinOp a .Mult b pos) (liftE X.K W (aOp (gMul live) ta tb)) := ae_op (l2_or (l2_I fun i j _ _ => .int _) l2_rep) (op_mulW.or op_rep) ha hb
theorem ae_mod (ha : PE X a (liftE X.K W ta)) (hb : PE X b (liftE X.K W tb)) : PE X (.BinOp a .Mod b pos) (liftE X.K W (aOp (gI (fun _ j => 0 < j) fun i j => .int (i % j)) ta tb)) := ae_op (l2_I fun i j _ _ => .int _) op_mod ha hb
theorem ae_fdiv (ha : PE X a (liftE X.K W ta)) (hb : PE X b (liftE X.K W tb)) : PE X (.BinOp a .FloorDiv b pos) (liftE X.K W (aOp (gI CDivW fun i j => .int (i / j)) ta tb)) := ae_op (l2_I fun i j _ _ => .int _) op_fdivW ha hb
theorem ae_pow (ha : PE X a (liftE X.K W ta)) (hb : PE X b (liftE X.K W tb)) : PE X (.BinOp a .Pow b pos) (liftE X.K W (aOp (gI CPowW fun i j => .int (i ^ j.toNat)) ta tb)) := ae_op (l2_I fun i j _ _ => .int _) op_powW ha hb
def gNeg : G1 := fun x A Q _ => ∃ i, x = .int i ∧ Q (.int (-i)) A
theorem ae_neg (ha : PE X a (liftE X.K W ta)) : PE X (.UnaryOp .USub a pos) (liftE X.K W (aUn gNeg ta)) := ae_un (fun W δ σ H x v Q ⟨F, A, Q', E', a, ⟨i, e1, q⟩, po⟩ => by
  subst e1
  obtain ⟨v', e, r1⟩ := a.held.one
  cases e; cases r1
  exact ⟨i, rfl, po _ _ _ _ _ q Ext.refl a.rel (.int _)⟩) un_neg ha
/-! comparisons -/
def gS (g : Str → Str → Bool) : G2 := fun x y A Q _ => ∃ i j, x = .str i ∧ y = .str j ∧ Q (.bl (g i j)) A
theorem l2_S {g : Str → Str → Bool} : Lift2 K (gS g) (fun x y H Q => ∃ i j, x = .str i ∧ y = .str j ∧ Q (.bl (g i j)) H) := fun W δ σ H x y v u Q ⟨F, A, Q', E', a, ⟨i, j, e1, e2, q⟩, po⟩ => by
  subst e1; subst e2
  obtain ⟨u', v', e, r1, r2⟩ := a.held.two
  cases e
  cases r1; cases r2
  exact ⟨i, j, rfl, rfl, po _ _ _ _ _ q Ext.refl a.rel (.bl _)⟩
def gLt : G2 := gOr (gI0 fun i j => .bl (decide (i < j))) (gS fun i j => decide (i.cps.toList < j.cps.toList))
def gLe : G2 := gOr (gI0 fun i j => .bl (decide (i ≤ j))) (gS fun i j => !decide (j.cps.toList < i.cps.toList))
def gGt : G2 := gOr (gI0 fun i j => .bl (decide (j < i))) (gS fun i j => decide (j.cps.toList < i.cps.toList))
def gGe : G2 := gOr (gI0 fun i j => .bl (decide (j ≤ i))) (gS fun i j => !decide (i.cps.toList < j.cps.toList))
def CmpA (X : Cx) (op : CmpOp) (g : G2) : Prop := ∃ r, Lift2 X.K g r ∧ OpR X (compareOp op) r
theorem cmp_lt : CmpA X .Lt gLt := ⟨_, l2_or (l2_I0 fun i j _ _ => .bl _) l2_S, op_lt.or op_lt_str⟩
theorem cmp_le : CmpA X .LtE gLe := ⟨_, l2_or (l2_I0 fun i j _ _ => .bl _) l2_S, op_le.or op_le_str⟩
theorem cmp_gt : CmpA X .Gt gGt := ⟨_, l2_or (l2_I0 fun i j _ _ => .bl _) l2_S, op_gt.or op_gt_str⟩
theorem cmp_ge : CmpA X .GtE gGe := ⟨_, l2_or (l2_I0 fun i j _ _ => .bl _) l2_S, op_ge.or op_ge_str⟩
theorem ae_cmpA {op : CmpOp} {g : G2} (h : CmpA X op g) (ha : PE X a (liftE X.K W ta)) (hb : PE X b (liftE X.K W tb)) (hm : behindInMarks op b = false) : PE X (.Compare a [op] [b] pos) (liftE X.K W (aOp g ta tb)) := by
  obtain ⟨r, L, ho⟩ := h
  exact ae_cmp L ho ha hb hm
theorem at_cmpA {op : CmpOp} {g : G2} (h : CmpA X op g) (ha : PE X a (liftE X.K W ta)) (hb : PE X b (liftE X.K W tb)) (hm : behindInMarks op b = false) : PT X (.Compare a [op] [b] pos) (liftT X.K W (aB (aOp g ta tb))) := by
  obtain ⟨r, L, ho⟩ := h
  exact at_cmp L ho ha hb hm
/-- x is None, x is not None -/
def isNoD : D → Bool
  | .non => true
  | _ => false
def gIs (neg : Bool) : G2 := fun x y A Q _ => y = .non ∧ Q (.bl (if neg then !isNoD x else isNoD x)) A
theorem isNo_ok2 {F : Addr → Prop} {H : Hp} {d : D} {v : V} (r : Rep K F H d v) : isNoD d = decide (v = .non) := by cases r <;> simp [isNoD]
theorem l2_is : Lift2 K (gIs false) mIsN := fun W δ σ H x y v u Q ⟨F, A, Q', E', a, ⟨e2, q⟩, po⟩ => by
  subst e2
  obtain ⟨u', v', e, r1, r2⟩ := a.held.two
  cases e; cases r1
  refine ⟨rfl, ?_⟩
  rw [← isNo_ok2 r2]
  exact po _ _ _ _ _ q Ext.refl a.rel (.bl _)
theorem l2_isnt : Lift2 K (gIs true) mNotN := fun W δ σ H x y v u Q ⟨F, A, Q', E', a, ⟨e2, q⟩, po⟩ => by
  subst e2
  obtain ⟨u', v', e, r1, r2⟩ := a.held.two
  cases e; cases r1
  refine ⟨rfl, ?_⟩
  rw [← isNo_ok2 r2]
  exact po _ _ _ _ _ q Ext.refl a.rel (.bl _)
/-! equality -/
def scD : D → Option V
  | .non => some .non
  | .bl b => some (.bl b)
  | .int i => some (.int i)
  | .str x => some (.str x)
  | _ => none
theorem scD_ok {F : Addr → Prop} {H : Hp} {d : D} {v u : V} (r : Rep K F H d v) (e : scD d = some u) : v = u := by cases r <;> simp [scD] at e <;> exact e
def gEqS (neg : Bool) : G2 := fun x y A Q _ => ∃ v u, scD x = some v ∧ scD y = some u ∧ scal v u = true ∧ Q (.bl (if neg then !decide (v = u) else decide (v = u))) A
theorem l2_eqS : Lift2 K (gEqS false) rEq := fun W δ σ H x y v u Q ⟨F, A, Q', E', a, ⟨v1, u1, e1, e2, hs, q⟩, po⟩ => by
  obtain ⟨u', v', e, r1, r2⟩ := a.held.two
  cases e
  obtain rfl := scD_ok r1 e2
  obtain rfl := scD_ok r2 e1
  exact ⟨hs, po _ _ _ _ _ q Ext.refl a.rel (.bl _)⟩
theorem l2_neS : Lift2 K (gEqS true) rNe := fun W δ σ H x y v u Q ⟨F, A, Q', E', a, ⟨v1, u1, e1, e2, hs, q⟩, po⟩ => by
  obtain ⟨u', v', e, r1, r2⟩ := a.held.two
  cases e
  obtain rfl := scD_ok r1 e2
  obtain rfl := scD_ok r2 e1
  exact ⟨hs, po _ _ _ _ _ q Ext.refl a.rel (.bl _)⟩
mutual
def toP : D → Option PyData
  | .non => some .none
  | .bl b => some (.bool b)
  | .int i => some (.int i)
  | .str x => some (.str x)
  | .tup xs => (toPs xs).map .tuple
  | .lst xs => (toPs xs).map .list
  | _ => none
def toPs : List D → Option (List PyData)
  | [] => some []
  | d :: ds => match toP d, toPs ds with
    | some x, some xs => some (x :: xs)
    | _, _ => none
end
def topP (A : AH) : D → Option PyData
  | .ref a => match A a with
    | some (.lst xs) => (toPs xs).map .list
    | _ => none
  | d => toP d
mutual
theorem toP_ok {F : Addr → Prop} {H : Hp} : ∀ (d : D) {v : V} {x : PyData}, Rep K F H d v → toP d = some x → Dp K H v x ∧ x.canLay0 = true
  | .non, _, _, r, e => by cases r; cases e; exact ⟨.non, rfl⟩
  | .bl b, _, _, r, e => by cases r; cases e; exact ⟨.bl b, rfl⟩
  | .int i, _, _, r, e => by cases r; cases e; exact ⟨.int i, rfl⟩
  | .str x, _, _, r, e => by
    cases r with
    | str h => cases e; exact ⟨.str x, by rw [PyData.canLay0]; exact h⟩
  | .ty n, _, _, r, e => by cases e
  | .ref a, _, _, r, e => by cases e
  | .tup xs, _, _, r, e => by
    cases r with
    | tup h r =>
      rw [toP] at e
      cases q : toPs xs with
      | none => rw [q] at e; cases e
      | some ys =>
        rw [q] at e; cases e
        obtain ⟨h1, h2⟩ := toPs_ok xs r q
        exact ⟨.tup h.sq h1, by rw [PyData.canLay0]; exact h2⟩
  | .lst xs, _, _, r, e => by
    cases r with
    | lst f h r =>
      rw [toP] at e
      cases q : toPs xs with
      | none => rw [q] at e; cases e
      | some ys =>
        rw [q] at e; cases e
        obtain ⟨h1, h2⟩ := toPs_ok xs r q
        exact ⟨.lst (SqL.of h) h1, by rw [PyData.canLay0]; exact h2⟩
  | .rol _, _, _, r, e => by cases e
  | .dct _, _, _, r, e => by cases e
  | .dtt _, _, _, r, e => by cases e
  | .obj _ _, _, _, r, e => by cases e
  | .exc _ _ _ _, _, _, r, e => by cases e
theorem toPs_ok {F : Addr → Prop} {H : Hp} : ∀ (ds : List D) {vs : List V} {xs : List PyData}, Reps K F H ds vs → toPs ds = some xs → DpAll K H vs xs ∧ PyData.canLayAll0 xs = true
  | [], _, _, r, e => by cases r; cases e; exact ⟨.nil, rfl⟩
  | d :: ds, _, _, r, e => by
    cases r with
    | cons a r =>
      rw [toPs] at e
      split at e
      · rename_i x xs e1 e2
        cases e
        obtain ⟨h1, h2⟩ := toP_ok d a e1
        obtain ⟨h3, h4⟩ := toPs_ok ds r e2
        exact ⟨.cons h1 h3, by rw [PyData.canLayAll0, h2, h4]; rfl⟩
      · cases e
end
theorem topP_ok {F : Addr → Prop} {A : AH} {H : Hp} {d : D} {v : V} {x : PyData} (R : Rel K F A H) (r : Rep K F H d v) (e : topP A d = some x) : Dp K H v x ∧ x.canLay0 = true := by
  cases r with
  | ref a =>
    simp only [topP] at e
    split at e
    · rename_i xs q
      obtain ⟨_, ho, eh, r⟩ := R.live a _ q
      cases r with
      | lst r =>
        cases q : toPs xs with
        | none => rw [q] at e; cases e
        | some ys =>
          rw [q] at e; cases e
          obtain ⟨h1, h2⟩ := toPs_ok xs r q
          exact ⟨.lst (SqL.of eh) h1, by rw [PyData.canLay0]; exact h2⟩
    · cases e
  | non => exact toP_ok (F := F) _ .non e
  | bl b => exact toP_ok (F := F) _ (.bl b) e
  | int i => exact toP_ok (F := F) _ (.int i) e
  | str h => exact toP_ok (F := F) _ (.str h) e
  | ty n => cases e
  | tup h r => exact toP_ok _ (.tup h r) e
  | lst f h r => exact toP_ok _ (.lst f h r) e
  | rol f h r => cases e
  | rolK h r => cases e
  | dk f h r => cases e
  | dt f h r => cases e
  | obj f h r => cases e
  | exc h r => cases e
def gEqP (neg : Bool) : G2 := fun x y A Q _ => ∃ d e, topP A x = some d ∧ topP A y = some e ∧ d.depth ≤ 64 ∧ e.depth ≤ 64 ∧ Q (.bl (if neg then !PyData.eqv d e else PyData.eqv d e)) A
theorem shaped_of {d : PyData} (h : d.canLay0 = true) (h2 : d.depth ≤ 64) : SeqAt.shaped d = true := by
  show (d.canLay0 && decide (d.depth ≤ 64)) = true
  rw [h, decide_eq_true h2]; rfl
theorem l2_eqP : Lift2 K (gEqP false) (rEqD K) := fun W δ σ H x y v u Q ⟨F, A, Q', E', a, ⟨d, e, e1, e2, h1, h2, q⟩, po⟩ => by
  obtain ⟨u', v', e', r1, r2⟩ := a.held.two
  cases e'
  obtain ⟨d1, l1⟩ := topP_ok a.rel r2 e1
  obtain ⟨d2, l2⟩ := topP_ok a.rel r1 e2
  exact ⟨d, e, d1, d2, shaped_of l1 h1, shaped_of l2 h2, po _ _ _ _ _ q Ext.refl a.rel (.bl _)⟩
theorem l2_neP : Lift2 K (gEqP true) (rNeD K) := fun W δ σ H x y v u Q ⟨F, A, Q', E', a, ⟨d, e, e1, e2, h1, h2, q⟩, po⟩ => by
  obtain ⟨u', v', e', r1, r2⟩ := a.held.two
  cases e'
  obtain ⟨d1, l1⟩ := topP_ok a.rel r2 e1
  obtain ⟨d2, l2⟩ := topP_ok a.rel r1 e2
  exact ⟨d, e, d1, d2, shaped_of l1 h1, shaped_of l2 h2, po _ _ _ _ _ q Ext.refl a.rel (.bl _)⟩
def gEq (neg : Bool) : G2 := fun x y A Q E => match scD x, scD y with
  | some v, some u => scal v u = true ∧ Q (.bl (if neg then !decide (v = u) else decide (v = u))) A
  | _, _ => gEqP neg x y A Q E
theorem l2_gEq {neg : Bool} {r s : R2} (h1 : Lift2 K (gEqS neg) r) (h2 : Lift2 K (gEqP neg) s) : Lift2 K (gEq neg) (fun x y H Q => r x y H Q ∨ s x y H Q) := fun W δ σ H x y v u Q ⟨F, A, Q', E', a, q, po⟩ => by
  unfold gEq at q
  split at q
  · rename_i v1 u1 e1 e2
    exact .inl (h1 W δ σ H x y v u Q ⟨F, A, Q', E', a, ⟨v1, u1, e1, e2, q.1, q.2⟩, po⟩)
  · exact .inr (h2 W δ σ H x y v u Q ⟨F, A, Q', E', a, q, po⟩)
theorem cmp_eq (hu : X.A.units + 64 < cLine) : CmpA X .Eq (gEq false) := ⟨_, l2_gEq l2_eqS l2_eqP, op_eq.or (op_eqD hu)⟩
theorem cmp_ne (hu : X.A.units + 64 < cLine) : CmpA X .NotEq (gEq true) := ⟨_, l2_gEq l2_neS l2_neP, op_ne.or (op_neD hu)⟩
theorem cmp_is : CmpA X .Is (gIs false) := ⟨_, l2_is, isN⟩
theorem cmp_isnt : CmpA X .IsNot (gIs true) := ⟨_, l2_isnt, notN⟩
end
end Av

set_option Elab.async false
set_option linter.all false
set_option maxRecDepth 100000
set_option maxHeartbeats 4000000
/-! own library Av, part 8: in, places, slices, dicts, builtins, methods -/
namespace Av
open PySem PySem.Spec PyProof.Rows L2 My
section
variable {X : Cx} {W : WX} {k : Nat} {f C : Addr} {asp : ASp} {x fl : Str} {a b e o : Expr} {es : List Expr} {ta tb te tv : AE} {t : AA} {p pos pos' apos : Pos} {K : PySem.W.Frag}
/-! ### in -/
def scDs : List D → Option (List V)
  | [] => some []
  | d :: ds => match scD d, scDs ds with
    | some v, some vs => some (v :: vs)
    | _, _ => none
theorem scDs_ok {F : Addr → Prop} {H : Hp} : ∀ {ds : List D} {vs us : List V}, Reps K F H ds vs → scDs ds = some us → vs = us
  | _, _, _, .nil, e => by cases e; rfl
  | _, _, _, .cons a r, e => by
    rw [scDs] at e
    split at e
    · rename_i v vs e1 e2
      cases e
      rw [scD_ok a e1, scDs_ok r e2]
    · cases e
theorem scD_flat {d : D} {v : V} (e : scD d = some v) : flatV v = true := by
  cases d <;> simp [scD] at e <;> subst e <;> rfl
theorem scDs_flat : ∀ {ds : List D} {us : List V}, scDs ds = some us → us.all flatV = true
  | [], _, e => by cases e; rfl
  | d :: ds, _, e => by
    rw [scDs] at e
    split at e
    · rename_i v vs e1 e2
      cases e
      rw [List.all_cons, scD_flat e1, scDs_flat e2]; rfl
    · cases e
/-- what stands in a list or a tuple -/
def asQ (A : AH) (d : D) : Option (List D) := match asL A d with
  | some xs => some xs
  | none => asT d
theorem asQ_ok {F : Addr → Prop} {A : AH} {H : Hp} {d : D} {v : V} (R : Rel K F A H) (r : Rep K F H d v) {xs : List D} (e : asQ A d = some xs) : ∃ a vs, v = .ref a ∧ (SqL K H a vs ∨ SqT K H a vs) ∧ Reps K F H xs vs := by
  unfold asQ at e
  split at e
  · rename_i ys q
    cases e
    obtain ⟨a, vs, h1, h2, h3⟩ := asL_ok R r q
    exact ⟨a, vs, h1, .inl h2, h3⟩
  · obtain ⟨a, vs, h1, h2, h3⟩ := asT_ok r e
    exact ⟨a, vs, h1, .inr h2, h3⟩
def gInQ (neg : Bool) : G2 := fun x y A Q _ => ∃ xs v vs, asQ A y = some xs ∧ scD x = some v ∧ scDs xs = some vs ∧ Q (.bl (if neg then !inV v vs else inV v vs)) A
theorem l2_inQ {neg : Bool} : Lift2 K (gInQ neg) (rIn K neg) := fun W δ σ H x y v u Q ⟨F, A, Q', E', a, ⟨xs, v1, vs, e1, e2, e3, q⟩, po⟩ => by
  obtain ⟨u', v', e, r1, r2⟩ := a.held.two
  cases e
  obtain ⟨b1, us, rfl, h1, q1⟩ := asQ_ok a.rel r1 e1
  obtain rfl := scD_ok r2 e2
  obtain rfl := scDs_ok q1 e3
  exact ⟨b1, us, rfl, h1, scD_flat e2, scDs_flat e3, po _ _ _ _ _ q Ext.refl a.rel (.bl _)⟩
def gInS (neg : Bool) : G2 := fun x y A Q _ => ∃ (c : Nat) (z : Str), x = .str ⟨#[c]⟩ ∧ y = .str z ∧ Q (.bl (if neg then !decide (c ∈ z.cps.toList) else decide (c ∈ z.cps.toList))) A
theorem l2_inS : Lift2 K (gInS false) (fun x y H Q => ∃ (c : Nat) (z : Str), x = .str ⟨#[c]⟩ ∧ y = .str z ∧ Q (.bl (decide (c ∈ z.cps.toList))) H) := fun W δ σ H x y v u Q ⟨F, A, Q', E', a, ⟨c, z, e1, e2, q⟩, po⟩ => by
  subst e1; subst e2
  obtain ⟨u', v', e, r1, r2⟩ := a.held.two
  cases e; cases r1; cases r2
  exact ⟨c, z, rfl, rfl, po _ _ _ _ _ q Ext.refl a.rel (.bl _)⟩
theorem l2_notInS : Lift2 K (gInS true) (fun x y H Q => ∃ (c : Nat) (z : Str), x = .str ⟨#[c]⟩ ∧ y = .str z ∧ Q (.bl (!decide (c ∈ z.cps.toList))) H) := fun W δ σ H x y v u Q ⟨F, A, Q', E', a, ⟨c, z, e1, e2, q⟩, po⟩ => by
  subst e1; subst e2
  obtain ⟨u', v', e, r1, r2⟩ := a.held.two
  cases e; cases r1; cases r2
  exact ⟨c, z, rfl, rfl, po _ _ _ _ _ q Ext.refl a.rel (.bl _)⟩
/-! dicts -/
mutual
def keyEq : D → D → Bool
  | .int i, .int j => decide (i = j)
  | .str x, .str y => decide (x = y)
  | .tup xs, .tup ys => keysEq xs ys
  | _, _ => false
def keysEq : List D → List D → Bool
  | [], [] => true
  | x :: xs, y :: ys => keyEq x y && keysEq xs ys
  | _, _ => false
end
def valD (kvs : List (D × D)) (k : D) : Option D := match kvs with
  | [] => none
  | (q, v) :: r => if keyEq q k = true then some v else valD r k
def putD (kvs : List (D × D)) (k v : D) : List (D × D) := if (kvs.any fun p => keyEq p.1 k) = true then kvs.map (fun p => if keyEq p.1 k = true then (p.1, v) else p) else kvs ++ [(k, v)]
theorem keyEq_dK (k q : Key) : keyEq (dK k) (dK q) = decide (k = q) := by
  cases k <;> cases q <;> simp [dK, keyEq]
theorem keyEq_dKs : ∀ (k q : List Key), keysEq (k.map dK) (q.map dK) = decide (k = q)
  | [], [] => by simp [keysEq]
  | [], _ :: _ => by simp [keysEq]
  | _ :: _, [] => by simp [keysEq]
  | x :: k, y :: q => by
    simp only [List.map_cons, keysEq, keyEq_dK, keyEq_dKs k q, List.cons.injEq]
    by_cases h1 : x = y <;> by_cases h2 : k = q <;> simp [h1, h2]
def keyOf : D → Option Key
  | .int i => some (.inl i)
  | .str x => some (.inr x)
  | _ => none
def keysOf : List D → Option (List Key)
  | [] => some []
  | d :: ds => match keyOf d, keysOf ds with
    | some k, some ks => some (k :: ks)
    | _, _ => none
theorem keyOf_dK {d : D} {q : Key} (h : keyOf d = some q) : d = dK q := by
  cases d <;> simp [keyOf] at h <;> subst h <;> rfl
theorem keysOf_dK : ∀ {ds : List D} {q : List Key}, keysOf ds = some q → ds = q.map dK
  | [], _, h => by cases h; rfl
  | d :: ds, _, h => by
    rw [keysOf] at h
    split at h
    · rename_i e1 e2
      cases h
      rw [List.map_cons, ← keyOf_dK e1, ← keysOf_dK e2]
    · cases h
theorem rep_key {F : Addr → Prop} {H : Hp} {q : Key} {v : V} (r : Rep K F H (dK q) v) : v = kV q ∧ okK q := by
  cases q with
  | inl i => cases r; exact ⟨rfl, trivial⟩
  | inr x => cases r with
    | str h => exact ⟨rfl, h⟩
theorem reps_key {F : Addr → Prop} {H : Hp} : ∀ {q : List Key} {vs : List V}, Reps K F H (q.map dK) vs → vs = q.map kV ∧ ∀ x ∈ q, okK x
  | [], _, r => by cases r; exact ⟨rfl, fun _ h => nomatch h⟩
  | x :: q, _, r => by
    cases r with
    | cons a r =>
      obtain ⟨h1, h2⟩ := rep_key a
      obtain ⟨h3, h4⟩ := reps_key r
      refine ⟨by rw [h1, h3]; rfl, fun y hy => ?_⟩
      rcases List.mem_cons.mp hy with rfl | hy
      · exact h2
      · exact h4 y hy
theorem repK_val {F : Addr → Prop} {H : Hp} {q : Key} : ∀ {ds : List (D × D)} {vs : List (Key × V)}, RepK K F H ds vs → (valD ds (dK q) = none ∧ valV vs q = none) ∨ ∃ d v, valD ds (dK q) = some d ∧ valV vs q = some v ∧ Rep K F H d v
  | _, _, .nil => .inl ⟨rfl, rfl⟩
  | _, _, .cons (k := k) o a r => by
    by_cases h : k = q
    · exact .inr ⟨_, _, by rw [valD, keyEq_dK, decide_eq_true h, if_pos rfl], valV_pos h, a⟩
    · have e1 : ∀ {d : D} {ds : List (D × D)}, valD ((dK k, d) :: ds) (dK q) = valD ds (dK q) := by intro d ds; rw [valD, keyEq_dK, decide_eq_false h, if_neg (by decide)]
      rw [e1, valV_neg (p := (k, _)) h]
      exact repK_val r
theorem repT_val {F : Addr → Prop} {H : Hp} {q : List Key} : ∀ {ds : List (D × D)} {vs : List (List Key × V)}, RepT K F H ds vs → (valD ds (.tup (q.map dK)) = none ∧ valV vs q = none) ∨ ∃ d v, valD ds (.tup (q.map dK)) = some d ∧ valV vs q = some v ∧ Rep K F H d v
  | _, _, .nil => .inl ⟨rfl, rfl⟩
  | _, _, .cons (k := k) o a r => by
    by_cases h : k = q
    · exact .inr ⟨_, _, by rw [valD, keyEq, keyEq_dKs, decide_eq_true h, if_pos rfl], valV_pos h, a⟩
    · have e1 : ∀ {d : D} {ds : List (D × D)}, valD ((.tup (k.map dK), d) :: ds) (.tup (q.map dK)) = valD ds (.tup (q.map dK)) := by intro d ds; rw [valD, keyEq, keyEq_dKs, decide_eq_false h, if_neg (by decide)]
      rw [e1, valV_neg (p := (k, _)) h]
      exact repT_val r
theorem repK_any {F : Addr → Prop} {H : Hp} {q : Key} : ∀ {ds : List (D × D)} {vs : List (Key × V)}, RepK K F H ds vs → (ds.any fun p => keyEq p.1 (dK q)) = vs.any fun kv => decide (kv.1 = q)
  | _, _, .nil => rfl
  | _, _, .cons (k := k) o a r => by rw [List.any_cons, List.any_cons, repK_any r, keyEq_dK]
theorem repK_put {F : Addr → Prop} {H : Hp} {q : Key} {d : D} {v : V} (hq : okK q) (r0 : Rep K F H d v) {ds : List (D × D)} {vs : List (Key × V)} (r : RepK K F H ds vs) : RepK K F H (putD ds (dK q) d) (putK vs q v) := by
  have m : ∀ {ds : List (D × D)} {vs : List (Key × V)}, RepK K F H ds vs → RepK K F H (ds.map fun p => if keyEq p.1 (dK q) = true then (p.1, d) else p) (vs.map fun kv => if kv.1 = q then (kv.1, v) else kv) := by
    intro ds vs r
    induction ds generalizing vs with
    | nil => cases r; exact .nil
    | cons p ds ih =>
      cases r with
      | cons o a r =>
        rename_i k d' v' vs'
        simp only [List.map_cons, keyEq_dK]
        by_cases h : k = q
        · simp only [h, decide_true, if_true]; exact .cons hq r0 (ih r)
        · simp only [h, decide_false, if_false, Bool.false_eq_true]; exact .cons o a (ih r)
  have ap : ∀ {ds : List (D × D)} {vs : List (Key × V)}, RepK K F H ds vs → RepK K F H (ds ++ [(dK q, d)]) (vs ++ [(q, v)]) := by
    intro ds vs r
    induction ds generalizing vs with
    | nil => cases r; exact .cons hq r0 .nil
    | cons p ds ih => cases r with
      | cons o a r => exact .cons o a (ih r)
  unfold putD putK
  rw [repK_any r]
  split
  · exact m r
  · exact ap r
theorem repT_any {F : Addr → Prop} {H : Hp} {q : List Key} : ∀ {ds : List (D × D)} {vs : List (List Key × V)}, RepT K F H ds vs → (ds.any fun p => keyEq p.1 (.tup (q.map dK))) = vs.any fun kv => decide (kv.1 = q)
  | _, _, .nil => rfl
  | _, _, .cons (k := k) o a r => by rw [List.any_cons, List.any_cons, repT_any r, keyEq, keyEq_dKs]
theorem repT_put {F : Addr → Prop} {H : Hp} {q : List Key} {d : D} {v : V} (hq : ∀ x ∈ q, okK x) (r0 : Rep K F H d v) {ds : List (D × D)} {vs : List (List Key × V)} (r : RepT K F H ds vs) : RepT K F H (putD ds (.tup (q.map dK)) d) (putK vs q v) := by
  have m : ∀ {ds : List (D × D)} {vs : List (List Key × V)}, RepT K F H ds vs → RepT K F H (ds.map fun p => if keyEq p.1 (.tup (q.map dK)) = true then (p.1, d) else p) (vs.map fun kv => if kv.1 = q then (kv.1, v) else kv) := by
    intro ds vs r
    induction ds generalizing vs with
    | nil => cases r; exact .nil
    | cons p ds ih =>
      cases r with
      | cons o a r =>
        rename_i k d' v' vs'
        simp only [List.map_cons, keyEq, keyEq_dKs]
        by_cases h : k = q
        · simp only [h, decide_true, if_true]; exact .cons hq r0 (ih r)
        · simp only [h, decide_false, if_false, Bool.false_eq_true]; exact .cons o a (ih r)
  have ap : ∀ {ds : List (D × D)} {vs : List (List Key × V)}, RepT K F H ds vs → RepT K F H (ds ++ [(.tup (q.map dK), d)]) (vs ++ [(q, v)]) := by
    intro ds vs r
    induction ds generalizing vs with
    | nil => cases r; exact .cons hq r0 .nil
    | cons p ds ih => cases r with
      | cons o a r => exact .cons o a (ih r)
  unfold putD putK
  rw [repT_any r]
  split
  · exact m r
  · exact ap r
theorem RepK.length {F : Addr → Prop} {H : Hp} : ∀ {ds : List (D × D)} {vs : List (Key × V)}, RepK K F H ds vs → ds.length = vs.length
  | _, _, .nil => rfl
  | _, _, .cons _ _ r => by rw [List.length_cons, List.length_cons, RepK.length r]
theorem RepT.length {F : Addr → Prop} {H : Hp} : ∀ {ds : List (D × D)} {vs : List (List Key × V)}, RepT K F H ds vs → ds.length = vs.length
  | _, _, .nil => rfl
  | _, _, .cons _ _ r => by rw [List.length_cons, List.length_cons, RepT.length r]
theorem dget_ok {F : Addr → Prop} {A : AH} {H : Hp} {d kd : D} {v kv : V} {kvs : List (D × D)} {q : Key} (R : Rel K F A H) (r : Rep K F H d v) (rk : Rep K F H kd kv) (e : asD A d = some kvs) (hk : keyOf kd = some q) : ∃ a o, v = .ref a ∧ DGet H a kv o ∧ IsD H a ∧ ((valD kvs kd = none ∧ o = none) ∨ ∃ d' v', valD kvs kd = some d' ∧ o = some v' ∧ Rep K F H d' v') := by
  obtain ⟨a, vs, rfl, h1, h2⟩ := asD_ok R r e
  have := keyOf_dK hk
  subst this
  obtain ⟨rfl, hok⟩ := rep_key rk
  rcases repK_val (q := q) h2 with ⟨e1, e2⟩ | ⟨d', v', e1, e2, e3⟩
  · exact ⟨a, _, rfl, .inl ⟨vs, q, h1, rfl, rfl⟩, .inl ⟨vs, h1⟩, .inl ⟨e1, e2⟩⟩
  · exact ⟨a, _, rfl, .inl ⟨vs, q, h1, rfl, rfl⟩, .inl ⟨vs, h1⟩, .inr ⟨d', v', e1, e2, e3⟩⟩
/-- d[k] -/
def gDGet : G2 := fun x y A Q _ => ∃ kvs q v, asD A x = some kvs ∧ keyOf y = some q ∧ valD kvs y = some v ∧ Q v A
theorem ae_dget (hu : X.A.units + 1 < cLine) (ha : PE X a (liftE X.K W ta)) (hb : PE X b (liftE X.K W tb)) (hs : NoSl b) : PE X (.Subscript a b pos) (liftE X.K W (aOp gDGet ta tb)) := PE.imp (pe_dget hu ha hb hs) fun σ H Q h => by
  refine lift_op (g := gDGet) (r := fun x y H Q => ∃ a v, x = .ref a ∧ DGet H a y (some v) ∧ Q v H) (fun W δ σ H x y v u Q ⟨F, A, Q', E', a, ⟨kvs, q, w, e1, e2, e3, qq⟩, po⟩ => ?_) h
  obtain ⟨u', v', e, r1, r2⟩ := a.held.two
  cases e
  obtain ⟨b1, o, rfl, g, _, ⟨e4, _⟩ | ⟨d', v2, e4, rfl, r4⟩⟩ := dget_ok a.rel r2 r1 e1 e2
  · rw [e3] at e4; cases e4
  · rw [e3] at e4; cases e4
    exact ⟨b1, v2, rfl, g, po _ _ _ _ _ qq Ext.refl a.rel r4⟩
def gDIn (neg : Bool) : G2 := fun x y A Q _ => ∃ kvs q, asD A y = some kvs ∧ keyOf x = some q ∧ Q (.bl (if neg then !(valD kvs x).isSome else (valD kvs x).isSome)) A
theorem PC.imp {op : CmpOp} {t t' : TE} (h : PC X op a b t) (i : ∀ σ H Q, t' σ H Q → t σ H Q) : PC X op a b t' := ⟨fun pins s σ H Q I q => h.run pins s σ H Q I (i _ _ _ q)⟩
theorem ac_din (hu : X.A.units + 1 < cLine) (ha : PE X a (liftE X.K W ta)) (hb : PE X b (liftE X.K W tb)) : PC X .In a b (liftE X.K W (aOp (gDIn false) ta tb)) := PC.imp (pc_din hu ha hb) fun σ H Q h => by
  refine lift_op (g := gDIn false) (r := fun y x H Q => ∃ a o, x = .ref a ∧ DGet H a y o ∧ Q (.bl o.isSome) H) (fun W δ σ H x y v u Q ⟨F, A, Q', E', a, ⟨kvs, q, e1, e2, qq⟩, po⟩ => ?_) h
  obtain ⟨u', v', e, r1, r2⟩ := a.held.two
  cases e
  obtain ⟨b1, o, rfl, g, _, ⟨e4, rfl⟩ | ⟨d', v2, e4, rfl, r4⟩⟩ := dget_ok a.rel r1 r2 e1 e2
  · rw [e4] at qq; exact ⟨b1, _, rfl, g, po _ _ _ _ _ qq Ext.refl a.rel (.bl _)⟩
  · rw [e4] at qq; exact ⟨b1, _, rfl, g, po _ _ _ _ _ qq Ext.refl a.rel (.bl _)⟩
theorem ac_dnotin (hu : X.A.units + 1 < cLine) (ha : PE X a (liftE X.K W ta)) (hb : PE X b (liftE X.K W tb)) : PC X .NotIn a b (liftE X.K W (aOp (gDIn true) ta tb)) := PC.imp (pc_dnotin hu ha hb) fun σ H Q h => by
  refine lift_op (g := gDIn true) (r := fun y x H Q => ∃ a o, x = .ref a ∧ DGet H a y o ∧ Q (.bl (!o.isSome)) H) (fun W δ σ H x y v u Q ⟨F, A, Q', E', a, ⟨kvs, q, e1, e2, qq⟩, po⟩ => ?_) h
  obtain ⟨u', v', e, r1, r2⟩ := a.held.two
  cases e
  obtain ⟨b1, o, rfl, g, _, ⟨e4, rfl⟩ | ⟨d', v2, e4, rfl, r4⟩⟩ := dget_ok a.rel r1 r2 e1 e2
  · rw [e4] at qq; exact ⟨b1, _, rfl, g, po _ _ _ _ _ qq Ext.refl a.rel (.bl _)⟩
  · rw [e4] at qq; exact ⟨b1, _, rfl, g, po _ _ _ _ _ qq Ext.refl a.rel (.bl _)⟩
theorem at_pc {op : CmpOp} {t : AE} (h : PC X op a b (liftE X.K W t)) (h1 : behindInMarks op b = false := by first | exact nobehind _ (by decide) (by decide) | rfl) : PT X (.Compare a [op] [b] pos) (liftT X.K W (aB t)) := PT.imp (pt_cmp h h1) fun σ H Q h => lift_B h
/-- d[k] = v -/
def aDPut (td ty tv : AE) : AS := fun N δ A => tv δ A (fun v A1 => td δ A1 (fun x A2 => ty δ A2 (fun y A3 => ∃ a kvs q, x = .ref a ∧ A3 a = some (.dct kvs) ∧ keyOf y = some q ∧ kvs.length < sizeLine ∧ N.nx δ (put A3 a (.dct (putD kvs y v)))) (fun C fs A1 => N.ex C fs δ A1)) (fun C fs A1 => N.ex C fs δ A1)) (fun C fs A1 => N.ex C fs δ A1)
theorem as_dput {i value : Expr} {td ty : AE} (hu : X.A.units + 1 < cLine) (ho : PE X o (liftE X.K W td)) (hi : PE X i (liftE X.K W ty)) (hv : PE X value (liftE X.K W tv)) (hs : swapsWith value (some (.Subscript o i pos')) pos.line X.env = pure false) :
    PS X (.Assign [.Subscript o i pos'] value pos) (liftS X.K W (aDPut td ty tv)) := PS.imp (ps_dput hu ho hi hv hs) fun D σ H ⟨F, A, δ, D', R, s, q, e⟩ => by
  refine (st_core (R1 := Rep X.K) R s e q).mono fun v H1 ⟨dv, F1, A1, r1, R1, s1, q1, e1, x1⟩ => ?_
  refine (st_core (R1 := Rep X.K) R1 s1 e1 q1).mono fun x H2 ⟨dx, F2, A2, r2, R2, s2, q2, e2, x2⟩ => ?_
  refine (st_core (R1 := Rep X.K) R2 s2 e2 q2).mono fun y H3 ⟨dy, F3, A3, r3, R3, s3, ⟨a, kvs, q, ex, ea, ek, l, q3⟩, e3, x3⟩ => ?_
  subst ex
  cases r2
  have rv := (r1.kept (x2.kept R1)).kept (x3.kept R2)
  obtain ⟨_, ho, eh, ro⟩ := R3.live a _ ea
  cases ro with
  | dk ro =>
    have := keyOf_dK ek
    subst this
    obtain ⟨rfl, hok⟩ := rep_key r3
    obtain ⟨R4, x4⟩ := R3.put ea (RepO.dk (repK_put hok rv ro))
    exact ⟨a, _, rfl, DPut.k eh (by rw [← ro.length]; exact l), e3.nx _ _ _ _ _ q3 x4 R4 (s3.kept (x4.kept R3))⟩
/-- d.get(k, x) -/
def aDGet2 (td ty tx : AE) : AE := fun δ A Q E => td δ A (fun x A1 => (∃ kvs, asD A1 x = some kvs) ∧ ty δ A1 (fun y A2 => tx δ A2 (fun z A3 => ∃ kvs q, asD A3 x = some kvs ∧ keyOf y = some q ∧ Q ((valD kvs y).getD z) A3) E) E) E
theorem ae_dget2 {td ty tx : AE} {cpos : Pos} {ee f : Expr} (hu : X.A.units + 1 < cLine) (ho : PE X o (liftE X.K W td)) (he : PE X ee (liftE X.K W ty)) (hf : PE X f (liftE X.K W tx)) (m : M2 X o "get" apos ee f cpos) : PE X (.Call (.Attribute o "get" apos) [ee, f] [] cpos) (liftE X.K W (aDGet2 td ty tx)) := PE.imp (pe_dget2 hu ho he hf m) fun σ H Q ⟨δ, h⟩ => by
  refine (Lf.bindE (k := fun x A1 Q E => (∃ kvs, asD A1 x = some kvs) ∧ ty δ A1 (fun y A2 => tx δ A2 (fun z A3 => ∃ kvs q, asD A3 x = some kvs ∧ keyOf y = some q ∧ Q ((valD kvs y).getD z) A3) E) E) h).mono fun v H1 ⟨x, F, A, Q', E', a, ⟨⟨kvs, e1⟩, q⟩, po⟩ => ?_
  cases a.held with
  | cons r0 rn =>
    obtain ⟨b1, vs, rfl, h1, h2⟩ := asD_ok a.rel r0 e1
    refine ⟨b1, rfl, .inl ⟨vs, h1⟩, ?_⟩
    refine (Lf.bindE (k := fun y A2 Q E => tx δ A2 (fun z A3 => ∃ kvs q, asD A3 x = some kvs ∧ keyOf y = some q ∧ Q ((valD kvs y).getD z) A3) E) (ds := [x]) (vs := [V.ref b1]) (δ := δ) ⟨F, A, Q', E', ⟨a.rel, a.sl, a.gx, .cons r0 .nil⟩, q, po⟩).mono fun v2 H2 ⟨y, h2⟩ => ?_
    refine (Lf.bindE (k := fun z A3 Q E => ∃ kvs q, asD A3 x = some kvs ∧ keyOf y = some q ∧ Q ((valD kvs y).getD z) A3) h2).mono fun v3 H3 ⟨z, F3, A3, Q3, E3, a3, ⟨kvs3, q3, e3, e4, q⟩, po3⟩ => ?_
    obtain ⟨w1, w2, w3, ew, rz, ry, rx⟩ := a3.held.three
    cases ew
    obtain ⟨b2, o, eb, g, _, ⟨e5, rfl⟩ | ⟨d', v', e5, rfl, r5⟩⟩ := dget_ok a3.rel rx ry e3 e4
    · cases eb
      rw [e5] at q
      exact ⟨_, g, po3 _ _ _ _ _ q Ext.refl a3.rel rz⟩
    · cases eb
      rw [e5] at q
      exact ⟨_, g, po3 _ _ _ _ _ q Ext.refl a3.rel r5⟩
def aDGet1 (td ty : AE) : AE := fun δ A Q E => td δ A (fun x A1 => (∃ kvs, asD A1 x = some kvs) ∧ ty δ A1 (fun y A3 => ∃ kvs q, asD A3 x = some kvs ∧ keyOf y = some q ∧ Q ((valD kvs y).getD .non) A3) E) E
theorem ae_dget1 {td ty : AE} {cpos : Pos} {ee : Expr} (hu : X.A.units + 1 < cLine) (ho : PE X o (liftE X.K W td)) (he : PE X ee (liftE X.K W ty)) (m : M1 X o "get" apos ee cpos) : PE X (.Call (.Attribute o "get" apos) [ee] [] cpos) (liftE X.K W (aDGet1 td ty)) := PE.imp (pe_dget1 hu ho he m) fun σ H Q ⟨δ, h⟩ => by
  refine (Lf.bindE (k := fun x A1 Q E => (∃ kvs, asD A1 x = some kvs) ∧ ty δ A1 (fun y A3 => ∃ kvs q, asD A3 x = some kvs ∧ keyOf y = some q ∧ Q ((valD kvs y).getD .non) A3) E) h).mono fun v H1 ⟨x, F, A, Q', E', a, ⟨⟨kvs, e1⟩, q⟩, po⟩ => ?_
  cases a.held with
  | cons r0 rn =>
    obtain ⟨b1, vs, rfl, h1, h2⟩ := asD_ok a.rel r0 e1
    refine ⟨b1, rfl, .inl ⟨vs, h1⟩, ?_⟩
    refine (Lf.bindE (k := fun y A3 Q E => ∃ kvs q, asD A3 x = some kvs ∧ keyOf y = some q ∧ Q ((valD kvs y).getD .non) A3) (ds := [x]) (vs := [V.ref b1]) (δ := δ) ⟨F, A, Q', E', ⟨a.rel, a.sl, a.gx, .cons r0 .nil⟩, q, po⟩).mono fun v3 H3 ⟨y, F3, A3, Q3, E3, a3, ⟨kvs3, q3, e3, e4, q⟩, po3⟩ => ?_
    obtain ⟨w1, w2, ew, ry, rx⟩ := a3.held.two
    cases ew
    obtain ⟨b2, o, eb, g, _, ⟨e5, rfl⟩ | ⟨d', v', e5, rfl, r5⟩⟩ := dget_ok a3.rel rx ry e3 e4
    · cases eb
      rw [e5] at q
      exact ⟨_, g, po3 _ _ _ _ _ q Ext.refl a3.rel .non⟩
    · cases eb
      rw [e5] at q
      exact ⟨_, g, po3 _ _ _ _ _ q Ext.refl a3.rel r5⟩
/-! places of lists, tuples, texts -/
def gIx : G2 := fun x y A Q _ => ∃ xs i v, asQ A x = some xs ∧ y = .int i ∧ atI xs i = some v ∧ Q v A
theorem atI_both {α β : Type} {xs : List α} {ys : List β} {i : Int} {x : α} (hl : xs.length = ys.length) (h : atI xs i = some x) : ∃ j : Nat, xs[j]? = some x ∧ ∀ y, ys[j]? = some y → atI ys i = some y := by
  unfold atI at h ⊢
  cases q : ixN xs.length i with
  | none => rw [q] at h; cases h
  | some j => rw [q] at h; exact ⟨j, h, fun y hy => by rw [← hl, q]; exact hy⟩
theorem l2_ix : Lift2 K gIx (fun x y H Q => rIxL K x y H Q ∨ rIxT K x y H Q) := fun W δ σ H x y v u Q ⟨F, A, Q', E', a, ⟨xs, i, w, e1, e2, e3, q⟩, po⟩ => by
  subst e2
  obtain ⟨u', v', e, r1, r2⟩ := a.held.two
  cases e; cases r1
  obtain ⟨b1, us, rfl, h1, q1⟩ := asQ_ok a.rel r2 e1
  obtain ⟨j, hj, hj2⟩ := atI_both (ys := us) q1.length e3
  obtain ⟨v2, hv2, rv2⟩ := q1.get' hj
  rcases h1 with h1 | h1
  · exact .inl ⟨b1, us, i, v2, rfl, rfl, h1, hj2 v2 hv2, po _ _ _ _ _ q Ext.refl a.rel rv2⟩
  · exact .inr ⟨b1, us, i, v2, rfl, rfl, h1, hj2 v2 hv2, po _ _ _ _ _ q Ext.refl a.rel rv2⟩
def gIxS : G2 := fun x y A Q _ => ∃ z i c, x = .str z ∧ y = .int i ∧ z.length ≤ sizeLine ∧ atI z.cps.toList i = some c ∧ Q (.str ⟨#[c]⟩) A
theorem atI_mem2 {α : Type} {xs : List α} {i : Int} {x : α} (h : atI xs i = some x) : x ∈ xs := by
  unfold atI at h
  cases q : ixN xs.length i with
  | none => rw [q] at h; cases h
  | some j => rw [q] at h; exact List.mem_of_getElem? h
theorem l2_ixS : Lift2 K gIxS rIxS := fun W δ σ H x y v u Q ⟨F, A, Q', E', a, ⟨z, i, c, e1, e2, hz, e3, q⟩, po⟩ => by
  subst e1; subst e2
  obtain ⟨u', v', e, r1, r2⟩ := a.held.two
  cases e; cases r1
  cases r2 with
  | str h => exact ⟨z, i, c, rfl, rfl, hz, e3, po _ _ _ _ _ q Ext.refl a.rel (.str (sOk_ch h (atI_mem2 e3)))⟩
def gSubs : G2 := gOr gIx gIxS
theorem ae_subs (ha : PE X a (liftE X.K W ta)) (hb : PE X b (liftE X.K W tb)) (hs : PlainIx b) : PE X (.Subscript a b pos) (liftE X.K W (aOp gSubs ta tb)) := ae_ix (l2_or l2_ix l2_ixS) ((ix_list.or ix_tup).or ix_str) ha hb hs
theorem cmp_in : CmpA X .In (gOr (gInQ false) (gInS false)) := ⟨_, l2_or l2_inQ l2_inS, op_in_seq.or op_in_sign⟩
theorem cmp_notIn : CmpA X .NotIn (gOr (gInQ true) (gInS true)) := ⟨_, l2_or l2_inQ l2_notInS, op_notIn_seq.or op_notIn_sign⟩
/-- x in (..), the tuple written there -/
def aInT (neg : Bool) (ta : AE) (t : AA) : AE := fun δ A Q E => ta δ A (fun x A1 => t δ A1 (fun xs A2 => ∃ v vs, xs.length ≤ sizeLine ∧ scD x = some v ∧ scDs xs = some vs ∧ Q (.bl (if neg then !inV v vs else inV v vs)) A2) E) E
theorem lift_inT {neg : Bool} {σ : L2.St} {H : Hp} {Q : VK} (h : liftE X.K W (aInT neg ta t) σ H Q) : tInT neg (liftE X.K W ta) (liftA X.K W t) σ H Q := by
  obtain ⟨δ, h⟩ := h
  refine (Lf.bindE (k := fun x A1 Q E => t δ A1 (fun xs A2 => ∃ v vs, xs.length ≤ sizeLine ∧ scD x = some v ∧ scDs xs = some vs ∧ Q (D.bl (if neg then !inV v vs else inV v vs)) A2) E) h).mono fun v H1 ⟨x, h1⟩ => ?_
  refine (Lf.core (R1 := Reps X.K) (k := fun xs A2 Q E => ∃ v vs, xs.length ≤ sizeLine ∧ scD x = some v ∧ scDs xs = some vs ∧ Q (D.bl (if neg then !inV v vs else inV v vs)) A2) h1).mono fun vs H2 ⟨xs, F, A, Q', E', a, r, ⟨v1, vs1, hz, e1, e2, q⟩, po⟩ => ?_
  obtain ⟨v', e, r2⟩ := a.held.one
  cases e
  obtain rfl := scD_ok r2 e1
  obtain rfl := scDs_ok r e2
  exact ⟨by rw [← r.length]; exact hz, scD_flat e1, scDs_flat e2, po _ _ _ _ _ q Ext.refl a.rel (.bl _)⟩
theorem ae_inT {x1 : Nat} {p2 : Pos} (ha : PE X a (liftE X.K W ta)) (h : PA X es (liftA X.K W t)) (hm : behindInMarks .In (.Tuple es x1 p2) = false := by rfl) : PE X (.Compare a [.In] [.Tuple es x1 p2] pos) (liftE X.K W (aInT false ta t)) := PE.imp (pe_inT ha h hm) fun σ H Q h => lift_inT h
theorem ae_notInT {x1 : Nat} {p2 : Pos} (ha : PE X a (liftE X.K W ta)) (h : PA X es (liftA X.K W t)) (hm : behindInMarks .NotIn (.Tuple es x1 p2) = false := by rfl) : PE X (.Compare a [.NotIn] [.Tuple es x1 p2] pos) (liftE X.K W (aInT true ta t)) := PE.imp (pe_notInT ha h hm) fun σ H Q h => lift_inT h
theorem at_inT {x1 : Nat} {p2 : Pos} (ha : PE X a (liftE X.K W ta)) (h : PA X es (liftA X.K W t)) (hm : behindInMarks .In (.Tuple es x1 p2) = false := by rfl) : PT X (.Compare a [.In] [.Tuple es x1 p2] pos) (liftT X.K W (aB (aInT false ta t))) := PT.imp (pt_inT ha h hm) fun σ H Q h => by
  have := lift_B h
  exact (show tTest (tInT false (liftE X.K W ta) (liftA X.K W t)) σ H Q from lift_inT this)
theorem at_notInT {x1 : Nat} {p2 : Pos} (ha : PE X a (liftE X.K W ta)) (h : PA X es (liftA X.K W t)) (hm : behindInMarks .NotIn (.Tuple es x1 p2) = false := by rfl) : PT X (.Compare a [.NotIn] [.Tuple es x1 p2] pos) (liftT X.K W (aB (aInT true ta t))) := PT.imp (pt_notInT ha h hm) fun σ H Q h => by
  have := lift_B h
  exact (show tTest (tInT true (liftE X.K W ta) (liftA X.K W t)) σ H Q from lift_inT this)
end
end Av

set_option Elab.async false
set_option linter.all false
set_option maxRecDepth 100000
set_option maxHeartbeats 4000000
/-! own library Av, part 9: builtins, methods, slices, targets -/
namespace Av
open PySem PySem.Spec PyProof.Rows L2 My
section
variable {X : Cx} {W : WX} {k : Nat} {f C : Addr} {asp : ASp} {x fl : Str} {a b e o : Expr} {es : List Expr} {ta tb te tv : AE} {t : AA} {p pos pos' apos cpos : Pos} {K : PySem.W.Frag}
def CallA (X : Cx) (f : Value) (g : GA) : Prop := ∃ r, LiftA X.K g r ∧ CallR X f r
def gaOr (g h : GA) : GA := fun xs A Q E => g xs A Q E ∨ h xs A Q E
theorem CallA.or {f : Value} {g h : GA} (a : CallA X f g) (b : CallA X f h) : CallA X f (gaOr g h) := by
  obtain ⟨r, l1, c1⟩ := a
  obtain ⟨s, l2, c2⟩ := b
  refine ⟨_, fun W δ σ H xs vs Q ⟨F, A, Q', E', at_, q, po⟩ => ?_, c1.or c2⟩
  rcases q with q | q
  · exact .inl (l1 W δ σ H xs vs Q ⟨F, A, Q', E', at_, q, po⟩)
  · exact .inr (l2 W δ σ H xs vs Q ⟨F, A, Q', E', at_, q, po⟩)
theorem ae_callB {id : String} {g : GA} (hc : CallA X (.builtin id) g) (hg : Gl X x) (hm : X.mg x = none) (hv : bootBuiltins x = some (.builtin id)) (ha : PA X (e :: es) (liftA X.K W t)) (hn : x ≠ "__name__" := by decide) (hdb : (x == ("__debug__" : Str)) = false := by decide)
    (he : starEach (e :: es) X.env = (false, eval e X.env) :: starEach es X.env := by rfl) (hpl : (backTo pos (starEach es X.env)).any (·.1) = false := by rfl) : PE X (.Call (.Name x p) (e :: es) [] pos) (liftE X.K W (aCB g t)) := by
  obtain ⟨r, L, c⟩ := hc
  exact PE.imp (pe_callB c hg hm hv ha hn hdb he hpl) fun σ H Q h => lift_cb L h
theorem ae_callTy {T : String} {g : GA} (hc : CallA X (.type T) g) (hg : Gl X x) (hm : X.mg x = none) (hv : bootBuiltins x = some (.type T)) (ha : PA X (e :: es) (liftA X.K W t)) (hn : x ≠ "__name__" := by decide) (hdb : (x == ("__debug__" : Str)) = false := by decide)
    (he : starEach (e :: es) X.env = (false, eval e X.env) :: starEach es X.env := by rfl) (hpl : (backTo pos (starEach es X.env)).any (·.1) = false := by rfl) : PE X (.Call (.Name x p) (e :: es) [] pos) (liftE X.K W (aCB g t)) := by
  obtain ⟨r, L, c⟩ := hc
  exact PE.imp (pe_callTy c hg hm hv ha hn hdb he hpl) fun σ H Q h => lift_cb L h
/-- len -/
def gLenQ : GA := fun xs A Q _ => ∃ d ys, xs = [d] ∧ asQ A d = some ys ∧ Q (.int (ys.length : Int)) A
def gLenS : GA := fun xs A Q _ => ∃ z : Str, xs = [.str z] ∧ z.length ≤ sizeLine ∧ Q (.int (z.length : Int)) A
theorem ca_len : CallA X (.builtin "len") (gaOr gLenQ gLenS) := by
  refine CallA.or ⟨_, fun W δ σ H xs vs Q ⟨F, A, Q', E', a, ⟨d, ys, e1, e2, q⟩, po⟩ => ?_, call_len_seq⟩ ⟨_, fun W δ σ H xs vs Q ⟨F, A, Q', E', a, ⟨z, e1, e2, q⟩, po⟩ => ?_, call_len_str⟩
  · subst e1
    obtain ⟨v, rfl, r⟩ := a.held.one
    obtain ⟨b1, us, rfl, h1, q1⟩ := asQ_ok a.rel r e2
    exact ⟨b1, us, rfl, h1, by rw [← q1.length]; exact po _ _ _ _ _ q Ext.refl a.rel (.int _)⟩
  · subst e1
    obtain ⟨v, rfl, r⟩ := a.held.one
    cases r
    exact ⟨z, rfl, e2, po _ _ _ _ _ q Ext.refl a.rel (.int _)⟩
/-- list(..), tuple(..) of a list or tuple -/
def gList (live : Bool) : GA := fun xs A Q _ => ∃ d ys, xs = [d] ∧ asQ A d = some ys ∧ aNew live (.lst ys) A Q
theorem ca_list (live : Bool) : CallA X (.type "list") (gList live) := ⟨_, fun W δ σ H xs vs Q ⟨F, A, Q', E', a, ⟨d, ys, e1, e2, q⟩, po⟩ => by
  subst e1
  obtain ⟨v, rfl, r⟩ := a.held.one
  obtain ⟨b1, us, rfl, h1, q1⟩ := asQ_ok a.rel r e2
  exact ⟨b1, us, rfl, h1, aNew_ok a.rel (.lst q1) q po⟩, call_list_of⟩
def gTuple : GA := fun xs A Q _ => ∃ d ys, xs = [d] ∧ asQ A d = some ys ∧ Q (.tup ys) A
theorem ca_tuple : CallA X (.type "tuple") gTuple := ⟨_, fun W δ σ H xs vs Q ⟨F, A, Q', E', a, ⟨d, ys, e1, e2, q⟩, po⟩ => by
  subst e1
  obtain ⟨v, rfl, r⟩ := a.held.one
  unfold asQ at e2
  split at e2
  · rename_i zs e3
    cases e2
    obtain ⟨b1, us, rfl, h1, q1⟩ := asL_ok a.rel r e3
    exact ⟨b1, us, rfl, .inl ⟨h1, tup_ok a.rel q1 q po⟩⟩
  · obtain ⟨b1, us, rfl, h1, q1⟩ := asTe_ok r e2
    exact ⟨b1, us, rfl, .inr ⟨h1.sq, po _ _ _ _ _ q Ext.refl a.rel (.tup h1 q1)⟩⟩, call_tuple_of⟩
/-- int(i), int(b) -/
def gInt : GA := fun xs A Q _ => (∃ i, xs = [.int i] ∧ Q (.int i) A) ∨ ∃ b, xs = [.bl b] ∧ Q (.int (if b then 1 else 0)) A
theorem ca_int : CallA X (.type "int") gInt := ⟨_, fun W δ σ H xs vs Q ⟨F, A, Q', E', a, q, po⟩ => by
  rcases q with ⟨i, e1, q⟩ | ⟨b, e1, q⟩
  · subst e1
    obtain ⟨v, rfl, r⟩ := a.held.one
    cases r
    exact .inl ⟨i, rfl, po _ _ _ _ _ q Ext.refl a.rel (.int _)⟩
  · subst e1
    obtain ⟨v, rfl, r⟩ := a.held.one
    cases r
    exact .inr ⟨b, rfl, po _ _ _ _ _ q Ext.refl a.rel (.int _)⟩, CallR.or (int1) (intB)⟩
def gAbs : GA := fun xs A Q _ => ∃ i, xs = [.int i] ∧ Q (.int (if i < 0 then -i else i)) A
theorem ca_abs : CallA X (.builtin "abs") gAbs := ⟨_, fun W δ σ H xs vs Q ⟨F, A, Q', E', a, ⟨i, e1, q⟩, po⟩ => by
  subst e1
  obtain ⟨v, rfl, r⟩ := a.held.one
  cases r
  exact ⟨i, rfl, po _ _ _ _ _ q Ext.refl a.rel (.int _)⟩, abs1⟩
def gMax : GA := fun xs A Q _ => ∃ i j, xs = [.int i, .int j] ∧ Q (.int (if j > i then j else i)) A
def gMin : GA := fun xs A Q _ => ∃ i j, xs = [.int i, .int j] ∧ Q (.int (if j < i then j else i)) A
theorem ca_max (hc : X.calm = true) : CallA X (.builtin "max") gMax := ⟨_, fun W δ σ H xs vs Q ⟨F, A, Q', E', a, ⟨i, j, e1, q⟩, po⟩ => by
  subst e1
  obtain ⟨v, u, rfl, r1, r2⟩ := a.held.two
  cases r1; cases r2
  exact ⟨i, j, rfl, po _ _ _ _ _ q Ext.refl a.rel (.int _)⟩, max2 hc⟩
theorem ca_min (hc : X.calm = true) : CallA X (.builtin "min") gMin := ⟨_, fun W δ σ H xs vs Q ⟨F, A, Q', E', a, ⟨i, j, e1, q⟩, po⟩ => by
  subst e1
  obtain ⟨v, u, rfl, r1, r2⟩ := a.held.two
  cases r1; cases r2
  exact ⟨i, j, rfl, po _ _ _ _ _ q Ext.refl a.rel (.int _)⟩, min2 hc⟩
theorem sOk_small {x : Str} (h : ∀ c ∈ x.cps.toList, c < 128) : sOk x := by
  unfold sOk PySem.PyData.strOk
  rw [Array.all_eq_true']
  intro c hc
  have := h c (by simpa using hc)
  exact decide_eq_true (by omega)
theorem digit_lt (b : Nat) (hb : b ≤ 10) (n : Nat) (h : n < b) : (Nat.digitChar n).toNat < 128 := by
  have : n < 10 := by omega
  have z : ∀ n : Fin 10, (Nat.digitChar n).toNat < 128 := by decide
  exact z ⟨n, this⟩
theorem toDigits_lt {n : Nat} {c : Char} (h : c ∈ Nat.toDigits 10 n) : c.toNat < 128 := by
  have := Nat.isDigit_of_mem_toDigits (by decide) (by decide) h
  unfold Char.isDigit at this
  simp only [Bool.and_eq_true, decide_eq_true_eq] at this
  have h2 : c.val ≤ 57 := this.2
  have : c.val.toNat ≤ 57 := by simpa using UInt32.le_iff_toNat_le.mp h2
  show c.val.toNat < 128
  omega
theorem sOk_int (i : Int) : sOk (Str.ofString (toString i)) := by
  refine sOk_small fun c hc => ?_
  have e : (Str.ofString (toString i)).cps.toList = (toString i).toList.map (·.toNat) := by
    rw [Str.ofString_eq_toList]
  rw [e] at hc
  obtain ⟨ch, h1, rfl⟩ := List.mem_map.mp hc
  cases i with
  | ofNat n =>
    have : (toString (Int.ofNat n)).toList = Nat.toDigits 10 n := by
      show (toString n).toList = _
      simp [toString, Nat.repr]
    rw [this] at h1
    exact toDigits_lt h1
  | negSucc n =>
    have : (toString (Int.negSucc n)).toList = '-' :: Nat.toDigits 10 (n + 1) := by
      show ("-" ++ toString (n + 1)).toList = _
      simp [toString, Nat.repr]
    rw [this] at h1
    rcases List.mem_cons.mp h1 with rfl | h1
    · decide
    · exact toDigits_lt h1
def gStr : GA := fun xs A Q _ => ∃ i : Int, xs = [.int i] ∧ i.natAbs.log2 < 1920 ∧ Q (.str (toString i)) A
theorem ca_str : CallA X (.type "str") gStr := ⟨_, fun W δ σ H xs vs Q ⟨F, A, Q', E', a, ⟨i, e1, hz, q⟩, po⟩ => by
  subst e1
  obtain ⟨v, rfl, r⟩ := a.held.one
  cases r
  exact ⟨i, rfl, hz, po _ _ _ _ _ q Ext.refl a.rel (.str (sOk_int i))⟩, str1⟩
def gBool : GA := fun xs A Q _ => ∃ b, xs = [.bl b] ∧ Q (.bl b) A
theorem ca_bool : CallA X (.type "bool") gBool := ⟨_, fun W δ σ H xs vs Q ⟨F, A, Q', E', a, ⟨b, e1, q⟩, po⟩ => by
  subst e1
  obtain ⟨v, rfl, r⟩ := a.held.one
  cases r
  exact ⟨b, rfl, po _ _ _ _ _ q Ext.refl a.rel (.bl _)⟩, boolB⟩
def blsOf : List D → Option (List Bool)
  | [] => some []
  | .bl b :: ds => (blsOf ds).map (b :: ·)
  | _ => none
theorem bls_ok {F : Addr → Prop} {H : Hp} : ∀ {ds : List D} {vs : List V} {bs : List Bool}, Reps K F H ds vs → blsOf ds = some bs → vs = bs.map V.bl
  | _, _, _, .nil, e => by cases e; rfl
  | _, _, _, .cons a r, e => by
    rename_i d v ds vs
    cases d <;> simp only [blsOf] at e <;> first | (cases e; done) | skip
    rename_i b
    cases q : blsOf ds with
    | none => rw [q] at e; cases e
    | some bs' => rw [q] at e; cases e; cases a; rw [bls_ok r q]; rfl
def gAll : GA := fun xs A Q _ => ∃ d ys bs, xs = [d] ∧ asX A d = some ys ∧ blsOf ys = some bs ∧ Q (.bl (bs.all id)) A
def gAny : GA := fun xs A Q _ => ∃ d ys bs, xs = [d] ∧ asX A d = some ys ∧ blsOf ys = some bs ∧ Q (.bl (bs.any id)) A
theorem ca_all (hc : X.calm = true) : CallA X (.builtin "all") gAll := ⟨_, fun W δ σ H xs vs Q ⟨F, A, Q', E', a, ⟨d, ys, bs, e1, e2, e3, q⟩, po⟩ => by
  subst e1
  obtain ⟨v, rfl, r⟩ := a.held.one
  obtain ⟨b1, us, rfl, h1, q1⟩ := asX_ok a.rel r e2
  exact ⟨b1, us, bs, rfl, h1, bls_ok q1 e3, po _ _ _ _ _ q Ext.refl a.rel (.bl _)⟩, all1 hc⟩
theorem ca_any (hc : X.calm = true) : CallA X (.builtin "any") gAny := ⟨_, fun W δ σ H xs vs Q ⟨F, A, Q', E', a, ⟨d, ys, bs, e1, e2, e3, q⟩, po⟩ => by
  subst e1
  obtain ⟨v, rfl, r⟩ := a.held.one
  obtain ⟨b1, us, rfl, h1, q1⟩ := asX_ok a.rel r e2
  exact ⟨b1, us, bs, rfl, h1, bls_ok q1 e3, po _ _ _ _ _ q Ext.refl a.rel (.bl _)⟩, any1 hc⟩
/-- isinstance -/
def kdD (A : AH) : D → String
  | .non => "NoneType"
  | .bl _ => "bool"
  | .int _ => "int"
  | .str _ => "str"
  | .tup _ => "tuple"
  | .lst _ => "list"
  | .dct _ => "dict"
  | .ref a => match A a with
    | some (.lst _) => "list"
    | some (.dct _) => "dict"
    | _ => "?"
  | _ => "?"
theorem kdD_okty {F : Addr → Prop} {A : AH} {H : Hp} {d : D} {v : V} (R : Rel K F A H) (r : Rep K F H d v) (hh : kdD A d ≠ "?") : TyX K H v (.type (kdD A d)) := by
  cases r with
  | non => exact .base .non
  | bl b => exact .base (.bl b)
  | int i => exact .base (.int i)
  | str h => exact .base (.str _)
  | tup h r =>
    rcases h with h | ⟨o, its, n, h1, h2, h3, h4, h5⟩
    · exact .base (.tup h)
    · exact .kTuple h1 h2
  | lst f h r => exact .base (.lst h)
  | dk f h r =>
    rcases h with h | ⟨o, h⟩
    · exact .base (.dK h)
    · exact .fDict h
  | ref a =>
    simp only [kdD] at hh ⊢
    split at hh <;> rename_i q
    · obtain ⟨_, ho, eh, r⟩ := R.live a _ q
      cases r with
      | lst r => exact .base (.lst eh)
    · obtain ⟨_, ho, eh, r⟩ := R.live a _ q
      cases r with
      | dk r => exact .base (.dK eh)
    · exact absurd rfl hh
  | _ => exact absurd rfl hh
def gIsi : GA := fun xs A Q _ => ∃ (d : D) (n : String), xs = [d, .ty n] ∧ kdD A d ≠ "?" ∧ ∃ b, kitB (kdD A d) n = some b ∧ Q (.bl b) A
def gIsi2 : GA := fun xs A Q _ => ∃ (d : D) (m n : String), xs = [d, .tup [.ty m, .ty n]] ∧ kdD A d ≠ "?" ∧ ∃ b c, kitB (kdD A d) m = some b ∧ kitB (kdD A d) n = some c ∧ Q (.bl (b || c)) A
theorem ca_isi : CallA X (.builtin "isinstance") gIsi := ⟨_, fun W δ σ H xs vs Q ⟨F, A, Q', E', a, ⟨d, n, e1, hk, b, hb, q⟩, po⟩ => by
  subst e1
  obtain ⟨v, u, rfl, r1, r2⟩ := a.held.two
  cases r2
  exact ⟨v, .ty n, _, _, b, rfl, .ty n, kdD_okty a.rel r1 hk, kit_ty hb, po _ _ _ _ _ q Ext.refl a.rel (.bl _)⟩, call_isi⟩
theorem ca_isi2 : CallA X (.builtin "isinstance") gIsi2 := ⟨_, fun W δ σ H xs vs Q ⟨F, A, Q', E', a, ⟨d, m, n, e1, hk, b, c, hb, hc, q⟩, po⟩ => by
  subst e1
  obtain ⟨v, u, rfl, r1, r2⟩ := a.held.two
  obtain ⟨tp, us, rfl, h1, q1⟩ := asTe_ok r2 rfl
  obtain ⟨w1, w2, rfl, s1, s2⟩ := q1.two
  cases s1; cases s2
  have hany : PySem.W.kitAny X.K (.type (kdD A d)) [.type m, .type n] = some (b || c) := by
    refine kitAny_cons (kit_ty hb) (fun e => ?_) (fun e => by rw [e]; rfl)
    refine kitAny_cons (kit_ty hc) (fun e2 => ?_) (fun e2 => by rw [e2, Bool.or_true])
    rw [e, e2]
    exact kitAny_nil
  rcases h1 with h1 | ⟨o, its, nn, k1, k2, k3, k4, k5⟩
  · exact .inl ⟨v, tp, _, _, [.type m, .type n], b || c, rfl, h1, .cons (.ty m) (.cons (.ty n) .nil), kdD_okty a.rel r1 hk, hany, po _ _ _ _ _ q Ext.refl a.rel (.bl _)⟩
  · obtain ⟨oc, od, dt, osl⟩ := o
    have k2' : oc = .type "tuple" := k2
    have k3' : dt = .seq its nn := k3
    subst k2' k3'
    obtain ⟨l⟩ := its
    have k5' : Vals [V.ty m, V.ty n] l := k5
    cases k5' with
    | cons z1 z2 =>
      cases z2 with
      | cons z2 z3 =>
        cases z3
        cases z1; cases z2
        exact .inr ⟨v, tp, od, [.type m, .type n], nn, osl, _, b || c, rfl, k1, kdD_okty a.rel r1 hk, hany, po _ _ _ _ _ q Ext.refl a.rel (.bl _)⟩, call_isiT.or call_isiK⟩
end
end Av

set_option Elab.async false
set_option linter.all false
set_option maxRecDepth 100000
set_option maxHeartbeats 4000000
/-! own library Av, part 10: methods of lists and texts, slices, stores, displays, stars, defaults -/
namespace Av
open PySem PySem.Spec PyProof.Rows L2 My
section
variable {X : Cx} {W : WX} {k : Nat} {f C : Addr} {asp : ASp} {x fl : Str} {a b e o : Expr} {es : List Expr} {ta tb te tv to : AE} {t : AA} {p pos pos' apos cpos : Pos} {K : PySem.W.Frag}
/-! ### methods of a live list -/
abbrev GM := Addr → List D → AK D
def LiftM (K : PySem.W.Frag) (g : GM) (r : V → List V → Hp → VK → Prop) : Prop := ∀ (W : WX) δ σ H l xs vs Q, Lf (Rep K) K W δ (.ref l :: xs) (.ref l :: vs) (g l xs) σ H Q → r (.ref l) vs H Q
def MtA (X : Cx) (id : String) (g : GM) : Prop := ∃ r, LiftM X.K g r ∧ MtR X id r
def aBM (g : GM) (to : AE) (t : AA) : AE := fun δ A Q E => to δ A (fun x A1 => ∃ l, x = .ref l ∧ (∃ ys, A1 l = some (.lst ys)) ∧ t δ A1 (fun ds A2 => g l ds A2 Q E) E) E
theorem lift_bm {g : GM} {r : V → List V → Hp → VK → Prop} (L : LiftM X.K g r) {σ : L2.St} {H : Hp} {Q : VK} (h : liftE X.K W (aBM g to t) σ H Q) : tBM X.K "list" r (liftE X.K W to) (liftA X.K W t) σ H Q := by
  obtain ⟨δ, h⟩ := h
  refine (Lf.bindE (k := fun x A1 Q E => ∃ l, x = .ref l ∧ (∃ ys, A1 l = some (.lst ys)) ∧ t δ A1 (fun ds A2 => g l ds A2 Q E) E) h).mono fun v H1 ⟨x, F, A, Q', E', a, ⟨l, ex, ⟨ys, ey⟩, q⟩, po⟩ => ?_
  subst ex
  cases a.held with
  | cons r0 _ =>
    cases r0
    obtain ⟨_, ho, eh, ro⟩ := a.rel.live l _ ey
    cases ro with
    | lst ro =>
      refine ⟨.inl ⟨rfl, _, SqL.of eh⟩, ?_⟩
      refine (Lf.core (R1 := Reps X.K) (k := fun ds A2 Q E => g l ds A2 Q E) (ds := [.ref l]) (vs := [V.ref l]) (δ := δ) ⟨F, A, Q', E', ⟨a.rel, a.sl, a.gx, .cons (.ref l) .nil⟩, q, po⟩).mono fun us H2 ⟨ds, F2, A2, Q2, E2, a2, r2, q2, p2⟩ => ?_
      exact L W δ σ H2 l ds us Q ⟨F2, A2, Q2, E2, ⟨a2.rel, a2.sl, a2.gx, .cons (.ref l) r2⟩, q2, p2⟩
theorem ae_bm {name : Str} {id : String} {g : GM} (slot : Slot "list" name id) (hty : typeOf (.builtin id) = pure (.type "method_descriptor")) (hm : MtA X id g) (ho : PE X o (liftE X.K W to)) (ha : PA X (e :: es) (liftA X.K W t))
    (hbase : attributeBase o name X.env (eval o X.env) = eval o X.env := by rfl)
    (hfew : ((backTo cpos (starEach (e :: es) X.env)).all (fun x => !x.1) && (backToKw cpos (keywordEach [] X.env)).all (fun x => x.1.isSome)
      && decide ((e :: es).length + ([] : List Keyword).length + (if ([] : List Keyword).isEmpty then 0 else 1) < 30)) = true := by rfl)
    (hline : (apos.endLine == cpos.line) = true := by rfl) (hs : starEach (e :: es) X.env = (false, eval e X.env) :: starEach es X.env := by rfl) (hplain : (backTo cpos (starEach es X.env)).any (·.1) = false := by rfl) :
    PE X (.Call (.Attribute o name apos) (e :: es) [] cpos) (liftE X.K W (aBM g to t)) := by
  obtain ⟨r, L, m⟩ := hm
  exact PE.imp (pe_bm PySem.F.plainAttrs_list slot hty m ho ha hbase hfew hline hs hplain) fun σ H Q h => lift_bm L h
theorem ae_bm0 {name : Str} {id : String} {g : GM} (slot : Slot "list" name id) (hty : typeOf (.builtin id) = pure (.type "method_descriptor")) (hm : MtA X id g) (ho : PE X o (liftE X.K W to))
    (hbase : attributeBase o name X.env (eval o X.env) = eval o X.env := by rfl) (hline : (apos.endLine == cpos.line) = true := by rfl) : PE X (.Call (.Attribute o name apos) [] [] cpos) (liftE X.K W (aBM g to aNil)) := by
  obtain ⟨r, L, m⟩ := hm
  refine PE.imp (pe_bm0 PySem.F.plainAttrs_list slot hty m ho hbase hline) fun σ H Q h => ?_
  refine (show liftE X.K W to σ H _ from lift_bm L h).mono fun v H1 ⟨h1, z⟩ => ⟨h1, ?_⟩
  obtain ⟨δ, F, A, Q', E', at_, q, po⟩ := z
  exact po _ _ _ _ _ q Ext.refl at_.rel .nil
def gmAppend : GM := fun l ds A Q _ => ∃ y ys, ds = [y] ∧ A l = some (.lst ys) ∧ ys.length < sizeLine ∧ Q .non (put A l (.lst (ys ++ [y])))
theorem live_l {F : Addr → Prop} {A : AH} {H : Hp} {l : Addr} {ys : List D} (R : Rel K F A H) (e : A l = some (.lst ys)) : ∃ vs, H l = some (.lst vs) ∧ Reps K F H ys vs := by
  obtain ⟨_, ho, eh, ro⟩ := R.live l _ e
  cases ro with
  | lst ro => exact ⟨_, eh, ro⟩
theorem ma_append : MtA X "list.append" gmAppend := ⟨_, fun W δ σ H l xs vs Q ⟨F, A, Q', E', a, ⟨y, ys, e1, e2, hz, q⟩, po⟩ => by
  subst e1
  cases a.held with
  | cons _ r =>
    obtain ⟨v, rfl, rv⟩ := r.one
    obtain ⟨us, eh, ro⟩ := live_l a.rel e2
    obtain ⟨R2, x2⟩ := a.rel.put e2 (RepO.lst (ro.append (.cons rv .nil)))
    exact ⟨l, us, v, rfl, rfl, eh, by rw [← ro.length]; exact hz, po _ _ _ _ _ q x2 R2 .non⟩, mt_append⟩
def gmPopAt : GM := fun l ds A Q _ => ∃ i ys j y, ds = [.int i] ∧ A l = some (.lst ys) ∧ -(2 ^ 63) ≤ i ∧ i < 2 ^ 63 ∧ seqIndex? i ys.length = some j ∧ ys[j]? = some y ∧ Q y (put A l (.lst (ys.eraseIdx j)))
theorem Reps.erase {F : Addr → Prop} {H : Hp} : ∀ {ds : List D} {vs : List V} (n : Nat), Reps K F H ds vs → Reps K F H (ds.eraseIdx n) (vs.eraseIdx n)
  | _, _, _, .nil => .nil
  | _, _, 0, .cons _ r => r
  | _, _, n + 1, .cons a r => .cons a (Reps.erase n r)
theorem ma_popAt : MtA X "list.pop" gmPopAt := ⟨_, fun W δ σ H l xs vs Q ⟨F, A, Q', E', a, ⟨i, ys, j, y, e1, e2, h1, h2, h3, h4, q⟩, po⟩ => by
  subst e1
  cases a.held with
  | cons _ r =>
    obtain ⟨v, rfl, rv⟩ := r.one
    cases rv
    obtain ⟨us, eh, ro⟩ := live_l a.rel e2
    obtain ⟨y', hy', ry'⟩ := ro.get' h4
    obtain ⟨R2, x2⟩ := a.rel.put e2 (RepO.lst (ro.erase j))
    exact ⟨l, us, i, j, y', rfl, rfl, eh, h1, h2, by rw [← ro.length]; exact h3, hy', po _ _ _ _ _ q x2 R2 (ry'.kept (x2.kept a.rel))⟩, mt_popAt⟩
def gmPop : GM := fun l ds A Q _ => ∃ ys y, ds = [] ∧ A l = some (.lst ys) ∧ ys[ys.length - 1]? = some y ∧ Q y (put A l (.lst ys.dropLast))
theorem ma_pop : MtA X "list.pop" gmPop := ⟨_, fun W δ σ H l xs vs Q ⟨F, A, Q', E', a, ⟨ys, y, e1, e2, h4, q⟩, po⟩ => by
  subst e1
  cases a.held with
  | cons _ r =>
    obtain rfl := r.none
    obtain ⟨us, eh, ro⟩ := live_l a.rel e2
    obtain ⟨y', hy', ry'⟩ := ro.get' h4
    have hd : Reps X.K F H ys.dropLast us.dropLast := by
      rw [List.dropLast_eq_take, List.dropLast_eq_take, ro.length]; exact ro.take _
    obtain ⟨R2, x2⟩ := a.rel.put e2 (RepO.lst hd)
    exact ⟨l, us, y', rfl, rfl, eh, by rw [← ro.length]; exact hy', po _ _ _ _ _ q x2 R2 (ry'.kept (x2.kept a.rel))⟩, mt_pop⟩
/-- extend by a tuple -/
def gmExtT : GM := fun l ds A Q _ => ∃ zs ys, ds = [.tup zs] ∧ A l = some (.lst ys) ∧ ys.length + zs.length ≤ sizeLine ∧ Q .non (put A l (.lst (ys ++ zs)))
theorem ma_extT : MtA X "list.extend" gmExtT := ⟨_, fun W δ σ H l xs vs Q ⟨F, A, Q', E', a, ⟨zs, ys, e1, e2, hz, q⟩, po⟩ => by
  subst e1
  cases a.held with
  | cons _ r =>
    obtain ⟨v, rfl, rv⟩ := r.one
    obtain ⟨tp, ws, rfl, ht, rt⟩ := asT_ok rv rfl
    obtain ⟨us, eh, ro⟩ := live_l a.rel e2
    obtain ⟨R2, x2⟩ := a.rel.put e2 (RepO.lst (ro.append rt))
    exact ⟨l, tp, us, ws, rfl, rfl, eh, ht, by rw [← ro.length, ← rt.length]; exact hz, po _ _ _ _ _ q x2 R2 .non⟩, mt_extendT⟩
/-! ### slices -/
abbrev APt := AM (Option Int)
abbrev liftO (K : PySem.W.Frag) (W : WX) (t : APt) : TO := lift (fun _ _ x y => x = y) K W t
theorem PO.imp {e : Option Expr} {t t' : TO} (h : PO X e t) (i : ∀ σ H Q, t' σ H Q → t σ H Q) : PO X e t' := ⟨fun pins s σ H Q I q => h.run pins s σ H Q I (i _ _ _ q)⟩
def aNoPart : APt := fun _ A Q _ => Q none A
def aPart (te : AE) : APt := fun δ A Q E => te δ A (fun d A1 => ∃ i, d = .int i ∧ Q (some i) A1) E
theorem ao_none : PO X none (liftO X.K W aNoPart) := PO.imp po_none fun σ H Q ⟨δ, F, A, Q', E', a, q, po⟩ => po _ _ _ _ _ q Ext.refl a.rel rfl
theorem ao_some (h : PE X e (liftE X.K W te)) : PO X (some e) (liftO X.K W (aPart te)) := PO.imp (po_some h) fun σ H Q ⟨δ, h⟩ => by
  refine (Lf.bindE (k := fun d A1 Q E => ∃ i, d = .int i ∧ Q (some i) A1) h).mono fun v H1 ⟨d, F, A, Q', E', a, ⟨i, ed, q⟩, po⟩ => ?_
  subst ed
  obtain ⟨v', e, r⟩ := a.held.one
  cases e; cases r
  exact ⟨i, rfl, po _ _ _ _ _ q Ext.refl a.rel rfl⟩
def cutD (xs : List D) (lo hi : Option Int) : List D := (xs.drop (HT.sIx xs.length 0 lo)).take (HT.sIx xs.length xs.length hi - HT.sIx xs.length 0 lo)
theorem reps_cut {F : Addr → Prop} {H : Hp} {xs : List D} {vs : List V} (r : Reps K F H xs vs) (lo hi : Option Int) : Reps K F H (cutD xs lo hi) (cutV vs lo hi) := by
  unfold cutD cutV
  rw [r.length]
  exact (r.drop _).take _
def aSl (g : D → Option Int → Option Int → AK D) (te : AE) (tl th : APt) : AE := fun δ A Q E => te δ A (fun x A1 => tl δ A1 (fun l A2 => th δ A2 (fun u A3 => g x l u A3 Q E) E) E) E
def gSlL (live : Bool) : D → Option Int → Option Int → AK D := fun x lo hi A Q _ => ∃ xs, asL A x = some xs ∧ aNew live (.lst (cutD xs lo hi)) A Q
def gSlS : D → Option Int → Option Int → AK D := fun x lo hi A Q _ => ∃ z, x = .str z ∧ z.length ≤ sizeLine ∧ Q (.str (cutS z lo hi)) A
def gSlT : D → Option Int → Option Int → AK D := fun x lo hi A Q _ => ∃ xs, x = .tup xs ∧ Q (.tup (cutD xs lo hi)) A
def gSl (live : Bool) : D → Option Int → Option Int → AK D := fun x lo hi A Q E => gSlL live x lo hi A Q E ∨ gSlS x lo hi A Q E ∨ gSlT x lo hi A Q E
theorem sOk_cut {z : Str} (h : sOk z) (lo hi : Option Int) : sOk (cutS z lo hi) := by
  unfold sOk PySem.PyData.strOk at *
  rw [Array.all_eq_true'] at h ⊢
  intro c hc
  refine h c ?_
  unfold cutS at hc
  simp only at hc
  have := List.mem_of_mem_drop (List.mem_of_mem_take (List.mem_toArray.mp hc))
  simpa using this
theorem ae_slice (live : Bool) {lo hi : Option Expr} {tl th : APt} {p2 : Pos} (he : PE X e (liftE X.K W te)) (hl : PO X lo (liftO X.K W tl)) (hu : PO X hi (liftO X.K W th)) : PE X (.Subscript e (.Slice lo hi none p2) pos) (liftE X.K W (aSl (gSl live) te tl th)) :=
  PE.imp (pe_slice (sl_list.or (sl_str.or sl_tupA)) he hl hu) fun σ H Q ⟨δ, h⟩ => by
  refine (Lf.bindE (k := fun x A1 Q E => tl δ A1 (fun l A2 => th δ A2 (fun u A3 => gSl live x l u A3 Q E) E) E) h).mono fun v H1 ⟨x, h1⟩ => ?_
  refine (Lf.core (R1 := fun _ _ x y => x = y) (k := fun l A2 Q E => th δ A2 (fun u A3 => gSl live x l u A3 Q E) E) h1).mono fun l H2 ⟨l', F2, A2, Q2, E2, a2, el, q2, p2⟩ => ?_
  subst el
  refine (Lf.core (R1 := fun _ _ x y => x = y) (k := fun u A3 Q E => gSl live x l' u A3 Q E) (δ := δ) ⟨F2, A2, Q2, E2, a2, q2, p2⟩).mono fun u H3 ⟨u', F3, A3, Q3, E3, a3, eu, q3, p3⟩ => ?_
  subst eu
  obtain ⟨v', e, r⟩ := a3.held.one
  cases e
  rcases q3 with ⟨xs, e1, q⟩ | ⟨z, e1, hz, q⟩ | ⟨xs, e1, q⟩
  · obtain ⟨b1, us, rfl, h1, q1⟩ := asL_ok a3.rel r e1
    exact .inl ⟨b1, us, rfl, h1, aNew_ok a3.rel (.lst (reps_cut q1 _ _)) q p3⟩
  · subst e1
    cases r with
    | str hs => exact .inr (.inl ⟨z, rfl, hz, p3 _ _ _ _ _ q Ext.refl a3.rel (.str (sOk_cut hs _ _))⟩)
  · subst e1
    obtain ⟨b1, us, rfl, h1, q1⟩ := asTe_ok r rfl
    refine .inr (.inr ⟨b1, us, rfl, h1.sq, fun hh => ?_, fun _ => tup_ok a3.rel (reps_cut q1 _ _) q p3⟩)
    have : cutD xs l' u' = xs := by
      unfold cutD
      rw [q1.length, hh.1, hh.2, List.drop_zero, ← q1.length]
      exact List.take_of_length_le (by omega)
    rw [this] at q
    exact p3 _ _ _ _ _ q Ext.refl a3.rel (.tup h1 q1)
/-! ### stores -/
def aSetIx (to ti te : AE) : AS := fun N δ A => te δ A (fun v A1 => to δ A1 (fun x A2 => ti δ A2 (fun y A3 => ∃ l i xs j, x = .ref l ∧ y = .int i ∧ A3 l = some (.lst xs) ∧ ixN xs.length i = some j ∧ N.nx δ (put A3 l (.lst (xs.set j v)))) (fun C fs A1 => N.ex C fs δ A1)) (fun C fs A1 => N.ex C fs δ A1)) (fun C fs A1 => N.ex C fs δ A1)
theorem as_setix {i : Expr} {ti : AE} (ho : PE X o (liftE X.K W to)) (hi : PE X i (liftE X.K W ti)) (hv : PE X e (liftE X.K W te))
    (ha : ∀ v, assign (.Subscript o i pos') X.env v = (do
      let ov ← holding [v] (eval o X.env)
      let iv ← holding [v, ov] (eval i X.env)
      standAt pos'
      holding [v, ov, iv] (setItem ov iv v)
      release [v, ov, iv] []) := by intro _; rfl) (hs : swapsWithSole [.Subscript o i pos'] e pos.line X.env = pure false := by rfl) (hw : swappedStores [.Subscript o i pos'] e X.env = pure none := by rfl)
    (h1 : (assignEach [.Subscript o i pos'] X.env).map (·.2) = [assign (.Subscript o i pos') X.env] := by rfl) : PS X (.Assign [.Subscript o i pos'] e pos) (liftS X.K W (aSetIx to ti te)) := PS.imp (ps_asg hv (pg_sub ho hi set_list ha) hs hw h1) fun D σ H ⟨F, A, δ, D', R, s, q, e⟩ => by
  refine (st_core (R1 := Rep X.K) R s e q).mono fun v H1 ⟨dv, F1, A1, r1, R1, s1, q1, e1, x1⟩ => ?_
  refine (st_core (R1 := Rep X.K) R1 s1 e1 q1).mono fun x H2 ⟨dx, F2, A2, r2, R2, s2, q2, e2, x2⟩ => ?_
  refine (st_core (R1 := Rep X.K) R2 s2 e2 q2).mono fun y H3 ⟨dy, F3, A3, r3, R3, s3, ⟨l, i, xs, j, ex, ey, ea, ej, q3⟩, e3, x3⟩ => ?_
  subst ex; subst ey
  cases r2; cases r3
  have rv := (r1.kept (x2.kept R1)).kept (x3.kept R2)
  obtain ⟨us, eh, ro⟩ := live_l R3 ea
  obtain ⟨R4, x4⟩ := R3.put ea (RepO.lst (ro.set rv j))
  exact ⟨l, us, i, j, rfl, rfl, eh, by rw [← ro.length]; exact ej, e3.nx _ _ _ _ _ q3 x4 R4 (s3.kept (x4.kept R3))⟩
/-! ### general targets -/
abbrev AGs := List D → ASt → AH → (ASt → AH → Prop) → AX → Prop
def PostS (K : PySem.W.Frag) (F : Addr → Prop) (A : AH) (H : Hp) (Q' : ASt → AH → Prop) (Q : L2.St → Hp → Prop) : Prop := ∀ δ' A' F' H' σ', Q' δ' A' → Ext F A H F' A' H' → Rel K F' A' H' → RepS K F' H' δ' σ' → Q σ' H'
theorem PostS.step {F F' : Addr → Prop} {A A' : AH} {H H' : Hp} {Q' : ASt → AH → Prop} {Q : L2.St → Hp → Prop} (po : PostS K F A H Q' Q) (x : Ext F A H F' A' H') : PostS K F' A' H' Q' Q := fun δ A2 F2 H2 σ q x2 => po δ A2 F2 H2 σ q (x.trans x2)
/-- errors in targets are not told -/
def liftGs (K : PySem.W.Frag) (W : WX) (g : AGs) : TGs := fun vs σ H Q => ∃ F A δ ds Q', At K W δ σ H F A noX ds vs ∧ g ds δ A Q' noX ∧ PostS K F A H Q' Q
def liftG1 (K : PySem.W.Frag) (W : WX) (g : AG) : TG := fun v σ H Q => ∃ F A δ d Q', At K W δ σ H F A noX [d] [v] ∧ g d δ A Q' noX ∧ PostS K F A H Q' Q
theorem PG.imp' {tg : Expr} {g g' : TG} (h : PG X tg g) (i : ∀ v σ H Q, g' v σ H Q → g v σ H Q) : PG X tg g' := ⟨fun pins s σ H v u Q I r q => h.run pins s σ H v u Q I r (i _ _ _ _ q)⟩
theorem PGs.imp' {tg : List Expr} {g g' : TGs} (h : PGs X tg g) (i : ∀ v σ H Q, g' v σ H Q → g v σ H Q) : PGs X tg g' := ⟨fun pins s σ H v u Q I r q => h.run pins s σ H v u Q I r (i _ _ _ _ q)⟩
def agNm (i : Nat) : AG := fun d δ A Q _ => Q (δ.set i (some d)) A
def agNil : AGs := fun ds δ A Q _ => ds = [] ∧ Q δ A
def agCons (g : AG) (u : AGs) : AGs := fun ds δ A Q E => ∃ d r, ds = d :: r ∧ g d δ A (fun δ1 A1 => u r δ1 A1 Q E) E
def agTp (n : Nat) (g : AGs) : AG := fun d δ A Q E => ∃ ds, d = .tup ds ∧ ds.length = n ∧ g ds δ A Q E
def agDk (to ti : AE) : AG := fun d δ A Q E => to δ A (fun x A1 => ti δ A1 (fun y A2 => ∃ a kvs q, x = .ref a ∧ A2 a = some (.dct kvs) ∧ keyOf y = some q ∧ kvs.length < sizeLine ∧ Q δ (put A2 a (.dct (putD kvs y d)))) E) E
theorem ag_nm {tg : Expr} {i : Nat} (h : PG X tg (gName i)) : PG X tg (liftG1 X.K W (agNm i)) := PG.imp' h fun v σ H Q ⟨F, A, δ, d, Q', a, q, po⟩ => by
  obtain ⟨v', e, r⟩ := a.held.one
  cases e
  exact po _ _ _ _ _ q Ext.refl a.rel (a.sl.set r i)
theorem ags_nil : PGs X [] (liftGs X.K W agNil) := PGs.imp' pgs_nil fun v σ H Q ⟨F, A, δ, d, Q', a, ⟨e, q⟩, po⟩ => by
  subst e
  exact ⟨a.held.none, po _ _ _ _ _ q Ext.refl a.rel a.sl⟩
theorem ags_cons {g : AG} {u : AGs} (h1 : PG X e (liftG1 X.K W g)) (h2 : PGs X es (liftGs X.K W u)) (hs : (assignEach (e :: es) X.env).map (·.2) = assign e X.env :: (assignEach es X.env).map (·.2) := by rfl) : PGs X (e :: es) (liftGs X.K W (agCons g u)) := PGs.imp' (pgs_cons h1 h2 hs) fun vs σ H Q ⟨F, A, δ, ds, Q', a, ⟨d, r, e, q⟩, po⟩ => by
  subst e
  cases hh : a.held with
  | cons r0 r1 =>
    refine ⟨_, _, rfl, F, A, δ, d, _, ⟨a.rel, a.sl, gx_no, .cons r0 .nil⟩, q, fun δ1 A1 F1 H1 σ1 q1 x1 R1 s1 => ?_⟩
    exact ⟨F1, A1, δ1, r, Q', ⟨R1, s1, gx_no, r1.kept (x1.kept a.rel)⟩, q1, po.step x1⟩
theorem ag_tp {kk n : Nat} {g : AGs} (hc : X.calm = true) (h : PGs X es (liftGs X.K W g)) (hn : (assignEach es X.env).length = n := by rfl) (hst : (assignEach es X.env).findIdx? (·.1) = none := by rfl) : PG X (.Tuple es kk pos) (liftG1 X.K W (agTp n g)) := PG.imp' (pg_tup hc h hn hst) fun v σ H Q ⟨F, A, δ, d, Q', a, ⟨ds, e, hl, q⟩, po⟩ => by
  subst e
  obtain ⟨v', e, r⟩ := a.held.one
  cases e
  obtain ⟨b1, us, rfl, h1, q1⟩ := asT_ok r rfl
  exact ⟨b1, us, rfl, h1, by rw [← q1.length]; exact hl, F, A, δ, ds, Q', ⟨a.rel, a.sl, gx_no, q1⟩, q, po⟩
theorem ag_dk {i : Expr} {ti : AE} (hu : X.A.units + 1 < cLine) (ho : PE X o (liftE X.K W to)) (hi : PE X i (liftE X.K W ti))
    (ha : ∀ v, assign (.Subscript o i pos) X.env v = (do
      let ov ← holding [v] (eval o X.env)
      let iv ← holding [v, ov] (eval i X.env)
      standAt pos
      holding [v, ov, iv] (setItem ov iv v)
      release [v, ov, iv] []) := by intro _; rfl) : PG X (.Subscript o i pos) (liftG1 X.K W (agDk to ti)) := PG.imp' (pg_sub ho hi (set_dict hu) ha) fun v σ H Q ⟨F, A, δ, d, Q', a, q, po⟩ => by
  obtain ⟨v', ev, r⟩ := a.held.one
  cases ev
  refine (show liftE X.K W to σ H _ from ⟨δ, F, A, _, noX, ⟨a.rel, a.sl, gx_no, .nil⟩, q, fun x A1 F1 H1 y q1 x1 R1 r1 => ?_⟩)
  refine (show liftE X.K W ti σ H1 _ from ⟨δ, F1, A1, _, noX, ⟨R1, a.sl.kept (x1.kept a.rel), gx_no, .nil⟩, q1, fun x2 A2 F2 H2 y2 ⟨l, kvs, kq, ex, ea, ek, hl, q2⟩ x2' R2 r2 => ?_⟩)
  subst ex
  cases r1
  have rv := (r.kept (x1.kept a.rel)).kept (x2'.kept R1)
  obtain ⟨_, ho, eh, ro⟩ := R2.live l _ ea
  cases ro with
  | dk ro =>
    have := keyOf_dK ek
    subst this
    obtain ⟨rfl, hok⟩ := rep_key r2
    obtain ⟨R4, x4⟩ := R2.put ea (RepO.dk (repK_put hok rv ro))
    have xx := (x1.trans x2').trans x4
    exact ⟨l, _, rfl, DPut.k eh (by rw [← ro.length]; exact hl), po _ _ _ _ _ q2 xx R4 (a.sl.kept (xx.kept a.rel))⟩
def aAsgG (te : AE) (g : AG) : AS := fun N δ A => te δ A (fun d A1 => g d δ A1 N.nx noX) (fun C fs A1 => N.ex C fs δ A1)
theorem as_asgG {tg : Expr} {g : AG} (he : PE X e (liftE X.K W te)) (hg : PG X tg (liftG1 X.K W g)) (hs : swapsWithSole [tg] e pos.line X.env = pure false := by rfl) (hw : swappedStores [tg] e X.env = pure none := by rfl)
    (h1 : (assignEach [tg] X.env).map (·.2) = [assign tg X.env] := by rfl) : PS X (.Assign [tg] e pos) (liftS X.K W (aAsgG te g)) := PS.imp (ps_asg he hg hs hw h1) fun D σ H ⟨F, A, δ, D', R, s, q, e⟩ =>
  (st_core (R1 := Rep X.K) R s e q).mono fun y H1 ⟨x, F1, A1, r, R1, s1, q1, e1, x1⟩ => ⟨F1, A1, δ, x, _, ⟨R1, s1, gx_no, .cons r .nil⟩, q1, e1.nx⟩
/-! ### {..} -/
def aPairs : List (AE × AE) → ASt → AH → (List (D × D) → AH → Prop) → AX → Prop
  | [], _, A, Q, _ => Q [] A
  | (tk, tv) :: r, δ, A, Q, E => tk δ A (fun x A1 => tv δ A1 (fun y A2 => aPairs r δ A2 (fun ps A3 => Q ((x, y) :: ps) A3) E) E) E
inductive RepP (K : PySem.W.Frag) (F : Addr → Prop) (H : Hp) : List (D × D) → List (V × V) → Prop
  | nil : RepP K F H [] []
  | cons {d e : D} {v u : V} {ds : List (D × D)} {vs : List (V × V)} : Rep K F H d v → Rep K F H e u → RepP K F H ds vs → RepP K F H ((d, e) :: ds) ((v, u) :: vs)
theorem RepP.kept {F F' : Addr → Prop} {H H' : Hp} (s : Kept F F' H H') : ∀ {d : List (D × D)} {v : List (V × V)}, RepP K F H d v → RepP K F' H' d v
  | _, _, .nil => .nil
  | _, _, .cons a b r => .cons (a.kept s) (b.kept s) (RepP.kept s r)
theorem pairs_ok {W : WX} {δ : ASt} {σ : L2.St} : ∀ (l : List (AE × AE)) {F : Addr → Prop} {A : AH} {H : Hp} {Q' : List (D × D) → AH → Prop} {E : AX} {Q : List (V × V) → Hp → Prop}, Rel K F A H → RepS K F H δ σ → Gx K W F A H σ E → aPairs l δ A Q' E → (∀ ps A' F' H' us, Q' ps A' → Ext F A H F' A' H' → Rel K F' A' H' → RepP K F' H' ps us → Q us H') →
    tPairs (l.map fun c => (liftE K W c.1, liftE K W c.2)) σ H Q
  | [], F, A, H, Q', E, Q, R, s, g, h, po => po _ _ _ _ _ h Ext.refl R .nil
  | (tk, tv) :: l, F, A, H, Q', E, Q, R, s, g, h, po => by
    refine (show liftE K W tk σ H _ from ⟨δ, F, A, _, E, ⟨R, s, g, .nil⟩, h, fun x A1 F1 H1 y q1 x1 R1 r1 => ?_⟩)
    have s1 := s.kept (x1.kept R)
    refine (show liftE K W tv σ H1 _ from ⟨δ, F1, A1, _, E, ⟨R1, s1, g.step x1, .nil⟩, q1, fun x2 A2 F2 H2 y2 q2 x2' R2 r2 => ?_⟩)
    refine pairs_ok l R2 (s1.kept (x2'.kept R1)) ((g.step x1).step x2') q2 fun ps A3 F3 H3 us q3 x3 R3 r3 => ?_
    exact po _ _ _ _ _ q3 ((x1.trans x2').trans x3) R3 (.cons ((r1.kept (x2'.kept R1)).kept (x3.kept R2)) (r2.kept (x3.kept R2)) r3)
def mergeD (more : List (D × D)) : List (D × D) := more.foldl (fun acc kv => putD acc kv.1 kv.2) []
def keysOk : List (D × D) → Bool
  | [] => true
  | (k, _) :: r => (keyOf k).isSome && keysOk r
theorem merge_ok {F : Addr → Prop} {H : Hp} : ∀ {ps : List (D × D)} {us : List (V × V)} {acc : List (D × D)} {av : List (Key × V)}, RepP K F H ps us → keysOk ps = true → RepK K F H acc av → ∃ kvs : List (Key × V), us = kvs.map (fun kv => (kV kv.1, kv.2)) ∧ kvs.length = ps.length ∧ RepK K F H (ps.foldl (fun acc kv => putD acc kv.1 kv.2) acc) (kvs.foldl (fun acc kv => putK acc kv.1 kv.2) av)
  | _, _, _, _, .nil, _, ra => ⟨[], rfl, rfl, ra⟩
  | _, _, acc, av, .cons (d := d) (u := u) (e := e) a b r, h, ra => by
    simp only [keysOk, Bool.and_eq_true] at h
    obtain ⟨q, hq⟩ := Option.isSome_iff_exists.mp h.1
    have := keyOf_dK hq
    subst this
    obtain ⟨rfl, hok⟩ := rep_key a
    obtain ⟨kvs, e1, e2, e3⟩ := merge_ok (acc := putD acc (dK q) e) (av := putK av q u) r h.2 (repK_put hok b ra)
    exact ⟨(q, u) :: kvs, by rw [e1]; rfl, by rw [List.length_cons, e2]; rfl, e3⟩
def aDisp (live : Bool) (l : List (AE × AE)) : AE := fun δ A Q E => aPairs l δ A (fun ps A1 => keysOk ps = true ∧ ps.length ≤ 15 ∧ aNew live (.dct (mergeD ps)) A1 Q) E
theorem ae_disp (live : Bool) {keys : List (Option Expr)} {values : List Expr} {l : List (AE × AE)} (h : PPs X pos keys values (l.map fun c => (liftE X.K W c.1, liftE X.K W c.2))) (hall : keys.all (·.isSome) = true) (hl : keys.length = values.length) (h0 : keys ≠ [])
    (h15 : keys.length ≤ 15) : PE X (.Dict keys values pos) (liftE X.K W (aDisp live l)) := PE.imp (pe_disp h hall hl h0 h15) fun σ H Q ⟨δ, F, A, Q', E', a, q, po⟩ p hp => by
  have R0 := a.rel.lay hp (ho := .dK [])
  have x0 := ext_new a.rel hp (ho := .dK [])
  refine pairs_ok l R0 (a.sl.kept (x0.kept a.rel)) (a.gx.step x0) q fun ps A1 F1 H1 us ⟨hk, h15, q1⟩ x1 R1 r1 => ?_
  have nA := (a.rel.fresh hp).1
  have nF := (a.rel.fresh hp).2
  obtain ⟨nA1, eD⟩ := x1.k p _ nA upd_same
  have nF1 : ¬ F1 p := fun z => nF (x1.g p _ nA upd_same z)
  refine ⟨eD, ?_⟩
  obtain ⟨kvs, e1, e2, e3⟩ := merge_ok (acc := []) (av := []) r1 hk .nil
  refine ⟨kvs, e1, by rw [e2]; exact h15, ?_⟩
  have kh : Kept F1 F1 H1 (upd H1 p (.dK (mergeK [] kvs))) := kept_hid nF1 eD (fun _ z => by cases z) (fun _ _ z => by cases z) (fun _ z => by cases z)
  have xx := x0.trans x1
  refine show_ok (F1 := F) (A1 := A) (H1 := H) (R1.hid nF1 nA1 eD (fun _ z => by cases z) (fun _ _ z => by cases z) (fun _ z => by cases z)) ⟨xx.f, fun b o w e => ?_, xx.g⟩ hp nF1 nA1 upd_same (RepO.dk (RepK.kept kh e3)) q1 po
  rw [upd_ne (ne_of_none e hp)]
  exact xx.k b o w e
def aDNew (live : Bool) : AE := fun _ A Q _ => aNew live (.dct []) A Q
theorem ae_dnew (live : Bool) {e : Expr} (h : PE X e tDNewK) : PE X e (liftE X.K W (aDNew live)) := PE.imp h fun σ H Q ⟨δ, F, A, Q', E', a, q, po⟩ => aNew_ok a.rel (.dk .nil) q po
/-! ### own __len__, __contains__ -/
def gLenO (C : Addr) (asp : ASp) : GA := fun xs A Q _ => ∃ d fs, xs = [d] ∧ asO A d = some (C, fs) ∧ Call asp [d] A (fun r A' => ∃ n : Int, r = .int n ∧ 0 ≤ n ∧ n < 2 ^ 63 ∧ Q r A') noX ⟨⟩
theorem ca_lenO (F : FnR X.prog X.w X.K X.mg X.base CX0 k f (liftSp X.K asp)) (hr : Room (k + 1) X.A) (S : Spc X.K C "__len__" f) : CallA X (.builtin "len") (gLenO C asp) := ⟨_, fun W δ σ H xs vs Q ⟨F, A, Q', E', a, ⟨d, fs, e1, e2, q⟩, po⟩ => by
  subst e1
  obtain ⟨v, rfl, r⟩ := a.held.one
  obtain ⟨b, dx, vs, rfl, eb, rf⟩ := asO_ok a.rel r e2
  refine ⟨b, dx, vs, rfl, eb, F, A, [d], _, noX, a.rel, .cons r .nil, q, fun x A1 F1 H1 y ⟨n, e, h0, h1, q1⟩ x1 R1 r1 => ?_, fun _ _ _ _ _ _ _ h => h.elim⟩
  subst e
  cases r1
  exact ⟨n, rfl, h0, h1, po _ _ _ _ _ q1 x1 R1 (.int n)⟩, lenO F hr S⟩
def gInO (neg : Bool) (C : Addr) (asp : ASp) : G2 := fun x y A Q _ => ∃ fs, asO A y = some (C, fs) ∧ Call asp [y, x] A (fun r A' => ∃ b : Bool, r = .bl b ∧ Q (.bl (if neg then !b else b)) A') noX ⟨⟩
theorem cmp_inO (F : FnR X.prog X.w X.K X.mg X.base CX0 k f (liftSp X.K asp)) (hr : Room k X.A) (S : Spc X.K C "__contains__" f) : CmpA X .In (gInO false C asp) := ⟨_, fun W δ σ H x y v u Q ⟨F, A, Q', E', a, ⟨fs, e2, q⟩, po⟩ => by
  obtain ⟨u', v', e, r1, r2⟩ := a.held.two
  cases e
  obtain ⟨b, dx, vs, rfl, eb, rf⟩ := asO_ok a.rel r1 e2
  refine ⟨b, dx, vs, rfl, eb, F, A, [y, x], _, noX, a.rel, .cons r1 (.cons r2 .nil), q, fun z A1 F1 H1 w ⟨bb, e, q1⟩ x1 R1 r3 => ?_, fun _ _ _ _ _ _ _ h => h.elim⟩
  subst e
  cases r3
  exact ⟨bb, rfl, po _ _ _ _ _ q1 x1 R1 (.bl bb)⟩, op_inO F hr S⟩
theorem cmp_notInO (F : FnR X.prog X.w X.K X.mg X.base CX0 k f (liftSp X.K asp)) (hr : Room k X.A) (S : Spc X.K C "__contains__" f) : CmpA X .NotIn (gInO true C asp) := ⟨_, fun W δ σ H x y v u Q ⟨F, A, Q', E', a, ⟨fs, e2, q⟩, po⟩ => by
  obtain ⟨u', v', e, r1, r2⟩ := a.held.two
  cases e
  obtain ⟨b, dx, vs, rfl, eb, rf⟩ := asO_ok a.rel r1 e2
  refine ⟨b, dx, vs, rfl, eb, F, A, [y, x], _, noX, a.rel, .cons r1 (.cons r2 .nil), q, fun z A1 F1 H1 w ⟨bb, e, q1⟩ x1 R1 r3 => ?_, fun _ _ _ _ _ _ _ h => h.elim⟩
  subst e
  cases r3
  exact ⟨bb, rfl, po _ _ _ _ _ q1 x1 R1 (.bl _)⟩, op_notInO F hr S⟩
end
end Av

set_option Elab.async false
set_option linter.all false
set_option maxRecDepth 100000
set_option maxHeartbeats 4000000
/-! own library Av, part 11: constants of the module, defs with defaults and stars, small lemmas -/
namespace Av
open PySem PySem.Spec PyProof.Rows L2 My
theorem TupE.all {K : PySem.W.Frag} {a : Addr} {vs : List V} (h : ∀ H, SqT K H a vs) (H : Hp) : TupE K H a vs := by
  rcases h (fun _ => none) with h | h
  · rcases h with h | ⟨o, h⟩ <;> cases h
  · exact .inr h
section
variable {X : Cx} {W : WX} {pos : Pos}
def strsD : List Str → List D := List.map .str
theorem reps_strs {K : PySem.W.Frag} {F : Addr → Prop} {H : Hp} : ∀ {xs : List Str}, (∀ x ∈ xs, sOk x) → Reps K F H (xs.map D.str) (xs.map V.str)
  | [], _ => .nil
  | x :: xs, h => .cons (.str (h x List.mem_cons_self)) (reps_strs fun y hy => h y (List.mem_cons_of_mem _ hy))
theorem ae_gtup {e : Expr} {a : Addr} {xs : List Str} (h : PE X e (tC (.ref a))) (q : ∀ H, SqT X.K H a (xs.map V.str)) (hx : ∀ x ∈ xs, sOk x) : PE X e (liftE X.K W (aC (.tup (xs.map D.str)))) := ae_c h fun F H => .tup (TupE.all q H) (reps_strs hx)
theorem ae_gs {x z : Str} {pos : Pos} (hg : Gl X x) (h : ∃ t, X.mg x = some (.str z t)) (hd : (x == ("__debug__" : Str)) = false := by decide) (hz : sOk z := by unfold sOk; decide +kernel) : PE X (.Name x pos) (liftE X.K W (aC (.str z))) := ae_c (pe_gs hg h hd) fun _ _ => .str hz
theorem ae_gi {x : Str} {i : Int} {pos : Pos} (hg : Gl X x) (h : ∃ t, X.mg x = some (.int i t)) (hd : (x == ("__debug__" : Str)) = false := by decide) : PE X (.Name x pos) (liftE X.K W (aC (.int i))) := ae_c (pe_gi hg h hd) fun _ _ => .int i
end
section
variable {P : Program} {w : World} {K : PySem.W.Frag} {mg : Str → Option Value} {base : Heap} {x qual : Str} {params : Arguments} {body : List Stmt} {scope : Scope} {dvs : List V} {kws : List (Str × V)} {f : Addr} {fd : FuncData} {N ps : List Str} {k : Nat} {asp : ASp}
abbrev BodyR (P : Program) (w : World) (K : PySem.W.Frag) (mg : Str → Option Value) (base : Heap) (qual : Str) (body : List Stmt) (scope : Scope) (f : Addr) (N : List Str) (k : Nat) (asp : ASp) : Prop :=
  ∀ (cdv : Value) (A0 : Around) (outer : List Env) (s : Shared) (H : Hp) (E0 : XK) (ds : List D) (A : AH) (Q : AQ) (E : AX), Room k (A0.deeper (envOfC qual scope s.heap.objs.size f cdv)) → asp ds A Q E →
      ∃ ts, PSs (cxOf CX0 P w K mg base N qual scope f cdv A0 outer s H E0).nox body (liftS K noW ts) ∧ ts (endsOf Q noX) (aStart N ds) A
abbrev BodyX (P : Program) (w : World) (K : PySem.W.Frag) (mg : Str → Option Value) (base : Heap) (qual : Str) (body : List Stmt) (scope : Scope) (f : Addr) (N : List Str) (k : Nat) (asp : ASp) : Prop :=
  ∀ (cdv : Value) (A0 : Around) (outer : List Env) (s : Shared) (H : Hp) (E0 : XK) (ds : List D) (A : AH) (Q : AQ) (E : AX), Room k (A0.deeper (envOfC qual scope s.heap.objs.size f cdv)) → asp ds A Q E →
      ∃ ts, PSs (cxOf (L2.CX P w) P w K mg base N qual scope f cdv A0 outer s H E0) body (liftS K (fun c d _ H => E0 c d H) ts) ∧ ts (endsOf Q E) (aStart N ds) A
theorem FunD.AD (n j : Nat) (dds : List D) (F : FunD K x qual params body scope dvs kws f fd) (S : FnScope N ps scope) (len : ∀ ds A Q E, asp ds A Q E → ds.length = ps.length) (hd : dvs ≠ []) (hn : n + (dvs.length - j) = ps.length)
    (hb : ∀ (T : Addr) (kV doc pm : Value) (an : Option Addr) (cdv ct : Value) (us its : List Value), us.length = n → its.length = dvs.length →
      ∃ k, bindArgs (PySem.W.fnOf x qual params body scope (.ref T) kV doc pm an cdv ct) ⟨us, []⟩ = seqItems? (.ref T) >>= k ∧ k (some its.toArray) = pure (ps.zip (us ++ its.drop j)))
    (hdd : ∀ F H, Reps K F H dds (dvs.drop j)) (hbody : BodyR P w K mg base qual body scope f N k asp) : FnR P w K mg base CX0 (k + 1) f (liftSp K (fun ds A Q E => asp (ds ++ dds) A Q E)) :=
  FnR.imp (My.FunD.Rd n j F S (liftSp_len len) hd hn hb (bodyR (dd := []) hbody)) fun vs H Q E ⟨F, A, ds, Q', E', R, r, q, po, g⟩ => ⟨F, A, ds ++ dds, Q', E', R, r.append (hdd F H), q, po, g⟩
theorem FunD.ADX (n j : Nat) (dds : List D) (F : FunD K x qual params body scope dvs kws f fd) (S : FnScope N ps scope) (len : ∀ ds A Q E, asp ds A Q E → ds.length = ps.length) (hd : dvs ≠ []) (hn : n + (dvs.length - j) = ps.length)
    (hb : ∀ (T : Addr) (kV doc pm : Value) (an : Option Addr) (cdv ct : Value) (us its : List Value), us.length = n → its.length = dvs.length →
      ∃ k, bindArgs (PySem.W.fnOf x qual params body scope (.ref T) kV doc pm an cdv ct) ⟨us, []⟩ = seqItems? (.ref T) >>= k ∧ k (some its.toArray) = pure (ps.zip (us ++ its.drop j)))
    (hdd : ∀ F H, Reps K F H dds (dvs.drop j)) (hbody : BodyX P w K mg base qual body scope f N k asp) : FnR P w K mg base (L2.CX P w) (k + 1) f (liftSp K (fun ds A Q E => asp (ds ++ dds) A Q E)) :=
  FnR.imp (My.FunD.RdX n j F S (liftSp_len len) hd hn hb (bodyX hbody)) fun vs H Q E ⟨F, A, ds, Q', E', R, r, q, po, g⟩ => ⟨F, A, ds ++ dds, Q', E', R, r.append (hdd F H), q, po, g⟩
/-- def f(a, .., *v) -/
theorem Reps.split {F : Addr → Prop} {H : Hp} : ∀ {ds es : List D} {vs : List V}, Reps K F H (ds ++ es) vs → ∃ us ws, vs = us ++ ws ∧ Reps K F H ds us ∧ Reps K F H es ws
  | [], _, vs, r => ⟨[], vs, rfl, .nil, r⟩
  | d :: ds, es, _, r => by
    cases r with
    | cons a r =>
      obtain ⟨us, ws, rfl, r1, r2⟩ := Reps.split r
      exact ⟨_ :: us, ws, rfl, .cons a r1, r2⟩
def starSp (n : Nat) (asp : ASp) : ASp := fun ds A Q E => ∃ ws rest, ds = ws ++ rest ∧ ws.length = n ∧ rest.length ≤ sizeLine ∧ asp (ws ++ [.tup rest]) A Q E
theorem star_lift {vs : List V} {H : Hp} {Q : VK} {E : XK} {n : Nat} (h : liftSp K (starSp n asp) vs H Q E) : ∃ ws rest, vs = ws ++ rest ∧ ws.length = n ∧ rest.length ≤ sizeLine ∧ ∀ p, H p = Option.none → liftSp K asp (ws ++ [V.ref p]) (upd H p (.tup rest)) Q E := by
  obtain ⟨F, A, ds, Q', E', R, r, ⟨ws, rest, rfl, h1, h2, q⟩, po, g⟩ := h
  obtain ⟨us, zs, rfl, r1, r2⟩ := r.split
  refine ⟨us, zs, rfl, by rw [← r1.length]; exact h1, by rw [← r2.length]; exact h2, fun p hp => ?_⟩
  obtain ⟨R2, x2, r3⟩ := R.newT hp r2
  exact ⟨F, A, ws ++ [.tup rest], Q', E', R2, (r1.kept (x2.kept R)).append (.cons r3 .nil), q, po.step x2, g.step x2⟩
theorem FunD.AsX {pv : Str} (F : FunD K x qual params body scope [] kws f fd) (S : FnScope N (ps ++ [pv]) scope)
    (hb : ∀ (kV doc pm : Value) (an : Option Addr) (cdv ct : Value) (us rest : List Value), us.length = ps.length → bindArgs (PySem.W.fnOf x qual params body scope .none kV doc pm an cdv ct) ⟨us ++ rest, []⟩ = (newTuple rest >>= fun t => pure (ps.zip us ++ [(pv, t)])))
    (hbody : BodyX P w K mg base qual body scope f N k asp) : FnR P w K mg base (L2.CX P w) (k + 1) f (liftSp K (starSp ps.length asp)) :=
  FnR.imp (My.FunD.RsX F S hb (bodyX hbody)) fun vs H Q E h => star_lift h
theorem FunD.As {pv : Str} (F : FunD K x qual params body scope [] kws f fd) (S : FnScope N (ps ++ [pv]) scope)
    (hb : ∀ (kV doc pm : Value) (an : Option Addr) (cdv ct : Value) (us rest : List Value), us.length = ps.length → bindArgs (PySem.W.fnOf x qual params body scope .none kV doc pm an cdv ct) ⟨us ++ rest, []⟩ = (newTuple rest >>= fun t => pure (ps.zip us ++ [(pv, t)])))
    (hbody : BodyR P w K mg base qual body scope f N k asp) : FnR P w K mg base CX0 (k + 1) f (liftSp K (starSp ps.length asp)) :=
  FnR.imp (My.FunD.Rs F S hb (bodyR (dd := []) hbody)) fun vs H Q E h => star_lift h
end
section
variable {X : Cx} {W : WX} {pos : Pos}
theorem as_par2 {i j : Nat} {x y : Str} {a b : Expr} {t : AA} {px py pt : Pos} {kt k2 pt2} (hc : X.calm = true) (hN : X.N.Nodup) (hi : X.N[i]? = some x) (hj : X.N[j]? = some y) (hij : i ≠ j)
    (hx : X.env.scope.names.lookup x = some .local) (hy : X.env.scope.names.lookup y = some .local) (ha : PA X [a, b] (liftA X.K W t))
    (hw : swappedStores [.Tuple [.Name x px, .Name y py] kt pt] (.Tuple [a, b] k2 pt2) X.env = pure (some [x, y]))
    (hs : swapsWithSole [.Tuple [.Name x px, .Name y py] kt pt] (.Tuple [a, b] k2 pt2) pos.line X.env = pure false := by rfl) :
    PS X (.Assign [.Tuple [.Name x px, .Name y py] kt pt] (.Tuple [a, b] k2 pt2) pos) (liftS X.K W (aPar [i, j] t)) := PS.imp (ps_par hc hN hi hj hij hx hy ha hw hs) fun D σ H h => lift_par2 h
theorem as_par3 {i j l : Nat} {x y z : Str} {a b c : Expr} {t : AA} {px py pz pt : Pos} {kt k2 pt2} (hc : X.calm = true) (hN : X.N.Nodup) (hi : X.N[i]? = some x) (hj : X.N[j]? = some y) (hl : X.N[l]? = some z) (hij : i ≠ j) (hil : i ≠ l) (hjl : j ≠ l)
    (hx : X.env.scope.names.lookup x = some .local) (hy : X.env.scope.names.lookup y = some .local) (hz : X.env.scope.names.lookup z = some .local) (ha : PA X [a, b, c] (liftA X.K W t))
    (hw : swappedStores [.Tuple [.Name x px, .Name y py, .Name z pz] kt pt] (.Tuple [a, b, c] k2 pt2) X.env = pure (some [x, y, z]))
    (hs : swapsWithSole [.Tuple [.Name x px, .Name y py, .Name z pz] kt pt] (.Tuple [a, b, c] k2 pt2) pos.line X.env = pure false := by rfl) :
    PS X (.Assign [.Tuple [.Name x px, .Name y py, .Name z pz] kt pt] (.Tuple [a, b, c] k2 pt2) pos) (liftS X.K W (aPar [i, j, l] t)) := PS.imp (ps_par3 hc hN hi hj hl hij hil hjl hx hy hz ha hw hs) fun D σ H h => lift_par3 h
theorem as_aug {i : Nat} {x : Str} {e : Expr} {te : AE} {op : Operator} {g : Int → Int → Int} {pos' : Pos} (hN : X.N.Nodup) (hi : X.N[i]? = some x) (hx : Loc X.env.scope x) (he : PE X e (liftE X.K W te)) (ho : PIp X op (ipI g)) (hf : X.fn x = true ∨ X.env.scope.names.lookup x = some .local := by first | exact .inl rfl | exact .inr rfl | assumption) :
    PS X (.AugAssign (.Name x pos') op e pos) (liftS X.K W (aAug i g te)) := PS.imp (ps_aug hN hi hx he ho hf) fun D σ H h => lift_aug h
end
/-- never reached -/
def aNever : AS := fun _ _ _ => False
theorem as_never {X : Cx} {W : WX} {st : Stmt} : PS X st (liftS X.K W aNever) := ⟨fun _ _ _ _ _ _ ⟨_, _, _, _, _, _, h, _⟩ => h.elim⟩
/-! ### heaps -/
section
variable {A A' : AH} {a b p q : Addr} {o u : AO}
theorem sub_refl : ∀ c w, A c = some w → A c = some w := fun _ _ h => h
theorem sub_put (h : A p = none) : ∀ c w, A c = some w → put A p o c = some w := fun c w e => by
  rw [put_ne (fun z => by rw [z, h] at e; cases e)]; exact e
theorem ne_live (h : A a = some o) (hp : A p = none) : a ≠ p := fun z => by rw [z, hp] at h; cases h
theorem ne_live' (h : A a = some o) (hp : A p = none) : p ≠ a := fun z => by rw [← z, hp] at h; cases h
theorem put_comm (h : a ≠ b) : put (put A a o) b u = put (put A b u) a o := by
  funext c
  unfold put
  by_cases h1 : c = b <;> by_cases h2 : c = a
  · subst h1; subst h2; exact absurd rfl h
  · rw [if_pos h1, if_neg h2, if_pos h1]
  · rw [if_neg h1, if_pos h2, if_pos h2]
  · rw [if_neg h1, if_neg h2, if_neg h2, if_neg h1]
theorem del_put_ne (h : a ≠ p) : del (put A a o) p = put (del A p) a o := by
  funext c
  by_cases h1 : c = p <;> by_cases h2 : c = a
  · subst h1; subst h2; exact absurd rfl h
  · simp [del, put, h1, h2]
    intro z; exact absurd (z ▸ h1 ▸ rfl) h2
  · simp [del, put, h1, h2]
    intro z; exact absurd z h
  · simp [del, put, h1, h2]
theorem del_none (h : A p = none) : del A p = A := by
  funext c
  unfold del
  by_cases h1 : c = p
  · rw [if_pos h1, h1, h]
  · rw [if_neg h1]
theorem put_none (h : put A a o p = none) : p ≠ a ∧ A p = none := by
  by_cases e : p = a
  · rw [e, put_same] at h; cases h
  · rw [put_ne e] at h; exact ⟨e, h⟩
theorem put_self (h : A a = some o) : put A a o = A := by
  funext c
  unfold put
  by_cases h1 : c = a
  · rw [if_pos h1, h1, h]
  · rw [if_neg h1]
end
/-! ### cutting a body -/
theorem seq_cut {t u : AS} {N : AEnds} {δ : ASt} {A : AH} (P : ASt → AH → Prop) (h : ∀ R : ASt → AH → Prop, (∀ δ' A', P δ' A' → R δ' A') → t { N with nx := R } δ A) (h2 : ∀ δ' A', P δ' A' → u N δ' A') : aSeq t u N δ A := h _ h2
/-! ### loops -/
/-- a loop by what holds ahead of each turn -/
theorem loop_inv {gd : AH → Prop} {p : Pat} {tb : AS} {N : AEnds} {ds : List D} {δ : ASt} {A : AH} (P : Nat → ASt → AH → Prop) (h0 : P 0 δ A) (hg : ∀ i δ A, i ≤ ds.length → P i δ A → gd A)
    (hs : ∀ i d δ A (R : ASt → AH → Prop), ds[i]? = some d → P i δ A → (∀ δ' A', P (i + 1) δ' A' → R δ' A') → ∃ δ2, bindP p d δ = some δ2 ∧ tb { N with nx := R, ct := R, bk := N.nx } δ2 A)
    (hd : ∀ δ A, P ds.length δ A → N.nx δ A) : aLoop gd p tb N ds δ A := by
  have : ∀ (r : List D) (i : Nat) (δ : ASt) (A : AH), ds.drop i = r → i ≤ ds.length → P i δ A → aLoop gd p tb N r δ A := by
    intro r
    induction r with
    | nil =>
      intro i δ A e hi hp
      have : ds.length ≤ i := by
        have := congrArg List.length e
        simp at this; omega
      obtain rfl : i = ds.length := by omega
      exact ⟨hg _ _ _ hi hp, hd _ _ hp⟩
    | cons d r ih =>
      intro i δ A e hi hp
      have hlt : i < ds.length := by
        have := congrArg List.length e
        simp at this; omega
      rw [List.drop_eq_getElem_cons hlt] at e
      injection e with e1 e2
      obtain ⟨δ2, b, q⟩ := hs i d δ A _ (by rw [List.getElem?_eq_getElem hlt, e1]) hp (fun δ A h => ih (i + 1) δ A e2 (by omega) h)
      exact ⟨hg _ _ _ hi hp, δ2, b, q⟩
  exact this ds 0 δ A (by simp) (Nat.zero_le _) h0
end Av
namespace Av
open PySem PySem.Spec PyProof.Rows L2 My
/-! ### zip of two lists or two tuples -/
theorem itOk_zipT {K : PySem.W.Frag} {a b : Addr} {xs ys : List D} : ItOk K (RZ.ItzT K a b) (fun _ => True) (zipL xs ys) [.tup xs, .tup ys] [V.ref a, V.ref b] where
  go := fun F A H i R g r hi => by
    match r with
    | .cons r0 (.cons r1 .nil) =>
      obtain ⟨a', vs, e, hs, rr⟩ := asT_ok r0 rfl
      obtain ⟨b', us, e2, hs2, rr2⟩ := asT_ok r1 rfl
      cases e; cases e2
      have h1 := rr.length
      have h2 := rr2.length
      simp [zipL] at hi
      have l1 : i < vs.length := by omega
      have l2 : i < us.length := by omega
      exact ⟨vs, us, vs[i], us[i], hs, hs2, List.getElem?_eq_getElem l1, List.getElem?_eq_getElem l2⟩
  stop := fun F A H i R g r hi => by
    match r with
    | .cons r0 (.cons r1 .nil) =>
      obtain ⟨a', vs, e, hs, rr⟩ := asT_ok r0 rfl
      obtain ⟨b', us, e2, hs2, rr2⟩ := asT_ok r1 rfl
      cases e; cases e2
      have h1 := rr.length
      have h2 := rr2.length
      simp [zipL] at hi
      exact ⟨vs, us, hs, hs2, by omega⟩
  yld := fun F A H i x H' R g r y hi => by
    match r with
    | .cons r0 (.cons r1 .nil) =>
      obtain ⟨a', vs, e, hs, rr⟩ := asT_ok r0 rfl
      obtain ⟨b', us, e2, hs2, rr2⟩ := asT_ok r1 rfl
      cases e; cases e2
      obtain ⟨T, z, z2, rfl, hT, rfl, hy, hy2⟩ := y
      obtain ⟨d', e', r'⟩ := rr.get (hy vs hs)
      obtain ⟨d'', e'', r''⟩ := rr2.get (hy2 us hs2)
      obtain ⟨R2, x2, r2⟩ := R.newT (ds := [d', d'']) (vs := [z, z2]) hT (.cons r' (.cons r'' .nil))
      exact ⟨_, by simp [zipL, List.getElem?_zipWith, e', e''], x2, R2, r2⟩
def zipK (A : AH) (d e : D) (k : IA → Prop) : Prop := (∃ xs ys, asL A d = some xs ∧ asL A e = some ys ∧ k (fun A => asL A d = some xs ∧ asL A e = some ys, zipL xs ys)) ∨ ∃ xs ys, d = .tup xs ∧ e = .tup ys ∧ k (fun _ => True, zipL xs ys)
def aZipA (t : AA) : AI := fun δ A Q E => t δ A (fun ds A1 => ∃ d e, ds = [d, e] ∧ zipK A1 d e (fun i => Q i A1)) E
theorem ai_zipA {X : Cx} {W : WX} {e e2 : Expr} {t : AA} {p pos tpos : Pos} {elts : List Expr} {kk : Nat} (hg : Gl X "zip") (hm : X.mg "zip" = none) (ha : PA X [e, e2] (liftA X.K W t)) (hs : starEach [e, e2] X.env = (false, eval e X.env) :: starEach [e2] X.env := by rfl) (hpl : (backTo pos (starEach [e2] X.env)).any (·.1) = false := by rfl) :
    PI X (.Tuple elts kk tpos) (.Call (.Name "zip" p) [e, e2] [] pos) (liftI X.K W (aZipA t)) := PI.imp (RZ.pi_zipA hg hm ha hs hpl) fun σ H R ⟨δ, h⟩ => by
  refine (Lf.core (R1 := Reps X.K) (k := fun ds A1 Q E => ∃ d e, ds = [d, e] ∧ zipK A1 d e (fun i => Q i A1)) h).mono fun vs H1 ⟨ds, F, A, Q', E', a, r, ⟨d, d2, ed, q⟩, po⟩ => ?_
  subst ed
  obtain ⟨v, u, rfl, r0, r1⟩ := r.two
  rcases q with ⟨xs, ys, g, g2, q⟩ | ⟨xs, ys, rfl, rfl, q⟩
  · obtain ⟨a', vs, rfl, hs, rr⟩ := asL_ok a.rel r0 g
    obtain ⟨b', us, rfl, hs2, rr2⟩ := asL_ok a.rel r1 g2
    exact ⟨a', b', vs, us, rfl, .inl ⟨hs, hs2, po _ _ _ _ _ q Ext.refl a.rel ⟨[d, d2], [V.ref a', V.ref b'], .cons r0 (.cons r1 .nil), itOk_zip⟩⟩⟩
  · obtain ⟨a', vs, rfl, hs, rr⟩ := asT_ok r0 rfl
    obtain ⟨b', us, rfl, hs2, rr2⟩ := asT_ok r1 rfl
    exact ⟨a', b', vs, us, rfl, .inr ⟨hs, hs2, po _ _ _ _ _ q Ext.refl a.rel ⟨_, _, .cons r0 (.cons r1 .nil), itOk_zipT⟩⟩⟩
end Av

set_option Elab.async false
set_option linter.all false
set_option maxRecDepth 100000
set_option maxHeartbeats 4000000
/-! own library Av, part 12: equations by constructors (written by mk12.py) -/
namespace Av
open PySem PySem.Spec PyProof.Rows L2 My
def truO : Option AO → Option Bool
  | some (.lst xs) => some (!xs.isEmpty)
  | _ => none
def lstO : Option AO → Option (List D)
  | some (.lst xs) => some xs
  | _ => none
def dctO : Option AO → Option (List (D × D))
  | some (.dct xs) => some xs
  | _ => none
def insO : Option AO → Option (Addr × List (Str × D))
  | some (.ins C fs) => some (C, fs)
  | _ => none
def kdOO : Option AO → String
  | some (.lst _) => "list"
  | some (.dct _) => "dict"
  | _ => "?"
def topO : Option AO → Option PyData
  | some (.lst xs) => (toPs xs).map .list
  | _ => none
theorem truO_lst {xs : List D} : truO (some (.lst xs)) = some (!xs.isEmpty) := rfl
theorem lstO_lst {xs : List D} : lstO (some (.lst xs)) = some xs := rfl
theorem truO_dct {kvs : List (D × D)} : truO (some (.dct kvs)) = none := rfl
theorem lstO_dct {kvs : List (D × D)} : lstO (some (.dct kvs)) = none := rfl
theorem topO_dct {kvs : List (D × D)} : topO (some (.dct kvs)) = none := rfl
theorem truO_ins {C : Addr} {fs : List (Str × D)} : truO (some (.ins C fs)) = none := rfl
theorem lstO_ins {C : Addr} {fs : List (Str × D)} : lstO (some (.ins C fs)) = none := rfl
theorem topO_ins {C : Addr} {fs : List (Str × D)} : topO (some (.ins C fs)) = none := rfl
theorem dctO_dct {xs : List (D × D)} : dctO (some (.dct xs)) = some xs := rfl
theorem dctO_lst {xs : List D} : dctO (some (.lst xs)) = none := rfl
theorem dctO_ins {C : Addr} {fs : List (Str × D)} : dctO (some (.ins C fs)) = none := rfl
theorem insO_ins {C : Addr} {fs : List (Str × D)} : insO (some (.ins C fs)) = some (C, fs) := rfl
theorem insO_lst {xs : List D} : insO (some (.lst xs)) = none := rfl
theorem insO_dct {xs : List (D × D)} : insO (some (.dct xs)) = none := rfl
theorem kdOO_lst {xs : List D} : kdOO (some (.lst xs)) = "list" := rfl
theorem kdOO_dct {xs : List (D × D)} : kdOO (some (.dct xs)) = "dict" := rfl
theorem topO_lst {xs : List D} : topO (some (.lst xs)) = (toPs xs).map .list := rfl
theorem truD_non {A : AH}  : truD A .non = some false := rfl
theorem truD_bl {A : AH} {b : Bool} : truD A (.bl b) = some b := rfl
theorem truD_int {A : AH} {i : Int} : truD A (.int i) = some (i != 0) := rfl
theorem truD_str {A : AH} {x : Str} : truD A (.str x) = some ((x.length : Int) != 0) := rfl
theorem truD_ty {A : AH} {n : String} : truD A (.ty n) = none := rfl
theorem truD_ref {A : AH} {a : Addr} : truD A (.ref a) = truO (A a) := by unfold truD truO; rfl
theorem truD_tup {A : AH} {xs : List D} : truD A (.tup xs) = some (!xs.isEmpty) := rfl
theorem truD_lst {A : AH} {xs : List D} : truD A (.lst xs) = some (!xs.isEmpty) := rfl
theorem truD_rol {A : AH} {xs : List D} : truD A (.rol xs) = none := rfl
theorem truD_dct {A : AH} {kvs : List (D × D)} : truD A (.dct kvs) = none := rfl
theorem truD_dtt {A : AH} {kvs : List (D × D)} : truD A (.dtt kvs) = none := rfl
theorem truD_obj {A : AH} {C : Addr} {fs : List (Str × D)} : truD A (.obj C fs) = none := rfl
theorem truD_exc {A : AH} {a : Addr} {dd : Addr} {C : Addr} {fs : List (Str × D)} : truD A (.exc a dd C fs) = none := rfl
theorem lenOk_non  : lenOk .non = True := rfl
theorem lenOk_bl {b : Bool} : lenOk (.bl b) = True := rfl
theorem lenOk_int {i : Int} : lenOk (.int i) = True := rfl
theorem lenOk_str {x : Str} : lenOk (.str x) = (x.length ≤ sizeLine) := rfl
theorem lenOk_ty {n : String} : lenOk (.ty n) = True := rfl
theorem lenOk_ref {a : Addr} : lenOk (.ref a) = True := rfl
theorem lenOk_tup {xs : List D} : lenOk (.tup xs) = True := rfl
theorem lenOk_lst {xs : List D} : lenOk (.lst xs) = True := rfl
theorem lenOk_rol {xs : List D} : lenOk (.rol xs) = True := rfl
theorem lenOk_dct {kvs : List (D × D)} : lenOk (.dct kvs) = True := rfl
theorem lenOk_dtt {kvs : List (D × D)} : lenOk (.dtt kvs) = True := rfl
theorem lenOk_obj {C : Addr} {fs : List (Str × D)} : lenOk (.obj C fs) = True := rfl
theorem lenOk_exc {a : Addr} {dd : Addr} {C : Addr} {fs : List (Str × D)} : lenOk (.exc a dd C fs) = True := rfl
theorem asL_non {A : AH}  : asL A .non = none := rfl
theorem asL_bl {A : AH} {b : Bool} : asL A (.bl b) = none := rfl
theorem asL_int {A : AH} {i : Int} : asL A (.int i) = none := rfl
theorem asL_str {A : AH} {x : Str} : asL A (.str x) = none := rfl
theorem asL_ty {A : AH} {n : String} : asL A (.ty n) = none := rfl
theorem asL_ref {A : AH} {a : Addr} : asL A (.ref a) = lstO (A a) := by unfold asL lstO; rfl
theorem asL_tup {A : AH} {xs : List D} : asL A (.tup xs) = none := rfl
theorem asL_lst {A : AH} {xs : List D} : asL A (.lst xs) = some xs := rfl
theorem asL_rol {A : AH} {xs : List D} : asL A (.rol xs) = some xs := rfl
theorem asL_dct {A : AH} {kvs : List (D × D)} : asL A (.dct kvs) = none := rfl
theorem asL_dtt {A : AH} {kvs : List (D × D)} : asL A (.dtt kvs) = none := rfl
theorem asL_obj {A : AH} {C : Addr} {fs : List (Str × D)} : asL A (.obj C fs) = none := rfl
theorem asL_exc {A : AH} {a : Addr} {dd : Addr} {C : Addr} {fs : List (Str × D)} : asL A (.exc a dd C fs) = none := rfl
theorem asX_non {A : AH}  : asX A .non = none := rfl
theorem asX_bl {A : AH} {b : Bool} : asX A (.bl b) = none := rfl
theorem asX_int {A : AH} {i : Int} : asX A (.int i) = none := rfl
theorem asX_str {A : AH} {x : Str} : asX A (.str x) = none := rfl
theorem asX_ty {A : AH} {n : String} : asX A (.ty n) = none := rfl
theorem asX_ref {A : AH} {a : Addr} : asX A (.ref a) = lstO (A a) := by unfold asX lstO; rfl
theorem asX_tup {A : AH} {xs : List D} : asX A (.tup xs) = none := rfl
theorem asX_lst {A : AH} {xs : List D} : asX A (.lst xs) = some xs := rfl
theorem asX_rol {A : AH} {xs : List D} : asX A (.rol xs) = none := rfl
theorem asX_dct {A : AH} {kvs : List (D × D)} : asX A (.dct kvs) = none := rfl
theorem asX_dtt {A : AH} {kvs : List (D × D)} : asX A (.dtt kvs) = none := rfl
theorem asX_obj {A : AH} {C : Addr} {fs : List (Str × D)} : asX A (.obj C fs) = none := rfl
theorem asX_exc {A : AH} {a : Addr} {dd : Addr} {C : Addr} {fs : List (Str × D)} : asX A (.exc a dd C fs) = none := rfl
theorem asT_non  : asT .non = none := rfl
theorem asT_bl {b : Bool} : asT (.bl b) = none := rfl
theorem asT_int {i : Int} : asT (.int i) = none := rfl
theorem asT_str {x : Str} : asT (.str x) = none := rfl
theorem asT_ty {n : String} : asT (.ty n) = none := rfl
theorem asT_ref {a : Addr} : asT (.ref a) = none := rfl
theorem asT_tup {xs : List D} : asT (.tup xs) = some xs := rfl
theorem asT_lst {xs : List D} : asT (.lst xs) = none := rfl
theorem asT_rol {xs : List D} : asT (.rol xs) = none := rfl
theorem asT_dct {kvs : List (D × D)} : asT (.dct kvs) = none := rfl
theorem asT_dtt {kvs : List (D × D)} : asT (.dtt kvs) = none := rfl
theorem asT_obj {C : Addr} {fs : List (Str × D)} : asT (.obj C fs) = none := rfl
theorem asT_exc {a : Addr} {dd : Addr} {C : Addr} {fs : List (Str × D)} : asT (.exc a dd C fs) = none := rfl
theorem asD_non {A : AH}  : asD A .non = none := rfl
theorem asD_bl {A : AH} {b : Bool} : asD A (.bl b) = none := rfl
theorem asD_int {A : AH} {i : Int} : asD A (.int i) = none := rfl
theorem asD_str {A : AH} {x : Str} : asD A (.str x) = none := rfl
theorem asD_ty {A : AH} {n : String} : asD A (.ty n) = none := rfl
theorem asD_ref {A : AH} {a : Addr} : asD A (.ref a) = dctO (A a) := by unfold asD dctO; rfl
theorem asD_tup {A : AH} {xs : List D} : asD A (.tup xs) = none := rfl
theorem asD_lst {A : AH} {xs : List D} : asD A (.lst xs) = none := rfl
theorem asD_rol {A : AH} {xs : List D} : asD A (.rol xs) = none := rfl
theorem asD_dct {A : AH} {kvs : List (D × D)} : asD A (.dct kvs) = some kvs := rfl
theorem asD_dtt {A : AH} {kvs : List (D × D)} : asD A (.dtt kvs) = none := rfl
theorem asD_obj {A : AH} {C : Addr} {fs : List (Str × D)} : asD A (.obj C fs) = none := rfl
theorem asD_exc {A : AH} {a : Addr} {dd : Addr} {C : Addr} {fs : List (Str × D)} : asD A (.exc a dd C fs) = none := rfl
theorem asO_non {A : AH}  : asO A .non = none := rfl
theorem asO_bl {A : AH} {b : Bool} : asO A (.bl b) = none := rfl
theorem asO_int {A : AH} {i : Int} : asO A (.int i) = none := rfl
theorem asO_str {A : AH} {x : Str} : asO A (.str x) = none := rfl
theorem asO_ty {A : AH} {n : String} : asO A (.ty n) = none := rfl
theorem asO_ref {A : AH} {a : Addr} : asO A (.ref a) = insO (A a) := by unfold asO insO; rfl
theorem asO_tup {A : AH} {xs : List D} : asO A (.tup xs) = none := rfl
theorem asO_lst {A : AH} {xs : List D} : asO A (.lst xs) = none := rfl
theorem asO_rol {A : AH} {xs : List D} : asO A (.rol xs) = none := rfl
theorem asO_dct {A : AH} {kvs : List (D × D)} : asO A (.dct kvs) = none := rfl
theorem asO_dtt {A : AH} {kvs : List (D × D)} : asO A (.dtt kvs) = none := rfl
theorem asO_obj {A : AH} {C : Addr} {fs : List (Str × D)} : asO A (.obj C fs) = some (C, fs) := rfl
theorem asO_exc {A : AH} {a : Addr} {dd : Addr} {C : Addr} {fs : List (Str × D)} : asO A (.exc a dd C fs) = none := rfl
theorem asQ_non {A : AH}  : asQ A .non = none := rfl
theorem asQ_bl {A : AH} {b : Bool} : asQ A (.bl b) = none := rfl
theorem asQ_int {A : AH} {i : Int} : asQ A (.int i) = none := rfl
theorem asQ_str {A : AH} {x : Str} : asQ A (.str x) = none := rfl
theorem asQ_ty {A : AH} {n : String} : asQ A (.ty n) = none := rfl
theorem asQ_ref {A : AH} {a : Addr} : asQ A (.ref a) = lstO (A a) := by unfold asQ; show (match lstO (A a) with | some xs => some xs | none => none) = lstO (A a); cases lstO (A a) <;> rfl
theorem asQ_tup {A : AH} {xs : List D} : asQ A (.tup xs) = some xs := rfl
theorem asQ_lst {A : AH} {xs : List D} : asQ A (.lst xs) = some xs := rfl
theorem asQ_rol {A : AH} {xs : List D} : asQ A (.rol xs) = some xs := rfl
theorem asQ_dct {A : AH} {kvs : List (D × D)} : asQ A (.dct kvs) = none := rfl
theorem asQ_dtt {A : AH} {kvs : List (D × D)} : asQ A (.dtt kvs) = none := rfl
theorem asQ_obj {A : AH} {C : Addr} {fs : List (Str × D)} : asQ A (.obj C fs) = none := rfl
theorem asQ_exc {A : AH} {a : Addr} {dd : Addr} {C : Addr} {fs : List (Str × D)} : asQ A (.exc a dd C fs) = none := rfl
theorem isNoD_non  : isNoD .non = true := rfl
theorem isNoD_bl {b : Bool} : isNoD (.bl b) = false := rfl
theorem isNoD_int {i : Int} : isNoD (.int i) = false := rfl
theorem isNoD_str {x : Str} : isNoD (.str x) = false := rfl
theorem isNoD_ty {n : String} : isNoD (.ty n) = false := rfl
theorem isNoD_ref {a : Addr} : isNoD (.ref a) = false := rfl
theorem isNoD_tup {xs : List D} : isNoD (.tup xs) = false := rfl
theorem isNoD_lst {xs : List D} : isNoD (.lst xs) = false := rfl
theorem isNoD_rol {xs : List D} : isNoD (.rol xs) = false := rfl
theorem isNoD_dct {kvs : List (D × D)} : isNoD (.dct kvs) = false := rfl
theorem isNoD_dtt {kvs : List (D × D)} : isNoD (.dtt kvs) = false := rfl
theorem isNoD_obj {C : Addr} {fs : List (Str × D)} : isNoD (.obj C fs) = false := rfl
theorem isNoD_exc {a : Addr} {dd : Addr} {C : Addr} {fs : List (Str × D)} : isNoD (.exc a dd C fs) = false := rfl
theorem scD_non  : scD .non = some .non := rfl
theorem scD_bl {b : Bool} : scD (.bl b) = some (.bl b) := rfl
theorem scD_int {i : Int} : scD (.int i) = some (.int i) := rfl
theorem scD_str {x : Str} : scD (.str x) = some (.str x) := rfl
theorem scD_ty {n : String} : scD (.ty n) = none := rfl
theorem scD_ref {a : Addr} : scD (.ref a) = none := rfl
theorem scD_tup {xs : List D} : scD (.tup xs) = none := rfl
theorem scD_lst {xs : List D} : scD (.lst xs) = none := rfl
theorem scD_rol {xs : List D} : scD (.rol xs) = none := rfl
theorem scD_dct {kvs : List (D × D)} : scD (.dct kvs) = none := rfl
theorem scD_dtt {kvs : List (D × D)} : scD (.dtt kvs) = none := rfl
theorem scD_obj {C : Addr} {fs : List (Str × D)} : scD (.obj C fs) = none := rfl
theorem scD_exc {a : Addr} {dd : Addr} {C : Addr} {fs : List (Str × D)} : scD (.exc a dd C fs) = none := rfl
theorem keyOf_non  : keyOf .non = none := rfl
theorem keyOf_bl {b : Bool} : keyOf (.bl b) = none := rfl
theorem keyOf_int {i : Int} : keyOf (.int i) = some (.inl i) := rfl
theorem keyOf_str {x : Str} : keyOf (.str x) = some (.inr x) := rfl
theorem keyOf_ty {n : String} : keyOf (.ty n) = none := rfl
theorem keyOf_ref {a : Addr} : keyOf (.ref a) = none := rfl
theorem keyOf_tup {xs : List D} : keyOf (.tup xs) = none := rfl
theorem keyOf_lst {xs : List D} : keyOf (.lst xs) = none := rfl
theorem keyOf_rol {xs : List D} : keyOf (.rol xs) = none := rfl
theorem keyOf_dct {kvs : List (D × D)} : keyOf (.dct kvs) = none := rfl
theorem keyOf_dtt {kvs : List (D × D)} : keyOf (.dtt kvs) = none := rfl
theorem keyOf_obj {C : Addr} {fs : List (Str × D)} : keyOf (.obj C fs) = none := rfl
theorem keyOf_exc {a : Addr} {dd : Addr} {C : Addr} {fs : List (Str × D)} : keyOf (.exc a dd C fs) = none := rfl
theorem kdD_non {A : AH}  : kdD A .non = "NoneType" := rfl
theorem kdD_bl {A : AH} {b : Bool} : kdD A (.bl b) = "bool" := rfl
theorem kdD_int {A : AH} {i : Int} : kdD A (.int i) = "int" := rfl
theorem kdD_str {A : AH} {x : Str} : kdD A (.str x) = "str" := rfl
theorem kdD_ty {A : AH} {n : String} : kdD A (.ty n) = "?" := rfl
theorem kdD_ref {A : AH} {a : Addr} : kdD A (.ref a) = kdOO (A a) := by unfold kdD kdOO; rfl
theorem kdD_tup {A : AH} {xs : List D} : kdD A (.tup xs) = "tuple" := rfl
theorem kdD_lst {A : AH} {xs : List D} : kdD A (.lst xs) = "list" := rfl
theorem kdD_rol {A : AH} {xs : List D} : kdD A (.rol xs) = "?" := rfl
theorem kdD_dct {A : AH} {kvs : List (D × D)} : kdD A (.dct kvs) = "dict" := rfl
theorem kdD_dtt {A : AH} {kvs : List (D × D)} : kdD A (.dtt kvs) = "?" := rfl
theorem kdD_obj {A : AH} {C : Addr} {fs : List (Str × D)} : kdD A (.obj C fs) = "?" := rfl
theorem kdD_exc {A : AH} {a : Addr} {dd : Addr} {C : Addr} {fs : List (Str × D)} : kdD A (.exc a dd C fs) = "?" := rfl
theorem topP_non {A : AH}  : topP A .non = toP .non := rfl
theorem topP_bl {A : AH} {b : Bool} : topP A (.bl b) = toP (.bl b) := rfl
theorem topP_int {A : AH} {i : Int} : topP A (.int i) = toP (.int i) := rfl
theorem topP_str {A : AH} {x : Str} : topP A (.str x) = toP (.str x) := rfl
theorem topP_ty {A : AH} {n : String} : topP A (.ty n) = toP (.ty n) := rfl
theorem topP_ref {A : AH} {a : Addr} : topP A (.ref a) = topO (A a) := by unfold topP topO; rfl
theorem topP_tup {A : AH} {xs : List D} : topP A (.tup xs) = toP (.tup xs) := rfl
theorem topP_lst {A : AH} {xs : List D} : topP A (.lst xs) = toP (.lst xs) := rfl
theorem topP_rol {A : AH} {xs : List D} : topP A (.rol xs) = toP (.rol xs) := rfl
theorem topP_dct {A : AH} {kvs : List (D × D)} : topP A (.dct kvs) = toP (.dct kvs) := rfl
theorem topP_dtt {A : AH} {kvs : List (D × D)} : topP A (.dtt kvs) = toP (.dtt kvs) := rfl
theorem topP_obj {A : AH} {C : Addr} {fs : List (Str × D)} : topP A (.obj C fs) = toP (.obj C fs) := rfl
theorem topP_exc {A : AH} {a : Addr} {dd : Addr} {C : Addr} {fs : List (Str × D)} : topP A (.exc a dd C fs) = toP (.exc a dd C fs) := rfl
theorem keyEq_ii {i j : Int} : keyEq (.int i) (.int j) = decide (i = j) := by rw [keyEq]
theorem keyEq_ss {x y : Str} : keyEq (.str x) (.str y) = decide (x = y) := by rw [keyEq]
theorem keyEq_is {i : Int} {y : Str} : keyEq (.int i) (.str y) = false := by rw [keyEq] <;> simp
theorem keyEq_si {i : Int} {y : Str} : keyEq (.str y) (.int i) = false := by rw [keyEq] <;> simp
end Av

set_option Elab.async false
set_option linter.all false
set_option maxRecDepth 100000
set_option maxHeartbeats 4000000
/-! own library Av, part 13: the readings as rules that are used from the outside inwards (written by mk13.py) -/
namespace Av
open PySem PySem.Spec PyProof.Rows L2 My
/-- there is a value, and then -/
def oK {α : Type} (o : Option α) (k : α → Prop) (_ : Tag k) : Prop := ∃ x, o = some x ∧ k x
theorem oK_some {α : Type} {x : α} {k : α → Prop} {w : Tag k} : oK (some x) k w = k x := by simp [oK]
theorem oK_none {α : Type} {k : α → Prop} {w : Tag k} : oK none k w = False := by simp [oK]
theorem oK_mk {α : Type} {o : Option α} {x : α} {k : α → Prop} {w : Tag k} (h : o = some x) (q : k x) : oK o k w := ⟨x, h, q⟩
theorem Call.mk {asp : ASp} {ds : List D} {A : AH} {Q : AQ} {E : AX} (h : asp ds A Q E) : Call asp ds A Q E ⟨⟩ := h
def Loop (gd : AH → Prop) (p : Pat) (tb : AS) (N : AEnds) (ds : List D) (δ : ASt) (A : AH) (_ : Tag (gd, tb, N)) : Prop := aLoop gd p tb N ds δ A
def LoopC (gd : AH → Prop) (p : Pat) (tt : AT) (te : AE) (δ : ASt) (ds acc : List D) (A : AH) (Q : List D → AH → Prop) (_ : Tag (gd, tt, te, Q)) : Prop := aComp gd p tt te δ ds acc A Q
def While (c : AT) (tb : AS) (N : AEnds) (δ : ASt) (A : AH) (_ : Tag (c, tb, N)) : Prop := aWhile c tb N δ A
def bindK (p : Pat) (d : D) (δ : ASt) (k : ASt → Prop) : Prop := ∃ δ', bindP p d δ = some δ' ∧ k δ'
def bindKs (p : List Pat) (d : List D) (δ : ASt) (k : ASt → Prop) : Prop := ∃ δ', bindPs p d δ = some δ' ∧ k δ'
theorem bindK_nm {i : Nat} {d : D} {δ : ASt} {k : ASt → Prop} : bindK (.nm i) d δ k = k (δ.set i (some d)) := by simp [bindK, bindP]
theorem bindK_tp {ps : List Pat} {ds : List D} {δ : ASt} {k : ASt → Prop} : bindK (.tp ps) (.tup ds) δ k = bindKs ps ds δ k := by simp [bindK, bindKs, bindP]
theorem bindKs_nil {δ : ASt} {k : ASt → Prop} : bindKs [] [] δ k = k δ := by simp [bindKs, bindPs]
theorem bindKs_cons {p : Pat} {ps : List Pat} {d : D} {ds : List D} {δ : ASt} {k : ASt → Prop} : bindKs (p :: ps) (d :: ds) δ k = bindK p d δ (fun δ' => bindKs ps ds δ' k) := by
  apply propext
  simp only [bindKs, bindK, bindPs]
  constructor
  · rintro ⟨δ', h, q⟩
    split at h
    · rename_i δ1 e; exact ⟨δ1, e, δ', h, q⟩
    · cases h
  · rintro ⟨δ1, e, δ', h, q⟩
    exact ⟨δ', by rw [e]; exact h, q⟩
def truK (A : AH) (d : D) (k : Bool → Prop) : Prop := lenOk d ∧ ∃ b, truD A d = some b ∧ k b
def oneK (ds : List D) (k : D → Prop) : Prop := ∃ v, ds = [v] ∧ k v
theorem oneK_eq {d : D} {k : D → Prop} : oneK [d] k = k d := by simp [oneK]
def twoK (ds : List D) (k : D → D → Prop) : Prop := ∃ v u, ds = [v, u] ∧ k v u
theorem twoK_eq {d e : D} {k : D → D → Prop} : twoK [d, e] k = k d e := by
  apply propext; constructor
  · rintro ⟨v, u, h, q⟩; cases h; exact q
  · intro h; exact ⟨d, e, rfl, h⟩
def ch1 : D → Option Nat
  | .str ⟨⟨[c]⟩⟩ => some c
  | _ => none
theorem ch1_str {c : Nat} : ch1 (.str ⟨#[c]⟩) = some c := rfl
theorem ch1_some {x : D} {c : Nat} (h : ch1 x = some c) : x = .str ⟨#[c]⟩ := by
  unfold ch1 at h
  split at h
  · cases h; rfl
  · cases h
theorem lstO_some {ob : Option AO} {xs : List D} (h : lstO ob = some xs) : ob = some (.lst xs) := by
  cases ob with
  | none => cases h
  | some u => cases u <;> cases h; rfl
theorem dctO_some {ob : Option AO} {xs : List (D × D)} (h : dctO ob = some xs) : ob = some (.dct xs) := by
  cases ob with
  | none => cases h
  | some u => cases u <;> cases h; rfl
section
variable {A : AH} {Q : AQ} {E : AX} {δ : ASt} {N : AEnds} {k : Bool → Prop}
theorem truK_non  : truK A .non k = k false := by simp [truK, lenOk, truD]
theorem truK_bl {b : Bool} : truK A (.bl b) k = k b := by simp [truK, lenOk, truD]
theorem truK_int {i : Int} : truK A (.int i) k = k (i != 0) := by simp [truK, lenOk, truD]
theorem truK_str {x : Str} : truK A (.str x) k = (x.length ≤ sizeLine ∧ k ((x.length : Int) != 0)) := by simp [truK, lenOk, truD]
theorem truK_tup {xs : List D} : truK A (.tup xs) k = k (!xs.isEmpty) := by
  apply propext
  constructor
  · rintro ⟨_, b, e, h⟩; cases e; exact h
  · intro h; exact ⟨trivial, _, rfl, h⟩
theorem truK_lst {xs : List D} : truK A (.lst xs) k = k (!xs.isEmpty) := by
  apply propext
  constructor
  · rintro ⟨_, b, e, h⟩; cases e; exact h
  · intro h; exact ⟨trivial, _, rfl, h⟩
theorem truK_ref {a : Addr} : truK A (.ref a) k = oK (truO (A a)) k ⟨⟩ := by simp only [truK, lenOk, truD_ref, true_and, oK]
theorem aSeq_eq {t u : AS} : aSeq t u N δ A = t { N with nx := u N } δ A := rfl
theorem aNext_eq  : aNext N δ A = N.nx δ A := rfl
theorem aBrk_eq  : aBrk N δ A = N.bk δ A := rfl
theorem aCont_eq  : aCont N δ A = N.ct δ A := rfl
theorem aDrop_eq {te : AE} : aDrop te N δ A = te δ A (fun _ A1 => N.nx δ A1) (fun C fs A1 => N.ex C fs δ A1) := rfl
theorem aRet_eq {te : AE} : aRet te N δ A = te δ A (fun d A1 => N.rt d A1) (fun C fs A1 => N.ex C fs δ A1) := rfl
theorem aRetN_eq  : aRetN N δ A = N.rt .non A := rfl
theorem aIfS_eq {c : AT} {t u : AS} : aIfS c t u N δ A = c δ A (fun b A1 => if b = true then t N δ A1 else u N δ A1) (fun C fs A1 => N.ex C fs δ A1) := rfl
theorem aAsg_eq {te : AE} {p : Pat} : aAsg te p N δ A = te δ A (fun d A1 => bindK p d δ (fun δ' => N.nx δ' A1)) (fun C fs A1 => N.ex C fs δ A1) := rfl
theorem aPar_eq {is : List Nat} {t : AA} : aPar is t N δ A = t δ A (fun ds A1 => bindKs (is.map .nm) ds δ (fun δ' => N.nx δ' A1)) (fun C fs A1 => N.ex C fs δ A1) := rfl
theorem aFor_eq {ti : AI} {p : Pat} {tb : AS} : aFor ti p tb N δ A = ti δ A (fun i A1 => Loop i.1 p tb N i.2 δ A1 ⟨⟩) (fun C fs A1 => N.ex C fs δ A1) := rfl
theorem aVar_0 {d : D} : aVar 0 (some d :: δ) A Q E = Q d A := by simp [aVar]
theorem aVar_s {d : Option D} {i : Nat} : aVar (i + 1) (d :: δ) A Q E = aVar i δ A Q E := by simp [aVar]
theorem aC_eq {d : D} : aC d δ A Q E = Q d A := rfl
theorem aOp_eq {g : G2} {ta tb : AE} : aOp g ta tb δ A Q E = ta δ A (fun x A1 => tb δ A1 (fun y A2 => g x y A2 Q E) E) E := rfl
theorem aUn_eq {g : G1} {ta : AE} : aUn g ta δ A Q E = ta δ A (fun x A1 => g x A1 Q E) E := rfl
def blK (d : D) (k : Bool → Prop) : Prop := ∃ c, d = .bl c ∧ k c
theorem blK_bl {b : Bool} : blK (.bl b) k = k b := by simp [blK]
theorem aB_eq {t : AE} {Q : Bool → AH → Prop} : aB t δ A Q E = t δ A (fun x A1 => blK x (fun c => Q c A1)) E := rfl
theorem aTru_eq {t : AE} {Q : Bool → AH → Prop} : aTru t δ A Q E = t δ A (fun x A1 => truK A1 x (fun c => Q c A1)) E := rfl
theorem aOrV_eq {ta tb : AE} : aOrV ta tb δ A Q E = ta δ A (fun x A1 => truK A1 x (fun b => if b = true then Q x A1 else tb δ A1 Q E)) E := rfl
theorem aAndV_eq {ta tb : AE} : aAndV ta tb δ A Q E = ta δ A (fun x A1 => truK A1 x (fun b => if b = true then tb δ A1 Q E else Q x A1)) E := rfl
theorem aNotV_eq {ta : AE} : aNotV ta δ A Q E = ta δ A (fun x A1 => truK A1 x (fun b => Q (.bl (!b)) A1)) E := rfl
theorem aAnd_eq {t u : AT} {Q : Bool → AH → Prop} : aAnd t u δ A Q E = t δ A (fun c A1 => if c = true then u δ A1 Q E else Q false A1) E := rfl
theorem aOr_eq {t u : AT} {Q : Bool → AH → Prop} : aOr t u δ A Q E = t δ A (fun c A1 => if c = true then Q true A1 else u δ A1 Q E) E := rfl
theorem aNot_eq {t : AT} {Q : Bool → AH → Prop} : aNot t δ A Q E = t δ A (fun c A1 => Q (!c) A1) E := rfl
theorem aYes_eq {Q : Bool → AH → Prop} : aYes δ A Q E = Q true A := rfl
theorem aIf_eq {t : AT} {ta tb : AE} : aIf t ta tb δ A Q E = t δ A (fun c A1 => if c = true then ta δ A1 Q E else tb δ A1 Q E) E := rfl
theorem aNil_eq {Q : List D → AH → Prop} : aNil δ A Q E = Q [] A := rfl
theorem aCons_eq {te : AE} {t : AA} {Q : List D → AH → Prop} : aCons te t δ A Q E = te δ A (fun x A1 => t δ A1 (fun xs A2 => Q (x :: xs) A2) E) E := rfl
theorem aTup_eq {t : AA} : aTup t δ A Q E = t δ A (fun xs A1 => xs.length ≤ sizeLine ∧ Q (.tup xs) A1) E := rfl
theorem aLst_eq {live : Bool} {t : AA} : aLst live t δ A Q E = t δ A (fun xs A1 => xs.length ≤ sizeLine ∧ aNew live (.lst xs) A1 Q) E := rfl
theorem aNew_t {ob : AO} : aNew true ob A Q = (∀ p, A p = none → Q (.ref p) (put A p ob)) := rfl
theorem aNew_f {ob : AO} : aNew false ob A Q = Q (frz ob) A := rfl
theorem frz_lst {xs : List D} : frz (.lst xs) = .lst xs := rfl
theorem frz_dct {xs : List (D × D)} : frz (.dct xs) = .dct xs := rfl
theorem frz_ins {C : Addr} {fs : List (Str × D)} : frz (.ins C fs) = .obj C fs := rfl
theorem aCB_eq {g : GA} {t : AA} : aCB g t δ A Q E = t δ A (fun xs A1 => g xs A1 Q E) E := rfl
theorem aCall_eq {g : ASp} {t : AA} : aCall g t δ A Q E = t δ A (fun xs A1 => Call g xs A1 Q E ⟨⟩) E := rfl
theorem aMeth_eq {C : Addr} {m : Str} {asp : ASp} {ta : AE} {t : AA} : aMeth C m asp ta t δ A Q E = ta δ A (fun x A1 => oK (asO A1 x) (fun z => z.1 = C ∧ z.2.lookup m = none ∧ t δ A1 (fun ds A2 => Call asp (x :: ds) A2 Q E ⟨⟩) E) ⟨⟩) E := by
  unfold aMeth
  congr 1
  funext x A1
  apply propext
  constructor
  · rintro ⟨⟨fs, e1, e2⟩, h⟩; exact ⟨(C, fs), e1, rfl, e2, h⟩
  · rintro ⟨⟨C', fs⟩, e1, rfl, e2, h⟩; exact ⟨⟨fs, e1, e2⟩, h⟩
theorem aProp_eq {C : Addr} {asp : ASp} {ta : AE} : aProp C asp ta δ A Q E = ta δ A (fun x A1 => oK (asO A1 x) (fun z => z.1 = C ∧ Call asp [x] A1 Q E ⟨⟩) ⟨⟩) E := by
  unfold aProp
  congr 1
  funext x A1
  apply propext
  constructor
  · rintro ⟨⟨fs, e1⟩, h⟩; exact ⟨(C, fs), e1, rfl, h⟩
  · rintro ⟨⟨C', fs⟩, e1, rfl, h⟩; exact ⟨⟨fs, e1⟩, h⟩
theorem aFld_eq {K : PySem.W.Frag} {f : Str} {ta : AE} : aFld K f ta δ A Q E = ta δ A (fun x A1 => oK (asO A1 x) (fun z => Cls K z.1 ∧ NoAttr K z.1 f ∧ oK (z.2.lookup f) (fun v => Q v A1) ⟨⟩) ⟨⟩) E := by
  unfold aFld
  congr 1
  funext x A1
  apply propext
  constructor
  · rintro ⟨C, fs, v, e1, e2, e3, e4, h⟩; exact ⟨(C, fs), e1, e2, e3, v, e4, h⟩
  · rintro ⟨⟨C, fs⟩, e1, e2, e3, v, e4, h⟩; exact ⟨C, fs, v, e1, e2, e3, e4, h⟩
def refK (d : D) (k : Addr → Prop) : Prop := ∃ a, d = .ref a ∧ k a
theorem refK_ref {a : Addr} {k : Addr → Prop} : refK (.ref a) k = k a := by simp [refK]
theorem aSetFld_eq {K : PySem.W.Frag} {f : Str} {ta tv : AE} : aSetFld K f ta tv N δ A = tv δ A (fun y A1 => ta δ A1 (fun x A2 => refK x (fun a => oK (insO (A2 a)) (fun z => Cls K z.1 ∧ NoAttr K z.1 f ∧ z.2.length < 1000 ∧ N.nx δ (put A2 a (.ins z.1 (putFA f y z.2)))) ⟨⟩)) (fun C fs A1 => N.ex C fs δ A1)) (fun C fs A1 => N.ex C fs δ A1) := by
  unfold aSetFld
  congr 1
  funext y A1
  congr 1
  funext x A2
  apply propext
  constructor
  · rintro ⟨a, C, fs, rfl, e1, e2, e3, e4, h⟩; exact ⟨a, rfl, (C, fs), by rw [e1]; rfl, e2, e3, e4, h⟩
  · rintro ⟨a, rfl, ⟨C, fs⟩, e1, e2, e3, e4, h⟩
    refine ⟨a, C, fs, rfl, ?_, e2, e3, e4, h⟩
    cases q : A2 a with
    | none => rw [q] at e1; cases e1
    | some u => rw [q] at e1; cases u <;> cases e1; rfl
theorem aRaise_eq {C : Addr} {fl : Str} {t : AA} : aRaise C fl t N δ A = t δ A (fun ds A1 => oneK ds (fun v => N.ex C [(fl, v)] δ A1)) (fun C fs A1 => N.ex C fs δ A1) := rfl
theorem aMake_t {C : Addr} {asp : ASp} {t : AA} : aMake true C asp t δ A Q E = t δ A (fun ds A1 => ∀ x, A1 x = none → Call asp (.ref x :: ds) (put A1 x (.ins C [])) (fun d A2 => d = .non ∧ Q (.ref x) A2) E ⟨⟩) E := rfl
theorem aMake_f {C : Addr} {asp : ASp} {t : AA} : aMake false C asp t δ A Q E = t δ A (fun ds A1 => ∀ x, A1 x = none → Call asp (.ref x :: ds) (put A1 x (.ins C [])) (fun d A2 => d = .non ∧ ∃ fs, A2 x = some (.ins C fs) ∧ Q (.obj C fs) (del A2 x)) E ⟨⟩) E := rfl
theorem aItL_eq {te : AE} {Q : IA → AH → Prop} : aItL te δ A Q E = te δ A (fun d A1 => oK (asL A1 d) (fun xs => Q (fun A => asL A d = some xs, xs) A1) ⟨⟩) E := rfl
theorem aItT_eq {te : AE} {Q : IA → AH → Prop} : aItT te δ A Q E = te δ A (fun d A1 => oK (asT d) (fun xs => Q (fun _ => True, xs) A1) ⟨⟩) E := rfl
def intK (d : D) (k : Int → Prop) : Prop := ∃ i, d = .int i ∧ k i
theorem intK_int {i : Int} {k : Int → Prop} : intK (.int i) k = k i := by simp [intK]
theorem aRng1_eq {t : AA} {Q : IA → AH → Prop} : aRng1 t δ A Q E = t δ A (fun ds A1 => oneK ds (fun d => intK d (fun j => -(2 ^ 62) ≤ j ∧ j < 2 ^ 62 ∧ Q (fun _ => True, rngL 0 j.toNat) A1))) E := by
  unfold aRng1
  congr 1
  funext ds A1
  apply propext
  constructor
  · rintro ⟨j, rfl, h⟩; exact ⟨_, rfl, j, rfl, h⟩
  · rintro ⟨_, rfl, j, rfl, h⟩; exact ⟨j, rfl, h⟩
theorem aRng2_eq {t : AA} {Q : IA → AH → Prop} : aRng2 t δ A Q E = t δ A (fun ds A1 => twoK ds (fun d e => intK d (fun i => intK e (fun j => (-(2 ^ 62) ≤ i ∧ i < 2 ^ 62 ∧ -(2 ^ 62) ≤ j ∧ j < 2 ^ 62) ∧ Q (fun _ => True, rngL i (j - i).toNat) A1)))) E := by
  unfold aRng2
  congr 1
  funext ds A1
  apply propext
  constructor
  · rintro ⟨i, j, rfl, h⟩; exact ⟨_, _, rfl, i, rfl, j, rfl, h⟩
  · rintro ⟨_, _, rfl, i, rfl, j, rfl, h⟩; exact ⟨i, j, rfl, h⟩
theorem aEnum_eq {t : AA} {Q : IA → AH → Prop} : aEnum t δ A Q E = t δ A (fun ds A1 => oneK ds (fun d => oK (asL A1 d) (fun xs => Q (fun A => asL A d = some xs, enumL xs) A1) ⟨⟩)) E := by
  unfold aEnum
  congr 1
  funext ds A1
  apply propext
  constructor
  · rintro ⟨d, xs, rfl, e, h⟩; exact ⟨_, rfl, xs, e, h⟩
  · rintro ⟨d, rfl, xs, e, h⟩; exact ⟨d, xs, rfl, e, h⟩
theorem aZip_eq {t : AA} {Q : IA → AH → Prop} : aZip t δ A Q E = t δ A (fun ds A1 => twoK ds (fun d e => oK (asL A1 d) (fun xs => oK (asL A1 e) (fun ys => Q (fun A => asL A d = some xs ∧ asL A e = some ys, zipL xs ys) A1) ⟨⟩) ⟨⟩)) E := by
  unfold aZip
  congr 1
  funext ds A1
  apply propext
  constructor
  · rintro ⟨d, e, xs, ys, rfl, e1, e2, h⟩; exact ⟨_, _, rfl, xs, e1, ys, e2, h⟩
  · rintro ⟨d, e, rfl, xs, e1, ys, e2, h⟩; exact ⟨d, e, xs, ys, rfl, e1, e2, h⟩
theorem aZipA_eq {t : AA} {Q : IA → AH → Prop} : aZipA t δ A Q E = t δ A (fun ds A1 => twoK ds (fun d e => zipK A1 d e (fun i => Q i A1))) E := rfl
theorem zipK_l {xs ys : List D} {k : IA → Prop} : zipK A (.lst xs) (.lst ys) k = k (fun A => asL A (.lst xs) = some xs ∧ asL A (.lst ys) = some ys, zipL xs ys) := by
  apply propext
  constructor
  · rintro (⟨_, _, h1, h2, h3⟩ | ⟨_, _, h1, _⟩)
    · cases h1; cases h2; exact h3
    · cases h1
  · intro h; exact .inl ⟨_, _, rfl, rfl, h⟩
theorem zipK_t {xs ys : List D} {k : IA → Prop} : zipK A (.tup xs) (.tup ys) k = k (fun _ => True, zipL xs ys) := by
  apply propext
  constructor
  · rintro (⟨_, _, h1, h2, h3⟩ | ⟨_, _, h1, h2, h3⟩)
    · cases h1
    · cases h1; cases h2; exact h3
  · intro h; exact .inr ⟨_, _, rfl, rfl, h⟩
def strK (d : D) (k : Str → Prop) : Prop := ∃ i, d = .str i ∧ k i
theorem strK_str {i : Str} {k : Str → Prop} : strK (.str i) k = k i := by simp [strK]
theorem aItS_eq {te : AE} {Q : IA → AH → Prop} : aItS te δ A Q E = te δ A (fun d A1 => strK d (fun x => Q (fun _ => True, chL x) A1)) E := rfl
theorem aLc_eq {live : Bool} {ti : AI} {p : Pat} {tt : AT} {te : AE} {vs : List Nat} : aLc live ti p tt te vs δ A Q E = ti δ A (fun i A1 => LoopC i.1 p tt te (wipeA δ vs) i.2 [] A1 (fun xs A2 => aNew live (.lst xs) A2 Q) ⟨⟩) E := rfl
theorem aTry_eq {K : PySem.W.Frag} {tb : AS} {l : List ACl} : aTry K tb l N δ A = tb { N with ex := fun C fs δ A => aHandle K N l C fs δ A } δ A := rfl
theorem aFldX_eq {a dd C CC : Addr} {fl : Str} {te : AE} : aFldX a dd C CC fl te δ A Q E = te δ A (fun x A1 => ∃ v, x = .exc a dd C [(fl, v)] ∧ C = CC ∧ Q v A1) E := rfl
theorem gI_eq {c : Int → Int → Prop} {g : Int → Int → D} {i j : Int} : gI c g (.int i) (.int j) A Q E = (c i j ∧ Q (g i j) A) := by simp [gI]
theorem gI0_eq {g : Int → Int → D} {i j : Int} : gI0 g (.int i) (.int j) A Q E = (Q (g i j) A) := by simp [gI0]
theorem gAdd_i {l : Bool} {i j : Int} : gAdd l (.int i) (.int j) A Q E = Q (.int (i + j)) A := by apply propext; simp [gAdd, gOr, gI0, gCatS, gCatL, gCatT, asX, oK, lstO]
theorem gAdd_s {l : Bool} {i j : Str} : gAdd l (.str i) (.str j) A Q E = (i.length + j.length ≤ sizeLine ∧ Q (.str (i ++ j)) A) := by apply propext; simp [gAdd, gOr, gI0, gCatS, gCatL, gCatT, asX, oK, lstO]
theorem gAdd_t {l : Bool} {i j : List D} : gAdd l (.tup i) (.tup j) A Q E = (i.length + j.length ≤ sizeLine ∧ Q (.tup (i ++ j)) A) := by apply propext; simp [gAdd, gOr, gI0, gCatS, gCatL, gCatT, asX, oK, lstO]
theorem gAdd_l {l : Bool} {i j : List D} : gAdd l (.lst i) (.lst j) A Q E = (i.length + j.length ≤ sizeLine ∧ aNew l (.lst (i ++ j)) A Q) := by apply propext; simp [gAdd, gOr, gI0, gCatS, gCatL, gCatT, asX, oK, lstO]
theorem gAdd_rl {l : Bool} {a : Addr} {j : List D} : gAdd l (.ref a) (.lst j) A Q E = oK (lstO (A a)) (fun i => i.length + j.length ≤ sizeLine ∧ aNew l (.lst (i ++ j)) A Q) ⟨⟩ := by
  apply propext
  simp only [gAdd, gOr, gI0, gCatS, gCatL, gCatT, asX_ref, asX_lst, oK, reduceCtorEq, false_and, exists_false, exists_const, false_or, or_false, Option.some.injEq, exists_and_left, exists_eq_left']
theorem gAdd_lr {l : Bool} {a : Addr} {i : List D} : gAdd l (.lst i) (.ref a) A Q E = oK (lstO (A a)) (fun j => i.length + j.length ≤ sizeLine ∧ aNew l (.lst (i ++ j)) A Q) ⟨⟩ := by
  apply propext
  simp only [gAdd, gOr, gI0, gCatS, gCatL, gCatT, asX_ref, asX_lst, oK, reduceCtorEq, false_and, exists_false, exists_const, false_or, or_false, Option.some.injEq, exists_and_left, exists_eq_left']
theorem gAdd_rr {l : Bool} {a b : Addr} : gAdd l (.ref a) (.ref b) A Q E = oK (lstO (A a)) (fun i => oK (lstO (A b)) (fun j => i.length + j.length ≤ sizeLine ∧ aNew l (.lst (i ++ j)) A Q) ⟨⟩) ⟨⟩ := by
  apply propext
  simp only [gAdd, gOr, gI0, gCatS, gCatL, gCatT, asX_ref, asX_lst, oK, reduceCtorEq, false_and, exists_false, exists_const, false_or, or_false, Option.some.injEq, exists_and_left, exists_eq_left']
theorem gMul_i {l : Bool} {i j : Int} : gMul l (.int i) (.int j) A Q E = (CMulW i j ∧ Q (.int (i * j)) A) := by apply propext; simp [gMul, gOr, gI, gRep, asX]
theorem gMul_l {l : Bool} {xs : List D} {j : Int} : gMul l (.lst xs) (.int j) A Q E = (-(2 ^ 63) ≤ j ∧ j < 2 ^ 63 ∧ xs.length * j.toNat ≤ sizeLine ∧ aNew l (.lst (List.replicate j.toNat xs).flatten) A Q) := by
  apply propext
  simp only [gMul, gOr, gI, gRep, asX_lst, reduceCtorEq, false_and, exists_false, exists_const, false_or, Option.some.injEq, D.int.injEq, exists_and_left, exists_eq_left']
theorem gNeg_eq {i : Int} : gNeg (.int i) A Q E = Q (.int (-i)) A := by simp [gNeg]
theorem gLt_i {i j : Int} : gLt (.int i) (.int j) A Q E = Q (.bl (decide (i < j))) A := by simp [gLt, gOr, gI0, gS]
theorem gLt_s {x y : Str} : gLt (.str x) (.str y) A Q E = Q (.bl (decide (x.cps.toList < y.cps.toList))) A := by simp [gLt, gOr, gI0, gS]
theorem gLe_i {i j : Int} : gLe (.int i) (.int j) A Q E = Q (.bl (decide (i ≤ j))) A := by simp [gLe, gOr, gI0, gS]
theorem gLe_s {x y : Str} : gLe (.str x) (.str y) A Q E = Q (.bl (!decide (y.cps.toList < x.cps.toList))) A := by simp [gLe, gOr, gI0, gS]
theorem gGt_i {i j : Int} : gGt (.int i) (.int j) A Q E = Q (.bl (decide (j < i))) A := by simp [gGt, gOr, gI0, gS]
theorem gGt_s {x y : Str} : gGt (.str x) (.str y) A Q E = Q (.bl (decide (y.cps.toList < x.cps.toList))) A := by simp [gGt, gOr, gI0, gS]
theorem gGe_i {i j : Int} : gGe (.int i) (.int j) A Q E = Q (.bl (decide (j ≤ i))) A := by simp [gGe, gOr, gI0, gS]
theorem gGe_s {x y : Str} : gGe (.str x) (.str y) A Q E = Q (.bl (!decide (x.cps.toList < y.cps.toList))) A := by simp [gGe, gOr, gI0, gS]
theorem gIs_f {x : D} : gIs false x .non A Q E = Q (.bl (isNoD x)) A := by simp [gIs]
theorem gIs_t {x : D} : gIs true x .non A Q E = Q (.bl (!isNoD x)) A := by simp [gIs]
theorem gEq_fii {i j : Int} : gEq false (.int i) (.int j) A Q E = Q (.bl (decide (i = j))) A := by simp [gEq, scD, scal]
theorem gEq_fss {i j : Str} : gEq false (.str i) (.str j) A Q E = Q (.bl (decide (i = j))) A := by simp [gEq, scD, scal]
theorem gEq_fbb {i j : Bool} : gEq false (.bl i) (.bl j) A Q E = Q (.bl (decide (i = j))) A := by simp [gEq, scD, scal]
theorem gEq_fnn  : gEq false .non .non A Q E = Q (.bl true) A := by simp [gEq, scD, scal]
theorem gEq_fns {j : Str} : gEq false .non (.str j) A Q E = Q (.bl false) A := by simp [gEq, scD, scal]
theorem gEq_fsn {j : Str} : gEq false (.str j) .non A Q E = Q (.bl false) A := by simp [gEq, scD, scal]
theorem gEq_fni {j : Int} : gEq false .non (.int j) A Q E = Q (.bl false) A := by simp [gEq, scD, scal]
theorem gEq_fin {j : Int} : gEq false (.int j) .non A Q E = Q (.bl false) A := by simp [gEq, scD, scal]
theorem gEq_fis {i : Int} {j : Str} : gEq false (.int i) (.str j) A Q E = Q (.bl false) A := by simp [gEq, scD, scal]
theorem gEq_fsi {i : Str} {j : Int} : gEq false (.str i) (.int j) A Q E = Q (.bl false) A := by simp [gEq, scD, scal]
theorem gEq_flstlst {xs : List D} {ys : List D} : gEq false (.lst xs) (.lst ys) A Q E = oK (topP A (.lst xs)) (fun d => oK (topP A (.lst ys)) (fun e => d.depth ≤ 64 ∧ e.depth ≤ 64 ∧ Q (.bl (PyData.eqv d e)) A) ⟨⟩) ⟨⟩ := by
  apply propext
  simp only [gEq, scD, gEqP, oK]
  constructor
  · rintro ⟨d, e, h1, h2, h3, h4, h5⟩; exact ⟨d, h1, e, h2, h3, h4, h5⟩
  · rintro ⟨d, h1, e, h2, h3, h4, h5⟩; exact ⟨d, e, h1, h2, h3, h4, h5⟩
theorem gEq_flsttup {xs : List D} {ys : List D} : gEq false (.lst xs) (.tup ys) A Q E = oK (topP A (.lst xs)) (fun d => oK (topP A (.tup ys)) (fun e => d.depth ≤ 64 ∧ e.depth ≤ 64 ∧ Q (.bl (PyData.eqv d e)) A) ⟨⟩) ⟨⟩ := by
  apply propext
  simp only [gEq, scD, gEqP, oK]
  constructor
  · rintro ⟨d, e, h1, h2, h3, h4, h5⟩; exact ⟨d, h1, e, h2, h3, h4, h5⟩
  · rintro ⟨d, h1, e, h2, h3, h4, h5⟩; exact ⟨d, e, h1, h2, h3, h4, h5⟩
theorem gEq_flstref {xs : List D} {b : Addr} : gEq false (.lst xs) (.ref b) A Q E = oK (topP A (.lst xs)) (fun d => oK (topP A (.ref b)) (fun e => d.depth ≤ 64 ∧ e.depth ≤ 64 ∧ Q (.bl (PyData.eqv d e)) A) ⟨⟩) ⟨⟩ := by
  apply propext
  simp only [gEq, scD, gEqP, oK]
  constructor
  · rintro ⟨d, e, h1, h2, h3, h4, h5⟩; exact ⟨d, h1, e, h2, h3, h4, h5⟩
  · rintro ⟨d, h1, e, h2, h3, h4, h5⟩; exact ⟨d, e, h1, h2, h3, h4, h5⟩
theorem gEq_ftuplst {xs : List D} {ys : List D} : gEq false (.tup xs) (.lst ys) A Q E = oK (topP A (.tup xs)) (fun d => oK (topP A (.lst ys)) (fun e => d.depth ≤ 64 ∧ e.depth ≤ 64 ∧ Q (.bl (PyData.eqv d e)) A) ⟨⟩) ⟨⟩ := by
  apply propext
  simp only [gEq, scD, gEqP, oK]
  constructor
  · rintro ⟨d, e, h1, h2, h3, h4, h5⟩; exact ⟨d, h1, e, h2, h3, h4, h5⟩
  · rintro ⟨d, h1, e, h2, h3, h4, h5⟩; exact ⟨d, e, h1, h2, h3, h4, h5⟩
theorem gEq_ftuptup {xs : List D} {ys : List D} : gEq false (.tup xs) (.tup ys) A Q E = oK (topP A (.tup xs)) (fun d => oK (topP A (.tup ys)) (fun e => d.depth ≤ 64 ∧ e.depth ≤ 64 ∧ Q (.bl (PyData.eqv d e)) A) ⟨⟩) ⟨⟩ := by
  apply propext
  simp only [gEq, scD, gEqP, oK]
  constructor
  · rintro ⟨d, e, h1, h2, h3, h4, h5⟩; exact ⟨d, h1, e, h2, h3, h4, h5⟩
  · rintro ⟨d, h1, e, h2, h3, h4, h5⟩; exact ⟨d, e, h1, h2, h3, h4, h5⟩
theorem gEq_ftupref {xs : List D} {b : Addr} : gEq false (.tup xs) (.ref b) A Q E = oK (topP A (.tup xs)) (fun d => oK (topP A (.ref b)) (fun e => d.depth ≤ 64 ∧ e.depth ≤ 64 ∧ Q (.bl (PyData.eqv d e)) A) ⟨⟩) ⟨⟩ := by
  apply propext
  simp only [gEq, scD, gEqP, oK]
  constructor
  · rintro ⟨d, e, h1, h2, h3, h4, h5⟩; exact ⟨d, h1, e, h2, h3, h4, h5⟩
  · rintro ⟨d, h1, e, h2, h3, h4, h5⟩; exact ⟨d, e, h1, h2, h3, h4, h5⟩
theorem gEq_freflst {a : Addr} {ys : List D} : gEq false (.ref a) (.lst ys) A Q E = oK (topP A (.ref a)) (fun d => oK (topP A (.lst ys)) (fun e => d.depth ≤ 64 ∧ e.depth ≤ 64 ∧ Q (.bl (PyData.eqv d e)) A) ⟨⟩) ⟨⟩ := by
  apply propext
  simp only [gEq, scD, gEqP, oK]
  constructor
  · rintro ⟨d, e, h1, h2, h3, h4, h5⟩; exact ⟨d, h1, e, h2, h3, h4, h5⟩
  · rintro ⟨d, h1, e, h2, h3, h4, h5⟩; exact ⟨d, e, h1, h2, h3, h4, h5⟩
theorem gEq_freftup {a : Addr} {ys : List D} : gEq false (.ref a) (.tup ys) A Q E = oK (topP A (.ref a)) (fun d => oK (topP A (.tup ys)) (fun e => d.depth ≤ 64 ∧ e.depth ≤ 64 ∧ Q (.bl (PyData.eqv d e)) A) ⟨⟩) ⟨⟩ := by
  apply propext
  simp only [gEq, scD, gEqP, oK]
  constructor
  · rintro ⟨d, e, h1, h2, h3, h4, h5⟩; exact ⟨d, h1, e, h2, h3, h4, h5⟩
  · rintro ⟨d, h1, e, h2, h3, h4, h5⟩; exact ⟨d, e, h1, h2, h3, h4, h5⟩
theorem gEq_frefref {a : Addr} {b : Addr} : gEq false (.ref a) (.ref b) A Q E = oK (topP A (.ref a)) (fun d => oK (topP A (.ref b)) (fun e => d.depth ≤ 64 ∧ e.depth ≤ 64 ∧ Q (.bl (PyData.eqv d e)) A) ⟨⟩) ⟨⟩ := by
  apply propext
  simp only [gEq, scD, gEqP, oK]
  constructor
  · rintro ⟨d, e, h1, h2, h3, h4, h5⟩; exact ⟨d, h1, e, h2, h3, h4, h5⟩
  · rintro ⟨d, h1, e, h2, h3, h4, h5⟩; exact ⟨d, e, h1, h2, h3, h4, h5⟩
theorem gIn_flst {x : D} {xs : List D} : gOr (gInQ false) (gInS false) x (.lst xs) A Q E = oK (scD x) (fun v => oK (scDs xs) (fun vs => Q (.bl (inV v vs)) A) ⟨⟩) ⟨⟩ := by
  apply propext
  unfold gOr gInQ gInS oK
  constructor
  · rintro (⟨xs', v, vs, h0, h1, h2, h3⟩ | ⟨c, z, h0, h1, h2⟩)
    · cases h0; exact ⟨v, h1, vs, h2, by simpa using h3⟩
    · cases h1
  · rintro ⟨v, h1, vs, h2, h3⟩; exact .inl ⟨xs, v, vs, rfl, h1, h2, by simpa using h3⟩
theorem gIn_ftup {x : D} {xs : List D} : gOr (gInQ false) (gInS false) x (.tup xs) A Q E = oK (scD x) (fun v => oK (scDs xs) (fun vs => Q (.bl (inV v vs)) A) ⟨⟩) ⟨⟩ := by
  apply propext
  unfold gOr gInQ gInS oK
  constructor
  · rintro (⟨xs', v, vs, h0, h1, h2, h3⟩ | ⟨c, z, h0, h1, h2⟩)
    · cases h0; exact ⟨v, h1, vs, h2, by simpa using h3⟩
    · cases h1
  · rintro ⟨v, h1, vs, h2, h3⟩; exact .inl ⟨xs, v, vs, rfl, h1, h2, by simpa using h3⟩
theorem gIn_fref {x : D} {a : Addr} : gOr (gInQ false) (gInS false) x (.ref a) A Q E = oK (lstO (A a)) (fun xs => oK (scD x) (fun v => oK (scDs xs) (fun vs => Q (.bl (inV v vs)) A) ⟨⟩) ⟨⟩) ⟨⟩ := by
  apply propext
  unfold gOr gInQ gInS oK
  constructor
  · rintro (⟨xs', v, vs, h0, h1, h2, h3⟩ | ⟨c, z, h0, h1, h2⟩)
    · rw [asQ_ref] at h0; exact ⟨xs', h0, v, h1, vs, h2, by simpa using h3⟩
    · cases h1
  · rintro ⟨xs, h0, v, h1, vs, h2, h3⟩; exact .inl ⟨xs, v, vs, by rw [asQ_ref]; exact h0, h1, h2, by simpa using h3⟩
theorem gIn_fstr {x : D} {z : Str} : gOr (gInQ false) (gInS false) x (.str z) A Q E = oK (ch1 x) (fun c => Q (.bl (decide (c ∈ z.cps.toList))) A) ⟨⟩ := by
  apply propext
  unfold gOr gInQ gInS oK
  constructor
  · rintro (⟨xs', v, vs, h0, h1, h2, h3⟩ | ⟨c, z', h0, h1, h2⟩)
    · cases h0
    · subst h0; cases h1; exact ⟨c, rfl, by simpa using h2⟩
  · rintro ⟨c, h0, h2⟩; exact .inr ⟨c, z, ch1_some h0, rfl, by simpa using h2⟩
theorem aInT_f {ta : AE} {t : AA} : aInT false ta t δ A Q E = ta δ A (fun x A1 => t δ A1 (fun xs A2 => xs.length ≤ sizeLine ∧ oK (scD x) (fun v => oK (scDs xs) (fun vs => Q (.bl (inV v vs)) A2) ⟨⟩) ⟨⟩) E) E := by
  unfold aInT
  congr 1
  funext x A1
  congr 1
  funext xs A2
  apply propext
  constructor
  · rintro ⟨v, vs, h0, h1, h2, h3⟩; exact ⟨h0, v, h1, vs, h2, by simpa using h3⟩
  · rintro ⟨h0, v, h1, vs, h2, h3⟩; exact ⟨v, vs, h0, h1, h2, by simpa using h3⟩
theorem gDIn_f {x y : D} : gDIn false x y A Q E = oK (asD A y) (fun kvs => oK (keyOf x) (fun _ => Q (.bl ((valD kvs x).isSome)) A) ⟨⟩) ⟨⟩ := by
  apply propext
  unfold gDIn oK
  constructor
  · rintro ⟨kvs, q, h1, h2, h3⟩; exact ⟨kvs, h1, q, h2, by simpa using h3⟩
  · rintro ⟨kvs, h1, q, h2, h3⟩; exact ⟨kvs, q, h1, h2, by simpa using h3⟩
theorem gInO_f {C : Addr} {asp : ASp} {x y : D} : gInO false C asp x y A Q E = oK (asO A y) (fun z => z.1 = C ∧ Call asp [y, x] A (fun r A' => blK r (fun b => Q (.bl (b)) A')) noX ⟨⟩) ⟨⟩ := by
  apply propext
  unfold gInO oK
  constructor
  · rintro ⟨fs, e1, h⟩; exact ⟨(C, fs), e1, rfl, h⟩
  · rintro ⟨⟨C', fs⟩, e1, rfl, h⟩; exact ⟨fs, e1, h⟩
theorem gEq_tii {i j : Int} : gEq true (.int i) (.int j) A Q E = Q (.bl (!decide (i = j))) A := by simp [gEq, scD, scal]
theorem gEq_tss {i j : Str} : gEq true (.str i) (.str j) A Q E = Q (.bl (!decide (i = j))) A := by simp [gEq, scD, scal]
theorem gEq_tbb {i j : Bool} : gEq true (.bl i) (.bl j) A Q E = Q (.bl (!decide (i = j))) A := by simp [gEq, scD, scal]
theorem gEq_tnn  : gEq true .non .non A Q E = Q (.bl false) A := by simp [gEq, scD, scal]
theorem gEq_tns {j : Str} : gEq true .non (.str j) A Q E = Q (.bl true) A := by simp [gEq, scD, scal]
theorem gEq_tsn {j : Str} : gEq true (.str j) .non A Q E = Q (.bl true) A := by simp [gEq, scD, scal]
theorem gEq_tni {j : Int} : gEq true .non (.int j) A Q E = Q (.bl true) A := by simp [gEq, scD, scal]
theorem gEq_tin {j : Int} : gEq true (.int j) .non A Q E = Q (.bl true) A := by simp [gEq, scD, scal]
theorem gEq_tis {i : Int} {j : Str} : gEq true (.int i) (.str j) A Q E = Q (.bl true) A := by simp [gEq, scD, scal]
theorem gEq_tsi {i : Str} {j : Int} : gEq true (.str i) (.int j) A Q E = Q (.bl true) A := by simp [gEq, scD, scal]
theorem gEq_tlstlst {xs : List D} {ys : List D} : gEq true (.lst xs) (.lst ys) A Q E = oK (topP A (.lst xs)) (fun d => oK (topP A (.lst ys)) (fun e => d.depth ≤ 64 ∧ e.depth ≤ 64 ∧ Q (.bl (!PyData.eqv d e)) A) ⟨⟩) ⟨⟩ := by
  apply propext
  simp only [gEq, scD, gEqP, oK]
  constructor
  · rintro ⟨d, e, h1, h2, h3, h4, h5⟩; exact ⟨d, h1, e, h2, h3, h4, h5⟩
  · rintro ⟨d, h1, e, h2, h3, h4, h5⟩; exact ⟨d, e, h1, h2, h3, h4, h5⟩
theorem gEq_tlsttup {xs : List D} {ys : List D} : gEq true (.lst xs) (.tup ys) A Q E = oK (topP A (.lst xs)) (fun d => oK (topP A (.tup ys)) (fun e => d.depth ≤ 64 ∧ e.depth ≤ 64 ∧ Q (.bl (!PyData.eqv d e)) A) ⟨⟩) ⟨⟩ := by
  apply propext
  simp only [gEq, scD, gEqP, oK]
  constructor
  · rintro ⟨d, e, h1, h2, h3, h4, h5⟩; exact ⟨d, h1, e, h2, h3, h4, h5⟩
  · rintro ⟨d, h1, e, h2, h3, h4, h5⟩; exact ⟨d, e, h1, h2, h3, h4, h5⟩
theorem gEq_tlstref {xs : List D} {b : Addr} : gEq true (.lst xs) (.ref b) A Q E = oK (topP A (.lst xs)) (fun d => oK (topP A (.ref b)) (fun e => d.depth ≤ 64 ∧ e.depth ≤ 64 ∧ Q (.bl (!PyData.eqv d e)) A) ⟨⟩) ⟨⟩ := by
  apply propext
  simp only [gEq, scD, gEqP, oK]
  constructor
  · rintro ⟨d, e, h1, h2, h3, h4, h5⟩; exact ⟨d, h1, e, h2, h3, h4, h5⟩
  · rintro ⟨d, h1, e, h2, h3, h4, h5⟩; exact ⟨d, e, h1, h2, h3, h4, h5⟩
theorem gEq_ttuplst {xs : List D} {ys : List D} : gEq true (.tup xs) (.lst ys) A Q E = oK (topP A (.tup xs)) (fun d => oK (topP A (.lst ys)) (fun e => d.depth ≤ 64 ∧ e.depth ≤ 64 ∧ Q (.bl (!PyData.eqv d e)) A) ⟨⟩) ⟨⟩ := by
  apply propext
  simp only [gEq, scD, gEqP, oK]
  constructor
  · rintro ⟨d, e, h1, h2, h3, h4, h5⟩; exact ⟨d, h1, e, h2, h3, h4, h5⟩
  · rintro ⟨d, h1, e, h2, h3, h4, h5⟩; exact ⟨d, e, h1, h2, h3, h4, h5⟩
theorem gEq_ttuptup {xs : List D} {ys : List D} : gEq true (.tup xs) (.tup ys) A Q E = oK (topP A (.tup xs)) (fun d => oK (topP A (.tup ys)) (fun e => d.depth ≤ 64 ∧ e.depth ≤ 64 ∧ Q (.bl (!PyData.eqv d e)) A) ⟨⟩) ⟨⟩ := by
  apply propext
  simp only [gEq, scD, gEqP, oK]
  constructor
  · rintro ⟨d, e, h1, h2, h3, h4, h5⟩; exact ⟨d, h1, e, h2, h3, h4, h5⟩
  · rintro ⟨d, h1, e, h2, h3, h4, h5⟩; exact ⟨d, e, h1, h2, h3, h4, h5⟩
theorem gEq_ttupref {xs : List D} {b : Addr} : gEq true (.tup xs) (.ref b) A Q E = oK (topP A (.tup xs)) (fun d => oK (topP A (.ref b)) (fun e => d.depth ≤ 64 ∧ e.depth ≤ 64 ∧ Q (.bl (!PyData.eqv d e)) A) ⟨⟩) ⟨⟩ := by
  apply propext
  simp only [gEq, scD, gEqP, oK]
  constructor
  · rintro ⟨d, e, h1, h2, h3, h4, h5⟩; exact ⟨d, h1, e, h2, h3, h4, h5⟩
  · rintro ⟨d, h1, e, h2, h3, h4, h5⟩; exact ⟨d, e, h1, h2, h3, h4, h5⟩
theorem gEq_treflst {a : Addr} {ys : List D} : gEq true (.ref a) (.lst ys) A Q E = oK (topP A (.ref a)) (fun d => oK (topP A (.lst ys)) (fun e => d.depth ≤ 64 ∧ e.depth ≤ 64 ∧ Q (.bl (!PyData.eqv d e)) A) ⟨⟩) ⟨⟩ := by
  apply propext
  simp only [gEq, scD, gEqP, oK]
  constructor
  · rintro ⟨d, e, h1, h2, h3, h4, h5⟩; exact ⟨d, h1, e, h2, h3, h4, h5⟩
  · rintro ⟨d, h1, e, h2, h3, h4, h5⟩; exact ⟨d, e, h1, h2, h3, h4, h5⟩
theorem gEq_treftup {a : Addr} {ys : List D} : gEq true (.ref a) (.tup ys) A Q E = oK (topP A (.ref a)) (fun d => oK (topP A (.tup ys)) (fun e => d.depth ≤ 64 ∧ e.depth ≤ 64 ∧ Q (.bl (!PyData.eqv d e)) A) ⟨⟩) ⟨⟩ := by
  apply propext
  simp only [gEq, scD, gEqP, oK]
  constructor
  · rintro ⟨d, e, h1, h2, h3, h4, h5⟩; exact ⟨d, h1, e, h2, h3, h4, h5⟩
  · rintro ⟨d, h1, e, h2, h3, h4, h5⟩; exact ⟨d, e, h1, h2, h3, h4, h5⟩
theorem gEq_trefref {a : Addr} {b : Addr} : gEq true (.ref a) (.ref b) A Q E = oK (topP A (.ref a)) (fun d => oK (topP A (.ref b)) (fun e => d.depth ≤ 64 ∧ e.depth ≤ 64 ∧ Q (.bl (!PyData.eqv d e)) A) ⟨⟩) ⟨⟩ := by
  apply propext
  simp only [gEq, scD, gEqP, oK]
  constructor
  · rintro ⟨d, e, h1, h2, h3, h4, h5⟩; exact ⟨d, h1, e, h2, h3, h4, h5⟩
  · rintro ⟨d, h1, e, h2, h3, h4, h5⟩; exact ⟨d, e, h1, h2, h3, h4, h5⟩
theorem gIn_tlst {x : D} {xs : List D} : gOr (gInQ true) (gInS true) x (.lst xs) A Q E = oK (scD x) (fun v => oK (scDs xs) (fun vs => Q (.bl (!inV v vs)) A) ⟨⟩) ⟨⟩ := by
  apply propext
  unfold gOr gInQ gInS oK
  constructor
  · rintro (⟨xs', v, vs, h0, h1, h2, h3⟩ | ⟨c, z, h0, h1, h2⟩)
    · cases h0; exact ⟨v, h1, vs, h2, by simpa using h3⟩
    · cases h1
  · rintro ⟨v, h1, vs, h2, h3⟩; exact .inl ⟨xs, v, vs, rfl, h1, h2, by simpa using h3⟩
theorem gIn_ttup {x : D} {xs : List D} : gOr (gInQ true) (gInS true) x (.tup xs) A Q E = oK (scD x) (fun v => oK (scDs xs) (fun vs => Q (.bl (!inV v vs)) A) ⟨⟩) ⟨⟩ := by
  apply propext
  unfold gOr gInQ gInS oK
  constructor
  · rintro (⟨xs', v, vs, h0, h1, h2, h3⟩ | ⟨c, z, h0, h1, h2⟩)
    · cases h0; exact ⟨v, h1, vs, h2, by simpa using h3⟩
    · cases h1
  · rintro ⟨v, h1, vs, h2, h3⟩; exact .inl ⟨xs, v, vs, rfl, h1, h2, by simpa using h3⟩
theorem gIn_tref {x : D} {a : Addr} : gOr (gInQ true) (gInS true) x (.ref a) A Q E = oK (lstO (A a)) (fun xs => oK (scD x) (fun v => oK (scDs xs) (fun vs => Q (.bl (!inV v vs)) A) ⟨⟩) ⟨⟩) ⟨⟩ := by
  apply propext
  unfold gOr gInQ gInS oK
  constructor
  · rintro (⟨xs', v, vs, h0, h1, h2, h3⟩ | ⟨c, z, h0, h1, h2⟩)
    · rw [asQ_ref] at h0; exact ⟨xs', h0, v, h1, vs, h2, by simpa using h3⟩
    · cases h1
  · rintro ⟨xs, h0, v, h1, vs, h2, h3⟩; exact .inl ⟨xs, v, vs, by rw [asQ_ref]; exact h0, h1, h2, by simpa using h3⟩
theorem gIn_tstr {x : D} {z : Str} : gOr (gInQ true) (gInS true) x (.str z) A Q E = oK (ch1 x) (fun c => Q (.bl (!decide (c ∈ z.cps.toList))) A) ⟨⟩ := by
  apply propext
  unfold gOr gInQ gInS oK
  constructor
  · rintro (⟨xs', v, vs, h0, h1, h2, h3⟩ | ⟨c, z', h0, h1, h2⟩)
    · cases h0
    · subst h0; cases h1; exact ⟨c, rfl, by simpa using h2⟩
  · rintro ⟨c, h0, h2⟩; exact .inr ⟨c, z, ch1_some h0, rfl, by simpa using h2⟩
theorem aInT_t {ta : AE} {t : AA} : aInT true ta t δ A Q E = ta δ A (fun x A1 => t δ A1 (fun xs A2 => xs.length ≤ sizeLine ∧ oK (scD x) (fun v => oK (scDs xs) (fun vs => Q (.bl (!inV v vs)) A2) ⟨⟩) ⟨⟩) E) E := by
  unfold aInT
  congr 1
  funext x A1
  congr 1
  funext xs A2
  apply propext
  constructor
  · rintro ⟨v, vs, h0, h1, h2, h3⟩; exact ⟨h0, v, h1, vs, h2, by simpa using h3⟩
  · rintro ⟨h0, v, h1, vs, h2, h3⟩; exact ⟨v, vs, h0, h1, h2, by simpa using h3⟩
theorem gDIn_t {x y : D} : gDIn true x y A Q E = oK (asD A y) (fun kvs => oK (keyOf x) (fun _ => Q (.bl (!(valD kvs x).isSome)) A) ⟨⟩) ⟨⟩ := by
  apply propext
  unfold gDIn oK
  constructor
  · rintro ⟨kvs, q, h1, h2, h3⟩; exact ⟨kvs, h1, q, h2, by simpa using h3⟩
  · rintro ⟨kvs, h1, q, h2, h3⟩; exact ⟨kvs, q, h1, h2, by simpa using h3⟩
theorem gInO_t {C : Addr} {asp : ASp} {x y : D} : gInO true C asp x y A Q E = oK (asO A y) (fun z => z.1 = C ∧ Call asp [y, x] A (fun r A' => blK r (fun b => Q (.bl (!b)) A')) noX ⟨⟩) ⟨⟩ := by
  apply propext
  unfold gInO oK
  constructor
  · rintro ⟨fs, e1, h⟩; exact ⟨(C, fs), e1, rfl, h⟩
  · rintro ⟨⟨C', fs⟩, e1, rfl, h⟩; exact ⟨fs, e1, h⟩
theorem gDGet_eq {x y : D} : gDGet x y A Q E = oK (asD A x) (fun kvs => oK (keyOf y) (fun _ => oK (valD kvs y) (fun v => Q v A) ⟨⟩) ⟨⟩) ⟨⟩ := by
  apply propext
  unfold gDGet oK
  constructor
  · rintro ⟨kvs, q, v, h1, h2, h3, h4⟩; exact ⟨kvs, h1, q, h2, v, h3, h4⟩
  · rintro ⟨kvs, h1, q, h2, v, h3, h4⟩; exact ⟨kvs, q, v, h1, h2, h3, h4⟩
theorem aDPut_eq {td ty tv : AE} : aDPut td ty tv N δ A = tv δ A (fun v A1 => td δ A1 (fun x A2 => ty δ A2 (fun y A3 => refK x (fun a => oK (dctO (A3 a)) (fun kvs => oK (keyOf y) (fun _ => kvs.length < sizeLine ∧ N.nx δ (put A3 a (.dct (putD kvs y v)))) ⟨⟩) ⟨⟩)) (fun C fs A1 => N.ex C fs δ A1)) (fun C fs A1 => N.ex C fs δ A1)) (fun C fs A1 => N.ex C fs δ A1) := by
  unfold aDPut
  congr 1
  funext v A1
  congr 1
  funext x A2
  congr 1
  funext y A3
  apply propext
  constructor
  · rintro ⟨a, kvs, q, rfl, h1, h2, h3⟩; exact ⟨a, rfl, kvs, by rw [h1]; rfl, q, h2, h3⟩
  · rintro ⟨a, rfl, kvs, h1, q, h2, h3⟩; exact ⟨a, kvs, q, rfl, dctO_some h1, h2, h3⟩
theorem aDGet2_eq {td ty tx : AE} : aDGet2 td ty tx δ A Q E = td δ A (fun x A1 => oK (asD A1 x) (fun _ => ty δ A1 (fun y A2 => tx δ A2 (fun z A3 => oK (asD A3 x) (fun kvs => oK (keyOf y) (fun _ => Q ((valD kvs y).getD z) A3) ⟨⟩) ⟨⟩) E) E) ⟨⟩) E := by
  unfold aDGet2
  congr 1
  funext x A1
  have e : ∀ (y : D), (fun z A3 => ∃ kvs q, asD A3 x = some kvs ∧ keyOf y = some q ∧ Q ((valD kvs y).getD z) A3) = (fun z A3 => oK (asD A3 x) (fun kvs => oK (keyOf y) (fun _ => Q ((valD kvs y).getD z) A3) ⟨⟩) ⟨⟩) := by
    intro y; funext z A3; apply propext; constructor
    · rintro ⟨kvs, q, h1, h2, h3⟩; exact ⟨kvs, h1, q, h2, h3⟩
    · rintro ⟨kvs, h1, q, h2, h3⟩; exact ⟨kvs, q, h1, h2, h3⟩
  simp only [e]
  apply propext
  constructor
  · rintro ⟨⟨kvs, h1⟩, h2⟩; exact ⟨kvs, h1, h2⟩
  · rintro ⟨kvs, h1, h2⟩; exact ⟨⟨kvs, h1⟩, h2⟩
theorem aDGet1_eq {td ty : AE} : aDGet1 td ty δ A Q E = td δ A (fun x A1 => oK (asD A1 x) (fun _ => ty δ A1 (fun y A3 => oK (asD A3 x) (fun kvs => oK (keyOf y) (fun _ => Q ((valD kvs y).getD .non) A3) ⟨⟩) ⟨⟩) E) ⟨⟩) E := by
  unfold aDGet1
  congr 1
  funext x A1
  have e : (fun y A3 => ∃ kvs q, asD A3 x = some kvs ∧ keyOf y = some q ∧ Q ((valD kvs y).getD .non) A3) = (fun y A3 => oK (asD A3 x) (fun kvs => oK (keyOf y) (fun _ => Q ((valD kvs y).getD .non) A3) ⟨⟩) ⟨⟩) := by
    funext y A3; apply propext; constructor
    · rintro ⟨kvs, q, h1, h2, h3⟩; exact ⟨kvs, h1, q, h2, h3⟩
    · rintro ⟨kvs, h1, q, h2, h3⟩; exact ⟨kvs, q, h1, h2, h3⟩
  simp only [e]
  apply propext
  constructor
  · rintro ⟨⟨kvs, h1⟩, h2⟩; exact ⟨kvs, h1, h2⟩
  · rintro ⟨kvs, h1, h2⟩; exact ⟨⟨kvs, h1⟩, h2⟩
theorem gSubs_lst {xs : List D} {i : Int} : gSubs (.lst xs) (.int i) A Q E = oK (atI xs i) (fun v => Q v A) ⟨⟩ := by
  apply propext
  unfold gSubs gOr gIx gIxS oK
  constructor
  · rintro (⟨xs', i', v, h0, h1, h2, h3⟩ | ⟨z, i', c, h0, h1, h2⟩)
    · cases h0; cases h1; exact ⟨v, h2, h3⟩
    · cases h0
  · rintro ⟨v, h2, h3⟩; exact .inl ⟨xs, i, v, rfl, rfl, h2, h3⟩
theorem gSubs_tup {xs : List D} {i : Int} : gSubs (.tup xs) (.int i) A Q E = oK (atI xs i) (fun v => Q v A) ⟨⟩ := by
  apply propext
  unfold gSubs gOr gIx gIxS oK
  constructor
  · rintro (⟨xs', i', v, h0, h1, h2, h3⟩ | ⟨z, i', c, h0, h1, h2⟩)
    · cases h0; cases h1; exact ⟨v, h2, h3⟩
    · cases h0
  · rintro ⟨v, h2, h3⟩; exact .inl ⟨xs, i, v, rfl, rfl, h2, h3⟩
theorem gSubs_rol {xs : List D} {i : Int} : gSubs (.rol xs) (.int i) A Q E = oK (atI xs i) (fun v => Q v A) ⟨⟩ := by
  apply propext
  unfold gSubs gOr gIx gIxS oK
  constructor
  · rintro (⟨xs', i', v, h0, h1, h2, h3⟩ | ⟨z, i', c, h0, h1, h2⟩)
    · cases h0; cases h1; exact ⟨v, h2, h3⟩
    · cases h0
  · rintro ⟨v, h2, h3⟩; exact .inl ⟨xs, i, v, rfl, rfl, h2, h3⟩
theorem gSubs_ref {a : Addr} {i : Int} : gSubs (.ref a) (.int i) A Q E = oK (lstO (A a)) (fun xs => oK (atI xs i) (fun v => Q v A) ⟨⟩) ⟨⟩ := by
  apply propext
  unfold gSubs gOr gIx gIxS oK
  constructor
  · rintro (⟨xs', i', v, h0, h1, h2, h3⟩ | ⟨z, i', c, h0, h1, h2⟩)
    · rw [asQ_ref] at h0; cases h1; exact ⟨xs', h0, v, h2, h3⟩
    · cases h0
  · rintro ⟨xs, h0, v, h2, h3⟩; exact .inl ⟨xs, i, v, by rw [asQ_ref]; exact h0, rfl, h2, h3⟩
theorem gSubs_str {z : Str} {i : Int} : gSubs (.str z) (.int i) A Q E = (z.length ≤ sizeLine ∧ oK (atI z.cps.toList i) (fun c => Q (.str ⟨#[c]⟩) A) ⟨⟩) := by
  apply propext
  unfold gSubs gOr gIx gIxS oK
  constructor
  · rintro (⟨xs', i', v, h0, h1, h2, h3⟩ | ⟨z', i', c, h0, h1, h2, h3, h4⟩)
    · cases h0
    · cases h0; cases h1; exact ⟨h2, c, h3, h4⟩
  · rintro ⟨h2, c, h3, h4⟩; exact .inr ⟨z, i, c, rfl, rfl, h2, h3, h4⟩
theorem gLen_lst {xs : List D} : gaOr gLenQ gLenS [.lst xs] A Q E = oK (asQ A (.lst xs)) (fun ys => Q (.int (ys.length : Int)) A) ⟨⟩ := by
  apply propext
  unfold gaOr gLenQ gLenS oK
  constructor
  · rintro (⟨d, ys, h0, h1, h2⟩ | ⟨z, h0, h1⟩)
    · cases h0; exact ⟨ys, h1, h2⟩
    · cases h0
  · rintro ⟨ys, h1, h2⟩; exact .inl ⟨_, ys, rfl, h1, h2⟩
theorem gLen_tup {xs : List D} : gaOr gLenQ gLenS [.tup xs] A Q E = oK (asQ A (.tup xs)) (fun ys => Q (.int (ys.length : Int)) A) ⟨⟩ := by
  apply propext
  unfold gaOr gLenQ gLenS oK
  constructor
  · rintro (⟨d, ys, h0, h1, h2⟩ | ⟨z, h0, h1⟩)
    · cases h0; exact ⟨ys, h1, h2⟩
    · cases h0
  · rintro ⟨ys, h1, h2⟩; exact .inl ⟨_, ys, rfl, h1, h2⟩
theorem gLen_rol {xs : List D} : gaOr gLenQ gLenS [.rol xs] A Q E = oK (asQ A (.rol xs)) (fun ys => Q (.int (ys.length : Int)) A) ⟨⟩ := by
  apply propext
  unfold gaOr gLenQ gLenS oK
  constructor
  · rintro (⟨d, ys, h0, h1, h2⟩ | ⟨z, h0, h1⟩)
    · cases h0; exact ⟨ys, h1, h2⟩
    · cases h0
  · rintro ⟨ys, h1, h2⟩; exact .inl ⟨_, ys, rfl, h1, h2⟩
theorem gLen_ref {xs : Addr} : gaOr gLenQ gLenS [.ref xs] A Q E = oK (asQ A (.ref xs)) (fun ys => Q (.int (ys.length : Int)) A) ⟨⟩ := by
  apply propext
  unfold gaOr gLenQ gLenS oK
  constructor
  · rintro (⟨d, ys, h0, h1, h2⟩ | ⟨z, h0, h1⟩)
    · cases h0; exact ⟨ys, h1, h2⟩
    · cases h0
  · rintro ⟨ys, h1, h2⟩; exact .inl ⟨_, ys, rfl, h1, h2⟩
theorem gLen_str {z : Str} : gaOr gLenQ gLenS [.str z] A Q E = (z.length ≤ sizeLine ∧ Q (.int (z.length : Int)) A) := by
  apply propext
  unfold gaOr gLenQ gLenS
  constructor
  · rintro (⟨d, ys, h0, h1, h2⟩ | ⟨z, h0, h1⟩)
    · cases h0; cases h1
    · cases h0; exact h1
  · intro h; exact .inr ⟨_, rfl, h⟩
theorem gList_eq {l : Bool} {d : D} : gList l [d] A Q E = oK (asQ A d) (fun ys => aNew l (.lst ys) A Q) ⟨⟩ := by
  apply propext
  unfold gList oK
  constructor
  · rintro ⟨d, ys, h0, h1, h2⟩; cases h0; exact ⟨ys, h1, h2⟩
  · rintro ⟨ys, h1, h2⟩; exact ⟨_, ys, rfl, h1, h2⟩
theorem gTuple_eq {d : D} : gTuple [d] A Q E = oK (asQ A d) (fun ys => Q (.tup ys) A) ⟨⟩ := by
  apply propext
  unfold gTuple oK
  constructor
  · rintro ⟨d, ys, h0, h1, h2⟩; cases h0; exact ⟨ys, h1, h2⟩
  · rintro ⟨ys, h1, h2⟩; exact ⟨_, ys, rfl, h1, h2⟩
theorem gInt_i {i : Int} : gInt [.int i] A Q E = Q (.int i) A := by simp [gInt]
theorem gInt_b {b : Bool} : gInt [.bl b] A Q E = Q (.int (if b then 1 else 0)) A := by simp [gInt]
theorem gAbs_eq {i : Int} : gAbs [.int i] A Q E = Q (.int (if i < 0 then -i else i)) A := by simp [gAbs]
theorem gMax_eq {i j : Int} : gMax [.int i, .int j] A Q E = Q (.int (if j > i then j else i)) A := by
  apply propext
  constructor
  · rintro ⟨i, j, e, h⟩; cases e; exact h
  · intro h; exact ⟨_, _, rfl, h⟩
theorem gMin_eq {i j : Int} : gMin [.int i, .int j] A Q E = Q (.int (if j < i then j else i)) A := by
  apply propext
  constructor
  · rintro ⟨i, j, e, h⟩; cases e; exact h
  · intro h; exact ⟨_, _, rfl, h⟩
theorem gStr_eq {i : Int} : gStr [.int i] A Q E = (i.natAbs.log2 < 1920 ∧ Q (.str (toString i)) A) := by simp [gStr]
theorem gBool_eq {b : Bool} : gBool [.bl b] A Q E = Q (.bl b) A := by simp [gBool]
theorem gAll_eq {d : D} : gAll [d] A Q E = oK (asX A d) (fun ys => oK (blsOf ys) (fun bs => Q (.bl (bs.all id)) A) ⟨⟩) ⟨⟩ := by
  apply propext
  unfold gAll oK
  constructor
  · rintro ⟨d, ys, bs, h0, h1, h2, h3⟩; cases h0; exact ⟨ys, h1, bs, h2, h3⟩
  · rintro ⟨ys, h1, bs, h2, h3⟩; exact ⟨_, ys, bs, rfl, h1, h2, h3⟩
theorem gAny_eq {d : D} : gAny [d] A Q E = oK (asX A d) (fun ys => oK (blsOf ys) (fun bs => Q (.bl (bs.any id)) A) ⟨⟩) ⟨⟩ := by
  apply propext
  unfold gAny oK
  constructor
  · rintro ⟨d, ys, bs, h0, h1, h2, h3⟩; cases h0; exact ⟨ys, h1, bs, h2, h3⟩
  · rintro ⟨ys, h1, bs, h2, h3⟩; exact ⟨_, ys, bs, rfl, h1, h2, h3⟩
theorem gIsi_eq {d : D} {n : String} : gIsi [d, .ty n] A Q E = (¬ kdD A d = "?" ∧ oK (kitB (kdD A d) n) (fun b => Q (.bl b) A) ⟨⟩) := by
  apply propext
  unfold gIsi oK
  constructor
  · rintro ⟨d, n, h0, h1, h2⟩; cases h0; exact ⟨h1, h2⟩
  · rintro ⟨h1, h2⟩; exact ⟨_, _, rfl, h1, h2⟩
theorem gIsi2_eq {d : D} {m n : String} : gIsi2 [d, .tup [.ty m, .ty n]] A Q E = (¬ kdD A d = "?" ∧ oK (kitB (kdD A d) m) (fun b => oK (kitB (kdD A d) n) (fun c => Q (.bl (b || c)) A) ⟨⟩) ⟨⟩) := by
  apply propext
  unfold gIsi2 oK
  constructor
  · rintro ⟨d, m, n, h0, h1, b, c, h2, h3, h4⟩; cases h0; exact ⟨h1, b, h2, c, h3, h4⟩
  · rintro ⟨h1, b, h2, c, h3, h4⟩; exact ⟨_, _, _, rfl, h1, b, c, h2, h3, h4⟩
theorem aBM_eq {g : GM} {to : AE} {t : AA} : aBM g to t δ A Q E = to δ A (fun x A1 => refK x (fun l => oK (lstO (A1 l)) (fun _ => t δ A1 (fun ds A2 => g l ds A2 Q E) E) ⟨⟩)) E := by
  unfold aBM
  congr 1
  funext x A1
  apply propext
  constructor
  · rintro ⟨l, rfl, ⟨ys, h1⟩, h2⟩; exact ⟨l, rfl, ys, by rw [h1]; rfl, h2⟩
  · rintro ⟨l, rfl, ys, h1, h2⟩; exact ⟨l, rfl, ⟨ys, lstO_some h1⟩, h2⟩
theorem gmAppend_eq {l : Addr} {y : D} : gmAppend l [y] A Q E = oK (lstO (A l)) (fun ys => ys.length < sizeLine ∧ Q .non (put A l (.lst (ys ++ [y])))) ⟨⟩ := by
  apply propext
  unfold gmAppend oK
  constructor
  · rintro ⟨y, ys, h0, h1, h2⟩; cases h0; exact ⟨ys, by rw [h1]; rfl, h2⟩
  · rintro ⟨ys, h1, h2⟩; exact ⟨_, ys, rfl, lstO_some h1, h2⟩
theorem gmPop_eq {l : Addr} : gmPop l [] A Q E = oK (lstO (A l)) (fun ys => oK ys[ys.length - 1]? (fun y => Q y (put A l (.lst ys.dropLast))) ⟨⟩) ⟨⟩ := by
  apply propext
  unfold gmPop oK
  constructor
  · rintro ⟨ys, y, h0, h1, h2, h3⟩; exact ⟨ys, by rw [h1]; rfl, y, h2, h3⟩
  · rintro ⟨ys, h1, y, h2, h3⟩; exact ⟨ys, y, rfl, lstO_some h1, h2, h3⟩
theorem gmPopAt_eq {l : Addr} {i : Int} : gmPopAt l [.int i] A Q E = oK (lstO (A l)) (fun ys => -(2 ^ 63) ≤ i ∧ i < 2 ^ 63 ∧ oK (seqIndex? i ys.length) (fun j => oK ys[j]? (fun y => Q y (put A l (.lst (ys.eraseIdx j)))) ⟨⟩) ⟨⟩) ⟨⟩ := by
  apply propext
  unfold gmPopAt oK
  constructor
  · rintro ⟨i, ys, j, y, h0, h1, h2, h3, h4, h5, h6⟩; cases h0; exact ⟨ys, by rw [h1]; rfl, h2, h3, j, h4, y, h5, h6⟩
  · rintro ⟨ys, h1, h2, h3, j, h4, y, h5, h6⟩; exact ⟨_, ys, j, y, rfl, lstO_some h1, h2, h3, h4, h5, h6⟩
theorem gmExtT_eq {l : Addr} {zs : List D} : gmExtT l [.tup zs] A Q E = oK (lstO (A l)) (fun ys => ys.length + zs.length ≤ sizeLine ∧ Q .non (put A l (.lst (ys ++ zs)))) ⟨⟩ := by
  apply propext
  unfold gmExtT oK
  constructor
  · rintro ⟨zs, ys, h0, h1, h2⟩; cases h0; exact ⟨ys, by rw [h1]; rfl, h2⟩
  · rintro ⟨ys, h1, h2⟩; exact ⟨_, ys, rfl, lstO_some h1, h2⟩
theorem aNoPart_eq {Q : Option Int → AH → Prop} : aNoPart δ A Q E = Q none A := rfl
theorem aPart_eq {te : AE} {Q : Option Int → AH → Prop} : aPart te δ A Q E = te δ A (fun d A1 => intK d (fun i => Q (some i) A1)) E := rfl
theorem aSl_eq {g : D → Option Int → Option Int → AK D} {te : AE} {tl th : APt} : aSl g te tl th δ A Q E = te δ A (fun x A1 => tl δ A1 (fun l A2 => th δ A2 (fun u A3 => g x l u A3 Q E) E) E) E := rfl
theorem gSl_lst {l : Bool} {xs : List D} {lo hi : Option Int} : gSl l (.lst xs) lo hi A Q E = aNew l (.lst (cutD xs lo hi)) A Q := by
  apply propext
  unfold gSl gSlL gSlS gSlT
  constructor
  · rintro (⟨xs', h0, h1⟩ | ⟨z, h0, h1⟩ | ⟨xs', h0, h1⟩)
    · cases h0; exact h1
    · cases h0
    · cases h0
  · intro h; exact .inl ⟨xs, rfl, h⟩
theorem gSl_rol {l : Bool} {xs : List D} {lo hi : Option Int} : gSl l (.rol xs) lo hi A Q E = aNew l (.lst (cutD xs lo hi)) A Q := by
  apply propext
  unfold gSl gSlL gSlS gSlT
  constructor
  · rintro (⟨xs', h0, h1⟩ | ⟨z, h0, h1⟩ | ⟨xs', h0, h1⟩)
    · cases h0; exact h1
    · cases h0
    · cases h0
  · intro h; exact .inl ⟨xs, rfl, h⟩
theorem gSl_tup {l : Bool} {xs : List D} {lo hi : Option Int} : gSl l (.tup xs) lo hi A Q E = Q (.tup (cutD xs lo hi)) A := by
  apply propext
  unfold gSl gSlL gSlS gSlT
  constructor
  · rintro (⟨xs', h0, h1⟩ | ⟨z, h0, h1⟩ | ⟨xs', h0, h1⟩)
    · cases h0
    · cases h0
    · cases h0; exact h1
  · intro h; exact .inr (.inr ⟨xs, rfl, h⟩)
theorem gSl_str {l : Bool} {xs : Str} {lo hi : Option Int} : gSl l (.str xs) lo hi A Q E = (xs.length ≤ sizeLine ∧ Q (.str (cutS xs lo hi)) A) := by
  apply propext
  unfold gSl gSlL gSlS gSlT
  constructor
  · rintro (⟨xs', h0, h1⟩ | ⟨z, h0, h1⟩ | ⟨xs', h0, h1⟩)
    · cases h0
    · cases h0; exact h1
    · cases h0
  · intro h; exact .inr (.inl ⟨xs, rfl, h⟩)
theorem gSl_ref {l : Bool} {a : Addr} {lo hi : Option Int} : gSl l (.ref a) lo hi A Q E = oK (lstO (A a)) (fun xs => aNew l (.lst (cutD xs lo hi)) A Q) ⟨⟩ := by
  apply propext
  unfold gSl gSlL gSlS gSlT oK
  constructor
  · rintro (⟨xs', h0, h1⟩ | ⟨z, h0, h1⟩ | ⟨xs', h0, h1⟩)
    · rw [asL_ref] at h0; exact ⟨xs', h0, h1⟩
    · cases h0
    · cases h0
  · rintro ⟨xs, h0, h⟩; exact .inl ⟨xs, by rw [asL_ref]; exact h0, h⟩
theorem aSetIx_eq {to ti te : AE} : aSetIx to ti te N δ A = te δ A (fun v A1 => to δ A1 (fun x A2 => ti δ A2 (fun y A3 => refK x (fun l => intK y (fun i => oK (lstO (A3 l)) (fun xs => oK (ixN xs.length i) (fun j => N.nx δ (put A3 l (.lst (xs.set j v)))) ⟨⟩) ⟨⟩))) (fun C fs A1 => N.ex C fs δ A1)) (fun C fs A1 => N.ex C fs δ A1)) (fun C fs A1 => N.ex C fs δ A1) := by
  unfold aSetIx
  congr 1
  funext v A1
  congr 1
  funext x A2
  congr 1
  funext y A3
  apply propext
  constructor
  · rintro ⟨l, i, xs, j, rfl, rfl, h1, h2, h3⟩; exact ⟨l, rfl, i, rfl, xs, by rw [h1]; rfl, j, h2, h3⟩
  · rintro ⟨l, rfl, i, rfl, xs, h1, j, h2, h3⟩; exact ⟨l, i, xs, j, rfl, rfl, lstO_some h1, h2, h3⟩
theorem agNm_eq {i : Nat} {d : D} {Q : ASt → AH → Prop} : agNm i d δ A Q E = Q (δ.set i (some d)) A := rfl
theorem agNil_eq {Q : ASt → AH → Prop} : agNil [] δ A Q E = Q δ A := by simp [agNil]
theorem agCons_eq {g : AG} {u : AGs} {d : D} {ds : List D} {Q : ASt → AH → Prop} : agCons g u (d :: ds) δ A Q E = g d δ A (fun δ1 A1 => u ds δ1 A1 Q E) E := by
  apply propext
  constructor
  · rintro ⟨d, r, e, h⟩; cases e; exact h
  · intro h; exact ⟨_, _, rfl, h⟩
theorem agTp_eq {n : Nat} {g : AGs} {ds : List D} {Q : ASt → AH → Prop} : agTp n g (.tup ds) δ A Q E = (ds.length = n ∧ g ds δ A Q E) := by simp [agTp]
theorem agDk_eq {to ti : AE} {d : D} {Q : ASt → AH → Prop} : agDk to ti d δ A Q E = to δ A (fun x A1 => ti δ A1 (fun y A2 => refK x (fun a => oK (dctO (A2 a)) (fun kvs => oK (keyOf y) (fun _ => kvs.length < sizeLine ∧ Q δ (put A2 a (.dct (putD kvs y d)))) ⟨⟩) ⟨⟩)) E) E := by
  unfold agDk
  congr 1
  funext x A1
  congr 1
  funext y A2
  apply propext
  constructor
  · rintro ⟨a, kvs, q, rfl, h1, h2, h3⟩; exact ⟨a, rfl, kvs, by rw [h1]; rfl, q, h2, h3⟩
  · rintro ⟨a, rfl, kvs, h1, q, h2, h3⟩; exact ⟨a, kvs, q, rfl, dctO_some h1, h2, h3⟩
theorem aAsgG_eq {te : AE} {g : AG} : aAsgG te g N δ A = te δ A (fun d A1 => g d δ A1 N.nx noX) (fun C fs A1 => N.ex C fs δ A1) := rfl
theorem aPairs_nil {Q : List (D × D) → AH → Prop} : aPairs [] δ A Q E = Q [] A := by rw [aPairs]
theorem aPairs_cons {tk tv : AE} {r : List (AE × AE)} {Q : List (D × D) → AH → Prop} : aPairs ((tk, tv) :: r) δ A Q E = tk δ A (fun x A1 => tv δ A1 (fun y A2 => aPairs r δ A2 (fun ps A3 => Q ((x, y) :: ps) A3) E) E) E := by rw [aPairs]
theorem aDisp_eq {l : Bool} {r : List (AE × AE)} : aDisp l r δ A Q E = aPairs r δ A (fun ps A1 => keysOk ps = true ∧ ps.length ≤ 15 ∧ aNew l (.dct (mergeD ps)) A1 Q) E := rfl
theorem aDNew_eq {l : Bool} : aDNew l δ A Q E = aNew l (.dct []) A Q := rfl
theorem gLenO_eq {C : Addr} {asp : ASp} {d : D} : gLenO C asp [d] A Q E = oK (asO A d) (fun z => z.1 = C ∧ Call asp [d] A (fun r A' => intK r (fun n => 0 ≤ n ∧ n < 2 ^ 63 ∧ Q (.int n) A')) noX ⟨⟩) ⟨⟩ := by
  apply propext
  unfold gLenO oK
  constructor
  · rintro ⟨d, fs, h0, e1, h⟩; cases h0; refine ⟨(C, fs), e1, rfl, ?_⟩; have e : (fun r A' => ∃ n : Int, r = .int n ∧ 0 ≤ n ∧ n < 2 ^ 63 ∧ Q r A') = (fun r A' => intK r (fun n => 0 ≤ n ∧ n < 2 ^ 63 ∧ Q (.int n) A')) := (by funext r A'; apply propext; constructor <;> (rintro ⟨n, rfl, h1, h2, h3⟩; exact ⟨n, rfl, h1, h2, h3⟩)); rw [← e]; exact h
  · rintro ⟨⟨C', fs⟩, e1, rfl, h⟩; refine ⟨_, fs, rfl, e1, ?_⟩; have e : (fun r A' => ∃ n : Int, r = .int n ∧ 0 ≤ n ∧ n < 2 ^ 63 ∧ Q r A') = (fun r A' => intK r (fun n => 0 ≤ n ∧ n < 2 ^ 63 ∧ Q (.int n) A')) := (by funext r A'; apply propext; constructor <;> (rintro ⟨n, rfl, h1, h2, h3⟩; exact ⟨n, rfl, h1, h2, h3⟩)); rw [e]; exact h
theorem aFrz_eq {te : AE} : aFrz te δ A Q E = te δ A (fun d A1 => refK d (fun a => oK (A1 a) (fun ob => Q (frz ob) (del A1 a)) ⟨⟩)) E := by
  unfold aFrz
  congr 1
  funext d A1
  apply propext
  constructor
  · rintro ⟨a, ob, rfl, h1, h2⟩; exact ⟨a, rfl, ob, h1, h2⟩
  · rintro ⟨a, rfl, ob, h1, h2⟩; exact ⟨a, ob, rfl, h1, h2⟩
theorem endsOf_nx {x : ASt} : (endsOf Q E).nx x A = fin Q .non A := rfl
theorem endsOf_rt {d : D} : (endsOf Q E).rt d A = fin Q d A := rfl
theorem endsOf_ex {C : Addr} {fs : List (Str × D)} {x : ASt} : (endsOf Q E).ex C fs x A = ∃ A'', (∀ a o, A'' a = some o → A a = some o) ∧ E C fs A'' := rfl
end
end Av

set_option Elab.async false
set_option linter.all false
set_option maxRecDepth 100000
set_option maxHeartbeats 4000000
/-! own library Av, part 14: loops and comprehensions by invariants -/
namespace Av
open PySem PySem.Spec PyProof.Rows L2 My
theorem comp_inv {gd : AH → Prop} {p : Pat} {tt : AT} {te : AE} {δ : ASt} {ds acc : List D} {A : AH} {Q : List D → AH → Prop} (P : Nat → List D → AH → Prop) (h0 : P 0 acc A) (hg : ∀ i acc A, i ≤ ds.length → P i acc A → gd A)
    (hs : ∀ i d acc A (R : List D → AH → Prop), ds[i]? = some d → P i acc A → (∀ acc' A', P (i + 1) acc' A' → R acc' A') → bindK p d δ (fun δ2 => tt δ2 A (fun b A1 => if b = true then te δ2 A1 (fun y A2 => acc.length < sizeLine ∧ R (acc ++ [y]) A2) noX else R acc A1) noX))
    (hd : ∀ acc A, P ds.length acc A → Q acc A) : aComp gd p tt te δ ds acc A Q := by
  have : ∀ (r : List D) (i : Nat) (acc : List D) (A : AH), ds.drop i = r → i ≤ ds.length → P i acc A → aComp gd p tt te δ r acc A Q := by
    intro r
    induction r with
    | nil =>
      intro i acc A e hi hp
      have : ds.length ≤ i := by
        have := congrArg List.length e
        simp at this; omega
      obtain rfl : i = ds.length := by omega
      exact ⟨hg _ _ _ hi hp, hd _ _ hp⟩
    | cons d r ih =>
      intro i acc A e hi hp
      have hlt : i < ds.length := by
        have := congrArg List.length e
        simp at this; omega
      rw [List.drop_eq_getElem_cons hlt] at e
      injection e with e1 e2
      exact ⟨hg _ _ _ hi hp, hs i d acc A _ (by rw [List.getElem?_eq_getElem hlt, e1]) hp (fun acc' A' h => ih (i + 1) acc' A' e2 (by omega) h)⟩
  exact this ds 0 acc A (by simp) (Nat.zero_le _) h0
/-- nothing is changed: a map -/
theorem comp_map {gd : AH → Prop} {p : Pat} {te : AE} {δ : ASt} {A : AH} {Q : List D → AH → Prop} (f : D → D) (hg : gd A) : ∀ (ds acc : List D), acc.length + ds.length ≤ sizeLine → (∀ d ∈ ds, ∀ R : D → AH → Prop, R (f d) A → bindK p d δ (fun δ2 => te δ2 A R noX)) → Q (acc ++ ds.map f) A → aComp gd p aYes te δ ds acc A Q
  | [], acc, _, _, q => ⟨hg, by simpa using q⟩
  | d :: ds, acc, hl, h, q => by
    refine ⟨hg, ?_⟩
    show bindK p d δ (fun δ2 => aYes δ2 A (fun b A1 => if b = true then te δ2 A1 (fun y A2 => acc.length < sizeLine ∧ aComp gd p aYes te δ ds (acc ++ [y]) A2 Q) noX else aComp gd p aYes te δ ds acc A1 Q) noX)
    simp only [aYes_eq, if_true]
    refine h d List.mem_cons_self _ ⟨?_, comp_map f hg ds (acc ++ [f d]) ?_ (fun x hx => h x (List.mem_cons_of_mem _ hx)) ?_⟩
    · rw [List.length_cons] at hl; omega
    · rw [List.length_append, List.length_cons, List.length_nil]; rw [List.length_cons] at hl; omega
    · rw [List.append_assoc]; exact q
/-- nothing is changed: a map of those that pass -/
theorem comp_filter {gd : AH → Prop} {p : Pat} {tt : AT} {te : AE} {δ : ASt} {A : AH} {Q : List D → AH → Prop} (c : D → Bool) (f : D → D) (hg : gd A) : ∀ (ds acc : List D), acc.length + ds.length ≤ sizeLine → (∀ d ∈ ds, ∀ (R : D → AH → Prop) (S : AH → Prop), (c d = true → R (f d) A) → (c d = false → S A) → bindK p d δ (fun δ2 => tt δ2 A (fun b A1 => if b = true then te δ2 A1 R noX else S A1) noX)) → Q (acc ++ (ds.filter c).map f) A → aComp gd p tt te δ ds acc A Q
  | [], acc, _, _, q => ⟨hg, by simpa using q⟩
  | d :: ds, acc, hl, h, q => by
    refine ⟨hg, ?_⟩
    rw [List.length_cons] at hl
    refine h d List.mem_cons_self (fun y A2 => acc.length < sizeLine ∧ aComp gd p tt te δ ds (acc ++ [y]) A2 Q) (fun A1 => aComp gd p tt te δ ds acc A1 Q) (fun hc => ⟨by omega, comp_filter c f hg ds (acc ++ [f d]) ?_ (fun x hx => h x (List.mem_cons_of_mem _ hx)) ?_⟩) (fun hc => comp_filter c f hg ds acc (by omega) (fun x hx => h x (List.mem_cons_of_mem _ hx)) ?_)
    · rw [List.length_append, List.length_cons, List.length_nil]; omega
    · rw [List.append_assoc]
      rw [List.filter_cons_of_pos hc] at q; exact q
    · rw [List.filter_cons_of_neg (by rw [hc]; decide)] at q; exact q
theorem loop_for {gd : AH → Prop} {p : Pat} {tb : AS} {N : AEnds} {ds : List D} {δ : ASt} {A : AH} (P : Nat → ASt → AH → Prop) (h0 : P 0 δ A) (hg : ∀ i δ A, i ≤ ds.length → P i δ A → gd A)
    (hs : ∀ i d δ A (R : ASt → AH → Prop), ds[i]? = some d → P i δ A → (∀ δ' A', P (i + 1) δ' A' → R δ' A') → bindK p d δ (fun δ2 => tb { N with nx := R, ct := R, bk := N.nx } δ2 A))
    (hd : ∀ δ A, P ds.length δ A → N.nx δ A) : aLoop gd p tb N ds δ A := loop_inv P h0 hg (fun i d δ A R h1 h2 h3 => hs i d δ A R h1 h2 h3) hd
theorem rngL_get {lo : Int} {n i : Nat} {d : D} (h : (rngL lo n)[i]? = some d) : i < n ∧ d = .int (lo + i) := by
  unfold rngL at h
  rw [List.getElem?_map] at h
  cases e : (List.range n)[i]? with
  | none => rw [e] at h; cases h
  | some j =>
    rw [e] at h
    obtain ⟨h1, h2⟩ := List.getElem?_eq_some_iff.mp e
    simp at h1 h2
    subst h2
    exact ⟨h1, (Option.some.inj h).symm⟩
theorem rngL_len {lo : Int} {n : Nat} : (rngL lo n).length = n := by simp [rngL]
def putM (kvs : List (D × D)) (k v : D) : List (D × D) := putD kvs k v
theorem putM_eq {kvs : List (D × D)} {k v : D} : putM kvs k v = if (kvs.any fun p => keyEq p.1 k) = true then kvs.map (fun p => if keyEq p.1 k = true then (p.1, v) else p) else kvs ++ [(k, v)] := rfl
theorem mergeD_eq {l : List (D × D)} : mergeD l = l.foldl (fun acc kv => putM acc kv.1 kv.2) [] := rfl
theorem valD_nil {k : D} : valD [] k = none := rfl
theorem valD_cons {q v k : D} {r : List (D × D)} : valD ((q, v) :: r) k = if keyEq q k = true then some v else valD r k := by rw [valD]
theorem fin_sub {Q : AQ} {d : D} {A A' : AH} (s : ∀ a o, A a = some o → A' a = some o) (h : Q d A) : fin Q d A' := ⟨A, s, h⟩
theorem bls_map (f : D → Bool) : ∀ ds : List D, blsOf (ds.map fun d => .bl (f d)) = some (ds.map f)
  | [] => rfl
  | d :: ds => by rw [List.map_cons, blsOf, bls_map f ds]; rfl
end Av

set_option Elab.async false
set_option linter.all false
set_option maxRecDepth 100000
set_option maxHeartbeats 4000000
/-! own library Av, part 15: calls with keywords -/
namespace Av
open PySem PySem.Spec PyProof.Rows L2 My
section
variable {X : Cx} {W : WX} {k n : Nat} {f C : Addr} {asp : ASp} {x m nm : Str} {e o : Expr} {es : List Expr} {ks : List Str} {kws : List Keyword} {ta te : AE} {t : AA} {kpos p pos apos : Pos} {nmo : Option Str}
theorem PK.imp {t t' : TA} (h : PK X kws t) (i : ∀ σ H Q, t' σ H Q → t σ H Q) : PK X kws t' := ⟨fun pos pins s σ H Q I q => h.run pos pins s σ H Q I (i _ _ _ q)⟩
theorem ak_nil : PK X [] (liftA X.K W aNil) := PK.imp pk_nil fun σ H Q ⟨δ, F, A, Q', E', a, q, p⟩ => p _ _ _ _ _ q Ext.refl a.rel .nil
theorem ak_cons (ha : PE X e (liftE X.K W te)) (hr : PK X kws (liftA X.K W t)) : PK X (⟨nmo, e, kpos⟩ :: kws) (liftA X.K W (aCons te t)) := PK.imp (pk_cons ha hr) fun σ H Q ⟨δ, h⟩ =>
  (Lf.bindE (k := fun x A1 Q E => t δ A1 (fun xs A2 => Q (x :: xs) A2) E) h).mono fun v1 H1 ⟨x1, h1⟩ => (Lf.core (R1 := Reps X.K) (k := fun xs A2 Q E => Q (x1 :: xs) A2) h1).mono fun vs H2 ⟨xs, F, A, Q', E', a, r, q, p⟩ => by
    cases a.held with
    | cons r0 _ => exact p _ _ _ _ _ q Ext.refl a.rel (.cons r0 r)
/-- a promise for n values in all -/
def lenSp (n : Nat) (asp : ASp) : ASp := fun ds A Q E => ds.length = n ∧ asp ds A Q E
theorem lenSp_ok {K : PySem.W.Frag} {vs : List V} {H : Hp} {Q : VK} {E : XK} (h : liftSp K (lenSp n asp) vs H Q E) : vs.length = n ∧ liftSp K asp vs H Q E := by
  obtain ⟨F, A, ds, Q', E', R, r, ⟨l, q⟩, po, g⟩ := h
  exact ⟨by rw [← r.length]; exact l, F, A, ds, Q', E', R, r, q, po, g⟩
/-- the promise of a def that is called with keywords: those behind the others -/
abbrev FnKA (P : Program) (w : World) (K : PySem.W.Frag) (mg : Str → Option Value) (base : Heap) (CX : CXT) (k : Nat) (f : Addr) (n : Nat) (ks : List Str) (asp : ASp) : Prop := FnK P w K mg base CX k f n ks (fun vs zs => liftSp K asp (vs ++ zs))
theorem ae_methK0R {pl : Sem Bool} (he : PE X o (liftE X.K W ta)) (c : Cls X.K C) (hm : Meth X.K C m f) (F : FnKA X.prog X.w X.K X.mg X.base CX0 k f 1 ks asp) (hr : Room k X.A) (hkw : PK X kws (liftA X.K W t))
    (hall : (backToKw pos (keywordEach kws X.env)).all (·.1.isSome) = true := by rfl) (hks : (backToKw pos (keywordEach kws X.env)).filterMap (·.1) = ks := by rfl)
    (hpl : ((backTo pos (starEach [] X.env)).any (·.1) || (backToKw pos (keywordEach kws X.env)).any (·.1.isNone)) = false := by rfl)
    (ht : eval (.Call (.Attribute o m apos) [] kws pos) X.env = (do
      let ov ← eval o X.env
      standAt apos.atName
      let (f, first) ← holding [ov] (getMethod ov m pl)
      callWith pos f first (backTo pos (starEach [] X.env)) (backToKw pos (keywordEach kws X.env))) := by rfl) :
    PE X (.Call (.Attribute o m apos) [] kws pos) (liftE X.K W (aMeth C m (lenSp (ks.length + 1) asp) ta t)) := PE.imp (pe_methKW0 (E := fun _ => anyX) he c hm F hr (fun σ pins => pass0 pins σ) hkw hall hks hpl ht) fun σ H Q h => (lift_meth h).mono fun x H1 ⟨a, dx, fs, e1, e2, e3, z⟩ => ⟨a, dx, fs, e1, e2, e3, z.mono fun vs H2 h2 => by
      obtain ⟨l, h3⟩ := lenSp_ok h2
      exact ⟨rfl, Nat.succ.inj l, sp_any h3⟩⟩
end
section
variable {P : Program} {w : World} {K : PySem.W.Frag} {mg : Str → Option Value} {base : Heap} {x qual : Str} {params : Arguments} {body : List Stmt} {scope : Scope} {dvs : List V} {kws : List (Str × V)} {f : Addr} {fd : FuncData} {N ps ks : List Str} {k : Nat} {asp : ASp}
/-- def f(a, b = d) called f(a, b = v): every default is given -/
theorem FunD.AK (n : Nat) (ks : List Str) (F : FunD K x qual params body scope dvs kws f fd) (S : FnScope N ps scope) (len : ∀ ds A Q E, asp ds A Q E → ds.length = ps.length) (hd : dvs ≠ [])
    (hb : ∀ (T : Addr) (kV doc pm : Value) (an : Option Addr) (cdv ct : Value) (us its ws : List Value), us.length = n → its.length = dvs.length → ws.length = ks.length →
      ∃ k, bindArgs (PySem.W.fnOf x qual params body scope (.ref T) kV doc pm an cdv ct) ⟨us, ks.zip ws⟩ = seqItems? (.ref T) >>= k ∧ k (some its.toArray) = pure (ps.zip (us ++ ws)))
    (hbody : BodyR P w K mg base qual body scope f N k asp) : FnKA P w K mg base CX0 (k + 1) f n ks asp := by
  obtain ⟨its, hB⟩ := FunD.kbindsD (ps := ps) F n ks (fun us _ ws => us ++ ws) hd (fun r1 _ r3 => r1.append r3) hb
  refine FnK.of (sp := liftSp K asp) (FunD.ok F S (liftSp_len len) fun cdv A outer s H vs Q E hr h => ?_) hB
  obtain ⟨t, ht, hq⟩ := bodyR (dd := []) hbody cdv A outer s H vs Q E hr h
  exact ⟨t, ht.nox, hq⟩
end
end Av

set_option Elab.async false
set_option linter.all false
set_option maxRecDepth 100000
set_option maxHeartbeats 4000000
/-! own library Av, part 16: a law's script -/
namespace Av
open PySem PySem.Spec PyProof.Rows L2 My
theorem reps_ints {K : PySem.W.Frag} {F : Addr → Prop} {H : Hp} : ∀ ns : List Int, Reps K F H (ns.map D.int) (ns.map V.int)
  | [] => .nil
  | n :: ns => .cons (.int n) (reps_ints ns)
/-- a local that no one changes from here on is told by value -/
def aFrzS (i : Nat) (t : AS) : AS := fun N δ A => ∃ p o, δ[i]? = some (some (.ref p)) ∧ A p = some o ∧ t N (δ.set i (some (frz o))) (del A p)
theorem as_frz {X : Cx} {W : WX} {st : Stmt} {t : AS} (i : Nat) (h : PS X st (liftS X.K W t)) : PS X st (liftS X.K W (aFrzS i t)) := PS.imp h fun D σ H ⟨F, A, δ, D', R, s, ⟨p, o, e1, e2, q⟩, e⟩ => by
  obtain ⟨R2, x2, r2⟩ := R.frz e2
  refine ⟨_, _, δ.set i (some (frz o)), D', R2, ?_, q, e.step x2⟩
  obtain ⟨v, hv, rv⟩ := s.get e1
  cases rv
  have s2 := (s.kept (x2.kept R)).set r2 i
  have e3 : σ.set i (some (V.ref p)) = σ := by
    obtain ⟨hl, hv⟩ := List.getElem?_eq_some_iff.mp hv
    rw [← hv]; exact List.set_getElem_self hl
  rw [e3] at s2
  exact s2
theorem aFrzS_eq {i : Nat} {t : AS} {N : AEnds} {δ : ASt} {A : AH} : aFrzS i t N δ A = aVar i δ A (fun d A1 => refK d (fun a => oK (A1 a) (fun o => t N (δ.set i (some (frz o))) (del A1 a)) ⟨⟩)) noX := by
  apply propext
  unfold aFrzS aVar refK oK
  constructor
  · rintro ⟨q, o, h0, h1, h2⟩; exact ⟨_, h0, q, rfl, o, h1, h2⟩
  · rintro ⟨d, h0, q, rfl, o, h1, h2⟩; exact ⟨q, o, h0, h1, h2⟩
/-- the script, nothing else -/
theorem law_lift {K : PySem.W.Frag} {H : Hp} {a : Addr} {ns : List Int} {Q : VK} {E : XK} {asp : ASp} (hS : SqL K H a (ns.map V.int)) (h : ∀ (A : AH) (Q' : AQ), (∀ A', Q' (.bl true) A') → asp [.rol (ns.map D.int)] A Q' noX) (k : ∀ H', Q (.bl true) H') : liftSp K asp [.ref a] H Q E := by
  have po : ∀ {F : Addr → Prop}, Post K (Rep K) F (fun _ => none) H (fun d _ => d = .bl true) Q := fun x A' F' H' y e _ _ r => by
    have e : x = .bl true := e
    subst e
    cases r
    exact k _
  rcases hS with hS | hS
  · refine ⟨fun c => c = a, fun _ => none, _, fun d _ => d = .bl true, noX, ⟨(fun _ _ z => by cases z), fun c e => ?_⟩, .cons (.rol rfl hS (reps_ints ns)) .nil, h _ _ (fun _ => rfl), po, fun C fs A' F' H' dd fv z => z.elim⟩
    subst e
    rcases hS with hS | ⟨o, hS⟩
    · exact ⟨_, hS⟩
    · exact ⟨_, hS⟩
  · exact ⟨fun _ => False, fun _ => none, _, fun d _ => d = .bl true, noX, ⟨(fun _ _ z => by cases z), fun c e => e.elim⟩, .cons (.rolK hS (reps_ints ns)) .nil, h _ _ (fun _ => rfl), po, fun C fs A' F' H' dd fv z => z.elim⟩
theorem Reps.rev {K : PySem.W.Frag} {F : Addr → Prop} {H : Hp} : ∀ {ds : List D} {vs : List V}, Reps K F H ds vs → Reps K F H ds.reverse vs.reverse
  | _, _, .nil => .nil
  | _, _, .cons a r => by rw [List.reverse_cons, List.reverse_cons]; exact (Reps.rev r).append (.cons a .nil)
def gmRev : GM := fun l ds A Q _ => ∃ ys, ds = [] ∧ A l = some (.lst ys) ∧ Q .non (put A l (.lst ys.reverse))
theorem ma_reverse {X : Cx} : MtA X "list.reverse" gmRev := ⟨_, fun W δ σ H l xs vs Q ⟨F, A, Q', E', a, ⟨ys, e1, e2, q⟩, po⟩ => by
  subst e1
  cases a.held with
  | cons _ r =>
    obtain rfl := r.none
    obtain ⟨us, eh, ro⟩ := live_l a.rel e2
    obtain ⟨R2, x2⟩ := a.rel.put e2 (RepO.lst (Reps.rev ro))
    exact ⟨l, us, rfl, rfl, eh, po _ _ _ _ _ q x2 R2 .non⟩, mt_reverse⟩
theorem gmRev_eq {A : AH} {Q : AQ} {E : AX} {l : Addr} : gmRev l [] A Q E = oK (lstO (A l)) (fun ys => Q .non (put A l (.lst ys.reverse))) ⟨⟩ := by
  apply propext
  unfold gmRev oK
  constructor
  · rintro ⟨ys, h0, h1, h2⟩; exact ⟨ys, by rw [h1]; rfl, h2⟩
  · rintro ⟨ys, h1, h2⟩; exact ⟨ys, rfl, lstO_some h1, h2⟩
end Av

set_option Elab.async false
set_option linter.all false
set_option maxRecDepth 100000
set_option maxHeartbeats 4000000
/-! own library Av, part 17: the rules of a run, bundled (printed by mk17.py) -/
namespace Av
open PySem PySem.Spec PyProof.Rows L2 My
def RD := (And.intro (And.intro (And.intro (And.intro (And.intro (And.intro (And.intro @oK_some (And.intro @oK_none @bindK_nm)) (And.intro @bindK_tp (And.intro @bindKs_nil @bindKs_cons))) (And.intro (And.intro @truK_non (And.intro @truK_bl @truK_int)) (And.intro (And.intro @truK_str @truK_tup) (And.intro @truK_lst @truK_ref)))) (And.intro (And.intro (And.intro @aSeq_eq (And.intro @aNext_eq @aBrk_eq)) (And.intro @aCont_eq (And.intro @aDrop_eq @aRet_eq))) (And.intro (And.intro @aRetN_eq (And.intro @aIfS_eq @aAsg_eq)) (And.intro (And.intro @aPar_eq @aFor_eq) (And.intro @aVar_0 @aVar_s))))) (And.intro (And.intro (And.intro (And.intro @aC_eq (And.intro @aOp_eq @aUn_eq)) (And.intro @blK_bl (And.intro @aB_eq @aTru_eq))) (And.intro (And.intro @aOrV_eq (And.intro @aAndV_eq @aNotV_eq)) (And.intro (And.intro @aAnd_eq @aOr_eq) (And.intro @aNot_eq @aYes_eq)))) (And.intro (And.intro (And.intro @aIf_eq (And.intro @aNil_eq @aCons_eq)) (And.intro @aTup_eq (And.intro @aLst_eq @aNew_t))) (And.intro (And.intro @aNew_f (And.intro @frz_lst @frz_dct)) (And.intro (And.intro @frz_ins @aCB_eq) (And.intro @aCall_eq @aMeth_eq)))))) (And.intro (And.intro (And.intro (And.intro (And.intro @aProp_eq (And.intro @aFld_eq @refK_ref)) (And.intro @aSetFld_eq (And.intro @aRaise_eq @aMake_t))) (And.intro (And.intro @aMake_f (And.intro @aItL_eq @aItT_eq)) (And.intro (And.intro @intK_int @aRng1_eq) (And.intro @aRng2_eq @aEnum_eq)))) (And.intro (And.intro (And.intro @aZip_eq (And.intro @aZipA_eq @zipK_l)) (And.intro @zipK_t (And.intro @strK_str @aItS_eq))) (And.intro (And.intro @aLc_eq (And.intro @aTry_eq @aFldX_eq)) (And.intro (And.intro @gI_eq @gI0_eq) (And.intro @gAdd_i @gAdd_s))))) (And.intro (And.intro (And.intro (And.intro @gAdd_t (And.intro @gAdd_l @gAdd_rl)) (And.intro @gAdd_lr (And.intro @gAdd_rr @gMul_i))) (And.intro (And.intro @gMul_l (And.intro @gNeg_eq @gLt_i)) (And.intro (And.intro @gLt_s @gLe_i) (And.intro @gLe_s @gGt_i)))) (And.intro (And.intro (And.intro @gGt_s (And.intro @gGe_i @gGe_s)) (And.intro @gIs_f (And.intro @gIs_t @gEq_fii))) (And.intro (And.intro @gEq_fss (And.intro @gEq_fbb @gEq_fnn)) (And.intro (And.intro @gEq_fns @gEq_fsn) (And.intro @gEq_fni @gEq_fin))))))) (And.intro (And.intro (And.intro (And.intro (And.intro (And.intro @gEq_fis (And.intro @gEq_fsi @gEq_flstlst)) (And.intro @gEq_flsttup (And.intro @gEq_flstref @gEq_ftuplst))) (And.intro (And.intro @gEq_ftuptup (And.intro @gEq_ftupref @gEq_freflst)) (And.intro (And.intro @gEq_freftup @gEq_frefref) (And.intro @gIn_flst @gIn_ftup)))) (And.intro (And.intro (And.intro @gIn_fref (And.intro @gIn_fstr @aInT_f)) (And.intro @gDIn_f (And.intro @gInO_f @gEq_tii))) (And.intro (And.intro @gEq_tss (And.intro @gEq_tbb @gEq_tnn)) (And.intro (And.intro @gEq_tns @gEq_tsn) (And.intro @gEq_tni @gEq_tin))))) (And.intro (And.intro (And.intro (And.intro @gEq_tis (And.intro @gEq_tsi @gEq_tlstlst)) (And.intro @gEq_tlsttup (And.intro @gEq_tlstref @gEq_ttuplst))) (And.intro (And.intro @gEq_ttuptup (And.intro @gEq_ttupref @gEq_treflst)) (And.intro (And.intro @gEq_treftup @gEq_trefref) (And.intro @gIn_tlst @gIn_ttup)))) (And.intro (And.intro (And.intro @gIn_tref (And.intro @gIn_tstr @aInT_t)) (And.intro @gDIn_t (And.intro @gInO_t @gDGet_eq))) (And.intro (And.intro @aDPut_eq (And.intro @aDGet2_eq @aDGet1_eq)) (And.intro (And.intro @gSubs_lst @gSubs_tup) (And.intro @gSubs_rol @gSubs_ref)))))) (And.intro (And.intro (And.intro (And.intro (And.intro @gSubs_str (And.intro @gLen_lst @gLen_tup)) (And.intro @gLen_rol (And.intro @gLen_ref @gLen_str))) (And.intro (And.intro @gList_eq (And.intro @gTuple_eq @gInt_i)) (And.intro (And.intro @gInt_b @gAbs_eq) (And.intro @gMax_eq @gMin_eq)))) (And.intro (And.intro (And.intro @gStr_eq (And.intro @gBool_eq @gAll_eq)) (And.intro @gAny_eq (And.intro @gIsi_eq @gIsi2_eq))) (And.intro (And.intro @aBM_eq (And.intro @gmAppend_eq @gmRev_eq)) (And.intro (And.intro @gmPop_eq @gmPopAt_eq) (And.intro @gmExtT_eq @aNoPart_eq))))) (And.intro (And.intro (And.intro (And.intro @aPart_eq (And.intro @aSl_eq @gSl_lst)) (And.intro @gSl_rol (And.intro @gSl_tup @gSl_str))) (And.intro (And.intro @gSl_ref (And.intro @aSetIx_eq @agNm_eq)) (And.intro (And.intro @agNil_eq @agCons_eq) (And.intro @agTp_eq @agDk_eq)))) (And.intro (And.intro (And.intro @aAsgG_eq (And.intro @aPairs_nil @aPairs_cons)) (And.intro (And.intro @aDisp_eq @aDNew_eq) (And.intro @gLenO_eq @aFrz_eq))) (And.intro (And.intro @aFrzS_eq (And.intro @endsOf_nx @endsOf_rt)) (And.intro (And.intro @endsOf_ex @oneK_eq) (And.intro @twoK_eq @ch1_str))))))))
def RU := (And.intro (And.intro (And.intro (And.intro (And.intro (And.intro (And.intro @flatV_str (And.intro @flatV_int @flatV_non)) (And.intro (And.intro @kit_NoneType_bool @kit_NoneType_int) (And.intro @kit_NoneType_str @kit_NoneType_list))) (And.intro (And.intro (And.intro @kit_NoneType_tuple @kit_NoneType_dict) (And.intro @kit_bool_bool @kit_bool_int)) (And.intro (And.intro @kit_bool_str @kit_bool_list) (And.intro @kit_bool_tuple @kit_bool_dict)))) (And.intro (And.intro (And.intro (And.intro @kit_int_bool @kit_int_int) (And.intro @kit_int_str @kit_int_list)) (And.intro (And.intro @kit_int_tuple @kit_int_dict) (And.intro @kit_str_bool @kit_str_int))) (And.intro (And.intro (And.intro @kit_str_str @kit_str_list) (And.intro @kit_str_tuple @kit_str_dict)) (And.intro (And.intro @kit_list_bool @kit_list_int) (And.intro @kit_list_str @kit_list_list))))) (And.intro (And.intro (And.intro (And.intro @kit_list_tuple (And.intro @kit_list_dict @kit_tuple_bool)) (And.intro (And.intro @kit_tuple_int @kit_tuple_str) (And.intro @kit_tuple_list @kit_tuple_tuple))) (And.intro (And.intro (And.intro @kit_tuple_dict @kit_dict_bool) (And.intro @kit_dict_int @kit_dict_str)) (And.intro (And.intro @kit_dict_list @kit_dict_tuple) (And.intro @kit_dict_dict @leS0)))) (And.intro (And.intro (And.intro (And.intro @leS1 @leS2) (And.intro @leS3 @leS4)) (And.intro (And.intro @leS5 @leS6) (And.intro @leS7 @leS8))) (And.intro (And.intro (And.intro @leS9 @leS10) (And.intro @leS11 @leS12)) (And.intro (And.intro @truO_lst @lstO_lst) (And.intro @truO_dct @lstO_dct)))))) (And.intro (And.intro (And.intro (And.intro (And.intro @topO_dct (And.intro @truO_ins @lstO_ins)) (And.intro (And.intro @topO_ins @dctO_dct) (And.intro @dctO_lst @dctO_ins))) (And.intro (And.intro (And.intro @insO_ins @insO_lst) (And.intro @insO_dct @kdOO_lst)) (And.intro (And.intro @kdOO_dct @topO_lst) (And.intro @truD_non @truD_bl)))) (And.intro (And.intro (And.intro (And.intro @truD_int @truD_str) (And.intro @truD_ty @truD_ref)) (And.intro (And.intro @truD_tup @truD_lst) (And.intro @truD_rol @truD_dct))) (And.intro (And.intro (And.intro @truD_dtt @truD_obj) (And.intro @truD_exc @lenOk_non)) (And.intro (And.intro @lenOk_bl @lenOk_int) (And.intro @lenOk_str @lenOk_ty))))) (And.intro (And.intro (And.intro (And.intro @lenOk_ref (And.intro @lenOk_tup @lenOk_lst)) (And.intro (And.intro @lenOk_rol @lenOk_dct) (And.intro @lenOk_dtt @lenOk_obj))) (And.intro (And.intro (And.intro @lenOk_exc @asL_non) (And.intro @asL_bl @asL_int)) (And.intro (And.intro @asL_str @asL_ty) (And.intro @asL_ref @asL_tup)))) (And.intro (And.intro (And.intro (And.intro @asL_lst @asL_rol) (And.intro @asL_dct @asL_dtt)) (And.intro (And.intro @asL_obj @asL_exc) (And.intro @asX_non @asX_bl))) (And.intro (And.intro (And.intro @asX_int @asX_str) (And.intro @asX_ty @asX_ref)) (And.intro (And.intro @asX_tup @asX_lst) (And.intro @asX_rol @asX_dct))))))) (And.intro (And.intro (And.intro (And.intro (And.intro (And.intro @asX_dtt (And.intro @asX_obj @asX_exc)) (And.intro (And.intro @asT_non @asT_bl) (And.intro @asT_int @asT_str))) (And.intro (And.intro (And.intro @asT_ty @asT_ref) (And.intro @asT_tup @asT_lst)) (And.intro (And.intro @asT_rol @asT_dct) (And.intro @asT_dtt @asT_obj)))) (And.intro (And.intro (And.intro (And.intro @asT_exc @asD_non) (And.intro @asD_bl @asD_int)) (And.intro (And.intro @asD_str @asD_ty) (And.intro @asD_ref @asD_tup))) (And.intro (And.intro (And.intro @asD_lst @asD_rol) (And.intro @asD_dct @asD_dtt)) (And.intro (And.intro @asD_obj @asD_exc) (And.intro @asO_non @asO_bl))))) (And.intro (And.intro (And.intro (And.intro @asO_int (And.intro @asO_str @asO_ty)) (And.intro (And.intro @asO_ref @asO_tup) (And.intro @asO_lst @asO_rol))) (And.intro (And.intro (And.intro @asO_dct @asO_dtt) (And.intro @asO_obj @asO_exc)) (And.intro (And.intro @asQ_non @asQ_bl) (And.intro @asQ_int @asQ_str)))) (And.intro (And.intro (And.intro (And.intro @asQ_ty @asQ_ref) (And.intro @asQ_tup @asQ_lst)) (And.intro (And.intro @asQ_rol @asQ_dct) (And.intro @asQ_dtt @asQ_obj))) (And.intro (And.intro (And.intro @asQ_exc @isNoD_non) (And.intro @isNoD_bl @isNoD_int)) (And.intro (And.intro @isNoD_str @isNoD_ty) (And.intro @isNoD_ref @isNoD_tup)))))) (And.intro (And.intro (And.intro (And.intro (And.intro @isNoD_lst (And.intro @isNoD_rol @isNoD_dct)) (And.intro (And.intro @isNoD_dtt @isNoD_obj) (And.intro @isNoD_exc @scD_non))) (And.intro (And.intro (And.intro @scD_bl @scD_int) (And.intro @scD_str @scD_ty)) (And.intro (And.intro @scD_ref @scD_tup) (And.intro @scD_lst @scD_rol)))) (And.intro (And.intro (And.intro (And.intro @scD_dct @scD_dtt) (And.intro @scD_obj @scD_exc)) (And.intro (And.intro @keyOf_non @keyOf_bl) (And.intro @keyOf_int @keyOf_str))) (And.intro (And.intro (And.intro @keyOf_ty @keyOf_ref) (And.intro @keyOf_tup @keyOf_lst)) (And.intro (And.intro @keyOf_rol @keyOf_dct) (And.intro @keyOf_dtt @keyOf_obj))))) (And.intro (And.intro (And.intro (And.intro @keyOf_exc (And.intro @kdD_non @kdD_bl)) (And.intro (And.intro @kdD_int @kdD_str) (And.intro @kdD_ty @kdD_ref))) (And.intro (And.intro (And.intro @kdD_tup @kdD_lst) (And.intro @kdD_rol @kdD_dct)) (And.intro (And.intro @kdD_dtt @kdD_obj) (And.intro @kdD_exc @topP_non)))) (And.intro (And.intro (And.intro (And.intro @topP_bl @topP_int) (And.intro @topP_str @topP_ty)) (And.intro (And.intro @topP_ref @topP_tup) (And.intro @topP_lst @topP_rol))) (And.intro (And.intro (And.intro @topP_dct @topP_dtt) (And.intro @topP_obj @topP_exc)) (And.intro (And.intro @keyEq_ii @keyEq_ss) (And.intro @keyEq_is @keyEq_si))))))))
end Av

set_option Elab.async false
set_option linter.all false
set_option maxRecDepth 100000
set_option maxHeartbeats 4000000
namespace V35
open PySem PySem.Spec PyProof.Rows L2 My Av
def top (i : Nat) : Stmt := PySem.Challenge.pw_owedanswers_k35_lines_beside_each_other.main.body.getD i (.Pass ⟨0, 0, 0, 0⟩)
abbrev s_is_out : Stmt := top 7
abbrev s_is_in : Stmt := top 8
abbrev s_mark_of : Stmt := top 9
abbrev s_is_amid : Stmt := top 10
abbrev s_row_fault : Stmt := top 11
abbrev s_mark_after : Stmt := top 12
abbrev s_Line___init__ : Stmt := inClass (top 14) 0
abbrev s_Line___len__ : Stmt := inClass (top 14) 1
abbrev s_Line___contains__ : Stmt := inClass (top 14) 2
abbrev s_Line_mark : Stmt := inClass (top 14) 3
abbrev s_Line_is_open : Stmt := inClass (top 14) 4
abbrev s_Line_is_clean : Stmt := inClass (top 14) 5
abbrev s_Line_owed : Stmt := inClass (top 14) 6
abbrev s_Line_need : Stmt := inClass (top 14) 7
abbrev s_Line_ask : Stmt := inClass (top 14) 8
abbrev s_Line_begin : Stmt := inClass (top 14) 9
abbrev s_Line_finish : Stmt := inClass (top 14) 10
abbrev s_Line_read : Stmt := inClass (top 14) 11
abbrev s_Line_head : Stmt := inClass (top 14) 12
abbrev s_Line_body : Stmt := inClass (top 14) 13
abbrev s_Line_drain : Stmt := inClass (top 14) 14
abbrev s_Line_close : Stmt := inClass (top 14) 15
abbrev s_Line_tags : Stmt := inClass (top 14) 16
abbrev s_l_source : Stmt := top 16
abbrev s_l_draw : Stmt := top 17
abbrev s_l_of : Stmt := top 18
abbrev s_l_same : Stmt := top 19
abbrev s_l_fault : Stmt := top 20
abbrev s_l_mark : Stmt := top 21
abbrev s_l_new : Stmt := top 22
abbrev s_l_due : Stmt := top 23
abbrev s_l_ask : Stmt := top 24
abbrev s_l_do : Stmt := top 25
abbrev s_l_call : Stmt := top 26
abbrev s_l_stands : Stmt := top 27
abbrev s_l_kept : Stmt := top 28
abbrev s_l_holds : Stmt := top 29
abbrev s_law : Stmt := top 30
theorem sc_is_out : FnScope ["mark"] ["mark"] (defScope s_is_out) := ⟨rfl, rfl, rfl, by decide +kernel, rfl, by decide +kernel, by decide +kernel⟩
theorem sc_is_in : FnScope ["mark"] ["mark"] (defScope s_is_in) := ⟨rfl, rfl, rfl, by decide +kernel, rfl, by decide +kernel, by decide +kernel⟩
theorem sc_mark_of : FnScope ["sending", "reading"] ["sending", "reading"] (defScope s_mark_of) := ⟨rfl, rfl, rfl, by decide +kernel, rfl, by decide +kernel, by decide +kernel⟩
theorem sc_is_amid : FnScope ["word", "mark"] ["word", "mark"] (defScope s_is_amid) := ⟨rfl, rfl, rfl, by decide +kernel, rfl, by decide +kernel, by decide +kernel⟩
theorem sc_row_fault : FnScope ["word", "mark", "owed"] ["word", "mark", "owed"] (defScope s_row_fault) := ⟨rfl, rfl, rfl, by decide +kernel, rfl, by decide +kernel, by decide +kernel⟩
theorem sc_mark_after : FnScope ["word", "mark"] ["word", "mark"] (defScope s_mark_after) := ⟨rfl, rfl, rfl, by decide +kernel, rfl, by decide +kernel, by decide +kernel⟩
theorem sc_Line___init__ : FnScope ["self", "number"] ["self", "number"] (defScope s_Line___init__) := ⟨rfl, rfl, rfl, by decide +kernel, rfl, by decide +kernel, by decide +kernel⟩
theorem sc_Line___len__ : FnScope ["self"] ["self"] (defScope s_Line___len__) := ⟨rfl, rfl, rfl, by decide +kernel, rfl, by decide +kernel, by decide +kernel⟩
theorem sc_Line___contains__ : FnScope ["self", "tag"] ["self", "tag"] (defScope s_Line___contains__) := ⟨rfl, rfl, rfl, by decide +kernel, rfl, by decide +kernel, by decide +kernel⟩
theorem sc_Line_mark : FnScope ["self"] ["self"] (defScope s_Line_mark) := ⟨rfl, rfl, rfl, by decide +kernel, rfl, by decide +kernel, by decide +kernel⟩
theorem sc_Line_is_open : FnScope ["self"] ["self"] (defScope s_Line_is_open) := ⟨rfl, rfl, rfl, by decide +kernel, rfl, by decide +kernel, by decide +kernel⟩
theorem sc_Line_is_clean : FnScope ["self"] ["self"] (defScope s_Line_is_clean) := ⟨rfl, rfl, rfl, by decide +kernel, rfl, by decide +kernel, by decide +kernel⟩
theorem sc_Line_owed : FnScope ["self"] ["self"] (defScope s_Line_owed) := ⟨rfl, rfl, rfl, by decide +kernel, rfl, by decide +kernel, by decide +kernel⟩
theorem sc_Line_need : FnScope ["self", "word", "owed", "fault"] ["self", "word", "owed"] (defScope s_Line_need) := ⟨rfl, rfl, rfl, by decide +kernel, rfl, by decide +kernel, by decide +kernel⟩
theorem sc_Line_ask : FnScope ["self", "tags"] ["self", "tags"] (defScope s_Line_ask) := ⟨rfl, rfl, rfl, by decide +kernel, rfl, by decide +kernel, by decide +kernel⟩
theorem sc_Line_begin : FnScope ["self", "tag"] ["self", "tag"] (defScope s_Line_begin) := ⟨rfl, rfl, rfl, by decide +kernel, rfl, by decide +kernel, by decide +kernel⟩
theorem sc_Line_finish : FnScope ["self"] ["self"] (defScope s_Line_finish) := ⟨rfl, rfl, rfl, by decide +kernel, rfl, by decide +kernel, by decide +kernel⟩
theorem sc_Line_read : FnScope ["self"] ["self"] (defScope s_Line_read) := ⟨rfl, rfl, rfl, by decide +kernel, rfl, by decide +kernel, by decide +kernel⟩
theorem sc_Line_head : FnScope ["self"] ["self"] (defScope s_Line_head) := ⟨rfl, rfl, rfl, by decide +kernel, rfl, by decide +kernel, by decide +kernel⟩
theorem sc_Line_body : FnScope ["self"] ["self"] (defScope s_Line_body) := ⟨rfl, rfl, rfl, by decide +kernel, rfl, by decide +kernel, by decide +kernel⟩
theorem sc_Line_drain : FnScope ["self", "tags"] ["self"] (defScope s_Line_drain) := ⟨rfl, rfl, rfl, by decide +kernel, rfl, by decide +kernel, by decide +kernel⟩
theorem sc_Line_close : FnScope ["self", "cause"] ["self", "cause"] (defScope s_Line_close) := ⟨rfl, rfl, rfl, by decide +kernel, rfl, by decide +kernel, by decide +kernel⟩
theorem sc_Line_tags : FnScope ["self"] ["self"] (defScope s_Line_tags) := ⟨rfl, rfl, rfl, by decide +kernel, rfl, by decide +kernel, by decide +kernel⟩
theorem sc_l_source : FnScope ["_law_script", "_law_place", "_law_cell", "_law_large"] ["_law_script", "_law_place"] (defScope s_l_source) := ⟨rfl, rfl, rfl, by decide +kernel, rfl, by decide +kernel, by decide +kernel⟩
theorem sc_l_draw : FnScope ["_law_source_here", "_law_many", "_law_digit", "_law_turn", "_law_mixed"] ["_law_source_here", "_law_many"] (defScope s_l_draw) := ⟨rfl, rfl, rfl, by decide +kernel, rfl, by decide +kernel, by decide +kernel⟩
theorem sc_l_of : FnScope ["_law_source_here", "_law_some"] ["_law_source_here", "_law_some"] (defScope s_l_of) := ⟨rfl, rfl, rfl, by decide +kernel, rfl, by decide +kernel, by decide +kernel⟩
theorem sc_l_same : FnScope ["_law_actual", "_law_due_here", "_law_one", "_law_two"] ["_law_actual", "_law_due_here"] (defScope s_l_same) := ⟨rfl, rfl, rfl, by decide +kernel, rfl, by decide +kernel, by decide +kernel⟩
theorem sc_l_fault : FnScope ["_law_word", "_law_mark_here", "_law_owed", "_law_sending", "_law_reading", "_law_amid"] ["_law_word", "_law_mark_here", "_law_owed"] (defScope s_l_fault) := ⟨rfl, rfl, rfl, by decide +kernel, rfl, by decide +kernel, by decide +kernel⟩
theorem sc_l_mark : FnScope ["_law_word", "_law_mark_here", "_law_sending", "_law_reading"] ["_law_word", "_law_mark_here"] (defScope s_l_mark) := ⟨rfl, rfl, rfl, by decide +kernel, rfl, by decide +kernel, by decide +kernel⟩
theorem sc_l_new : FnScope ["_law_number"] ["_law_number"] (defScope s_l_new) := ⟨rfl, rfl, rfl, by decide +kernel, rfl, by decide +kernel, by decide +kernel⟩
theorem sc_l_due : FnScope ["_law_now", "_law_word", "_law_tags", "_law_why", "_law_queue", "_law_mark_here", "_law_fault_here"] ["_law_now", "_law_word", "_law_tags", "_law_why"] (defScope s_l_due) := ⟨rfl, rfl, rfl, by decide +kernel, rfl, by decide +kernel, by decide +kernel⟩
theorem sc_l_ask : FnScope ["_law_line", "_law_tags"] ["_law_line", "_law_tags"] (defScope s_l_ask) := ⟨rfl, rfl, rfl, by decide +kernel, rfl, by decide +kernel, by decide +kernel⟩
theorem sc_l_do : FnScope ["_law_line", "_law_word", "_law_tags", "_law_why"] ["_law_line", "_law_word", "_law_tags", "_law_why"] (defScope s_l_do) := ⟨rfl, rfl, rfl, by decide +kernel, rfl, by decide +kernel, by decide +kernel⟩
theorem sc_l_call : FnScope ["_law_line", "_law_word", "_law_tags", "_law_why", "_law_told", "e"] ["_law_line", "_law_word", "_law_tags", "_law_why"] (defScope s_l_call) := ⟨rfl, rfl, rfl, by decide +kernel, rfl, by decide +kernel, by decide +kernel⟩
theorem sc_l_stands : FnScope ["_law_line", "_law_now", "_law_tag", "_law_queue", "_law_mark_here"] ["_law_line", "_law_now", "_law_tag"] (defScope s_l_stands) := ⟨rfl, rfl, rfl, by decide +kernel, rfl, by decide +kernel, by decide +kernel⟩
theorem sc_l_kept : FnScope ["_law_line", "_law_source_here", "_law_held", "_law_told", "_law_tag"] ["_law_line", "_law_source_here", "_law_held"] (defScope s_l_kept) := ⟨rfl, rfl, rfl, by decide +kernel, rfl, by decide +kernel, by decide +kernel⟩
theorem sc_l_holds : FnScope ["_law_source_here", "_law_many", "_law_numbers", "_law_lines", "_law_models", "_law_words", "_law_held", "_law_turn", "_law_at", "_law_word", "_law_tags", "_law_due_here", "_law_told", "_law_line", "_law_now", "_law_number", "_law_place"] ["_law_source_here"] (defScope s_l_holds) := ⟨rfl, rfl, rfl, by decide +kernel, rfl, by decide +kernel, by decide +kernel⟩
theorem sc_law : FnScope ["_law_script", "_law_place"] ["_law_script"] (defScope s_law) := ⟨rfl, rfl, rfl, by decide +kernel, rfl, by decide +kernel, by decide +kernel⟩
def fa : List My.FaB := [fun K => (He.Fa.glo "is_out").ok K,
  fun K => (He.Fa.keep "is_out").ok K,
  fun K => (He.Fa.glo "is_in").ok K,
  fun K => (He.Fa.keep "is_in").ok K,
  fun K => (He.Fa.glo "mark_of").ok K,
  fun K => (He.Fa.keep "mark_of").ok K,
  fun K => (He.Fa.glo "is_amid").ok K,
  fun K => (He.Fa.keep "is_amid").ok K,
  fun K => (He.Fa.glo "row_fault").ok K,
  fun K => (He.Fa.keep "row_fault").ok K,
  fun K => (He.Fa.glo "mark_after").ok K,
  fun K => (He.Fa.keep "mark_after").ok K,
  fun K => (He.Fa.glo "Line").ok K,
  fun K => (He.Fa.cls "Line").ok K,
  fun K => (He.Fa.noat "Line" "number").ok K,
  fun K => (He.Fa.noat "Line" "cause").ok K,
  fun K => (He.Fa.noat "Line" "state").ok K,
  fun K => (He.Fa.noat "Line" "queue").ok K,
  fun K => (He.Fa.noat "Line" "sending").ok K,
  fun K => (He.Fa.noat "Line" "is_lent").ok K,
  fun K => (He.Fa.mkr "Line").ok K,
  fun K => He.eqO (PySem.W.findIn K (.ref (He.ga K "Line")) "__len__") (some (some (.ref (He.ma K (He.ga K "Line") "__len__")))) && PySem.W.isFn K (.ref (He.ma K (He.ga K "Line") "__len__")),
  fun K => He.eqO (PySem.W.findIn K (.ref (He.ga K "Line")) "__contains__") (some (some (.ref (He.ma K (He.ga K "Line") "__contains__")))) && PySem.W.isFn K (.ref (He.ma K (He.ga K "Line") "__contains__")),
  My.prpB "Line" "mark",
  My.prpB "Line" "is_open",
  My.prpB "Line" "is_clean",
  My.prpB "Line" "owed",
  fun K => (He.Fa.meth "Line" "need").ok K,
  fun K => (He.Fa.meth "Line" "ask").ok K,
  fun K => (He.Fa.meth "Line" "begin").ok K,
  fun K => (He.Fa.meth "Line" "finish").ok K,
  fun K => (He.Fa.meth "Line" "read").ok K,
  fun K => (He.Fa.meth "Line" "head").ok K,
  fun K => (He.Fa.meth "Line" "body").ok K,
  fun K => (He.Fa.meth "Line" "drain").ok K,
  fun K => (He.Fa.meth "Line" "close").ok K,
  fun K => (He.Fa.meth "Line" "tags").ok K,
  fun K => (He.Fa.glo "_law_source").ok K,
  fun K => (He.Fa.keep "_law_source").ok K,
  fun K => (He.Fa.glo "_law_draw").ok K,
  fun K => (He.Fa.keep "_law_draw").ok K,
  fun K => (He.Fa.glo "_law_of").ok K,
  fun K => (He.Fa.keep "_law_of").ok K,
  fun K => (He.Fa.glo "_law_same").ok K,
  fun K => (He.Fa.keep "_law_same").ok K,
  fun K => (He.Fa.glo "_law_fault").ok K,
  fun K => (He.Fa.keep "_law_fault").ok K,
  fun K => (He.Fa.glo "_law_mark").ok K,
  fun K => (He.Fa.keep "_law_mark").ok K,
  fun K => (He.Fa.glo "_law_new").ok K,
  fun K => (He.Fa.keep "_law_new").ok K,
  fun K => (He.Fa.glo "_law_due").ok K,
  fun K => (He.Fa.keep "_law_due").ok K,
  fun K => (He.Fa.glo "_law_ask").ok K,
  fun K => (He.Fa.keep "_law_ask").ok K,
  fun K => (He.Fa.glo "_law_do").ok K,
  fun K => (He.Fa.keep "_law_do").ok K,
  fun K => (He.Fa.glo "_law_call").ok K,
  fun K => (He.Fa.keep "_law_call").ok K,
  fun K => (He.Fa.glo "_law_stands").ok K,
  fun K => (He.Fa.keep "_law_stands").ok K,
  fun K => (He.Fa.glo "_law_kept").ok K,
  fun K => (He.Fa.keep "_law_kept").ok K,
  fun K => (He.Fa.glo "_law_holds").ok K,
  fun K => (He.Fa.keep "_law_holds").ok K,
  fun K => (He.Fa.glo "law").ok K,
  fun K => (He.Fa.keep "law").ok K,
  fun K => (He.Fa.free "len").ok K,
  fun K => (He.Fa.free "abs").ok K,
  fun K => (He.Fa.free "int").ok K,
  fun K => (He.Fa.free "str").ok K,
  fun K => (He.Fa.free "list").ok K,
  fun K => (He.Fa.free "isinstance").ok K,
  fun K => (He.Fa.free "range").ok K,
  fun K => (He.Fa.free "max").ok K,
  fun K => (He.Fa.free "min").ok K,
  fun K => (He.Fa.free "zip").ok K,
  fun K => (He.Fa.free "all").ok K,
  fun K => (He.Fa.free "bool").ok K,
  fun K => (He.Fa.free "tuple").ok K,
  fun K => (He.Fa.glo "LINE_WORDS").ok K,
  fun K => He.tupB K "LINE_WORDS" [.str "ask", .str "begin", .str "finish", .str "read", .str "head", .str "body"],
  fun K => (He.Fa.glo "OwedError").ok K,
  fun K => (He.Fa.exm "Amid" "Amid" true).ok K,
  fun K => (He.Fa.exm "Amid" "Closed" false).ok K,
  fun K => (He.Fa.exm "Amid" "Starved" false).ok K,
  fun K => (He.Fa.exm "Amid" "OwedError" true).ok K,
  fun K => (He.Fa.exm "Closed" "Amid" false).ok K,
  fun K => (He.Fa.exm "Closed" "Closed" true).ok K,
  fun K => (He.Fa.exm "Closed" "Starved" false).ok K,
  fun K => (He.Fa.exm "Closed" "OwedError" true).ok K,
  fun K => (He.Fa.exm "Starved" "Amid" false).ok K,
  fun K => (He.Fa.exm "Starved" "Closed" false).ok K,
  fun K => (He.Fa.exm "Starved" "Starved" true).ok K,
  fun K => (He.Fa.exm "Starved" "OwedError" true).ok K]
def D_is_out : He5.DefA := ⟨My.gloF "is_out", "is_out", "is_out", defArgs s_is_out, defBody s_is_out, defScope s_is_out, [], []⟩
def D_is_in : He5.DefA := ⟨My.gloF "is_in", "is_in", "is_in", defArgs s_is_in, defBody s_is_in, defScope s_is_in, [], []⟩
def D_mark_of : He5.DefA := ⟨My.gloF "mark_of", "mark_of", "mark_of", defArgs s_mark_of, defBody s_mark_of, defScope s_mark_of, [], []⟩
def D_is_amid : He5.DefA := ⟨My.gloF "is_amid", "is_amid", "is_amid", defArgs s_is_amid, defBody s_is_amid, defScope s_is_amid, [], []⟩
def D_row_fault : He5.DefA := ⟨My.gloF "row_fault", "row_fault", "row_fault", defArgs s_row_fault, defBody s_row_fault, defScope s_row_fault, [], []⟩
def D_mark_after : He5.DefA := ⟨My.gloF "mark_after", "mark_after", "mark_after", defArgs s_mark_after, defBody s_mark_after, defScope s_mark_after, [], []⟩
def D_Line___init__ : He5.DefA := ⟨My.mthF "Line" "__init__", "__init__", "Line.__init__", defArgs s_Line___init__, defBody s_Line___init__, defScope s_Line___init__, [.int 0], []⟩
def D_Line___len__ : He5.DefA := ⟨My.mthF "Line" "__len__", "__len__", "Line.__len__", defArgs s_Line___len__, defBody s_Line___len__, defScope s_Line___len__, [], []⟩
def D_Line___contains__ : He5.DefA := ⟨My.mthF "Line" "__contains__", "__contains__", "Line.__contains__", defArgs s_Line___contains__, defBody s_Line___contains__, defScope s_Line___contains__, [], []⟩
def D_Line_mark : He5.DefA := ⟨My.prpG "Line" "mark", "mark", "Line.mark", defArgs s_Line_mark, defBody s_Line_mark, defScope s_Line_mark, [], []⟩
def D_Line_is_open : He5.DefA := ⟨My.prpG "Line" "is_open", "is_open", "Line.is_open", defArgs s_Line_is_open, defBody s_Line_is_open, defScope s_Line_is_open, [], []⟩
def D_Line_is_clean : He5.DefA := ⟨My.prpG "Line" "is_clean", "is_clean", "Line.is_clean", defArgs s_Line_is_clean, defBody s_Line_is_clean, defScope s_Line_is_clean, [], []⟩
def D_Line_owed : He5.DefA := ⟨My.prpG "Line" "owed", "owed", "Line.owed", defArgs s_Line_owed, defBody s_Line_owed, defScope s_Line_owed, [], []⟩
def D_Line_need : He5.DefA := ⟨My.mthF "Line" "need", "need", "Line.need", defArgs s_Line_need, defBody s_Line_need, defScope s_Line_need, [], []⟩
def D_Line_ask : He5.DefA := ⟨My.mthF "Line" "ask", "ask", "Line.ask", defArgs s_Line_ask, defBody s_Line_ask, defScope s_Line_ask, [], []⟩
def D_Line_begin : He5.DefA := ⟨My.mthF "Line" "begin", "begin", "Line.begin", defArgs s_Line_begin, defBody s_Line_begin, defScope s_Line_begin, [], []⟩
def D_Line_finish : He5.DefA := ⟨My.mthF "Line" "finish", "finish", "Line.finish", defArgs s_Line_finish, defBody s_Line_finish, defScope s_Line_finish, [], []⟩
def D_Line_read : He5.DefA := ⟨My.mthF "Line" "read", "read", "Line.read", defArgs s_Line_read, defBody s_Line_read, defScope s_Line_read, [], []⟩
def D_Line_head : He5.DefA := ⟨My.mthF "Line" "head", "head", "Line.head", defArgs s_Line_head, defBody s_Line_head, defScope s_Line_head, [], []⟩
def D_Line_body : He5.DefA := ⟨My.mthF "Line" "body", "body", "Line.body", defArgs s_Line_body, defBody s_Line_body, defScope s_Line_body, [], []⟩
def D_Line_drain : He5.DefA := ⟨My.mthF "Line" "drain", "drain", "Line.drain", defArgs s_Line_drain, defBody s_Line_drain, defScope s_Line_drain, [], []⟩
def D_Line_close : He5.DefA := ⟨My.mthF "Line" "close", "close", "Line.close", defArgs s_Line_close, defBody s_Line_close, defScope s_Line_close, [.non], []⟩
def D_Line_tags : He5.DefA := ⟨My.mthF "Line" "tags", "tags", "Line.tags", defArgs s_Line_tags, defBody s_Line_tags, defScope s_Line_tags, [], []⟩
def D_l_source : He5.DefA := ⟨My.gloF "_law_source", "_law_source", "_law_source", defArgs s_l_source, defBody s_l_source, defScope s_l_source, [], []⟩
def D_l_draw : He5.DefA := ⟨My.gloF "_law_draw", "_law_draw", "_law_draw", defArgs s_l_draw, defBody s_l_draw, defScope s_l_draw, [], []⟩
def D_l_of : He5.DefA := ⟨My.gloF "_law_of", "_law_of", "_law_of", defArgs s_l_of, defBody s_l_of, defScope s_l_of, [], []⟩
def D_l_same : He5.DefA := ⟨My.gloF "_law_same", "_law_same", "_law_same", defArgs s_l_same, defBody s_l_same, defScope s_l_same, [], []⟩
def D_l_fault : He5.DefA := ⟨My.gloF "_law_fault", "_law_fault", "_law_fault", defArgs s_l_fault, defBody s_l_fault, defScope s_l_fault, [], []⟩
def D_l_mark : He5.DefA := ⟨My.gloF "_law_mark", "_law_mark", "_law_mark", defArgs s_l_mark, defBody s_l_mark, defScope s_l_mark, [], []⟩
def D_l_new : He5.DefA := ⟨My.gloF "_law_new", "_law_new", "_law_new", defArgs s_l_new, defBody s_l_new, defScope s_l_new, [], []⟩
def D_l_due : He5.DefA := ⟨My.gloF "_law_due", "_law_due", "_law_due", defArgs s_l_due, defBody s_l_due, defScope s_l_due, [], []⟩
def D_l_ask : He5.DefA := ⟨My.gloF "_law_ask", "_law_ask", "_law_ask", defArgs s_l_ask, defBody s_l_ask, defScope s_l_ask, [], []⟩
def D_l_do : He5.DefA := ⟨My.gloF "_law_do", "_law_do", "_law_do", defArgs s_l_do, defBody s_l_do, defScope s_l_do, [], []⟩
def D_l_call : He5.DefA := ⟨My.gloF "_law_call", "_law_call", "_law_call", defArgs s_l_call, defBody s_l_call, defScope s_l_call, [], []⟩
def D_l_stands : He5.DefA := ⟨My.gloF "_law_stands", "_law_stands", "_law_stands", defArgs s_l_stands, defBody s_l_stands, defScope s_l_stands, [], []⟩
def D_l_kept : He5.DefA := ⟨My.gloF "_law_kept", "_law_kept", "_law_kept", defArgs s_l_kept, defBody s_l_kept, defScope s_l_kept, [], []⟩
def D_l_holds : He5.DefA := ⟨My.gloF "_law_holds", "_law_holds", "_law_holds", defArgs s_l_holds, defBody s_l_holds, defScope s_l_holds, [], []⟩
def D_law : He5.DefA := ⟨My.gloF "law", "law", "law", defArgs s_law, defBody s_law, defScope s_law, [], []⟩
def fn : List He5.DefA := [D_is_out, D_is_in, D_mark_of, D_is_amid, D_row_fault, D_mark_after, D_Line___init__, D_Line___len__, D_Line___contains__, D_Line_mark, D_Line_is_open, D_Line_is_clean, D_Line_owed, D_Line_need, D_Line_ask, D_Line_begin, D_Line_finish, D_Line_read, D_Line_head, D_Line_body, D_Line_drain, D_Line_close, D_Line_tags, D_l_source, D_l_draw, D_l_of, D_l_same, D_l_fault, D_l_mark, D_l_new, D_l_due, D_l_ask, D_l_do, D_l_call, D_l_stands, D_l_kept, D_l_holds, D_law]
abbrev Pg : Program := PySem.Challenge.rw_owedanswers_k35_lines_beside_each_other.prog
abbrev fl : Str := "/claim/cut.py"
abbrev s_Amid : Stmt := inClass (top 2) 0
def X_Amid : My.DefX := ⟨"Amid", "half", "Amid.__init__", defArgs s_Amid, defBody s_Amid, defScope s_Amid⟩
abbrev s_Closed : Stmt := inClass (top 3) 0
def X_Closed : My.DefX := ⟨"Closed", "number", "Closed.__init__", defArgs s_Closed, defBody s_Closed, defScope s_Closed⟩
abbrev s_Starved : Stmt := inClass (top 4) 0
def X_Starved : My.DefX := ⟨"Starved", "number", "Starved.__init__", defArgs s_Starved, defBody s_Starved, defScope s_Starved⟩
def fx : List My.DefX := [X_Amid, X_Closed, X_Starved]
structure Tx (K : PySem.W.Frag) (mg : Str → Option Value) : Prop where
  ex : ∃ h : Heap, K.In h ∧ h.Ns mainGlobals mg
  c : My.SaysX fl fa fn fx K
section
variable {K : PySem.W.Frag} {mg : Str → Option Value}
theorem Tx.g_is_out (T : Tx K mg) : mg "is_out" = some (.ref (He.ga K "is_out")) := by obtain ⟨h, X, G⟩ := T.ex; exact He.glo_ok X G (T.c.fact 0)
theorem Tx.k_is_out (T : Tx K mg) : PySem.W.keepIn K (.ref (He.ga K "is_out")) = true := He.keep_ok (T.c.fact 1)
theorem Tx.g_is_in (T : Tx K mg) : mg "is_in" = some (.ref (He.ga K "is_in")) := by obtain ⟨h, X, G⟩ := T.ex; exact He.glo_ok X G (T.c.fact 2)
theorem Tx.k_is_in (T : Tx K mg) : PySem.W.keepIn K (.ref (He.ga K "is_in")) = true := He.keep_ok (T.c.fact 3)
theorem Tx.g_mark_of (T : Tx K mg) : mg "mark_of" = some (.ref (He.ga K "mark_of")) := by obtain ⟨h, X, G⟩ := T.ex; exact He.glo_ok X G (T.c.fact 4)
theorem Tx.k_mark_of (T : Tx K mg) : PySem.W.keepIn K (.ref (He.ga K "mark_of")) = true := He.keep_ok (T.c.fact 5)
theorem Tx.g_is_amid (T : Tx K mg) : mg "is_amid" = some (.ref (He.ga K "is_amid")) := by obtain ⟨h, X, G⟩ := T.ex; exact He.glo_ok X G (T.c.fact 6)
theorem Tx.k_is_amid (T : Tx K mg) : PySem.W.keepIn K (.ref (He.ga K "is_amid")) = true := He.keep_ok (T.c.fact 7)
theorem Tx.g_row_fault (T : Tx K mg) : mg "row_fault" = some (.ref (He.ga K "row_fault")) := by obtain ⟨h, X, G⟩ := T.ex; exact He.glo_ok X G (T.c.fact 8)
theorem Tx.k_row_fault (T : Tx K mg) : PySem.W.keepIn K (.ref (He.ga K "row_fault")) = true := He.keep_ok (T.c.fact 9)
theorem Tx.g_mark_after (T : Tx K mg) : mg "mark_after" = some (.ref (He.ga K "mark_after")) := by obtain ⟨h, X, G⟩ := T.ex; exact He.glo_ok X G (T.c.fact 10)
theorem Tx.k_mark_after (T : Tx K mg) : PySem.W.keepIn K (.ref (He.ga K "mark_after")) = true := He.keep_ok (T.c.fact 11)
theorem Tx.g_Line (T : Tx K mg) : mg "Line" = some (.ref (He.ga K "Line")) := by obtain ⟨h, X, G⟩ := T.ex; exact He.glo_ok X G (T.c.fact 12)
theorem Tx.c_Line (T : Tx K mg) : Cls K (He.ga K "Line") := He.cls_ok (T.c.fact 13)
theorem Tx.f_Line_number (T : Tx K mg) : NoAttr K (He.ga K "Line") "number" := He.noat_ok (T.c.fact 14)
theorem Tx.f_Line_cause (T : Tx K mg) : NoAttr K (He.ga K "Line") "cause" := He.noat_ok (T.c.fact 15)
theorem Tx.f_Line_state (T : Tx K mg) : NoAttr K (He.ga K "Line") "state" := He.noat_ok (T.c.fact 16)
theorem Tx.f_Line_queue (T : Tx K mg) : NoAttr K (He.ga K "Line") "queue" := He.noat_ok (T.c.fact 17)
theorem Tx.f_Line_sending (T : Tx K mg) : NoAttr K (He.ga K "Line") "sending" := He.noat_ok (T.c.fact 18)
theorem Tx.f_Line_is_lent (T : Tx K mg) : NoAttr K (He.ga K "Line") "is_lent" := He.noat_ok (T.c.fact 19)
theorem Tx.m_Line (T : Tx K mg) : Mk K (He.ga K "Line") (He.ma K (He.ga K "Line") "__init__") := He.mkr_ok (T.c.fact 20)
theorem Tx.s_Line___len__ (T : Tx K mg) : My.Spc K (He.ga K "Line") "__len__" (He.ma K (He.ga K "Line") "__len__") := ⟨He.eqO_ok (He.ba (T.c.fact 21)).1, (He.ba (T.c.fact 21)).2⟩
theorem Tx.s_Line___contains__ (T : Tx K mg) : My.Spc K (He.ga K "Line") "__contains__" (He.ma K (He.ga K "Line") "__contains__") := ⟨He.eqO_ok (He.ba (T.c.fact 22)).1, (He.ba (T.c.fact 22)).2⟩
theorem Tx.p_Line_mark (T : Tx K mg) : PropOf K (He.ga K "Line") "mark" (My.prpA "Line" "mark" K) (My.prpG "Line" "mark" K) := My.prpB_ok (T.c.fact 23)
theorem Tx.p_Line_is_open (T : Tx K mg) : PropOf K (He.ga K "Line") "is_open" (My.prpA "Line" "is_open" K) (My.prpG "Line" "is_open" K) := My.prpB_ok (T.c.fact 24)
theorem Tx.p_Line_is_clean (T : Tx K mg) : PropOf K (He.ga K "Line") "is_clean" (My.prpA "Line" "is_clean" K) (My.prpG "Line" "is_clean" K) := My.prpB_ok (T.c.fact 25)
theorem Tx.p_Line_owed (T : Tx K mg) : PropOf K (He.ga K "Line") "owed" (My.prpA "Line" "owed" K) (My.prpG "Line" "owed" K) := My.prpB_ok (T.c.fact 26)
theorem Tx.m_Line_need (T : Tx K mg) : Meth K (He.ga K "Line") "need" (He.ma K (He.ga K "Line") "need") := He.meth_ok (T.c.fact 27)
theorem Tx.m_Line_ask (T : Tx K mg) : Meth K (He.ga K "Line") "ask" (He.ma K (He.ga K "Line") "ask") := He.meth_ok (T.c.fact 28)
theorem Tx.m_Line_begin (T : Tx K mg) : Meth K (He.ga K "Line") "begin" (He.ma K (He.ga K "Line") "begin") := He.meth_ok (T.c.fact 29)
theorem Tx.m_Line_finish (T : Tx K mg) : Meth K (He.ga K "Line") "finish" (He.ma K (He.ga K "Line") "finish") := He.meth_ok (T.c.fact 30)
theorem Tx.m_Line_read (T : Tx K mg) : Meth K (He.ga K "Line") "read" (He.ma K (He.ga K "Line") "read") := He.meth_ok (T.c.fact 31)
theorem Tx.m_Line_head (T : Tx K mg) : Meth K (He.ga K "Line") "head" (He.ma K (He.ga K "Line") "head") := He.meth_ok (T.c.fact 32)
theorem Tx.m_Line_body (T : Tx K mg) : Meth K (He.ga K "Line") "body" (He.ma K (He.ga K "Line") "body") := He.meth_ok (T.c.fact 33)
theorem Tx.m_Line_drain (T : Tx K mg) : Meth K (He.ga K "Line") "drain" (He.ma K (He.ga K "Line") "drain") := He.meth_ok (T.c.fact 34)
theorem Tx.m_Line_close (T : Tx K mg) : Meth K (He.ga K "Line") "close" (He.ma K (He.ga K "Line") "close") := He.meth_ok (T.c.fact 35)
theorem Tx.m_Line_tags (T : Tx K mg) : Meth K (He.ga K "Line") "tags" (He.ma K (He.ga K "Line") "tags") := He.meth_ok (T.c.fact 36)
theorem Tx.g__law_source (T : Tx K mg) : mg "_law_source" = some (.ref (He.ga K "_law_source")) := by obtain ⟨h, X, G⟩ := T.ex; exact He.glo_ok X G (T.c.fact 37)
theorem Tx.k__law_source (T : Tx K mg) : PySem.W.keepIn K (.ref (He.ga K "_law_source")) = true := He.keep_ok (T.c.fact 38)
theorem Tx.g__law_draw (T : Tx K mg) : mg "_law_draw" = some (.ref (He.ga K "_law_draw")) := by obtain ⟨h, X, G⟩ := T.ex; exact He.glo_ok X G (T.c.fact 39)
theorem Tx.k__law_draw (T : Tx K mg) : PySem.W.keepIn K (.ref (He.ga K "_law_draw")) = true := He.keep_ok (T.c.fact 40)
theorem Tx.g__law_of (T : Tx K mg) : mg "_law_of" = some (.ref (He.ga K "_law_of")) := by obtain ⟨h, X, G⟩ := T.ex; exact He.glo_ok X G (T.c.fact 41)
theorem Tx.k__law_of (T : Tx K mg) : PySem.W.keepIn K (.ref (He.ga K "_law_of")) = true := He.keep_ok (T.c.fact 42)
theorem Tx.g__law_same (T : Tx K mg) : mg "_law_same" = some (.ref (He.ga K "_law_same")) := by obtain ⟨h, X, G⟩ := T.ex; exact He.glo_ok X G (T.c.fact 43)
theorem Tx.k__law_same (T : Tx K mg) : PySem.W.keepIn K (.ref (He.ga K "_law_same")) = true := He.keep_ok (T.c.fact 44)
theorem Tx.g__law_fault (T : Tx K mg) : mg "_law_fault" = some (.ref (He.ga K "_law_fault")) := by obtain ⟨h, X, G⟩ := T.ex; exact He.glo_ok X G (T.c.fact 45)
theorem Tx.k__law_fault (T : Tx K mg) : PySem.W.keepIn K (.ref (He.ga K "_law_fault")) = true := He.keep_ok (T.c.fact 46)
theorem Tx.g__law_mark (T : Tx K mg) : mg "_law_mark" = some (.ref (He.ga K "_law_mark")) := by obtain ⟨h, X, G⟩ := T.ex; exact He.glo_ok X G (T.c.fact 47)
theorem Tx.k__law_mark (T : Tx K mg) : PySem.W.keepIn K (.ref (He.ga K "_law_mark")) = true := He.keep_ok (T.c.fact 48)
theorem Tx.g__law_new (T : Tx K mg) : mg "_law_new" = some (.ref (He.ga K "_law_new")) := by obtain ⟨h, X, G⟩ := T.ex; exact He.glo_ok X G (T.c.fact 49)
theorem Tx.k__law_new (T : Tx K mg) : PySem.W.keepIn K (.ref (He.ga K "_law_new")) = true := He.keep_ok (T.c.fact 50)
theorem Tx.g__law_due (T : Tx K mg) : mg "_law_due" = some (.ref (He.ga K "_law_due")) := by obtain ⟨h, X, G⟩ := T.ex; exact He.glo_ok X G (T.c.fact 51)
theorem Tx.k__law_due (T : Tx K mg) : PySem.W.keepIn K (.ref (He.ga K "_law_due")) = true := He.keep_ok (T.c.fact 52)
theorem Tx.g__law_ask (T : Tx K mg) : mg "_law_ask" = some (.ref (He.ga K "_law_ask")) := by obtain ⟨h, X, G⟩ := T.ex; exact He.glo_ok X G (T.c.fact 53)
theorem Tx.k__law_ask (T : Tx K mg) : PySem.W.keepIn K (.ref (He.ga K "_law_ask")) = true := He.keep_ok (T.c.fact 54)
theorem Tx.g__law_do (T : Tx K mg) : mg "_law_do" = some (.ref (He.ga K "_law_do")) := by obtain ⟨h, X, G⟩ := T.ex; exact He.glo_ok X G (T.c.fact 55)
theorem Tx.k__law_do (T : Tx K mg) : PySem.W.keepIn K (.ref (He.ga K "_law_do")) = true := He.keep_ok (T.c.fact 56)
theorem Tx.g__law_call (T : Tx K mg) : mg "_law_call" = some (.ref (He.ga K "_law_call")) := by obtain ⟨h, X, G⟩ := T.ex; exact He.glo_ok X G (T.c.fact 57)
theorem Tx.k__law_call (T : Tx K mg) : PySem.W.keepIn K (.ref (He.ga K "_law_call")) = true := He.keep_ok (T.c.fact 58)
theorem Tx.g__law_stands (T : Tx K mg) : mg "_law_stands" = some (.ref (He.ga K "_law_stands")) := by obtain ⟨h, X, G⟩ := T.ex; exact He.glo_ok X G (T.c.fact 59)
theorem Tx.k__law_stands (T : Tx K mg) : PySem.W.keepIn K (.ref (He.ga K "_law_stands")) = true := He.keep_ok (T.c.fact 60)
theorem Tx.g__law_kept (T : Tx K mg) : mg "_law_kept" = some (.ref (He.ga K "_law_kept")) := by obtain ⟨h, X, G⟩ := T.ex; exact He.glo_ok X G (T.c.fact 61)
theorem Tx.k__law_kept (T : Tx K mg) : PySem.W.keepIn K (.ref (He.ga K "_law_kept")) = true := He.keep_ok (T.c.fact 62)
theorem Tx.g__law_holds (T : Tx K mg) : mg "_law_holds" = some (.ref (He.ga K "_law_holds")) := by obtain ⟨h, X, G⟩ := T.ex; exact He.glo_ok X G (T.c.fact 63)
theorem Tx.k__law_holds (T : Tx K mg) : PySem.W.keepIn K (.ref (He.ga K "_law_holds")) = true := He.keep_ok (T.c.fact 64)
theorem Tx.g_law (T : Tx K mg) : mg "law" = some (.ref (He.ga K "law")) := by obtain ⟨h, X, G⟩ := T.ex; exact He.glo_ok X G (T.c.fact 65)
theorem Tx.k_law (T : Tx K mg) : PySem.W.keepIn K (.ref (He.ga K "law")) = true := He.keep_ok (T.c.fact 66)
theorem Tx.n_len (T : Tx K mg) : mg "len" = none := by obtain ⟨h, X, G⟩ := T.ex; exact He.free_ok X G (T.c.fact 67)
theorem Tx.n_abs (T : Tx K mg) : mg "abs" = none := by obtain ⟨h, X, G⟩ := T.ex; exact He.free_ok X G (T.c.fact 68)
theorem Tx.n_int (T : Tx K mg) : mg "int" = none := by obtain ⟨h, X, G⟩ := T.ex; exact He.free_ok X G (T.c.fact 69)
theorem Tx.n_str (T : Tx K mg) : mg "str" = none := by obtain ⟨h, X, G⟩ := T.ex; exact He.free_ok X G (T.c.fact 70)
theorem Tx.n_list (T : Tx K mg) : mg "list" = none := by obtain ⟨h, X, G⟩ := T.ex; exact He.free_ok X G (T.c.fact 71)
theorem Tx.n_isinstance (T : Tx K mg) : mg "isinstance" = none := by obtain ⟨h, X, G⟩ := T.ex; exact He.free_ok X G (T.c.fact 72)
theorem Tx.n_range (T : Tx K mg) : mg "range" = none := by obtain ⟨h, X, G⟩ := T.ex; exact He.free_ok X G (T.c.fact 73)
theorem Tx.n_max (T : Tx K mg) : mg "max" = none := by obtain ⟨h, X, G⟩ := T.ex; exact He.free_ok X G (T.c.fact 74)
theorem Tx.n_min (T : Tx K mg) : mg "min" = none := by obtain ⟨h, X, G⟩ := T.ex; exact He.free_ok X G (T.c.fact 75)
theorem Tx.n_zip (T : Tx K mg) : mg "zip" = none := by obtain ⟨h, X, G⟩ := T.ex; exact He.free_ok X G (T.c.fact 76)
theorem Tx.n_all (T : Tx K mg) : mg "all" = none := by obtain ⟨h, X, G⟩ := T.ex; exact He.free_ok X G (T.c.fact 77)
theorem Tx.n_bool (T : Tx K mg) : mg "bool" = none := by obtain ⟨h, X, G⟩ := T.ex; exact He.free_ok X G (T.c.fact 78)
theorem Tx.n_tuple (T : Tx K mg) : mg "tuple" = none := by obtain ⟨h, X, G⟩ := T.ex; exact He.free_ok X G (T.c.fact 79)
theorem Tx.g_LINE_WORDS (T : Tx K mg) : mg "LINE_WORDS" = some (.ref (He.ga K "LINE_WORDS")) := by obtain ⟨h, X, G⟩ := T.ex; exact He.glo_ok X G (T.c.fact 80)
theorem Tx.q_LINE_WORDS (T : Tx K mg) : ∀ H : Hp, SqT K H (He.ga K "LINE_WORDS") [.str "ask", .str "begin", .str "finish", .str "read", .str "head", .str "body"] := fun H => He.tupB_ok (vs := [.str "ask", .str "begin", .str "finish", .str "read", .str "head", .str "body"]) (T.c.fact 81) H
theorem Tx.g_OwedError (T : Tx K mg) : mg "OwedError" = some (.ref (He.ga K "OwedError")) := by obtain ⟨h, X, G⟩ := T.ex; exact He.glo_ok X G (T.c.fact 82)
theorem Tx.x_Amid_Amid (T : Tx K mg) : PySem.W.exmOne K (.ref (He.ga K "Amid")) (.ref (He.ga K "Amid")) = some true := He.exm_ok (T.c.fact 83)
theorem Tx.x_Amid_Closed (T : Tx K mg) : PySem.W.exmOne K (.ref (He.ga K "Amid")) (.ref (He.ga K "Closed")) = some false := He.exm_ok (T.c.fact 84)
theorem Tx.x_Amid_Starved (T : Tx K mg) : PySem.W.exmOne K (.ref (He.ga K "Amid")) (.ref (He.ga K "Starved")) = some false := He.exm_ok (T.c.fact 85)
theorem Tx.x_Amid_OwedError (T : Tx K mg) : PySem.W.exmOne K (.ref (He.ga K "Amid")) (.ref (He.ga K "OwedError")) = some true := He.exm_ok (T.c.fact 86)
theorem Tx.x_Closed_Amid (T : Tx K mg) : PySem.W.exmOne K (.ref (He.ga K "Closed")) (.ref (He.ga K "Amid")) = some false := He.exm_ok (T.c.fact 87)
theorem Tx.x_Closed_Closed (T : Tx K mg) : PySem.W.exmOne K (.ref (He.ga K "Closed")) (.ref (He.ga K "Closed")) = some true := He.exm_ok (T.c.fact 88)
theorem Tx.x_Closed_Starved (T : Tx K mg) : PySem.W.exmOne K (.ref (He.ga K "Closed")) (.ref (He.ga K "Starved")) = some false := He.exm_ok (T.c.fact 89)
theorem Tx.x_Closed_OwedError (T : Tx K mg) : PySem.W.exmOne K (.ref (He.ga K "Closed")) (.ref (He.ga K "OwedError")) = some true := He.exm_ok (T.c.fact 90)
theorem Tx.x_Starved_Amid (T : Tx K mg) : PySem.W.exmOne K (.ref (He.ga K "Starved")) (.ref (He.ga K "Amid")) = some false := He.exm_ok (T.c.fact 91)
theorem Tx.x_Starved_Closed (T : Tx K mg) : PySem.W.exmOne K (.ref (He.ga K "Starved")) (.ref (He.ga K "Closed")) = some false := He.exm_ok (T.c.fact 92)
theorem Tx.x_Starved_Starved (T : Tx K mg) : PySem.W.exmOne K (.ref (He.ga K "Starved")) (.ref (He.ga K "Starved")) = some true := He.exm_ok (T.c.fact 93)
theorem Tx.x_Starved_OwedError (T : Tx K mg) : PySem.W.exmOne K (.ref (He.ga K "Starved")) (.ref (He.ga K "OwedError")) = some true := He.exm_ok (T.c.fact 94)
theorem Tx.d_is_out (T : Tx K mg) : ∃ fd, L2.FunD K D_is_out.name D_is_out.qual D_is_out.params D_is_out.body D_is_out.scope (D_is_out.dvs K) (D_is_out.kws K) (He.ga K "is_out") fd := T.c.def_ 0 (d := D_is_out)
theorem Tx.d_is_in (T : Tx K mg) : ∃ fd, L2.FunD K D_is_in.name D_is_in.qual D_is_in.params D_is_in.body D_is_in.scope (D_is_in.dvs K) (D_is_in.kws K) (He.ga K "is_in") fd := T.c.def_ 1 (d := D_is_in)
theorem Tx.d_mark_of (T : Tx K mg) : ∃ fd, L2.FunD K D_mark_of.name D_mark_of.qual D_mark_of.params D_mark_of.body D_mark_of.scope (D_mark_of.dvs K) (D_mark_of.kws K) (He.ga K "mark_of") fd := T.c.def_ 2 (d := D_mark_of)
theorem Tx.d_is_amid (T : Tx K mg) : ∃ fd, L2.FunD K D_is_amid.name D_is_amid.qual D_is_amid.params D_is_amid.body D_is_amid.scope (D_is_amid.dvs K) (D_is_amid.kws K) (He.ga K "is_amid") fd := T.c.def_ 3 (d := D_is_amid)
theorem Tx.d_row_fault (T : Tx K mg) : ∃ fd, L2.FunD K D_row_fault.name D_row_fault.qual D_row_fault.params D_row_fault.body D_row_fault.scope (D_row_fault.dvs K) (D_row_fault.kws K) (He.ga K "row_fault") fd := T.c.def_ 4 (d := D_row_fault)
theorem Tx.d_mark_after (T : Tx K mg) : ∃ fd, L2.FunD K D_mark_after.name D_mark_after.qual D_mark_after.params D_mark_after.body D_mark_after.scope (D_mark_after.dvs K) (D_mark_after.kws K) (He.ga K "mark_after") fd := T.c.def_ 5 (d := D_mark_after)
theorem Tx.d_Line___init__ (T : Tx K mg) : ∃ fd, L2.FunD K D_Line___init__.name D_Line___init__.qual D_Line___init__.params D_Line___init__.body D_Line___init__.scope (D_Line___init__.dvs K) (D_Line___init__.kws K) (He.ma K (He.ga K "Line") "__init__") fd := T.c.def_ 6 (d := D_Line___init__)
theorem Tx.d_Line___len__ (T : Tx K mg) : ∃ fd, L2.FunD K D_Line___len__.name D_Line___len__.qual D_Line___len__.params D_Line___len__.body D_Line___len__.scope (D_Line___len__.dvs K) (D_Line___len__.kws K) (He.ma K (He.ga K "Line") "__len__") fd := T.c.def_ 7 (d := D_Line___len__)
theorem Tx.d_Line___contains__ (T : Tx K mg) : ∃ fd, L2.FunD K D_Line___contains__.name D_Line___contains__.qual D_Line___contains__.params D_Line___contains__.body D_Line___contains__.scope (D_Line___contains__.dvs K) (D_Line___contains__.kws K) (He.ma K (He.ga K "Line") "__contains__") fd := T.c.def_ 8 (d := D_Line___contains__)
theorem Tx.d_Line_mark (T : Tx K mg) : ∃ fd, L2.FunD K D_Line_mark.name D_Line_mark.qual D_Line_mark.params D_Line_mark.body D_Line_mark.scope (D_Line_mark.dvs K) (D_Line_mark.kws K) (My.prpG "Line" "mark" K) fd := T.c.def_ 9 (d := D_Line_mark)
theorem Tx.d_Line_is_open (T : Tx K mg) : ∃ fd, L2.FunD K D_Line_is_open.name D_Line_is_open.qual D_Line_is_open.params D_Line_is_open.body D_Line_is_open.scope (D_Line_is_open.dvs K) (D_Line_is_open.kws K) (My.prpG "Line" "is_open" K) fd := T.c.def_ 10 (d := D_Line_is_open)
theorem Tx.d_Line_is_clean (T : Tx K mg) : ∃ fd, L2.FunD K D_Line_is_clean.name D_Line_is_clean.qual D_Line_is_clean.params D_Line_is_clean.body D_Line_is_clean.scope (D_Line_is_clean.dvs K) (D_Line_is_clean.kws K) (My.prpG "Line" "is_clean" K) fd := T.c.def_ 11 (d := D_Line_is_clean)
theorem Tx.d_Line_owed (T : Tx K mg) : ∃ fd, L2.FunD K D_Line_owed.name D_Line_owed.qual D_Line_owed.params D_Line_owed.body D_Line_owed.scope (D_Line_owed.dvs K) (D_Line_owed.kws K) (My.prpG "Line" "owed" K) fd := T.c.def_ 12 (d := D_Line_owed)
theorem Tx.d_Line_need (T : Tx K mg) : ∃ fd, L2.FunD K D_Line_need.name D_Line_need.qual D_Line_need.params D_Line_need.body D_Line_need.scope (D_Line_need.dvs K) (D_Line_need.kws K) (He.ma K (He.ga K "Line") "need") fd := T.c.def_ 13 (d := D_Line_need)
theorem Tx.d_Line_ask (T : Tx K mg) : ∃ fd, L2.FunD K D_Line_ask.name D_Line_ask.qual D_Line_ask.params D_Line_ask.body D_Line_ask.scope (D_Line_ask.dvs K) (D_Line_ask.kws K) (He.ma K (He.ga K "Line") "ask") fd := T.c.def_ 14 (d := D_Line_ask)
theorem Tx.d_Line_begin (T : Tx K mg) : ∃ fd, L2.FunD K D_Line_begin.name D_Line_begin.qual D_Line_begin.params D_Line_begin.body D_Line_begin.scope (D_Line_begin.dvs K) (D_Line_begin.kws K) (He.ma K (He.ga K "Line") "begin") fd := T.c.def_ 15 (d := D_Line_begin)
theorem Tx.d_Line_finish (T : Tx K mg) : ∃ fd, L2.FunD K D_Line_finish.name D_Line_finish.qual D_Line_finish.params D_Line_finish.body D_Line_finish.scope (D_Line_finish.dvs K) (D_Line_finish.kws K) (He.ma K (He.ga K "Line") "finish") fd := T.c.def_ 16 (d := D_Line_finish)
theorem Tx.d_Line_read (T : Tx K mg) : ∃ fd, L2.FunD K D_Line_read.name D_Line_read.qual D_Line_read.params D_Line_read.body D_Line_read.scope (D_Line_read.dvs K) (D_Line_read.kws K) (He.ma K (He.ga K "Line") "read") fd := T.c.def_ 17 (d := D_Line_read)
theorem Tx.d_Line_head (T : Tx K mg) : ∃ fd, L2.FunD K D_Line_head.name D_Line_head.qual D_Line_head.params D_Line_head.body D_Line_head.scope (D_Line_head.dvs K) (D_Line_head.kws K) (He.ma K (He.ga K "Line") "head") fd := T.c.def_ 18 (d := D_Line_head)
theorem Tx.d_Line_body (T : Tx K mg) : ∃ fd, L2.FunD K D_Line_body.name D_Line_body.qual D_Line_body.params D_Line_body.body D_Line_body.scope (D_Line_body.dvs K) (D_Line_body.kws K) (He.ma K (He.ga K "Line") "body") fd := T.c.def_ 19 (d := D_Line_body)
theorem Tx.d_Line_drain (T : Tx K mg) : ∃ fd, L2.FunD K D_Line_drain.name D_Line_drain.qual D_Line_drain.params D_Line_drain.body D_Line_drain.scope (D_Line_drain.dvs K) (D_Line_drain.kws K) (He.ma K (He.ga K "Line") "drain") fd := T.c.def_ 20 (d := D_Line_drain)
theorem Tx.d_Line_close (T : Tx K mg) : ∃ fd, L2.FunD K D_Line_close.name D_Line_close.qual D_Line_close.params D_Line_close.body D_Line_close.scope (D_Line_close.dvs K) (D_Line_close.kws K) (He.ma K (He.ga K "Line") "close") fd := T.c.def_ 21 (d := D_Line_close)
theorem Tx.d_Line_tags (T : Tx K mg) : ∃ fd, L2.FunD K D_Line_tags.name D_Line_tags.qual D_Line_tags.params D_Line_tags.body D_Line_tags.scope (D_Line_tags.dvs K) (D_Line_tags.kws K) (He.ma K (He.ga K "Line") "tags") fd := T.c.def_ 22 (d := D_Line_tags)
theorem Tx.d_l_source (T : Tx K mg) : ∃ fd, L2.FunD K D_l_source.name D_l_source.qual D_l_source.params D_l_source.body D_l_source.scope (D_l_source.dvs K) (D_l_source.kws K) (He.ga K "_law_source") fd := T.c.def_ 23 (d := D_l_source)
theorem Tx.d_l_draw (T : Tx K mg) : ∃ fd, L2.FunD K D_l_draw.name D_l_draw.qual D_l_draw.params D_l_draw.body D_l_draw.scope (D_l_draw.dvs K) (D_l_draw.kws K) (He.ga K "_law_draw") fd := T.c.def_ 24 (d := D_l_draw)
theorem Tx.d_l_of (T : Tx K mg) : ∃ fd, L2.FunD K D_l_of.name D_l_of.qual D_l_of.params D_l_of.body D_l_of.scope (D_l_of.dvs K) (D_l_of.kws K) (He.ga K "_law_of") fd := T.c.def_ 25 (d := D_l_of)
theorem Tx.d_l_same (T : Tx K mg) : ∃ fd, L2.FunD K D_l_same.name D_l_same.qual D_l_same.params D_l_same.body D_l_same.scope (D_l_same.dvs K) (D_l_same.kws K) (He.ga K "_law_same") fd := T.c.def_ 26 (d := D_l_same)
theorem Tx.d_l_fault (T : Tx K mg) : ∃ fd, L2.FunD K D_l_fault.name D_l_fault.qual D_l_fault.params D_l_fault.body D_l_fault.scope (D_l_fault.dvs K) (D_l_fault.kws K) (He.ga K "_law_fault") fd := T.c.def_ 27 (d := D_l_fault)
theorem Tx.d_l_mark (T : Tx K mg) : ∃ fd, L2.FunD K D_l_mark.name D_l_mark.qual D_l_mark.params D_l_mark.body D_l_mark.scope (D_l_mark.dvs K) (D_l_mark.kws K) (He.ga K "_law_mark") fd := T.c.def_ 28 (d := D_l_mark)
theorem Tx.d_l_new (T : Tx K mg) : ∃ fd, L2.FunD K D_l_new.name D_l_new.qual D_l_new.params D_l_new.body D_l_new.scope (D_l_new.dvs K) (D_l_new.kws K) (He.ga K "_law_new") fd := T.c.def_ 29 (d := D_l_new)
theorem Tx.d_l_due (T : Tx K mg) : ∃ fd, L2.FunD K D_l_due.name D_l_due.qual D_l_due.params D_l_due.body D_l_due.scope (D_l_due.dvs K) (D_l_due.kws K) (He.ga K "_law_due") fd := T.c.def_ 30 (d := D_l_due)
theorem Tx.d_l_ask (T : Tx K mg) : ∃ fd, L2.FunD K D_l_ask.name D_l_ask.qual D_l_ask.params D_l_ask.body D_l_ask.scope (D_l_ask.dvs K) (D_l_ask.kws K) (He.ga K "_law_ask") fd := T.c.def_ 31 (d := D_l_ask)
theorem Tx.d_l_do (T : Tx K mg) : ∃ fd, L2.FunD K D_l_do.name D_l_do.qual D_l_do.params D_l_do.body D_l_do.scope (D_l_do.dvs K) (D_l_do.kws K) (He.ga K "_law_do") fd := T.c.def_ 32 (d := D_l_do)
theorem Tx.d_l_call (T : Tx K mg) : ∃ fd, L2.FunD K D_l_call.name D_l_call.qual D_l_call.params D_l_call.body D_l_call.scope (D_l_call.dvs K) (D_l_call.kws K) (He.ga K "_law_call") fd := T.c.def_ 33 (d := D_l_call)
theorem Tx.d_l_stands (T : Tx K mg) : ∃ fd, L2.FunD K D_l_stands.name D_l_stands.qual D_l_stands.params D_l_stands.body D_l_stands.scope (D_l_stands.dvs K) (D_l_stands.kws K) (He.ga K "_law_stands") fd := T.c.def_ 34 (d := D_l_stands)
theorem Tx.d_l_kept (T : Tx K mg) : ∃ fd, L2.FunD K D_l_kept.name D_l_kept.qual D_l_kept.params D_l_kept.body D_l_kept.scope (D_l_kept.dvs K) (D_l_kept.kws K) (He.ga K "_law_kept") fd := T.c.def_ 35 (d := D_l_kept)
theorem Tx.d_l_holds (T : Tx K mg) : ∃ fd, L2.FunD K D_l_holds.name D_l_holds.qual D_l_holds.params D_l_holds.body D_l_holds.scope (D_l_holds.dvs K) (D_l_holds.kws K) (He.ga K "_law_holds") fd := T.c.def_ 36 (d := D_l_holds)
theorem Tx.d_law (T : Tx K mg) : ∃ fd, L2.FunD K D_law.name D_law.qual D_law.params D_law.body D_law.scope (D_law.dvs K) (D_law.kws K) (He.ga K "law") fd := T.c.def_ 37 (d := D_law)
theorem Tx.ow_Amid (T : Tx K mg) : PySem.OwX.OwTxt Pg K mg (He.ga K "Amid") (My.exI "Amid" K) (My.exC "Amid" K) (My.exD "Amid" K) "Amid" "half" := by
  obtain ⟨h, X, G⟩ := T.ex
  exact T.c.ow X G 0 (d := X_Amid) rfl ⟨⟨_, rfl, rfl⟩, fun _ _ _ _ _ _ _ _ => rfl, ⟨_, _, _, _, _, _, _, _, _, _, _, _, rfl, ⟨_, fun _ => rfl⟩, fun _ => rfl, fun _ => rfl⟩, ⟨rfl, rfl, rfl, by decide +kernel, by decide +kernel, by decide +kernel, by decide +kernel, by decide +kernel, by decide +kernel, by decide +kernel⟩⟩ (by decide +kernel) (by decide +kernel)
theorem Tx.g_Amid (T : Tx K mg) : mg "Amid" = some (.ref (He.ga K "Amid")) := T.ow_Amid.gC
theorem Tx.ow_Closed (T : Tx K mg) : PySem.OwX.OwTxt Pg K mg (He.ga K "Closed") (My.exI "Closed" K) (My.exC "Closed" K) (My.exD "Closed" K) "Closed" "number" := by
  obtain ⟨h, X, G⟩ := T.ex
  exact T.c.ow X G 1 (d := X_Closed) rfl ⟨⟨_, rfl, rfl⟩, fun _ _ _ _ _ _ _ _ => rfl, ⟨_, _, _, _, _, _, _, _, _, _, _, _, rfl, ⟨_, fun _ => rfl⟩, fun _ => rfl, fun _ => rfl⟩, ⟨rfl, rfl, rfl, by decide +kernel, by decide +kernel, by decide +kernel, by decide +kernel, by decide +kernel, by decide +kernel, by decide +kernel⟩⟩ (by decide +kernel) (by decide +kernel)
theorem Tx.g_Closed (T : Tx K mg) : mg "Closed" = some (.ref (He.ga K "Closed")) := T.ow_Closed.gC
theorem Tx.ow_Starved (T : Tx K mg) : PySem.OwX.OwTxt Pg K mg (He.ga K "Starved") (My.exI "Starved" K) (My.exC "Starved" K) (My.exD "Starved" K) "Starved" "number" := by
  obtain ⟨h, X, G⟩ := T.ex
  exact T.c.ow X G 2 (d := X_Starved) rfl ⟨⟨_, rfl, rfl⟩, fun _ _ _ _ _ _ _ _ => rfl, ⟨_, _, _, _, _, _, _, _, _, _, _, _, rfl, ⟨_, fun _ => rfl⟩, fun _ => rfl, fun _ => rfl⟩, ⟨rfl, rfl, rfl, by decide +kernel, by decide +kernel, by decide +kernel, by decide +kernel, by decide +kernel, by decide +kernel, by decide +kernel⟩⟩ (by decide +kernel) (by decide +kernel)
theorem Tx.g_Starved (T : Tx K mg) : mg "Starved" = some (.ref (He.ga K "Starved")) := T.ow_Starved.gC
end
def isOut (m : Str) : Bool := decide (m = "out") || decide (m = "both")
def isIn (m : Str) : Bool := decide (m = "in") || decide (m = "both")
def markOf (a b : Bool) : Str := if a then (if b then "both" else "out") else (if b then "in" else "whole")
def isAmid (w m : Str) : Bool := if w = "ask" ∨ w = "begin" then isOut m else if w = "finish" then !isOut m else if w = "read" ∨ w = "head" then isIn m else if w = "body" then !isIn m else false
def W6 (w : Str) : Prop := w = "ask" ∨ w = "begin" ∨ w = "finish" ∨ w = "read" ∨ w = "head" ∨ w = "body"
def rowF (w m : Str) (n : Int) : Option Str := if m = "closed" then some ("closed" : Str) else if isAmid w m then some ("amid" : Str) else if (w = "read" ∨ w = "head") ∧ n < 1 then some ("starved" : Str) else none
def fD : Option Str → D
  | none => .non
  | some x => .str x
def rowFault (w m : Str) (n : Int) : D := fD (rowF w m n)
theorem rowFault_eq (w m : Str) (n : Int) : rowFault w m n = if m = "closed" then .str "closed" else if isAmid w m then .str "amid" else if (w = "read" ∨ w = "head") ∧ n < 1 then .str "starved" else .non := by
  unfold rowFault rowF; repeat' split
  all_goals rfl
def markAfter (w m : Str) : Str := if m = "closed" ∨ w = "close" then "closed" else if w = "begin" then markOf true (isIn m) else if w = "finish" then markOf false (isIn m) else if w = "head" then markOf (isOut m) true else if w = "body" ∨ w = "drain" then markOf (isOut m) false else m
def sp_is_out (_ : PySem.W.Frag) : ASp := fun ds A Q _ => ∃ (m : Str), ds = [.str m] ∧ Q (.bl (isOut m)) A
theorem e_is_out {K : PySem.W.Frag} {m : Str} {A : AH} {Q : AQ} {E : AX} {tg : Tag (Q, E)} : Call (sp_is_out K) [.str m] A Q E tg = Q (.bl (isOut m)) A := propext ⟨fun ⟨_, h, q⟩ => by cases h; exact q, fun q => ⟨_, rfl, q⟩⟩
theorem R_is_out {w : World} {K : PySem.W.Frag} {mg : Str → Option Value} {base : Heap} (T : Tx K mg) : FnR Pg w K mg base CX0 1 (He.ga K "is_out") (liftSp K (sp_is_out K)) := by
  obtain ⟨fd, F⟩ := T.d_is_out
  refine Av.FunD.AR F sc_is_out (fun ds A Q E h => by obtain ⟨m, rfl, k⟩ := h; rfl) (fun _ _ _ _ _ _ us hl => match us, hl with | [_], _ => rfl) (fun cdv A0 outer s H0 E0 ds A Q E hr h => ?_)
  obtain ⟨m, rfl, k⟩ := h
  refine ⟨_, (ass_one (as_ret (ae_or (ae_cmpA (cmp_eq hr.units) (ae_var (pv 0)) ae_str (nomark _)) (ae_one (ae_cmpA (cmp_eq hr.units) (ae_var (pv 0)) ae_str (nomark _)))))), ?_⟩
  simp only [↓RD, RU, aStart, wipeA, putFA, toP, toPs, scDs, valD_nil, valD_cons, putM_eq, mergeD_eq, keysOk, aHandle, endsAA, putAA, starSp, put_same, put_put, inV_nil, inV_str, cxK, atI_0, atI_1, atI_2, atI_3, ixN_30, ixN_31, ixN_32, List.map, List.replicate, List.length_cons, List.length_nil, List.nil_append, List.cons_append, List.append_nil, Nat.reduceSub, Nat.reduceAdd, List.getElem?_cons_zero, List.getElem?_cons_succ, List.set_cons_zero, List.set_cons_succ, List.cons.injEq, Option.some.injEq, V.int.injEq, V.str.injEq, V.bl.injEq, D.int.injEq, D.str.injEq, D.bl.injEq, D.ref.injEq, D.tup.injEq, D.lst.injEq, D.ty.injEq, AO.lst.injEq, AO.dct.injEq, AO.ins.injEq, Prod.mk.injEq, exists_eq_left, exists_eq_left', exists_eq_right, exists_eq_right', exists_and_left, exists_and_right, true_and, and_true, and_self, if_true, if_false, Bool.false_eq_true, Bool.true_eq_false, eq_self, reduceCtorEq, false_and, and_false, and_assoc, Int.reduceToNat, Int.reducePow, Int.reduceMul, Int.reduceAdd, Int.reduceNeg, Int.reduceSub, String.reduceEq, String.reduceNe, ne_eq, not_false_eq_true, not_true_eq_false, decide_false, decide_true, Bool.not_false, Bool.not_true, Bool.or_false, Bool.false_or, Bool.or_true, Bool.true_or, Bool.and_true, Bool.true_and, Bool.and_self, Bool.and_false, Bool.false_and, exists_eq', exists_eq, exists_const, false_or, or_false, or_self, List.all_cons, List.all_nil, List.any_cons, List.any_nil, Nat.reduceLeDiff, exists_false, List.map_nil, List.map_cons, Option.map_some, Option.isSome_some, Option.isSome_none, Option.getD_some, Option.getD_none, implies_true, List.foldl_cons, List.foldl_nil, forall_const, ofS_eq, Int.reduceLT, Int.reduceLE, Nat.reduceLT]
  unfold isOut at k
  by_cases h : m = "out"
  · simpa [h] using fin_id k
  · simpa [h] using fin_id k
def sp_is_in (_ : PySem.W.Frag) : ASp := fun ds A Q _ => ∃ (m : Str), ds = [.str m] ∧ Q (.bl (isIn m)) A
theorem e_is_in {K : PySem.W.Frag} {m : Str} {A : AH} {Q : AQ} {E : AX} {tg : Tag (Q, E)} : Call (sp_is_in K) [.str m] A Q E tg = Q (.bl (isIn m)) A := propext ⟨fun ⟨_, h, q⟩ => by cases h; exact q, fun q => ⟨_, rfl, q⟩⟩
theorem R_is_in {w : World} {K : PySem.W.Frag} {mg : Str → Option Value} {base : Heap} (T : Tx K mg) : FnR Pg w K mg base CX0 1 (He.ga K "is_in") (liftSp K (sp_is_in K)) := by
  obtain ⟨fd, F⟩ := T.d_is_in
  refine Av.FunD.AR F sc_is_in (fun ds A Q E h => by obtain ⟨m, rfl, k⟩ := h; rfl) (fun _ _ _ _ _ _ us hl => match us, hl with | [_], _ => rfl) (fun cdv A0 outer s H0 E0 ds A Q E hr h => ?_)
  obtain ⟨m, rfl, k⟩ := h
  refine ⟨_, (ass_one (as_ret (ae_or (ae_cmpA (cmp_eq hr.units) (ae_var (pv 0)) ae_str (nomark _)) (ae_one (ae_cmpA (cmp_eq hr.units) (ae_var (pv 0)) ae_str (nomark _)))))), ?_⟩
  simp only [↓RD, RU, aStart, wipeA, putFA, toP, toPs, scDs, valD_nil, valD_cons, putM_eq, mergeD_eq, keysOk, aHandle, endsAA, putAA, starSp, put_same, put_put, inV_nil, inV_str, cxK, atI_0, atI_1, atI_2, atI_3, ixN_30, ixN_31, ixN_32, List.map, List.replicate, List.length_cons, List.length_nil, List.nil_append, List.cons_append, List.append_nil, Nat.reduceSub, Nat.reduceAdd, List.getElem?_cons_zero, List.getElem?_cons_succ, List.set_cons_zero, List.set_cons_succ, List.cons.injEq, Option.some.injEq, V.int.injEq, V.str.injEq, V.bl.injEq, D.int.injEq, D.str.injEq, D.bl.injEq, D.ref.injEq, D.tup.injEq, D.lst.injEq, D.ty.injEq, AO.lst.injEq, AO.dct.injEq, AO.ins.injEq, Prod.mk.injEq, exists_eq_left, exists_eq_left', exists_eq_right, exists_eq_right', exists_and_left, exists_and_right, true_and, and_true, and_self, if_true, if_false, Bool.false_eq_true, Bool.true_eq_false, eq_self, reduceCtorEq, false_and, and_false, and_assoc, Int.reduceToNat, Int.reducePow, Int.reduceMul, Int.reduceAdd, Int.reduceNeg, Int.reduceSub, String.reduceEq, String.reduceNe, ne_eq, not_false_eq_true, not_true_eq_false, decide_false, decide_true, Bool.not_false, Bool.not_true, Bool.or_false, Bool.false_or, Bool.or_true, Bool.true_or, Bool.and_true, Bool.true_and, Bool.and_self, Bool.and_false, Bool.false_and, exists_eq', exists_eq, exists_const, false_or, or_false, or_self, List.all_cons, List.all_nil, List.any_cons, List.any_nil, Nat.reduceLeDiff, exists_false, List.map_nil, List.map_cons, Option.map_some, Option.isSome_some, Option.isSome_none, Option.getD_some, Option.getD_none, implies_true, List.foldl_cons, List.foldl_nil, forall_const, ofS_eq, Int.reduceLT, Int.reduceLE, Nat.reduceLT]
  unfold isIn at k
  by_cases h : m = "in"
  · simpa [h] using fin_id k
  · simpa [h] using fin_id k
def sp_mark_of (_ : PySem.W.Frag) : ASp := fun ds A Q _ => ∃ (a b : Bool), ds = [.bl a, .bl b] ∧ Q (.str (markOf a b)) A
theorem e_mark_of {K : PySem.W.Frag} {a b : Bool} {A : AH} {Q : AQ} {E : AX} {tg : Tag (Q, E)} : Call (sp_mark_of K) [.bl a, .bl b] A Q E tg = Q (.str (markOf a b)) A := propext ⟨fun ⟨_, _, h, q⟩ => by cases h; exact q, fun q => ⟨_, _, rfl, q⟩⟩
theorem R_mark_of {w : World} {K : PySem.W.Frag} {mg : Str → Option Value} {base : Heap} (T : Tx K mg) : FnR Pg w K mg base CX0 1 (He.ga K "mark_of") (liftSp K (sp_mark_of K)) := by
  obtain ⟨fd, F⟩ := T.d_mark_of
  refine Av.FunD.AR F sc_mark_of (fun ds A Q E h => by obtain ⟨a, b, rfl, k⟩ := h; rfl) (fun _ _ _ _ _ _ us hl => match us, hl with | [_, _], _ => rfl) (fun cdv A0 outer s H0 E0 ds A Q E hr h => ?_)
  obtain ⟨a, b, rfl, k⟩ := h
  refine ⟨_, (ass_cons (as_if (PW.pt (aw_and (at_truth (ae_var (pv 0))) (aw_and1 (at_truth (ae_var (pv 1)))))) (ass_one (as_ret ae_str)) ass_nil)
      (ass_cons (as_if (at_truth (ae_var (pv 0))) (ass_one (as_ret ae_str)) ass_nil)
      (ass_one (as_ret (ae_if (at_truth (ae_var (pv 1))) ae_str ae_str))))), ?_⟩
  simp only [↓RD, RU, aStart, wipeA, putFA, toP, toPs, scDs, valD_nil, valD_cons, putM_eq, mergeD_eq, keysOk, aHandle, endsAA, putAA, starSp, put_same, put_put, inV_nil, inV_str, cxK, atI_0, atI_1, atI_2, atI_3, ixN_30, ixN_31, ixN_32, List.map, List.replicate, List.length_cons, List.length_nil, List.nil_append, List.cons_append, List.append_nil, Nat.reduceSub, Nat.reduceAdd, List.getElem?_cons_zero, List.getElem?_cons_succ, List.set_cons_zero, List.set_cons_succ, List.cons.injEq, Option.some.injEq, V.int.injEq, V.str.injEq, V.bl.injEq, D.int.injEq, D.str.injEq, D.bl.injEq, D.ref.injEq, D.tup.injEq, D.lst.injEq, D.ty.injEq, AO.lst.injEq, AO.dct.injEq, AO.ins.injEq, Prod.mk.injEq, exists_eq_left, exists_eq_left', exists_eq_right, exists_eq_right', exists_and_left, exists_and_right, true_and, and_true, and_self, if_true, if_false, Bool.false_eq_true, Bool.true_eq_false, eq_self, reduceCtorEq, false_and, and_false, and_assoc, Int.reduceToNat, Int.reducePow, Int.reduceMul, Int.reduceAdd, Int.reduceNeg, Int.reduceSub, String.reduceEq, String.reduceNe, ne_eq, not_false_eq_true, not_true_eq_false, decide_false, decide_true, Bool.not_false, Bool.not_true, Bool.or_false, Bool.false_or, Bool.or_true, Bool.true_or, Bool.and_true, Bool.true_and, Bool.and_self, Bool.and_false, Bool.false_and, exists_eq', exists_eq, exists_const, false_or, or_false, or_self, List.all_cons, List.all_nil, List.any_cons, List.any_nil, Nat.reduceLeDiff, exists_false, List.map_nil, List.map_cons, Option.map_some, Option.isSome_some, Option.isSome_none, Option.getD_some, Option.getD_none, implies_true, List.foldl_cons, List.foldl_nil, forall_const, ofS_eq, Int.reduceLT, Int.reduceLE, Nat.reduceLT]
  unfold markOf at k
  cases a <;> cases b <;> exact fin_id k
def sp_is_amid (_ : PySem.W.Frag) : ASp := fun ds A Q _ => ∃ (w m : Str), ds = [.str w, .str m] ∧ Q (.bl (isAmid w m)) A
theorem e_is_amid {K : PySem.W.Frag} {w m : Str} {A : AH} {Q : AQ} {E : AX} {tg : Tag (Q, E)} : Call (sp_is_amid K) [.str w, .str m] A Q E tg = Q (.bl (isAmid w m)) A := propext ⟨fun ⟨_, _, h, q⟩ => by cases h; exact q, fun q => ⟨_, _, rfl, q⟩⟩
theorem R_is_amid {w : World} {K : PySem.W.Frag} {mg : Str → Option Value} {base : Heap} (T : Tx K mg) : FnR Pg w K mg base CX0 3 (He.ga K "is_amid") (liftSp K (sp_is_amid K)) := by
  obtain ⟨fd, F⟩ := T.d_is_amid
  refine Av.FunD.AR F sc_is_amid (fun ds A Q E h => by obtain ⟨w', m, rfl, k⟩ := h; rfl) (fun _ _ _ _ _ _ us hl => match us, hl with | [_, _], _ => rfl) (fun cdv A0 outer s H0 E0 ds A Q E hr h => ?_)
  obtain ⟨w', m, rfl, k⟩ := h
  refine ⟨_, (ass_cons (as_if (PW.pt (aw_or (at_cmpA (cmp_eq hr.units) (ae_var (pv 0)) ae_str (nomark _)) (aw_or1 (at_cmpA (cmp_eq hr.units) (ae_var (pv 0)) ae_str (nomark _))))) (ass_one (as_ret (ae_callR (R_is_out T) (hr.mono (by decide)) rfl T.g_is_out T.k_is_out (aa_cons (ae_var (pv 1)) aa_nil)))) ass_nil)
      (ass_cons (as_if (at_cmpA (cmp_eq hr.units) (ae_var (pv 0)) ae_str (nomark _)) (ass_one (as_ret (ae_not (ae_callR (R_is_out T) (hr.mono (by decide)) rfl T.g_is_out T.k_is_out (aa_cons (ae_var (pv 1)) aa_nil))))) ass_nil)
      (ass_cons (as_if (PW.pt (aw_or (at_cmpA (cmp_eq hr.units) (ae_var (pv 0)) ae_str (nomark _)) (aw_or1 (at_cmpA (cmp_eq hr.units) (ae_var (pv 0)) ae_str (nomark _))))) (ass_one (as_ret (ae_callR (R_is_in T) (hr.mono (by decide)) rfl T.g_is_in T.k_is_in (aa_cons (ae_var (pv 1)) aa_nil)))) ass_nil)
      (ass_cons (as_if (at_cmpA (cmp_eq hr.units) (ae_var (pv 0)) ae_str (nomark _)) (ass_one (as_ret (ae_not (ae_callR (R_is_in T) (hr.mono (by decide)) rfl T.g_is_in T.k_is_in (aa_cons (ae_var (pv 1)) aa_nil))))) ass_nil)
      (ass_one (as_ret ae_bl)))))), ?_⟩
  simp only [↓RD, RU, aStart, wipeA, putFA, toP, toPs, scDs, valD_nil, valD_cons, putM_eq, mergeD_eq, keysOk, aHandle, endsAA, putAA, starSp, put_same, put_put, inV_nil, inV_str, cxK, atI_0, atI_1, atI_2, atI_3, ixN_30, ixN_31, ixN_32, List.map, List.replicate, List.length_cons, List.length_nil, List.nil_append, List.cons_append, List.append_nil, Nat.reduceSub, Nat.reduceAdd, List.getElem?_cons_zero, List.getElem?_cons_succ, List.set_cons_zero, List.set_cons_succ, List.cons.injEq, Option.some.injEq, V.int.injEq, V.str.injEq, V.bl.injEq, D.int.injEq, D.str.injEq, D.bl.injEq, D.ref.injEq, D.tup.injEq, D.lst.injEq, D.ty.injEq, AO.lst.injEq, AO.dct.injEq, AO.ins.injEq, Prod.mk.injEq, exists_eq_left, exists_eq_left', exists_eq_right, exists_eq_right', exists_and_left, exists_and_right, true_and, and_true, and_self, if_true, if_false, Bool.false_eq_true, Bool.true_eq_false, eq_self, reduceCtorEq, false_and, and_false, and_assoc, Int.reduceToNat, Int.reducePow, Int.reduceMul, Int.reduceAdd, Int.reduceNeg, Int.reduceSub, String.reduceEq, String.reduceNe, ne_eq, not_false_eq_true, not_true_eq_false, decide_false, decide_true, Bool.not_false, Bool.not_true, Bool.or_false, Bool.false_or, Bool.or_true, Bool.true_or, Bool.and_true, Bool.true_and, Bool.and_self, Bool.and_false, Bool.false_and, exists_eq', exists_eq, exists_const, false_or, or_false, or_self, List.all_cons, List.all_nil, List.any_cons, List.any_nil, Nat.reduceLeDiff, exists_false, List.map_nil, List.map_cons, Option.map_some, Option.isSome_some, Option.isSome_none, Option.getD_some, Option.getD_none, implies_true, List.foldl_cons, List.foldl_nil, forall_const, ofS_eq, Int.reduceLT, Int.reduceLE, Nat.reduceLT, ↓e_is_out, ↓e_is_in]
  have k := fin_id k
  unfold isAmid at k
  simp only [decide_eq_true_eq]
  repeat' split
  all_goals simp_all
def sp_row_fault (_ : PySem.W.Frag) : ASp := fun ds A Q _ => ∃ (w m : Str) (n : Int), ds = [.str w, .str m, .int n] ∧ W6 w ∧ Q (rowFault w m n) A
theorem w6_in {w : Str} (h : W6 w) : (decide (w = "ask") || (decide (w = "begin") || (decide (w = "finish") || (decide (w = "read") || (decide (w = "head") || decide (w = "body")))))) = true := by
  rcases h with rfl | rfl | rfl | rfl | rfl | rfl <;> simp
theorem R_row_fault {w : World} {K : PySem.W.Frag} {mg : Str → Option Value} {base : Heap} (T : Tx K mg) : FnR Pg w K mg base CX0 5 (He.ga K "row_fault") (liftSp K (sp_row_fault K)) := by
  obtain ⟨fd, F⟩ := T.d_row_fault
  refine Av.FunD.AR F sc_row_fault (fun ds A Q E h => by obtain ⟨w', m, n, rfl, hw, k⟩ := h; rfl) (fun _ _ _ _ _ _ us hl => match us, hl with | [_, _, _], _ => rfl) (fun cdv A0 outer s H0 E0 ds A Q E hr h => ?_)
  obtain ⟨w', m, n, rfl, hw, k⟩ := h
  refine ⟨_, (ass_cons (as_if (at_cmpA cmp_notIn (ae_var (pv 0)) (ae_gtup (xs := ["ask", "begin", "finish", "read", "head", "body"]) (pe_glob (v := .ref (He.ga _ "LINE_WORDS")) rfl T.g_LINE_WORDS rfl) T.q_LINE_WORDS (by unfold sOk; decide +kernel)) rfl) (ass_one (as_ret ae_non)) ass_nil)
      (ass_cons (as_if (at_cmpA (cmp_eq hr.units) (ae_var (pv 1)) ae_str (nomark _)) (ass_one (as_ret ae_str)) ass_nil)
      (ass_cons (as_if (at_truth (ae_callR (R_is_amid T) (hr.mono (by decide)) rfl T.g_is_amid T.k_is_amid (aa_cons (ae_var (pv 0)) (aa_cons (ae_var (pv 1)) aa_nil)))) (ass_one (as_ret ae_str)) ass_nil)
      (ass_cons (as_if (PW.pt (aw_and (PW.pt (aw_or (at_cmpA (cmp_eq hr.units) (ae_var (pv 0)) ae_str (nomark _)) (aw_or1 (at_cmpA (cmp_eq hr.units) (ae_var (pv 0)) ae_str (nomark _))))) (aw_and1 (at_cmpA cmp_lt (ae_var (pv 2)) ae_int (nomark _))))) (ass_one (as_ret ae_str)) ass_nil)
      (ass_one (as_ret ae_non)))))), ?_⟩
  simp only [↓RD, RU, aStart, wipeA, putFA, toP, toPs, scDs, valD_nil, valD_cons, putM_eq, mergeD_eq, keysOk, aHandle, endsAA, putAA, starSp, put_same, put_put, inV_nil, inV_str, cxK, atI_0, atI_1, atI_2, atI_3, ixN_30, ixN_31, ixN_32, List.map, List.replicate, List.length_cons, List.length_nil, List.nil_append, List.cons_append, List.append_nil, Nat.reduceSub, Nat.reduceAdd, List.getElem?_cons_zero, List.getElem?_cons_succ, List.set_cons_zero, List.set_cons_succ, List.cons.injEq, Option.some.injEq, V.int.injEq, V.str.injEq, V.bl.injEq, D.int.injEq, D.str.injEq, D.bl.injEq, D.ref.injEq, D.tup.injEq, D.lst.injEq, D.ty.injEq, AO.lst.injEq, AO.dct.injEq, AO.ins.injEq, Prod.mk.injEq, exists_eq_left, exists_eq_left', exists_eq_right, exists_eq_right', exists_and_left, exists_and_right, true_and, and_true, and_self, if_true, if_false, Bool.false_eq_true, Bool.true_eq_false, eq_self, reduceCtorEq, false_and, and_false, and_assoc, Int.reduceToNat, Int.reducePow, Int.reduceMul, Int.reduceAdd, Int.reduceNeg, Int.reduceSub, String.reduceEq, String.reduceNe, ne_eq, not_false_eq_true, not_true_eq_false, decide_false, decide_true, Bool.not_false, Bool.not_true, Bool.or_false, Bool.false_or, Bool.or_true, Bool.true_or, Bool.and_true, Bool.true_and, Bool.and_self, Bool.and_false, Bool.false_and, exists_eq', exists_eq, exists_const, false_or, or_false, or_self, List.all_cons, List.all_nil, List.any_cons, List.any_nil, Nat.reduceLeDiff, exists_false, List.map_nil, List.map_cons, Option.map_some, Option.isSome_some, Option.isSome_none, Option.getD_some, Option.getD_none, implies_true, List.foldl_cons, List.foldl_nil, forall_const, ofS_eq, Int.reduceLT, Int.reduceLE, Nat.reduceLT, w6_in hw, ↓e_is_amid]
  have k := fin_id k
  rw [rowFault_eq] at k
  simp only [decide_eq_true_eq, Bool.or_eq_true, Bool.and_eq_true]
  repeat' split
  all_goals simp_all
def sp_mark_after (_ : PySem.W.Frag) : ASp := fun ds A Q _ => ∃ (w m : Str), ds = [.str w, .str m] ∧ Q (.str (markAfter w m)) A
theorem e_mark_after {K : PySem.W.Frag} {w m : Str} {A : AH} {Q : AQ} {E : AX} {tg : Tag (Q, E)} : Call (sp_mark_after K) [.str w, .str m] A Q E tg = Q (.str (markAfter w m)) A := propext ⟨fun ⟨_, _, h, q⟩ => by cases h; exact q, fun q => ⟨_, _, rfl, q⟩⟩
theorem R_mark_after {w : World} {K : PySem.W.Frag} {mg : Str → Option Value} {base : Heap} (T : Tx K mg) : FnR Pg w K mg base CX0 3 (He.ga K "mark_after") (liftSp K (sp_mark_after K)) := by
  obtain ⟨fd, F⟩ := T.d_mark_after
  refine Av.FunD.AR F sc_mark_after (fun ds A Q E h => by obtain ⟨w', m, rfl, k⟩ := h; rfl) (fun _ _ _ _ _ _ us hl => match us, hl with | [_, _], _ => rfl) (fun cdv A0 outer s H0 E0 ds A Q E hr h => ?_)
  obtain ⟨w', m, rfl, k⟩ := h
  refine ⟨_, (ass_cons (as_if (PW.pt (aw_or (at_cmpA (cmp_eq hr.units) (ae_var (pv 1)) ae_str (nomark _)) (aw_or1 (at_cmpA (cmp_eq hr.units) (ae_var (pv 0)) ae_str (nomark _))))) (ass_one (as_ret ae_str)) ass_nil)
      (ass_cons (as_if (at_cmpA (cmp_eq hr.units) (ae_var (pv 0)) ae_str (nomark _)) (ass_one (as_ret (ae_callR (R_mark_of T) (hr.mono (by decide)) rfl T.g_mark_of T.k_mark_of (aa_cons ae_bl (aa_cons (ae_callR (R_is_in T) (hr.mono (by decide)) rfl T.g_is_in T.k_is_in (aa_cons (ae_var (pv 1)) aa_nil)) aa_nil))))) ass_nil)
      (ass_cons (as_if (at_cmpA (cmp_eq hr.units) (ae_var (pv 0)) ae_str (nomark _)) (ass_one (as_ret (ae_callR (R_mark_of T) (hr.mono (by decide)) rfl T.g_mark_of T.k_mark_of (aa_cons ae_bl (aa_cons (ae_callR (R_is_in T) (hr.mono (by decide)) rfl T.g_is_in T.k_is_in (aa_cons (ae_var (pv 1)) aa_nil)) aa_nil))))) ass_nil)
      (ass_cons (as_if (at_cmpA (cmp_eq hr.units) (ae_var (pv 0)) ae_str (nomark _)) (ass_one (as_ret (ae_callR (R_mark_of T) (hr.mono (by decide)) rfl T.g_mark_of T.k_mark_of (aa_cons (ae_callR (R_is_out T) (hr.mono (by decide)) rfl T.g_is_out T.k_is_out (aa_cons (ae_var (pv 1)) aa_nil)) (aa_cons ae_bl aa_nil))))) ass_nil)
      (ass_cons (as_if (PW.pt (aw_or (at_cmpA (cmp_eq hr.units) (ae_var (pv 0)) ae_str (nomark _)) (aw_or1 (at_cmpA (cmp_eq hr.units) (ae_var (pv 0)) ae_str (nomark _))))) (ass_one (as_ret (ae_callR (R_mark_of T) (hr.mono (by decide)) rfl T.g_mark_of T.k_mark_of (aa_cons (ae_callR (R_is_out T) (hr.mono (by decide)) rfl T.g_is_out T.k_is_out (aa_cons (ae_var (pv 1)) aa_nil)) (aa_cons ae_bl aa_nil))))) ass_nil)
      (ass_one (as_ret (ae_var (pv 1))))))))), ?_⟩
  simp only [↓RD, RU, aStart, wipeA, putFA, toP, toPs, scDs, valD_nil, valD_cons, putM_eq, mergeD_eq, keysOk, aHandle, endsAA, putAA, starSp, put_same, put_put, inV_nil, inV_str, cxK, atI_0, atI_1, atI_2, atI_3, ixN_30, ixN_31, ixN_32, List.map, List.replicate, List.length_cons, List.length_nil, List.nil_append, List.cons_append, List.append_nil, Nat.reduceSub, Nat.reduceAdd, List.getElem?_cons_zero, List.getElem?_cons_succ, List.set_cons_zero, List.set_cons_succ, List.cons.injEq, Option.some.injEq, V.int.injEq, V.str.injEq, V.bl.injEq, D.int.injEq, D.str.injEq, D.bl.injEq, D.ref.injEq, D.tup.injEq, D.lst.injEq, D.ty.injEq, AO.lst.injEq, AO.dct.injEq, AO.ins.injEq, Prod.mk.injEq, exists_eq_left, exists_eq_left', exists_eq_right, exists_eq_right', exists_and_left, exists_and_right, true_and, and_true, and_self, if_true, if_false, Bool.false_eq_true, Bool.true_eq_false, eq_self, reduceCtorEq, false_and, and_false, and_assoc, Int.reduceToNat, Int.reducePow, Int.reduceMul, Int.reduceAdd, Int.reduceNeg, Int.reduceSub, String.reduceEq, String.reduceNe, ne_eq, not_false_eq_true, not_true_eq_false, decide_false, decide_true, Bool.not_false, Bool.not_true, Bool.or_false, Bool.false_or, Bool.or_true, Bool.true_or, Bool.and_true, Bool.true_and, Bool.and_self, Bool.and_false, Bool.false_and, exists_eq', exists_eq, exists_const, false_or, or_false, or_self, List.all_cons, List.all_nil, List.any_cons, List.any_nil, Nat.reduceLeDiff, exists_false, List.map_nil, List.map_cons, Option.map_some, Option.isSome_some, Option.isSome_none, Option.getD_some, Option.getD_none, implies_true, List.foldl_cons, List.foldl_nil, forall_const, ofS_eq, Int.reduceLT, Int.reduceLE, Nat.reduceLT, ↓e_is_out, ↓e_is_in, ↓e_mark_of]
  have k := fin_id k
  unfold markAfter at k
  simp only [decide_eq_true_eq]
  repeat' split
  all_goals simp_all

end V35

set_option Elab.async false
set_option linter.all false
set_option maxRecDepth 100000
set_option maxHeartbeats 4000000
namespace V35
open PySem PySem.Spec PyProof.Rows L2 My Av
def lf (n c s q g b : D) : List (Str × D) := [("number", n), ("cause", c), ("state", s), ("queue", q), ("sending", g), ("is_lent", b)]
section
variable (n c s q g b v : D)
theorem lf_number : (lf n c s q g b).lookup ("number" : Str) = some n := by rfl
theorem lf_cause : (lf n c s q g b).lookup ("cause" : Str) = some c := by rfl
theorem lf_state : (lf n c s q g b).lookup ("state" : Str) = some s := by rfl
theorem lf_queue : (lf n c s q g b).lookup ("queue" : Str) = some q := by rfl
theorem lf_sending : (lf n c s q g b).lookup ("sending" : Str) = some g := by rfl
theorem lf_lent : (lf n c s q g b).lookup ("is_lent" : Str) = some b := by rfl
theorem lp_cause : putFA "cause" v (lf n c s q g b) = lf n v s q g b := by rfl
theorem lp_state : putFA "state" v (lf n c s q g b) = lf n c v q g b := by rfl
theorem lp_queue : putFA "queue" v (lf n c s q g b) = lf n c s v g b := by rfl
theorem lp_sending : putFA "sending" v (lf n c s q g b) = lf n c s q v b := by rfl
theorem lp_lent : putFA "is_lent" v (lf n c s q g b) = lf n c s q g v := by rfl
theorem lf_len : (lf n c s q g b).length = 6 := rfl
theorem ln_need : (lf n c s q g b).lookup ("need" : Str) = none := by rfl
theorem ln_ask : (lf n c s q g b).lookup ("ask" : Str) = none := by rfl
theorem ln_begin : (lf n c s q g b).lookup ("begin" : Str) = none := by rfl
theorem ln_finish : (lf n c s q g b).lookup ("finish" : Str) = none := by rfl
theorem ln_read : (lf n c s q g b).lookup ("read" : Str) = none := by rfl
theorem ln_head : (lf n c s q g b).lookup ("head" : Str) = none := by rfl
theorem ln_body : (lf n c s q g b).lookup ("body" : Str) = none := by rfl
theorem ln_drain : (lf n c s q g b).lookup ("drain" : Str) = none := by rfl
theorem ln_close : (lf n c s q g b).lookup ("close" : Str) = none := by rfl
theorem ln_tags : (lf n c s q g b).lookup ("tags" : Str) = none := by rfl
end
theorem six : 6 < 1000 := by decide
/-- a line's state: number, cause, mark, tags, what is sent, is_lent -/
structure LS where
  n : Int
  c : D
  m : Str
  q : List Str
  g : Str
  b : Bool
def lo (K : PySem.W.Frag) (l : Addr) (S : LS) : AO := .ins (He.ga K "Line") (lf (.int S.n) S.c (.str S.m) (.ref l) (.str S.g) (.bl S.b))
def lq (S : LS) : AO := .lst (S.q.map D.str)
structure LineAt (K : PySem.W.Frag) (A : AH) (a l : Addr) (S : LS) : Prop where
  ob : A a = some (.ins (He.ga K "Line") (lf (.int S.n) S.c (.str S.m) (.ref l) (.str S.g) (.bl S.b)))
  qu : A l = some (.lst (S.q.map D.str))
theorem LineAt.ne {K : PySem.W.Frag} {A : AH} {a l : Addr} {S : LS} (h : LineAt K A a l S) : a ≠ l := fun e => by
  have := h.ob; rw [e, h.qu] at this; cases this
/-- the heap with the line in another state -/
def setL (K : PySem.W.Frag) (A : AH) (a l : Addr) (S : LS) : AH := put (put A a (lo K l S)) l (lq S)
theorem LineAt.of_set {K : PySem.W.Frag} {A : AH} {a l : Addr} {S : LS} (h : a ≠ l) : LineAt K (setL K A a l S) a l S := ⟨by rw [setL, put_ne h, put_same]; rfl, put_same⟩
theorem setL_ne {K : PySem.W.Frag} {A : AH} {a l b : Addr} {S : LS} (h1 : b ≠ a) (h2 : b ≠ l) : setL K A a l S b = A b := by rw [setL, put_ne h2, put_ne h1]
theorem LineAt.same {K : PySem.W.Frag} {A : AH} {a l : Addr} {S : LS} (h : LineAt K A a l S) : setL K A a l S = A := by
  have e : put A a (lo K l S) = A := put_self h.ob
  rw [setL, e]; exact put_self h.qu
theorem LineAt.q {K : PySem.W.Frag} {A : AH} {a l : Addr} {S : LS} (h : LineAt K A a l S) {ts : List Str} : put A l (.lst (ts.map D.str)) = setL K A a l { S with q := ts } := by
  have e : put A a (lo K l { S with q := ts }) = A := put_self h.ob
  rw [setL, e]; rfl
theorem LineAt.o {K : PySem.W.Frag} {A : AH} {a l : Addr} {S S' : LS} (h : LineAt K A a l S) (e : S'.q = S.q) : put A a (lo K l S') = setL K A a l S' := by
  rw [setL, put_self (A := put A a (lo K l S'))]
  rw [put_ne h.ne.symm, lq, e]; exact h.qu
/-- what a fault raises -/
def Rz (K : PySem.W.Frag) (E : AX) (A : AH) (S : LS) (f : Option Str) : Prop := (f = some ("closed" : Str) → E (He.ga K "Closed") [("number", .int S.n)] A) ∧ (f = some ("amid" : Str) → E (He.ga K "Amid") [("half", .str S.m)] A) ∧ (f = some ("starved" : Str) → E (He.ga K "Starved") [("number", .int S.n)] A)
theorem Rz_non {K : PySem.W.Frag} {E : AX} {A : AH} {S : LS} {f : Option Str} (h : f = none) : Rz K E A S f := by
  subst h; exact ⟨(fun z => by cases z), (fun z => by cases z), (fun z => by cases z)⟩
theorem Rz_fin {K : PySem.W.Frag} {E : AX} {A : AH} {S : LS} {f : Option Str} (r : Rz K E A S f) : Rz K (fun C fs A' => ∃ A'', (∀ a o, A'' a = some o → A' a = some o) ∧ E C fs A'') A S f := ⟨fun e => ⟨A, sub_refl, r.1 e⟩, fun e => ⟨A, sub_refl, r.2.1 e⟩, fun e => ⟨A, sub_refl, r.2.2 e⟩⟩
theorem rf_cases (w m : Str) (n : Int) : rowF w m n = some ("closed" : Str) ∨ rowF w m n = some ("amid" : Str) ∨ rowF w m n = some ("starved" : Str) ∨ rowF w m n = none := by
  unfold rowF
  split
  · exact .inl rfl
  · split
    · exact .inr (.inl rfl)
    · split
      · exact .inr (.inr (.inl rfl))
      · exact .inr (.inr (.inr rfl))
def sp_Line___len__ (K : PySem.W.Frag) : ASp := fun ds A Q _ => ∃ a l S, ds = [.ref a] ∧ LineAt K A a l S ∧ Q (.int (S.q.length : Int)) A
theorem R_Line___len__ {w : World} {K : PySem.W.Frag} {mg : Str → Option Value} {base : Heap} (T : Tx K mg) : FnR Pg w K mg base CX0 1 (He.ma K (He.ga K "Line") "__len__") (liftSp K (sp_Line___len__ K)) := by
  obtain ⟨fd, F⟩ := T.d_Line___len__
  refine Av.FunD.AR F sc_Line___len__ (fun ds A Q E h => by obtain ⟨a, l, S, rfl, hL, k⟩ := h; rfl) (fun _ _ _ _ _ _ us hl => match us, hl with | [_], _ => rfl) (fun cdv A0 outer s H0 E0 ds A Q E hr h => ?_)
  obtain ⟨a, l, S, rfl, hL, k⟩ := h
  refine ⟨_, (ass_one (as_ret (ae_callB ca_len (by rfl) T.n_len (by decide +kernel) (aa_cons (ae_fld (ae_var (pv 0)) rfl) aa_nil)))), ?_⟩
  have ha := hL.ob; have hl := hL.qu
  simp only [↓RD, RU, aStart, wipeA, putFA, toP, toPs, scDs, valD_nil, valD_cons, putM_eq, mergeD_eq, keysOk, aHandle, endsAA, putAA, starSp, put_same, put_put, inV_nil, inV_str, cxK, atI_0, atI_1, atI_2, atI_3, ixN_30, ixN_31, ixN_32, List.map, List.replicate, List.length_cons, List.length_nil, List.nil_append, List.cons_append, List.append_nil, Nat.reduceSub, Nat.reduceAdd, List.getElem?_cons_zero, List.getElem?_cons_succ, List.set_cons_zero, List.set_cons_succ, List.cons.injEq, Option.some.injEq, V.int.injEq, V.str.injEq, V.bl.injEq, D.int.injEq, D.str.injEq, D.bl.injEq, D.ref.injEq, D.tup.injEq, D.lst.injEq, D.ty.injEq, AO.lst.injEq, AO.dct.injEq, AO.ins.injEq, Prod.mk.injEq, exists_eq_left, exists_eq_left', exists_eq_right, exists_eq_right', exists_and_left, exists_and_right, true_and, and_true, and_self, if_true, if_false, Bool.false_eq_true, Bool.true_eq_false, eq_self, reduceCtorEq, false_and, and_false, and_assoc, Int.reduceToNat, Int.reducePow, Int.reduceMul, Int.reduceAdd, Int.reduceNeg, Int.reduceSub, String.reduceEq, String.reduceNe, ne_eq, not_false_eq_true, not_true_eq_false, decide_false, decide_true, Bool.not_false, Bool.not_true, Bool.or_false, Bool.false_or, Bool.or_true, Bool.true_or, Bool.and_true, Bool.true_and, Bool.and_self, Bool.and_false, Bool.false_and, exists_eq', exists_eq, exists_const, false_or, or_false, or_self, List.all_cons, List.all_nil, List.any_cons, List.any_nil, Nat.reduceLeDiff, exists_false, List.map_nil, List.map_cons, Option.map_some, Option.isSome_some, Option.isSome_none, Option.getD_some, Option.getD_none, implies_true, List.foldl_cons, List.foldl_nil, forall_const, ofS_eq, Int.reduceLT, Int.reduceLE, Nat.reduceLT, ha, hl, T.c_Line, T.f_Line_queue, lf_queue, List.length_map]
  exact fin_id k
def sp_Line___contains__ (K : PySem.W.Frag) : ASp := fun ds A Q _ => ∃ a l S t, ds = [.ref a, .str t] ∧ LineAt K A a l S ∧ Q (.bl (decide (t ∈ S.q))) A
theorem scDs_strs : ∀ (q : List Str), scDs (q.map D.str) = some (q.map V.str)
  | [] => rfl
  | x :: q => by rw [List.map_cons, scDs, scDs_strs q]; rfl
theorem inV_strs (t : Str) : ∀ (q : List Str), inV (.str t) (q.map V.str) = decide (t ∈ q)
  | [] => by simp [inV_nil]
  | x :: q => by
    rw [List.map_cons, inV_str, inV_strs t q]
    by_cases h : t = x <;> simp [h]
theorem R_Line___contains__ {w : World} {K : PySem.W.Frag} {mg : Str → Option Value} {base : Heap} (T : Tx K mg) : FnR Pg w K mg base CX0 1 (He.ma K (He.ga K "Line") "__contains__") (liftSp K (sp_Line___contains__ K)) := by
  obtain ⟨fd, F⟩ := T.d_Line___contains__
  refine Av.FunD.AR F sc_Line___contains__ (fun ds A Q E h => by obtain ⟨a, l, S, t, rfl, hL, k⟩ := h; rfl) (fun _ _ _ _ _ _ us hl => match us, hl with | [_, _], _ => rfl) (fun cdv A0 outer s H0 E0 ds A Q E hr h => ?_)
  obtain ⟨a, l, S, t, rfl, hL, k⟩ := h
  refine ⟨_, (ass_one (as_ret (ae_cmpA cmp_in (ae_var (pv 1)) (ae_fld (ae_var (pv 0)) rfl) rfl))), ?_⟩
  have ha := hL.ob; have hl := hL.qu
  simp only [↓RD, RU, aStart, wipeA, putFA, toP, toPs, scDs, valD_nil, valD_cons, putM_eq, mergeD_eq, keysOk, aHandle, endsAA, putAA, starSp, put_same, put_put, inV_nil, inV_str, cxK, atI_0, atI_1, atI_2, atI_3, ixN_30, ixN_31, ixN_32, List.map, List.replicate, List.length_cons, List.length_nil, List.nil_append, List.cons_append, List.append_nil, Nat.reduceSub, Nat.reduceAdd, List.getElem?_cons_zero, List.getElem?_cons_succ, List.set_cons_zero, List.set_cons_succ, List.cons.injEq, Option.some.injEq, V.int.injEq, V.str.injEq, V.bl.injEq, D.int.injEq, D.str.injEq, D.bl.injEq, D.ref.injEq, D.tup.injEq, D.lst.injEq, D.ty.injEq, AO.lst.injEq, AO.dct.injEq, AO.ins.injEq, Prod.mk.injEq, exists_eq_left, exists_eq_left', exists_eq_right, exists_eq_right', exists_and_left, exists_and_right, true_and, and_true, and_self, if_true, if_false, Bool.false_eq_true, Bool.true_eq_false, eq_self, reduceCtorEq, false_and, and_false, and_assoc, Int.reduceToNat, Int.reducePow, Int.reduceMul, Int.reduceAdd, Int.reduceNeg, Int.reduceSub, String.reduceEq, String.reduceNe, ne_eq, not_false_eq_true, not_true_eq_false, decide_false, decide_true, Bool.not_false, Bool.not_true, Bool.or_false, Bool.false_or, Bool.or_true, Bool.true_or, Bool.and_true, Bool.true_and, Bool.and_self, Bool.and_false, Bool.false_and, exists_eq', exists_eq, exists_const, false_or, or_false, or_self, List.all_cons, List.all_nil, List.any_cons, List.any_nil, Nat.reduceLeDiff, exists_false, List.map_nil, List.map_cons, Option.map_some, Option.isSome_some, Option.isSome_none, Option.getD_some, Option.getD_none, implies_true, List.foldl_cons, List.foldl_nil, forall_const, ofS_eq, Int.reduceLT, Int.reduceLE, Nat.reduceLT, ha, hl, T.c_Line, T.f_Line_queue, lf_queue, scDs_strs, inV_strs]
  exact fin_id k
def sp_Line_mark (K : PySem.W.Frag) : ASp := fun ds A Q _ => ∃ a l S, ds = [.ref a] ∧ LineAt K A a l S ∧ Q (.str S.m) A
theorem R_Line_mark {w : World} {K : PySem.W.Frag} {mg : Str → Option Value} {base : Heap} (T : Tx K mg) : FnR Pg w K mg base CX0 1 (My.prpG "Line" "mark" K) (liftSp K (sp_Line_mark K)) := by
  obtain ⟨fd, F⟩ := T.d_Line_mark
  refine Av.FunD.AR F sc_Line_mark (fun ds A Q E h => by obtain ⟨a, l, S, rfl, hL, k⟩ := h; rfl) (fun _ _ _ _ _ _ us hl => match us, hl with | [_], _ => rfl) (fun cdv A0 outer s H0 E0 ds A Q E hr h => ?_)
  obtain ⟨a, l, S, rfl, hL, k⟩ := h
  refine ⟨_, (ass_one (as_ret (ae_fld (ae_var (pv 0)) rfl))), ?_⟩
  have ha := hL.ob
  simp only [↓RD, RU, aStart, wipeA, putFA, toP, toPs, scDs, valD_nil, valD_cons, putM_eq, mergeD_eq, keysOk, aHandle, endsAA, putAA, starSp, put_same, put_put, inV_nil, inV_str, cxK, atI_0, atI_1, atI_2, atI_3, ixN_30, ixN_31, ixN_32, List.map, List.replicate, List.length_cons, List.length_nil, List.nil_append, List.cons_append, List.append_nil, Nat.reduceSub, Nat.reduceAdd, List.getElem?_cons_zero, List.getElem?_cons_succ, List.set_cons_zero, List.set_cons_succ, List.cons.injEq, Option.some.injEq, V.int.injEq, V.str.injEq, V.bl.injEq, D.int.injEq, D.str.injEq, D.bl.injEq, D.ref.injEq, D.tup.injEq, D.lst.injEq, D.ty.injEq, AO.lst.injEq, AO.dct.injEq, AO.ins.injEq, Prod.mk.injEq, exists_eq_left, exists_eq_left', exists_eq_right, exists_eq_right', exists_and_left, exists_and_right, true_and, and_true, and_self, if_true, if_false, Bool.false_eq_true, Bool.true_eq_false, eq_self, reduceCtorEq, false_and, and_false, and_assoc, Int.reduceToNat, Int.reducePow, Int.reduceMul, Int.reduceAdd, Int.reduceNeg, Int.reduceSub, String.reduceEq, String.reduceNe, ne_eq, not_false_eq_true, not_true_eq_false, decide_false, decide_true, Bool.not_false, Bool.not_true, Bool.or_false, Bool.false_or, Bool.or_true, Bool.true_or, Bool.and_true, Bool.true_and, Bool.and_self, Bool.and_false, Bool.false_and, exists_eq', exists_eq, exists_const, false_or, or_false, or_self, List.all_cons, List.all_nil, List.any_cons, List.any_nil, Nat.reduceLeDiff, exists_false, List.map_nil, List.map_cons, Option.map_some, Option.isSome_some, Option.isSome_none, Option.getD_some, Option.getD_none, implies_true, List.foldl_cons, List.foldl_nil, forall_const, ofS_eq, Int.reduceLT, Int.reduceLE, Nat.reduceLT, ha, T.c_Line, T.f_Line_state, lf_state]
  exact fin_id k
def sp_Line_is_open (K : PySem.W.Frag) : ASp := fun ds A Q _ => ∃ a l S, ds = [.ref a] ∧ LineAt K A a l S ∧ Q (.bl (!decide (S.m = "closed"))) A
theorem R_Line_is_open {w : World} {K : PySem.W.Frag} {mg : Str → Option Value} {base : Heap} (T : Tx K mg) : FnR Pg w K mg base CX0 1 (My.prpG "Line" "is_open" K) (liftSp K (sp_Line_is_open K)) := by
  obtain ⟨fd, F⟩ := T.d_Line_is_open
  refine Av.FunD.AR F sc_Line_is_open (fun ds A Q E h => by obtain ⟨a, l, S, rfl, hL, k⟩ := h; rfl) (fun _ _ _ _ _ _ us hl => match us, hl with | [_], _ => rfl) (fun cdv A0 outer s H0 E0 ds A Q E hr h => ?_)
  obtain ⟨a, l, S, rfl, hL, k⟩ := h
  refine ⟨_, (ass_one (as_ret (ae_cmpA (cmp_ne hr.units) (ae_fld (ae_var (pv 0)) rfl) ae_str (nomark _)))), ?_⟩
  have ha := hL.ob
  simp only [↓RD, RU, aStart, wipeA, putFA, toP, toPs, scDs, valD_nil, valD_cons, putM_eq, mergeD_eq, keysOk, aHandle, endsAA, putAA, starSp, put_same, put_put, inV_nil, inV_str, cxK, atI_0, atI_1, atI_2, atI_3, ixN_30, ixN_31, ixN_32, List.map, List.replicate, List.length_cons, List.length_nil, List.nil_append, List.cons_append, List.append_nil, Nat.reduceSub, Nat.reduceAdd, List.getElem?_cons_zero, List.getElem?_cons_succ, List.set_cons_zero, List.set_cons_succ, List.cons.injEq, Option.some.injEq, V.int.injEq, V.str.injEq, V.bl.injEq, D.int.injEq, D.str.injEq, D.bl.injEq, D.ref.injEq, D.tup.injEq, D.lst.injEq, D.ty.injEq, AO.lst.injEq, AO.dct.injEq, AO.ins.injEq, Prod.mk.injEq, exists_eq_left, exists_eq_left', exists_eq_right, exists_eq_right', exists_and_left, exists_and_right, true_and, and_true, and_self, if_true, if_false, Bool.false_eq_true, Bool.true_eq_false, eq_self, reduceCtorEq, false_and, and_false, and_assoc, Int.reduceToNat, Int.reducePow, Int.reduceMul, Int.reduceAdd, Int.reduceNeg, Int.reduceSub, String.reduceEq, String.reduceNe, ne_eq, not_false_eq_true, not_true_eq_false, decide_false, decide_true, Bool.not_false, Bool.not_true, Bool.or_false, Bool.false_or, Bool.or_true, Bool.true_or, Bool.and_true, Bool.true_and, Bool.and_self, Bool.and_false, Bool.false_and, exists_eq', exists_eq, exists_const, false_or, or_false, or_self, List.all_cons, List.all_nil, List.any_cons, List.any_nil, Nat.reduceLeDiff, exists_false, List.map_nil, List.map_cons, Option.map_some, Option.isSome_some, Option.isSome_none, Option.getD_some, Option.getD_none, implies_true, List.foldl_cons, List.foldl_nil, forall_const, ofS_eq, Int.reduceLT, Int.reduceLE, Nat.reduceLT, ha, T.c_Line, T.f_Line_state, lf_state]
  exact fin_id k
def sp_Line_is_clean (K : PySem.W.Frag) : ASp := fun ds A Q _ => ∃ a l S, ds = [.ref a] ∧ LineAt K A a l S ∧ Q (.bl (decide (S.m = "whole") && S.q.isEmpty)) A
theorem R_Line_is_clean {w : World} {K : PySem.W.Frag} {mg : Str → Option Value} {base : Heap} (T : Tx K mg) : FnR Pg w K mg base CX0 1 (My.prpG "Line" "is_clean" K) (liftSp K (sp_Line_is_clean K)) := by
  obtain ⟨fd, F⟩ := T.d_Line_is_clean
  refine Av.FunD.AR F sc_Line_is_clean (fun ds A Q E h => by obtain ⟨a, l, S, rfl, hL, k⟩ := h; rfl) (fun _ _ _ _ _ _ us hl => match us, hl with | [_], _ => rfl) (fun cdv A0 outer s H0 E0 ds A Q E hr h => ?_)
  obtain ⟨a, l, S, rfl, hL, k⟩ := h
  refine ⟨_, (ass_one (as_ret (ae_and (ae_cmpA (cmp_eq hr.units) (ae_fld (ae_var (pv 0)) rfl) ae_str (nomark _)) (ae_one (ae_cmpA (cmp_eq hr.units) (ae_callB ca_len (by rfl) T.n_len (by decide +kernel) (aa_cons (ae_fld (ae_var (pv 0)) rfl) aa_nil)) ae_int (nomark _)))))), ?_⟩
  have ha := hL.ob; have hl := hL.qu
  simp only [↓RD, RU, aStart, wipeA, putFA, toP, toPs, scDs, valD_nil, valD_cons, putM_eq, mergeD_eq, keysOk, aHandle, endsAA, putAA, starSp, put_same, put_put, inV_nil, inV_str, cxK, atI_0, atI_1, atI_2, atI_3, ixN_30, ixN_31, ixN_32, List.map, List.replicate, List.length_cons, List.length_nil, List.nil_append, List.cons_append, List.append_nil, Nat.reduceSub, Nat.reduceAdd, List.getElem?_cons_zero, List.getElem?_cons_succ, List.set_cons_zero, List.set_cons_succ, List.cons.injEq, Option.some.injEq, V.int.injEq, V.str.injEq, V.bl.injEq, D.int.injEq, D.str.injEq, D.bl.injEq, D.ref.injEq, D.tup.injEq, D.lst.injEq, D.ty.injEq, AO.lst.injEq, AO.dct.injEq, AO.ins.injEq, Prod.mk.injEq, exists_eq_left, exists_eq_left', exists_eq_right, exists_eq_right', exists_and_left, exists_and_right, true_and, and_true, and_self, if_true, if_false, Bool.false_eq_true, Bool.true_eq_false, eq_self, reduceCtorEq, false_and, and_false, and_assoc, Int.reduceToNat, Int.reducePow, Int.reduceMul, Int.reduceAdd, Int.reduceNeg, Int.reduceSub, String.reduceEq, String.reduceNe, ne_eq, not_false_eq_true, not_true_eq_false, decide_false, decide_true, Bool.not_false, Bool.not_true, Bool.or_false, Bool.false_or, Bool.or_true, Bool.true_or, Bool.and_true, Bool.true_and, Bool.and_self, Bool.and_false, Bool.false_and, exists_eq', exists_eq, exists_const, false_or, or_false, or_self, List.all_cons, List.all_nil, List.any_cons, List.any_nil, Nat.reduceLeDiff, exists_false, List.map_nil, List.map_cons, Option.map_some, Option.isSome_some, Option.isSome_none, Option.getD_some, Option.getD_none, implies_true, List.foldl_cons, List.foldl_nil, forall_const, ofS_eq, Int.reduceLT, Int.reduceLE, Nat.reduceLT, ha, hl, T.c_Line, T.f_Line_state, T.f_Line_queue, lf_state, lf_queue, List.length_map]
  have k := fin_id k
  by_cases h : S.m = "whole"
  · have e : decide ((S.q.length : Int) = 0) = S.q.isEmpty := by
      cases S.q with
      | nil => rfl
      | cons x q => simp; omega
    simp only [h, decide_true, Bool.true_and, if_true] at k ⊢
    rw [e]; exact k
  · simpa [h] using k
def sp_Line_owed (K : PySem.W.Frag) : ASp := fun ds A Q _ => ∃ a l S, ds = [.ref a] ∧ LineAt K A a l S ∧ Q (.int (S.q.length : Int)) A
theorem R_Line_owed {w : World} {K : PySem.W.Frag} {mg : Str → Option Value} {base : Heap} (T : Tx K mg) : FnR Pg w K mg base CX0 1 (My.prpG "Line" "owed" K) (liftSp K (sp_Line_owed K)) := by
  obtain ⟨fd, F⟩ := T.d_Line_owed
  refine Av.FunD.AR F sc_Line_owed (fun ds A Q E h => by obtain ⟨a, l, S, rfl, hL, k⟩ := h; rfl) (fun _ _ _ _ _ _ us hl => match us, hl with | [_], _ => rfl) (fun cdv A0 outer s H0 E0 ds A Q E hr h => ?_)
  obtain ⟨a, l, S, rfl, hL, k⟩ := h
  refine ⟨_, (ass_one (as_ret (ae_callB ca_len (by rfl) T.n_len (by decide +kernel) (aa_cons (ae_fld (ae_var (pv 0)) rfl) aa_nil)))), ?_⟩
  have ha := hL.ob; have hl := hL.qu
  simp only [↓RD, RU, aStart, wipeA, putFA, toP, toPs, scDs, valD_nil, valD_cons, putM_eq, mergeD_eq, keysOk, aHandle, endsAA, putAA, starSp, put_same, put_put, inV_nil, inV_str, cxK, atI_0, atI_1, atI_2, atI_3, ixN_30, ixN_31, ixN_32, List.map, List.replicate, List.length_cons, List.length_nil, List.nil_append, List.cons_append, List.append_nil, Nat.reduceSub, Nat.reduceAdd, List.getElem?_cons_zero, List.getElem?_cons_succ, List.set_cons_zero, List.set_cons_succ, List.cons.injEq, Option.some.injEq, V.int.injEq, V.str.injEq, V.bl.injEq, D.int.injEq, D.str.injEq, D.bl.injEq, D.ref.injEq, D.tup.injEq, D.lst.injEq, D.ty.injEq, AO.lst.injEq, AO.dct.injEq, AO.ins.injEq, Prod.mk.injEq, exists_eq_left, exists_eq_left', exists_eq_right, exists_eq_right', exists_and_left, exists_and_right, true_and, and_true, and_self, if_true, if_false, Bool.false_eq_true, Bool.true_eq_false, eq_self, reduceCtorEq, false_and, and_false, and_assoc, Int.reduceToNat, Int.reducePow, Int.reduceMul, Int.reduceAdd, Int.reduceNeg, Int.reduceSub, String.reduceEq, String.reduceNe, ne_eq, not_false_eq_true, not_true_eq_false, decide_false, decide_true, Bool.not_false, Bool.not_true, Bool.or_false, Bool.false_or, Bool.or_true, Bool.true_or, Bool.and_true, Bool.true_and, Bool.and_self, Bool.and_false, Bool.false_and, exists_eq', exists_eq, exists_const, false_or, or_false, or_self, List.all_cons, List.all_nil, List.any_cons, List.any_nil, Nat.reduceLeDiff, exists_false, List.map_nil, List.map_cons, Option.map_some, Option.isSome_some, Option.isSome_none, Option.getD_some, Option.getD_none, implies_true, List.foldl_cons, List.foldl_nil, forall_const, ofS_eq, Int.reduceLT, Int.reduceLE, Nat.reduceLT, ha, hl, T.c_Line, T.f_Line_queue, lf_queue, List.length_map]
  exact fin_id k
def sp_Line_need (K : PySem.W.Frag) : ASp := fun ds A Q E => ∃ a l S w n, ds = [.ref a, .str w, .int n] ∧ LineAt K A a l S ∧ W6 w ∧ (rowF w S.m n = none → Q .non A) ∧ Rz K E A S (rowF w S.m n)
theorem R_Line_need {w : World} {K : PySem.W.Frag} {mg : Str → Option Value} {base : Heap} (T : Tx K mg) : FnR Pg w K mg base (L2.CX Pg w) 7 (He.ma K (He.ga K "Line") "need") (liftSp K (sp_Line_need K)) := by
  obtain ⟨fd, F⟩ := T.d_Line_need
  refine Av.FunD.AX F sc_Line_need (fun ds A Q E h => by obtain ⟨a, l, S, w', n, rfl, hL, hw, k, r⟩ := h; rfl) (fun _ _ _ _ _ _ us hl => match us, hl with | [_, _, _], _ => rfl) (fun cdv A0 outer s H0 E0 ds A Q E hr h => ?_)
  obtain ⟨a, l, S, w', n, rfl, hL, hw, k, r⟩ := h
  refine ⟨_, (ass_cons (as_set (i := 3) sc_Line_need.nd rfl (by first | exact Or.inl rfl | exact Or.inr rfl) (ae_callR (R_row_fault T) (hr.mono (by decide)) rfl T.g_row_fault T.k_row_fault (aa_cons (ae_var (pv 1)) (aa_cons (ae_fld (ae_var (pv 0)) rfl) (aa_cons (ae_var (pv 2)) aa_nil)))))
      (ass_cons (as_if (at_cmpA (cmp_eq hr.units) (ae_var (pv 3)) ae_str (nomark _)) (ass_one (as_raise rfl T.ow_Closed hr (takes_of rfl rfl rfl rfl) (aa_cons (ae_fld (ae_var (pv 0)) rfl) aa_nil) rfl)) ass_nil)
      (ass_cons (as_if (at_cmpA (cmp_eq hr.units) (ae_var (pv 3)) ae_str (nomark _)) (ass_one (as_raise rfl T.ow_Amid hr (takes_of rfl rfl rfl rfl) (aa_cons (ae_fld (ae_var (pv 0)) rfl) aa_nil) rfl)) ass_nil)
      (ass_one (as_if (at_cmpA (cmp_eq hr.units) (ae_var (pv 3)) ae_str (nomark _)) (ass_one (as_raise rfl T.ow_Starved hr (takes_of rfl rfl rfl rfl) (aa_cons (ae_fld (ae_var (pv 0)) rfl) aa_nil) rfl)) ass_nil))))), ?_⟩
  have ha := hL.ob
  simp only [↓RD, RU, aStart, wipeA, putFA, toP, toPs, scDs, valD_nil, valD_cons, putM_eq, mergeD_eq, keysOk, aHandle, endsAA, putAA, starSp, put_same, put_put, inV_nil, inV_str, cxK, atI_0, atI_1, atI_2, atI_3, ixN_30, ixN_31, ixN_32, List.map, List.replicate, List.length_cons, List.length_nil, List.nil_append, List.cons_append, List.append_nil, Nat.reduceSub, Nat.reduceAdd, List.getElem?_cons_zero, List.getElem?_cons_succ, List.set_cons_zero, List.set_cons_succ, List.cons.injEq, Option.some.injEq, V.int.injEq, V.str.injEq, V.bl.injEq, D.int.injEq, D.str.injEq, D.bl.injEq, D.ref.injEq, D.tup.injEq, D.lst.injEq, D.ty.injEq, AO.lst.injEq, AO.dct.injEq, AO.ins.injEq, Prod.mk.injEq, exists_eq_left, exists_eq_left', exists_eq_right, exists_eq_right', exists_and_left, exists_and_right, true_and, and_true, and_self, if_true, if_false, Bool.false_eq_true, Bool.true_eq_false, eq_self, reduceCtorEq, false_and, and_false, and_assoc, Int.reduceToNat, Int.reducePow, Int.reduceMul, Int.reduceAdd, Int.reduceNeg, Int.reduceSub, String.reduceEq, String.reduceNe, ne_eq, not_false_eq_true, not_true_eq_false, decide_false, decide_true, Bool.not_false, Bool.not_true, Bool.or_false, Bool.false_or, Bool.or_true, Bool.true_or, Bool.and_true, Bool.true_and, Bool.and_self, Bool.and_false, Bool.false_and, exists_eq', exists_eq, exists_const, false_or, or_false, or_self, List.all_cons, List.all_nil, List.any_cons, List.any_nil, Nat.reduceLeDiff, exists_false, List.map_nil, List.map_cons, Option.map_some, Option.isSome_some, Option.isSome_none, Option.getD_some, Option.getD_none, implies_true, List.foldl_cons, List.foldl_nil, forall_const, ofS_eq, Int.reduceLT, Int.reduceLE, Nat.reduceLT, ha, T.c_Line, T.f_Line_state, lf_state]
  refine ⟨_, _, _, rfl, hw, ?_⟩
  obtain ⟨r1, r2, r3⟩ := r
  have ef : rowFault w' S.m n = fD (rowF w' S.m n) := rfl
  rcases rf_cases w' S.m n with e | e | e | e <;> rw [e] at k r1 r2 r3 ef <;> simp only [fD] at ef <;> rw [ef]
  · simp only [↓RD, RU, aStart, wipeA, putFA, toP, toPs, scDs, valD_nil, valD_cons, putM_eq, mergeD_eq, keysOk, aHandle, endsAA, putAA, starSp, put_same, put_put, inV_nil, inV_str, cxK, atI_0, atI_1, atI_2, atI_3, ixN_30, ixN_31, ixN_32, List.map, List.replicate, List.length_cons, List.length_nil, List.nil_append, List.cons_append, List.append_nil, Nat.reduceSub, Nat.reduceAdd, List.getElem?_cons_zero, List.getElem?_cons_succ, List.set_cons_zero, List.set_cons_succ, List.cons.injEq, Option.some.injEq, V.int.injEq, V.str.injEq, V.bl.injEq, D.int.injEq, D.str.injEq, D.bl.injEq, D.ref.injEq, D.tup.injEq, D.lst.injEq, D.ty.injEq, AO.lst.injEq, AO.dct.injEq, AO.ins.injEq, Prod.mk.injEq, exists_eq_left, exists_eq_left', exists_eq_right, exists_eq_right', exists_and_left, exists_and_right, true_and, and_true, and_self, if_true, if_false, Bool.false_eq_true, Bool.true_eq_false, eq_self, reduceCtorEq, false_and, and_false, and_assoc, Int.reduceToNat, Int.reducePow, Int.reduceMul, Int.reduceAdd, Int.reduceNeg, Int.reduceSub, String.reduceEq, String.reduceNe, ne_eq, not_false_eq_true, not_true_eq_false, decide_false, decide_true, Bool.not_false, Bool.not_true, Bool.or_false, Bool.false_or, Bool.or_true, Bool.true_or, Bool.and_true, Bool.true_and, Bool.and_self, Bool.and_false, Bool.false_and, exists_eq', exists_eq, exists_const, false_or, or_false, or_self, List.all_cons, List.all_nil, List.any_cons, List.any_nil, Nat.reduceLeDiff, exists_false, List.map_nil, List.map_cons, Option.map_some, Option.isSome_some, Option.isSome_none, Option.getD_some, Option.getD_none, implies_true, List.foldl_cons, List.foldl_nil, forall_const, ofS_eq, Int.reduceLT, Int.reduceLE, Nat.reduceLT, ha, T.c_Line, T.f_Line_number, lf_number]
    exact ⟨A, sub_refl, r1 rfl⟩
  · simp only [↓RD, RU, aStart, wipeA, putFA, toP, toPs, scDs, valD_nil, valD_cons, putM_eq, mergeD_eq, keysOk, aHandle, endsAA, putAA, starSp, put_same, put_put, inV_nil, inV_str, cxK, atI_0, atI_1, atI_2, atI_3, ixN_30, ixN_31, ixN_32, List.map, List.replicate, List.length_cons, List.length_nil, List.nil_append, List.cons_append, List.append_nil, Nat.reduceSub, Nat.reduceAdd, List.getElem?_cons_zero, List.getElem?_cons_succ, List.set_cons_zero, List.set_cons_succ, List.cons.injEq, Option.some.injEq, V.int.injEq, V.str.injEq, V.bl.injEq, D.int.injEq, D.str.injEq, D.bl.injEq, D.ref.injEq, D.tup.injEq, D.lst.injEq, D.ty.injEq, AO.lst.injEq, AO.dct.injEq, AO.ins.injEq, Prod.mk.injEq, exists_eq_left, exists_eq_left', exists_eq_right, exists_eq_right', exists_and_left, exists_and_right, true_and, and_true, and_self, if_true, if_false, Bool.false_eq_true, Bool.true_eq_false, eq_self, reduceCtorEq, false_and, and_false, and_assoc, Int.reduceToNat, Int.reducePow, Int.reduceMul, Int.reduceAdd, Int.reduceNeg, Int.reduceSub, String.reduceEq, String.reduceNe, ne_eq, not_false_eq_true, not_true_eq_false, decide_false, decide_true, Bool.not_false, Bool.not_true, Bool.or_false, Bool.false_or, Bool.or_true, Bool.true_or, Bool.and_true, Bool.true_and, Bool.and_self, Bool.and_false, Bool.false_and, exists_eq', exists_eq, exists_const, false_or, or_false, or_self, List.all_cons, List.all_nil, List.any_cons, List.any_nil, Nat.reduceLeDiff, exists_false, List.map_nil, List.map_cons, Option.map_some, Option.isSome_some, Option.isSome_none, Option.getD_some, Option.getD_none, implies_true, List.foldl_cons, List.foldl_nil, forall_const, ofS_eq, Int.reduceLT, Int.reduceLE, Nat.reduceLT, ha, T.c_Line, T.f_Line_state, lf_state]
    exact ⟨A, sub_refl, r2 rfl⟩
  · simp only [↓RD, RU, aStart, wipeA, putFA, toP, toPs, scDs, valD_nil, valD_cons, putM_eq, mergeD_eq, keysOk, aHandle, endsAA, putAA, starSp, put_same, put_put, inV_nil, inV_str, cxK, atI_0, atI_1, atI_2, atI_3, ixN_30, ixN_31, ixN_32, List.map, List.replicate, List.length_cons, List.length_nil, List.nil_append, List.cons_append, List.append_nil, Nat.reduceSub, Nat.reduceAdd, List.getElem?_cons_zero, List.getElem?_cons_succ, List.set_cons_zero, List.set_cons_succ, List.cons.injEq, Option.some.injEq, V.int.injEq, V.str.injEq, V.bl.injEq, D.int.injEq, D.str.injEq, D.bl.injEq, D.ref.injEq, D.tup.injEq, D.lst.injEq, D.ty.injEq, AO.lst.injEq, AO.dct.injEq, AO.ins.injEq, Prod.mk.injEq, exists_eq_left, exists_eq_left', exists_eq_right, exists_eq_right', exists_and_left, exists_and_right, true_and, and_true, and_self, if_true, if_false, Bool.false_eq_true, Bool.true_eq_false, eq_self, reduceCtorEq, false_and, and_false, and_assoc, Int.reduceToNat, Int.reducePow, Int.reduceMul, Int.reduceAdd, Int.reduceNeg, Int.reduceSub, String.reduceEq, String.reduceNe, ne_eq, not_false_eq_true, not_true_eq_false, decide_false, decide_true, Bool.not_false, Bool.not_true, Bool.or_false, Bool.false_or, Bool.or_true, Bool.true_or, Bool.and_true, Bool.true_and, Bool.and_self, Bool.and_false, Bool.false_and, exists_eq', exists_eq, exists_const, false_or, or_false, or_self, List.all_cons, List.all_nil, List.any_cons, List.any_nil, Nat.reduceLeDiff, exists_false, List.map_nil, List.map_cons, Option.map_some, Option.isSome_some, Option.isSome_none, Option.getD_some, Option.getD_none, implies_true, List.foldl_cons, List.foldl_nil, forall_const, ofS_eq, Int.reduceLT, Int.reduceLE, Nat.reduceLT, ha, T.c_Line, T.f_Line_number, lf_number]
    exact ⟨A, sub_refl, r3 rfl⟩
  · simp only [↓RD, RU, aStart, wipeA, putFA, toP, toPs, scDs, valD_nil, valD_cons, putM_eq, mergeD_eq, keysOk, aHandle, endsAA, putAA, starSp, put_same, put_put, inV_nil, inV_str, cxK, atI_0, atI_1, atI_2, atI_3, ixN_30, ixN_31, ixN_32, List.map, List.replicate, List.length_cons, List.length_nil, List.nil_append, List.cons_append, List.append_nil, Nat.reduceSub, Nat.reduceAdd, List.getElem?_cons_zero, List.getElem?_cons_succ, List.set_cons_zero, List.set_cons_succ, List.cons.injEq, Option.some.injEq, V.int.injEq, V.str.injEq, V.bl.injEq, D.int.injEq, D.str.injEq, D.bl.injEq, D.ref.injEq, D.tup.injEq, D.lst.injEq, D.ty.injEq, AO.lst.injEq, AO.dct.injEq, AO.ins.injEq, Prod.mk.injEq, exists_eq_left, exists_eq_left', exists_eq_right, exists_eq_right', exists_and_left, exists_and_right, true_and, and_true, and_self, if_true, if_false, Bool.false_eq_true, Bool.true_eq_false, eq_self, reduceCtorEq, false_and, and_false, and_assoc, Int.reduceToNat, Int.reducePow, Int.reduceMul, Int.reduceAdd, Int.reduceNeg, Int.reduceSub, String.reduceEq, String.reduceNe, ne_eq, not_false_eq_true, not_true_eq_false, decide_false, decide_true, Bool.not_false, Bool.not_true, Bool.or_false, Bool.false_or, Bool.or_true, Bool.true_or, Bool.and_true, Bool.true_and, Bool.and_self, Bool.and_false, Bool.false_and, exists_eq', exists_eq, exists_const, false_or, or_false, or_self, List.all_cons, List.all_nil, List.any_cons, List.any_nil, Nat.reduceLeDiff, exists_false, List.map_nil, List.map_cons, Option.map_some, Option.isSome_some, Option.isSome_none, Option.getD_some, Option.getD_none, implies_true, List.foldl_cons, List.foldl_nil, forall_const, ofS_eq, Int.reduceLT, Int.reduceLE, Nat.reduceLT]
    exact fin_id (k rfl)
def newS (n : Int) : LS := ⟨n, .non, "whole", [], "", false⟩
def sp_Line___init__ (K : PySem.W.Frag) : ASp := fun ds A Q _ => ∃ (a : Addr) (n : Int), ds = [.ref a, .int n] ∧ A a = some (.ins (He.ga K "Line") []) ∧ ∀ l, A l = none → Q .non (setL K A a l (newS n))
theorem B_Line___init__ {w : World} {K : PySem.W.Frag} {mg : Str → Option Value} {base : Heap} (T : Tx K mg) : Av.BodyR Pg w K mg base D_Line___init__.qual D_Line___init__.body D_Line___init__.scope (He.ma K (He.ga K "Line") "__init__") ["self", "number"] 0 (sp_Line___init__ K) := by
  intro cdv A0 outer s H0 E0 ds A Q E hr h
  obtain ⟨a, n, rfl, ha, k⟩ := h
  refine ⟨_, (ass_cons (as_fld (ae_var (pv 0)) (ae_var (pv 1)) rfl)
      (ass_cons (as_fld (ae_var (pv 0)) ae_non rfl)
      (ass_cons (as_fld (ae_var (pv 0)) ae_str rfl)
      (ass_cons (as_fld (ae_var (pv 0)) (ae_lst true aa_nil) rfl)
      (ass_cons (as_fld (ae_var (pv 0)) ae_str rfl)
      (ass_one (as_fld (ae_var (pv 0)) ae_bl rfl))))))), ?_⟩
  simp only [↓RD, RU, aStart, wipeA, putFA, toP, toPs, scDs, valD_nil, valD_cons, putM_eq, mergeD_eq, keysOk, aHandle, endsAA, putAA, starSp, put_same, put_put, inV_nil, inV_str, cxK, atI_0, atI_1, atI_2, atI_3, ixN_30, ixN_31, ixN_32, List.map, List.replicate, List.length_cons, List.length_nil, List.nil_append, List.cons_append, List.append_nil, Nat.reduceSub, Nat.reduceAdd, List.getElem?_cons_zero, List.getElem?_cons_succ, List.set_cons_zero, List.set_cons_succ, List.cons.injEq, Option.some.injEq, V.int.injEq, V.str.injEq, V.bl.injEq, D.int.injEq, D.str.injEq, D.bl.injEq, D.ref.injEq, D.tup.injEq, D.lst.injEq, D.ty.injEq, AO.lst.injEq, AO.dct.injEq, AO.ins.injEq, Prod.mk.injEq, exists_eq_left, exists_eq_left', exists_eq_right, exists_eq_right', exists_and_left, exists_and_right, true_and, and_true, and_self, if_true, if_false, Bool.false_eq_true, Bool.true_eq_false, eq_self, reduceCtorEq, false_and, and_false, and_assoc, Int.reduceToNat, Int.reducePow, Int.reduceMul, Int.reduceAdd, Int.reduceNeg, Int.reduceSub, String.reduceEq, String.reduceNe, ne_eq, not_false_eq_true, not_true_eq_false, decide_false, decide_true, Bool.not_false, Bool.not_true, Bool.or_false, Bool.false_or, Bool.or_true, Bool.true_or, Bool.and_true, Bool.true_and, Bool.and_self, Bool.and_false, Bool.false_and, exists_eq', exists_eq, exists_const, false_or, or_false, or_self, List.all_cons, List.all_nil, List.any_cons, List.any_nil, Nat.reduceLeDiff, exists_false, List.map_nil, List.map_cons, Option.map_some, Option.isSome_some, Option.isSome_none, Option.getD_some, Option.getD_none, implies_true, List.foldl_cons, List.foldl_nil, forall_const, ofS_eq, Int.reduceLT, Int.reduceLE, Nat.reduceLT, ha, T.c_Line, T.f_Line_number, T.f_Line_cause, T.f_Line_state, T.f_Line_queue, T.f_Line_sending, T.f_Line_is_lent]
  intro p hp
  obtain ⟨hpa, hp⟩ := put_none hp
  simp only [↓RD, RU, aStart, wipeA, putFA, toP, toPs, scDs, valD_nil, valD_cons, putM_eq, mergeD_eq, keysOk, aHandle, endsAA, putAA, starSp, put_same, put_put, inV_nil, inV_str, cxK, atI_0, atI_1, atI_2, atI_3, ixN_30, ixN_31, ixN_32, List.map, List.replicate, List.length_cons, List.length_nil, List.nil_append, List.cons_append, List.append_nil, Nat.reduceSub, Nat.reduceAdd, List.getElem?_cons_zero, List.getElem?_cons_succ, List.set_cons_zero, List.set_cons_succ, List.cons.injEq, Option.some.injEq, V.int.injEq, V.str.injEq, V.bl.injEq, D.int.injEq, D.str.injEq, D.bl.injEq, D.ref.injEq, D.tup.injEq, D.lst.injEq, D.ty.injEq, AO.lst.injEq, AO.dct.injEq, AO.ins.injEq, Prod.mk.injEq, exists_eq_left, exists_eq_left', exists_eq_right, exists_eq_right', exists_and_left, exists_and_right, true_and, and_true, and_self, if_true, if_false, Bool.false_eq_true, Bool.true_eq_false, eq_self, reduceCtorEq, false_and, and_false, and_assoc, Int.reduceToNat, Int.reducePow, Int.reduceMul, Int.reduceAdd, Int.reduceNeg, Int.reduceSub, String.reduceEq, String.reduceNe, ne_eq, not_false_eq_true, not_true_eq_false, decide_false, decide_true, Bool.not_false, Bool.not_true, Bool.or_false, Bool.false_or, Bool.or_true, Bool.true_or, Bool.and_true, Bool.true_and, Bool.and_self, Bool.and_false, Bool.false_and, exists_eq', exists_eq, exists_const, false_or, or_false, or_self, List.all_cons, List.all_nil, List.any_cons, List.any_nil, Nat.reduceLeDiff, exists_false, List.map_nil, List.map_cons, Option.map_some, Option.isSome_some, Option.isSome_none, Option.getD_some, Option.getD_none, implies_true, List.foldl_cons, List.foldl_nil, forall_const, ofS_eq, Int.reduceLT, Int.reduceLE, Nat.reduceLT, put_ne hpa.symm, T.c_Line, T.f_Line_queue, T.f_Line_sending, T.f_Line_is_lent]
  refine fin_id ?_
  have := k p hp
  rw [setL] at this
  rw [put_comm hpa.symm, put_put, put_comm hpa]
  exact this
theorem R_Line_init1 {w : World} {K : PySem.W.Frag} {mg : Str → Option Value} {base : Heap} (T : Tx K mg) : FnR Pg w K mg base CX0 1 (He.ma K (He.ga K "Line") "__init__") (liftSp K (sp_Line___init__ K)) := by
  obtain ⟨fd, F⟩ := T.d_Line___init__
  refine FnR.imp (Av.FunD.AD 2 1 [] F sc_Line___init__ (fun ds A Q E h => by obtain ⟨a, n, rfl, _⟩ := h; rfl) (by intro h; cases h) rfl (fun T kV doc pm an cdv ct us its h1 h2 => ?_) (fun _ _ => .nil) (B_Line___init__ T)) fun vs H Q E h => ?_
  · match us, its, h1, h2 with
    | [_, _], [_], _, _ => exact ⟨_, rfl, rfl⟩
  · simpa only [List.append_nil] using h
theorem R_Line_init0 {w : World} {K : PySem.W.Frag} {mg : Str → Option Value} {base : Heap} (T : Tx K mg) : FnR Pg w K mg base CX0 1 (He.ma K (He.ga K "Line") "__init__") (liftSp K (fun ds A Q E => sp_Line___init__ K (ds ++ [.int 0]) A Q E)) := by
  obtain ⟨fd, F⟩ := T.d_Line___init__
  refine Av.FunD.AD 1 0 [.int 0] F sc_Line___init__ (fun ds A Q E h => by obtain ⟨a, n, rfl, _⟩ := h; rfl) (by intro h; cases h) rfl (fun T kV doc pm an cdv ct us its h1 h2 => ?_) (fun _ _ => .cons (.int 0) .nil) (B_Line___init__ T)
  match us, its, h1, h2 with
  | [_], [_], _, _ => exact ⟨_, rfl, rfl⟩
def spi_Line_ask (K : PySem.W.Frag) : ASp := fun ds A Q E => ∃ a l S ts, ds = [.ref a, .tup (List.map D.str ts)] ∧ LineAt K A a l S ∧ S.q.length + ts.length ≤ 100000 ∧ (rowF "ask" S.m 0 = none → Q .non (setL K A a l { S with q := S.q ++ ts })) ∧ Rz K E A S (rowF "ask" S.m 0)
theorem B_Line_ask {w : World} {K : PySem.W.Frag} {mg : Str → Option Value} {base : Heap} (T : Tx K mg) : Av.BodyX Pg w K mg base D_Line_ask.qual D_Line_ask.body D_Line_ask.scope (He.ma K (He.ga K "Line") "ask") ["self", "tags"] 8 (spi_Line_ask K) := by
  intro cdv A0 outer s H0 E0 ds A Q E hr h
  obtain ⟨a, l, S, ts, rfl, hL, hz, k, r⟩ := h
  refine ⟨_, (ass_cons (as_expr (ae_methX (ae_var (pv 0)) T.c_Line T.m_Line_need (R_Line_need T) (hr.mono (by decide)) (takes_of rfl rfl rfl rfl) (aa_cons ae_str (aa_cons ae_int aa_nil))))
      (ass_one (as_expr (ae_bm PySem.F.slot_list_extend PySem.F.type_list_extend ma_extT (ae_fld (ae_var (pv 0)) rfl) (aa_cons (ae_var (pv 1)) aa_nil))))), ?_⟩
  have ha := hL.ob; have hl := hL.qu
  simp only [↓RD, RU, aStart, wipeA, putFA, toP, toPs, scDs, valD_nil, valD_cons, putM_eq, mergeD_eq, keysOk, aHandle, endsAA, putAA, starSp, put_same, put_put, inV_nil, inV_str, cxK, atI_0, atI_1, atI_2, atI_3, ixN_30, ixN_31, ixN_32, List.map, List.replicate, List.length_cons, List.length_nil, List.nil_append, List.cons_append, List.append_nil, Nat.reduceSub, Nat.reduceAdd, List.getElem?_cons_zero, List.getElem?_cons_succ, List.set_cons_zero, List.set_cons_succ, List.cons.injEq, Option.some.injEq, V.int.injEq, V.str.injEq, V.bl.injEq, D.int.injEq, D.str.injEq, D.bl.injEq, D.ref.injEq, D.tup.injEq, D.lst.injEq, D.ty.injEq, AO.lst.injEq, AO.dct.injEq, AO.ins.injEq, Prod.mk.injEq, exists_eq_left, exists_eq_left', exists_eq_right, exists_eq_right', exists_and_left, exists_and_right, true_and, and_true, and_self, if_true, if_false, Bool.false_eq_true, Bool.true_eq_false, eq_self, reduceCtorEq, false_and, and_false, and_assoc, Int.reduceToNat, Int.reducePow, Int.reduceMul, Int.reduceAdd, Int.reduceNeg, Int.reduceSub, String.reduceEq, String.reduceNe, ne_eq, not_false_eq_true, not_true_eq_false, decide_false, decide_true, Bool.not_false, Bool.not_true, Bool.or_false, Bool.false_or, Bool.or_true, Bool.true_or, Bool.and_true, Bool.true_and, Bool.and_self, Bool.and_false, Bool.false_and, exists_eq', exists_eq, exists_const, false_or, or_false, or_self, List.all_cons, List.all_nil, List.any_cons, List.any_nil, Nat.reduceLeDiff, exists_false, List.map_nil, List.map_cons, Option.map_some, Option.isSome_some, Option.isSome_none, Option.getD_some, Option.getD_none, implies_true, List.foldl_cons, List.foldl_nil, forall_const, ofS_eq, Int.reduceLT, Int.reduceLE, Nat.reduceLT, ha, T.c_Line, ln_need]
  refine ⟨a, l, S, _, _, rfl, hL, by simp [W6], fun hf => ?_, ?_⟩
  · simp only [↓RD, RU, aStart, wipeA, putFA, toP, toPs, scDs, valD_nil, valD_cons, putM_eq, mergeD_eq, keysOk, aHandle, endsAA, putAA, starSp, put_same, put_put, inV_nil, inV_str, cxK, atI_0, atI_1, atI_2, atI_3, ixN_30, ixN_31, ixN_32, List.map, List.replicate, List.length_cons, List.length_nil, List.nil_append, List.cons_append, List.append_nil, Nat.reduceSub, Nat.reduceAdd, List.getElem?_cons_zero, List.getElem?_cons_succ, List.set_cons_zero, List.set_cons_succ, List.cons.injEq, Option.some.injEq, V.int.injEq, V.str.injEq, V.bl.injEq, D.int.injEq, D.str.injEq, D.bl.injEq, D.ref.injEq, D.tup.injEq, D.lst.injEq, D.ty.injEq, AO.lst.injEq, AO.dct.injEq, AO.ins.injEq, Prod.mk.injEq, exists_eq_left, exists_eq_left', exists_eq_right, exists_eq_right', exists_and_left, exists_and_right, true_and, and_true, and_self, if_true, if_false, Bool.false_eq_true, Bool.true_eq_false, eq_self, reduceCtorEq, false_and, and_false, and_assoc, Int.reduceToNat, Int.reducePow, Int.reduceMul, Int.reduceAdd, Int.reduceNeg, Int.reduceSub, String.reduceEq, String.reduceNe, ne_eq, not_false_eq_true, not_true_eq_false, decide_false, decide_true, Bool.not_false, Bool.not_true, Bool.or_false, Bool.false_or, Bool.or_true, Bool.true_or, Bool.and_true, Bool.true_and, Bool.and_self, Bool.and_false, Bool.false_and, exists_eq', exists_eq, exists_const, false_or, or_false, or_self, List.all_cons, List.all_nil, List.any_cons, List.any_nil, Nat.reduceLeDiff, exists_false, List.map_nil, List.map_cons, Option.map_some, Option.isSome_some, Option.isSome_none, Option.getD_some, Option.getD_none, implies_true, List.foldl_cons, List.foldl_nil, forall_const, ofS_eq, Int.reduceLT, Int.reduceLE, Nat.reduceLT, ha, hl, T.c_Line, T.f_Line_queue, lf_queue, List.length_map]
    refine ⟨Nat.le_trans hz (by decide), fin_id ?_⟩
    rw [← List.map_append, hL.q]; exact k hf
  · exact Rz_fin r
theorem R_Line_ask {w : World} {K : PySem.W.Frag} {mg : Str → Option Value} {base : Heap} (T : Tx K mg) : FnR Pg w K mg base (L2.CX Pg w) 9 (He.ma K (He.ga K "Line") "ask") (liftSp K (starSp 1 (spi_Line_ask K))) := by
  obtain ⟨fd, F⟩ := T.d_Line_ask
  exact FnR.mono (Av.FunD.AsX (ps := ["self"]) (pv := "tags") F sc_Line_ask (fun kV doc pm an cdv ct => StX.bind_star1 (B := fun l => bindArgs (PySem.W.fnOf D_Line_ask.name D_Line_ask.qual D_Line_ask.params D_Line_ask.body D_Line_ask.scope .none kV doc pm an cdv ct) ⟨l, []⟩) (fun _ => rfl) (fun _ _ _ => rfl)) (B_Line_ask T)) (by decide)
def sp_Line_begin (K : PySem.W.Frag) : ASp := fun ds A Q E => ∃ a l S t, ds = [.ref a, .str t] ∧ LineAt K A a l S ∧ (rowF "begin" S.m 0 = none → Q .non (setL K A a l { S with m := markAfter "begin" S.m, g := t })) ∧ Rz K E A S (rowF "begin" S.m 0)
theorem R_Line_begin {w : World} {K : PySem.W.Frag} {mg : Str → Option Value} {base : Heap} (T : Tx K mg) : FnR Pg w K mg base (L2.CX Pg w) 9 (He.ma K (He.ga K "Line") "begin") (liftSp K (sp_Line_begin K)) := by
  obtain ⟨fd, F⟩ := T.d_Line_begin
  refine Av.FunD.AX F sc_Line_begin (fun ds A Q E h => by obtain ⟨a, l, S, t, rfl, hL, k, r⟩ := h; rfl) (fun _ _ _ _ _ _ us hl => match us, hl with | [_, _], _ => rfl) (fun cdv A0 outer s H0 E0 ds A Q E hr h => ?_)
  obtain ⟨a, l, S, t, rfl, hL, k, r⟩ := h
  refine ⟨_, (ass_cons (as_expr (ae_methX (ae_var (pv 0)) T.c_Line T.m_Line_need (R_Line_need T) (hr.mono (by decide)) (takes_of rfl rfl rfl rfl) (aa_cons ae_str (aa_cons ae_int aa_nil))))
      (ass_cons (as_fld (ae_var (pv 0)) (ae_callR (R_mark_after T) (hr.mono (by decide)) rfl T.g_mark_after T.k_mark_after (aa_cons ae_str (aa_cons (ae_fld (ae_var (pv 0)) rfl) aa_nil))) rfl)
      (ass_one (as_fld (ae_var (pv 0)) (ae_var (pv 1)) rfl)))), ?_⟩
  have ha := hL.ob; have hl := hL.qu
  simp only [↓RD, RU, aStart, wipeA, putFA, toP, toPs, scDs, valD_nil, valD_cons, putM_eq, mergeD_eq, keysOk, aHandle, endsAA, putAA, starSp, put_same, put_put, inV_nil, inV_str, cxK, atI_0, atI_1, atI_2, atI_3, ixN_30, ixN_31, ixN_32, List.map, List.replicate, List.length_cons, List.length_nil, List.nil_append, List.cons_append, List.append_nil, Nat.reduceSub, Nat.reduceAdd, List.getElem?_cons_zero, List.getElem?_cons_succ, List.set_cons_zero, List.set_cons_succ, List.cons.injEq, Option.some.injEq, V.int.injEq, V.str.injEq, V.bl.injEq, D.int.injEq, D.str.injEq, D.bl.injEq, D.ref.injEq, D.tup.injEq, D.lst.injEq, D.ty.injEq, AO.lst.injEq, AO.dct.injEq, AO.ins.injEq, Prod.mk.injEq, exists_eq_left, exists_eq_left', exists_eq_right, exists_eq_right', exists_and_left, exists_and_right, true_and, and_true, and_self, if_true, if_false, Bool.false_eq_true, Bool.true_eq_false, eq_self, reduceCtorEq, false_and, and_false, and_assoc, Int.reduceToNat, Int.reducePow, Int.reduceMul, Int.reduceAdd, Int.reduceNeg, Int.reduceSub, String.reduceEq, String.reduceNe, ne_eq, not_false_eq_true, not_true_eq_false, decide_false, decide_true, Bool.not_false, Bool.not_true, Bool.or_false, Bool.false_or, Bool.or_true, Bool.true_or, Bool.and_true, Bool.true_and, Bool.and_self, Bool.and_false, Bool.false_and, exists_eq', exists_eq, exists_const, false_or, or_false, or_self, List.all_cons, List.all_nil, List.any_cons, List.any_nil, Nat.reduceLeDiff, exists_false, List.map_nil, List.map_cons, Option.map_some, Option.isSome_some, Option.isSome_none, Option.getD_some, Option.getD_none, implies_true, List.foldl_cons, List.foldl_nil, forall_const, ofS_eq, Int.reduceLT, Int.reduceLE, Nat.reduceLT, ha, T.c_Line, ln_need]
  refine ⟨a, l, S, _, _, rfl, hL, by simp [W6], fun hf => ?_, Rz_fin r⟩
  simp only [↓RD, RU, aStart, wipeA, putFA, toP, toPs, scDs, valD_nil, valD_cons, putM_eq, mergeD_eq, keysOk, aHandle, endsAA, putAA, starSp, put_same, put_put, inV_nil, inV_str, cxK, atI_0, atI_1, atI_2, atI_3, ixN_30, ixN_31, ixN_32, List.map, List.replicate, List.length_cons, List.length_nil, List.nil_append, List.cons_append, List.append_nil, Nat.reduceSub, Nat.reduceAdd, List.getElem?_cons_zero, List.getElem?_cons_succ, List.set_cons_zero, List.set_cons_succ, List.cons.injEq, Option.some.injEq, V.int.injEq, V.str.injEq, V.bl.injEq, D.int.injEq, D.str.injEq, D.bl.injEq, D.ref.injEq, D.tup.injEq, D.lst.injEq, D.ty.injEq, AO.lst.injEq, AO.dct.injEq, AO.ins.injEq, Prod.mk.injEq, exists_eq_left, exists_eq_left', exists_eq_right, exists_eq_right', exists_and_left, exists_and_right, true_and, and_true, and_self, if_true, if_false, Bool.false_eq_true, Bool.true_eq_false, eq_self, reduceCtorEq, false_and, and_false, and_assoc, Int.reduceToNat, Int.reducePow, Int.reduceMul, Int.reduceAdd, Int.reduceNeg, Int.reduceSub, String.reduceEq, String.reduceNe, ne_eq, not_false_eq_true, not_true_eq_false, decide_false, decide_true, Bool.not_false, Bool.not_true, Bool.or_false, Bool.false_or, Bool.or_true, Bool.true_or, Bool.and_true, Bool.true_and, Bool.and_self, Bool.and_false, Bool.false_and, exists_eq', exists_eq, exists_const, false_or, or_false, or_self, List.all_cons, List.all_nil, List.any_cons, List.any_nil, Nat.reduceLeDiff, exists_false, List.map_nil, List.map_cons, Option.map_some, Option.isSome_some, Option.isSome_none, Option.getD_some, Option.getD_none, implies_true, List.foldl_cons, List.foldl_nil, forall_const, ofS_eq, Int.reduceLT, Int.reduceLE, Nat.reduceLT, ha, hl, T.c_Line, T.f_Line_state, T.f_Line_sending, lf_state, ↓e_mark_after, lp_state, lp_sending, lf_len]
  refine fin_id ?_
  have := k hf
  rw [← hL.o (S' := { S with m := markAfter "begin" S.m, g := t }) rfl] at this; exact this
def sp_Line_finish (K : PySem.W.Frag) : ASp := fun ds A Q E => ∃ a l S, ds = [.ref a] ∧ LineAt K A a l S ∧ S.q.length < 100000 ∧ (rowF "finish" S.m 0 = none → Q .non (setL K A a l { S with m := markAfter "finish" S.m, q := S.q ++ [S.g] })) ∧ Rz K E A S (rowF "finish" S.m 0)
theorem R_Line_finish {w : World} {K : PySem.W.Frag} {mg : Str → Option Value} {base : Heap} (T : Tx K mg) : FnR Pg w K mg base (L2.CX Pg w) 9 (He.ma K (He.ga K "Line") "finish") (liftSp K (sp_Line_finish K)) := by
  obtain ⟨fd, F⟩ := T.d_Line_finish
  refine Av.FunD.AX F sc_Line_finish (fun ds A Q E h => by obtain ⟨a, l, S, rfl, hL, hz, k, r⟩ := h; rfl) (fun _ _ _ _ _ _ us hl => match us, hl with | [_], _ => rfl) (fun cdv A0 outer s H0 E0 ds A Q E hr h => ?_)
  obtain ⟨a, l, S, rfl, hL, hz, k, r⟩ := h
  refine ⟨_, (ass_cons (as_expr (ae_methX (ae_var (pv 0)) T.c_Line T.m_Line_need (R_Line_need T) (hr.mono (by decide)) (takes_of rfl rfl rfl rfl) (aa_cons ae_str (aa_cons ae_int aa_nil))))
      (ass_cons (as_fld (ae_var (pv 0)) (ae_callR (R_mark_after T) (hr.mono (by decide)) rfl T.g_mark_after T.k_mark_after (aa_cons ae_str (aa_cons (ae_fld (ae_var (pv 0)) rfl) aa_nil))) rfl)
      (ass_one (as_expr (ae_bm PySem.F.slot_list_append PySem.F.type_list_append ma_append (ae_fld (ae_var (pv 0)) rfl) (aa_cons (ae_fld (ae_var (pv 0)) rfl) aa_nil)))))), ?_⟩
  have ha := hL.ob; have hl := hL.qu
  simp only [↓RD, RU, aStart, wipeA, putFA, toP, toPs, scDs, valD_nil, valD_cons, putM_eq, mergeD_eq, keysOk, aHandle, endsAA, putAA, starSp, put_same, put_put, inV_nil, inV_str, cxK, atI_0, atI_1, atI_2, atI_3, ixN_30, ixN_31, ixN_32, List.map, List.replicate, List.length_cons, List.length_nil, List.nil_append, List.cons_append, List.append_nil, Nat.reduceSub, Nat.reduceAdd, List.getElem?_cons_zero, List.getElem?_cons_succ, List.set_cons_zero, List.set_cons_succ, List.cons.injEq, Option.some.injEq, V.int.injEq, V.str.injEq, V.bl.injEq, D.int.injEq, D.str.injEq, D.bl.injEq, D.ref.injEq, D.tup.injEq, D.lst.injEq, D.ty.injEq, AO.lst.injEq, AO.dct.injEq, AO.ins.injEq, Prod.mk.injEq, exists_eq_left, exists_eq_left', exists_eq_right, exists_eq_right', exists_and_left, exists_and_right, true_and, and_true, and_self, if_true, if_false, Bool.false_eq_true, Bool.true_eq_false, eq_self, reduceCtorEq, false_and, and_false, and_assoc, Int.reduceToNat, Int.reducePow, Int.reduceMul, Int.reduceAdd, Int.reduceNeg, Int.reduceSub, String.reduceEq, String.reduceNe, ne_eq, not_false_eq_true, not_true_eq_false, decide_false, decide_true, Bool.not_false, Bool.not_true, Bool.or_false, Bool.false_or, Bool.or_true, Bool.true_or, Bool.and_true, Bool.true_and, Bool.and_self, Bool.and_false, Bool.false_and, exists_eq', exists_eq, exists_const, false_or, or_false, or_self, List.all_cons, List.all_nil, List.any_cons, List.any_nil, Nat.reduceLeDiff, exists_false, List.map_nil, List.map_cons, Option.map_some, Option.isSome_some, Option.isSome_none, Option.getD_some, Option.getD_none, implies_true, List.foldl_cons, List.foldl_nil, forall_const, ofS_eq, Int.reduceLT, Int.reduceLE, Nat.reduceLT, ha, T.c_Line, ln_need]
  refine ⟨a, l, S, _, _, rfl, hL, by simp [W6], fun hf => ?_, Rz_fin r⟩
  simp only [↓RD, RU, aStart, wipeA, putFA, toP, toPs, scDs, valD_nil, valD_cons, putM_eq, mergeD_eq, keysOk, aHandle, endsAA, putAA, starSp, put_same, put_put, inV_nil, inV_str, cxK, atI_0, atI_1, atI_2, atI_3, ixN_30, ixN_31, ixN_32, List.map, List.replicate, List.length_cons, List.length_nil, List.nil_append, List.cons_append, List.append_nil, Nat.reduceSub, Nat.reduceAdd, List.getElem?_cons_zero, List.getElem?_cons_succ, List.set_cons_zero, List.set_cons_succ, List.cons.injEq, Option.some.injEq, V.int.injEq, V.str.injEq, V.bl.injEq, D.int.injEq, D.str.injEq, D.bl.injEq, D.ref.injEq, D.tup.injEq, D.lst.injEq, D.ty.injEq, AO.lst.injEq, AO.dct.injEq, AO.ins.injEq, Prod.mk.injEq, exists_eq_left, exists_eq_left', exists_eq_right, exists_eq_right', exists_and_left, exists_and_right, true_and, and_true, and_self, if_true, if_false, Bool.false_eq_true, Bool.true_eq_false, eq_self, reduceCtorEq, false_and, and_false, and_assoc, Int.reduceToNat, Int.reducePow, Int.reduceMul, Int.reduceAdd, Int.reduceNeg, Int.reduceSub, String.reduceEq, String.reduceNe, ne_eq, not_false_eq_true, not_true_eq_false, decide_false, decide_true, Bool.not_false, Bool.not_true, Bool.or_false, Bool.false_or, Bool.or_true, Bool.true_or, Bool.and_true, Bool.true_and, Bool.and_self, Bool.and_false, Bool.false_and, exists_eq', exists_eq, exists_const, false_or, or_false, or_self, List.all_cons, List.all_nil, List.any_cons, List.any_nil, Nat.reduceLeDiff, exists_false, List.map_nil, List.map_cons, Option.map_some, Option.isSome_some, Option.isSome_none, Option.getD_some, Option.getD_none, implies_true, List.foldl_cons, List.foldl_nil, forall_const, ofS_eq, Int.reduceLT, Int.reduceLE, Nat.reduceLT, ha, hl, T.c_Line, T.f_Line_state, T.f_Line_sending, T.f_Line_queue, lf_state, lf_queue, lf_sending, ↓e_mark_after, lp_state, lf_len, put_ne hL.ne.symm, List.length_map]
  refine ⟨Nat.lt_of_lt_of_le hz (by decide), fin_id ?_⟩
  have := k hf
  rw [setL, lq, List.map_append] at this; exact this
def sp_Line_read (K : PySem.W.Frag) : ASp := fun ds A Q E => ∃ a l S, ds = [.ref a] ∧ LineAt K A a l S ∧ S.q.length ≤ 100000 ∧ (∀ t q, rowF "read" S.m (S.q.length : Int) = none → S.q = t :: q → Q (.str t) (setL K A a l { S with q := q })) ∧ Rz K E A S (rowF "read" S.m (S.q.length : Int))
theorem rf_some {w m : Str} {n : Int} (hw : w = "read" ∨ w = "head") (h : rowF w m n = none) : 1 ≤ n := by
  unfold rowF at h
  split at h
  · cases h
  · split at h
    · cases h
    · split at h
      · cases h
      · rename_i z
        have : ¬ n < 1 := fun q => z ⟨hw, q⟩
        omega
theorem six0 {n : Nat} : seqIndex? 0 (n + 1) = some 0 := by unfold seqIndex?; simp
theorem R_Line_read {w : World} {K : PySem.W.Frag} {mg : Str → Option Value} {base : Heap} (T : Tx K mg) : FnR Pg w K mg base (L2.CX Pg w) 9 (He.ma K (He.ga K "Line") "read") (liftSp K (sp_Line_read K)) := by
  obtain ⟨fd, F⟩ := T.d_Line_read
  refine Av.FunD.AX F sc_Line_read (fun ds A Q E h => by obtain ⟨a, l, S, rfl, hL, hz, k, r⟩ := h; rfl) (fun _ _ _ _ _ _ us hl => match us, hl with | [_], _ => rfl) (fun cdv A0 outer s H0 E0 ds A Q E hr h => ?_)
  obtain ⟨a, l, S, rfl, hL, hz, k, r⟩ := h
  refine ⟨_, (ass_cons (as_expr (ae_methX (ae_var (pv 0)) T.c_Line T.m_Line_need (R_Line_need T) (hr.mono (by decide)) (takes_of rfl rfl rfl rfl) (aa_cons ae_str (aa_cons (ae_callB ca_len (by rfl) T.n_len (by decide +kernel) (aa_cons (ae_fld (ae_var (pv 0)) rfl) aa_nil)) aa_nil))))
      (ass_one (as_ret (ae_bm PySem.F.slot_list_pop PySem.F.type_list_pop ma_popAt (ae_fld (ae_var (pv 0)) rfl) (aa_cons ae_int aa_nil))))), ?_⟩
  have ha := hL.ob; have hl := hL.qu
  simp only [↓RD, RU, aStart, wipeA, putFA, toP, toPs, scDs, valD_nil, valD_cons, putM_eq, mergeD_eq, keysOk, aHandle, endsAA, putAA, starSp, put_same, put_put, inV_nil, inV_str, cxK, atI_0, atI_1, atI_2, atI_3, ixN_30, ixN_31, ixN_32, List.map, List.replicate, List.length_cons, List.length_nil, List.nil_append, List.cons_append, List.append_nil, Nat.reduceSub, Nat.reduceAdd, List.getElem?_cons_zero, List.getElem?_cons_succ, List.set_cons_zero, List.set_cons_succ, List.cons.injEq, Option.some.injEq, V.int.injEq, V.str.injEq, V.bl.injEq, D.int.injEq, D.str.injEq, D.bl.injEq, D.ref.injEq, D.tup.injEq, D.lst.injEq, D.ty.injEq, AO.lst.injEq, AO.dct.injEq, AO.ins.injEq, Prod.mk.injEq, exists_eq_left, exists_eq_left', exists_eq_right, exists_eq_right', exists_and_left, exists_and_right, true_and, and_true, and_self, if_true, if_false, Bool.false_eq_true, Bool.true_eq_false, eq_self, reduceCtorEq, false_and, and_false, and_assoc, Int.reduceToNat, Int.reducePow, Int.reduceMul, Int.reduceAdd, Int.reduceNeg, Int.reduceSub, String.reduceEq, String.reduceNe, ne_eq, not_false_eq_true, not_true_eq_false, decide_false, decide_true, Bool.not_false, Bool.not_true, Bool.or_false, Bool.false_or, Bool.or_true, Bool.true_or, Bool.and_true, Bool.true_and, Bool.and_self, Bool.and_false, Bool.false_and, exists_eq', exists_eq, exists_const, false_or, or_false, or_self, List.all_cons, List.all_nil, List.any_cons, List.any_nil, Nat.reduceLeDiff, exists_false, List.map_nil, List.map_cons, Option.map_some, Option.isSome_some, Option.isSome_none, Option.getD_some, Option.getD_none, implies_true, List.foldl_cons, List.foldl_nil, forall_const, ofS_eq, Int.reduceLT, Int.reduceLE, Nat.reduceLT, ha, hl, T.c_Line, T.f_Line_queue, lf_queue, ln_need, List.length_map]
  refine ⟨a, l, S, _, _, rfl, hL, by simp [W6], fun hf => ?_, Rz_fin r⟩
  cases hq : S.q with
  | nil => rw [hq] at hf; have := rf_some (.inl rfl) hf; simp at this
  | cons t q =>
    rw [hq] at hl
    simp only [↓RD, RU, aStart, wipeA, putFA, toP, toPs, scDs, valD_nil, valD_cons, putM_eq, mergeD_eq, keysOk, aHandle, endsAA, putAA, starSp, put_same, put_put, inV_nil, inV_str, cxK, atI_0, atI_1, atI_2, atI_3, ixN_30, ixN_31, ixN_32, List.map, List.replicate, List.length_cons, List.length_nil, List.nil_append, List.cons_append, List.append_nil, Nat.reduceSub, Nat.reduceAdd, List.getElem?_cons_zero, List.getElem?_cons_succ, List.set_cons_zero, List.set_cons_succ, List.cons.injEq, Option.some.injEq, V.int.injEq, V.str.injEq, V.bl.injEq, D.int.injEq, D.str.injEq, D.bl.injEq, D.ref.injEq, D.tup.injEq, D.lst.injEq, D.ty.injEq, AO.lst.injEq, AO.dct.injEq, AO.ins.injEq, Prod.mk.injEq, exists_eq_left, exists_eq_left', exists_eq_right, exists_eq_right', exists_and_left, exists_and_right, true_and, and_true, and_self, if_true, if_false, Bool.false_eq_true, Bool.true_eq_false, eq_self, reduceCtorEq, false_and, and_false, and_assoc, Int.reduceToNat, Int.reducePow, Int.reduceMul, Int.reduceAdd, Int.reduceNeg, Int.reduceSub, String.reduceEq, String.reduceNe, ne_eq, not_false_eq_true, not_true_eq_false, decide_false, decide_true, Bool.not_false, Bool.not_true, Bool.or_false, Bool.false_or, Bool.or_true, Bool.true_or, Bool.and_true, Bool.true_and, Bool.and_self, Bool.and_false, Bool.false_and, exists_eq', exists_eq, exists_const, false_or, or_false, or_self, List.all_cons, List.all_nil, List.any_cons, List.any_nil, Nat.reduceLeDiff, exists_false, List.map_nil, List.map_cons, Option.map_some, Option.isSome_some, Option.isSome_none, Option.getD_some, Option.getD_none, implies_true, List.foldl_cons, List.foldl_nil, forall_const, ofS_eq, Int.reduceLT, Int.reduceLE, Nat.reduceLT, ha, hl, T.c_Line, T.f_Line_queue, lf_queue, List.length_map, six0, List.eraseIdx_cons_zero]
    refine fin_id ?_
    have := k t q hf hq
    rw [← hL.q] at this; exact this
def sp_Line_head (K : PySem.W.Frag) : ASp := fun ds A Q E => ∃ a l S, ds = [.ref a] ∧ LineAt K A a l S ∧ S.q.length ≤ 100000 ∧ (∀ t q, rowF "head" S.m (S.q.length : Int) = none → S.q = t :: q → Q (.str t) (setL K A a l { S with m := markAfter "head" S.m })) ∧ Rz K E A S (rowF "head" S.m (S.q.length : Int))
theorem R_Line_head {w : World} {K : PySem.W.Frag} {mg : Str → Option Value} {base : Heap} (T : Tx K mg) : FnR Pg w K mg base (L2.CX Pg w) 9 (He.ma K (He.ga K "Line") "head") (liftSp K (sp_Line_head K)) := by
  obtain ⟨fd, F⟩ := T.d_Line_head
  refine Av.FunD.AX F sc_Line_head (fun ds A Q E h => by obtain ⟨a, l, S, rfl, hL, hz, k, r⟩ := h; rfl) (fun _ _ _ _ _ _ us hl => match us, hl with | [_], _ => rfl) (fun cdv A0 outer s H0 E0 ds A Q E hr h => ?_)
  obtain ⟨a, l, S, rfl, hL, hz, k, r⟩ := h
  refine ⟨_, (ass_cons (as_expr (ae_methX (ae_var (pv 0)) T.c_Line T.m_Line_need (R_Line_need T) (hr.mono (by decide)) (takes_of rfl rfl rfl rfl) (aa_cons ae_str (aa_cons (ae_callB ca_len (by rfl) T.n_len (by decide +kernel) (aa_cons (ae_fld (ae_var (pv 0)) rfl) aa_nil)) aa_nil))))
      (ass_cons (as_fld (ae_var (pv 0)) (ae_callR (R_mark_after T) (hr.mono (by decide)) rfl T.g_mark_after T.k_mark_after (aa_cons ae_str (aa_cons (ae_fld (ae_var (pv 0)) rfl) aa_nil))) rfl)
      (ass_one (as_ret (ae_subs (ae_fld (ae_var (pv 0)) rfl) ae_int (fun _ _ => rfl)))))), ?_⟩
  have ha := hL.ob; have hl := hL.qu
  simp only [↓RD, RU, aStart, wipeA, putFA, toP, toPs, scDs, valD_nil, valD_cons, putM_eq, mergeD_eq, keysOk, aHandle, endsAA, putAA, starSp, put_same, put_put, inV_nil, inV_str, cxK, atI_0, atI_1, atI_2, atI_3, ixN_30, ixN_31, ixN_32, List.map, List.replicate, List.length_cons, List.length_nil, List.nil_append, List.cons_append, List.append_nil, Nat.reduceSub, Nat.reduceAdd, List.getElem?_cons_zero, List.getElem?_cons_succ, List.set_cons_zero, List.set_cons_succ, List.cons.injEq, Option.some.injEq, V.int.injEq, V.str.injEq, V.bl.injEq, D.int.injEq, D.str.injEq, D.bl.injEq, D.ref.injEq, D.tup.injEq, D.lst.injEq, D.ty.injEq, AO.lst.injEq, AO.dct.injEq, AO.ins.injEq, Prod.mk.injEq, exists_eq_left, exists_eq_left', exists_eq_right, exists_eq_right', exists_and_left, exists_and_right, true_and, and_true, and_self, if_true, if_false, Bool.false_eq_true, Bool.true_eq_false, eq_self, reduceCtorEq, false_and, and_false, and_assoc, Int.reduceToNat, Int.reducePow, Int.reduceMul, Int.reduceAdd, Int.reduceNeg, Int.reduceSub, String.reduceEq, String.reduceNe, ne_eq, not_false_eq_true, not_true_eq_false, decide_false, decide_true, Bool.not_false, Bool.not_true, Bool.or_false, Bool.false_or, Bool.or_true, Bool.true_or, Bool.and_true, Bool.true_and, Bool.and_self, Bool.and_false, Bool.false_and, exists_eq', exists_eq, exists_const, false_or, or_false, or_self, List.all_cons, List.all_nil, List.any_cons, List.any_nil, Nat.reduceLeDiff, exists_false, List.map_nil, List.map_cons, Option.map_some, Option.isSome_some, Option.isSome_none, Option.getD_some, Option.getD_none, implies_true, List.foldl_cons, List.foldl_nil, forall_const, ofS_eq, Int.reduceLT, Int.reduceLE, Nat.reduceLT, ha, hl, T.c_Line, T.f_Line_queue, lf_queue, ln_need, List.length_map]
  refine ⟨a, l, S, _, _, rfl, hL, by simp [W6], fun hf => ?_, Rz_fin r⟩
  cases hq : S.q with
  | nil => rw [hq] at hf; have := rf_some (.inr rfl) hf; simp at this
  | cons t q =>
    have hl' := hl
    rw [hq] at hl
    simp only [↓RD, RU, aStart, wipeA, putFA, toP, toPs, scDs, valD_nil, valD_cons, putM_eq, mergeD_eq, keysOk, aHandle, endsAA, putAA, starSp, put_same, put_put, inV_nil, inV_str, cxK, atI_0, atI_1, atI_2, atI_3, ixN_30, ixN_31, ixN_32, List.map, List.replicate, List.length_cons, List.length_nil, List.nil_append, List.cons_append, List.append_nil, Nat.reduceSub, Nat.reduceAdd, List.getElem?_cons_zero, List.getElem?_cons_succ, List.set_cons_zero, List.set_cons_succ, List.cons.injEq, Option.some.injEq, V.int.injEq, V.str.injEq, V.bl.injEq, D.int.injEq, D.str.injEq, D.bl.injEq, D.ref.injEq, D.tup.injEq, D.lst.injEq, D.ty.injEq, AO.lst.injEq, AO.dct.injEq, AO.ins.injEq, Prod.mk.injEq, exists_eq_left, exists_eq_left', exists_eq_right, exists_eq_right', exists_and_left, exists_and_right, true_and, and_true, and_self, if_true, if_false, Bool.false_eq_true, Bool.true_eq_false, eq_self, reduceCtorEq, false_and, and_false, and_assoc, Int.reduceToNat, Int.reducePow, Int.reduceMul, Int.reduceAdd, Int.reduceNeg, Int.reduceSub, String.reduceEq, String.reduceNe, ne_eq, not_false_eq_true, not_true_eq_false, decide_false, decide_true, Bool.not_false, Bool.not_true, Bool.or_false, Bool.false_or, Bool.or_true, Bool.true_or, Bool.and_true, Bool.true_and, Bool.and_self, Bool.and_false, Bool.false_and, exists_eq', exists_eq, exists_const, false_or, or_false, or_self, List.all_cons, List.all_nil, List.any_cons, List.any_nil, Nat.reduceLeDiff, exists_false, List.map_nil, List.map_cons, Option.map_some, Option.isSome_some, Option.isSome_none, Option.getD_some, Option.getD_none, implies_true, List.foldl_cons, List.foldl_nil, forall_const, ofS_eq, Int.reduceLT, Int.reduceLE, Nat.reduceLT, ha, hl, T.c_Line, T.f_Line_state, T.f_Line_queue, lf_state, lf_queue, ↓e_mark_after, lp_state, lf_len, put_ne hL.ne.symm]
    refine fin_id ?_
    have := k t q hf hq
    rw [← hL.o (S' := { S with m := markAfter "head" S.m }) rfl] at this; exact this
def sp_Line_body (K : PySem.W.Frag) : ASp := fun ds A Q E => ∃ a l S, ds = [.ref a] ∧ LineAt K A a l S ∧ S.q.length ≤ 100000 ∧ (isIn S.m = true → S.q ≠ []) ∧ (∀ t q, rowF "body" S.m (S.q.length : Int) = none → S.q = t :: q → Q (.str t) (setL K A a l { S with m := markAfter "body" S.m, q := q })) ∧ Rz K E A S (rowF "body" S.m (S.q.length : Int))
theorem rf_body {m : Str} {n : Int} (h : rowF "body" m n = none) : isIn m = true := by
  unfold rowF at h
  split at h
  · cases h
  · split at h
    · cases h
    · rename_i z
      simp [isAmid, ofS_eq] at z
      exact z
theorem R_Line_body {w : World} {K : PySem.W.Frag} {mg : Str → Option Value} {base : Heap} (T : Tx K mg) : FnR Pg w K mg base (L2.CX Pg w) 9 (He.ma K (He.ga K "Line") "body") (liftSp K (sp_Line_body K)) := by
  obtain ⟨fd, F⟩ := T.d_Line_body
  refine Av.FunD.AX F sc_Line_body (fun ds A Q E h => by obtain ⟨a, l, S, rfl, hL, hz, hi, k, r⟩ := h; rfl) (fun _ _ _ _ _ _ us hl => match us, hl with | [_], _ => rfl) (fun cdv A0 outer s H0 E0 ds A Q E hr h => ?_)
  obtain ⟨a, l, S, rfl, hL, hz, hi, k, r⟩ := h
  refine ⟨_, (ass_cons (as_expr (ae_methX (ae_var (pv 0)) T.c_Line T.m_Line_need (R_Line_need T) (hr.mono (by decide)) (takes_of rfl rfl rfl rfl) (aa_cons ae_str (aa_cons (ae_callB ca_len (by rfl) T.n_len (by decide +kernel) (aa_cons (ae_fld (ae_var (pv 0)) rfl) aa_nil)) aa_nil))))
      (ass_cons (as_fld (ae_var (pv 0)) (ae_callR (R_mark_after T) (hr.mono (by decide)) rfl T.g_mark_after T.k_mark_after (aa_cons ae_str (aa_cons (ae_fld (ae_var (pv 0)) rfl) aa_nil))) rfl)
      (ass_one (as_ret (ae_bm PySem.F.slot_list_pop PySem.F.type_list_pop ma_popAt (ae_fld (ae_var (pv 0)) rfl) (aa_cons ae_int aa_nil)))))), ?_⟩
  have ha := hL.ob; have hl := hL.qu
  simp only [↓RD, RU, aStart, wipeA, putFA, toP, toPs, scDs, valD_nil, valD_cons, putM_eq, mergeD_eq, keysOk, aHandle, endsAA, putAA, starSp, put_same, put_put, inV_nil, inV_str, cxK, atI_0, atI_1, atI_2, atI_3, ixN_30, ixN_31, ixN_32, List.map, List.replicate, List.length_cons, List.length_nil, List.nil_append, List.cons_append, List.append_nil, Nat.reduceSub, Nat.reduceAdd, List.getElem?_cons_zero, List.getElem?_cons_succ, List.set_cons_zero, List.set_cons_succ, List.cons.injEq, Option.some.injEq, V.int.injEq, V.str.injEq, V.bl.injEq, D.int.injEq, D.str.injEq, D.bl.injEq, D.ref.injEq, D.tup.injEq, D.lst.injEq, D.ty.injEq, AO.lst.injEq, AO.dct.injEq, AO.ins.injEq, Prod.mk.injEq, exists_eq_left, exists_eq_left', exists_eq_right, exists_eq_right', exists_and_left, exists_and_right, true_and, and_true, and_self, if_true, if_false, Bool.false_eq_true, Bool.true_eq_false, eq_self, reduceCtorEq, false_and, and_false, and_assoc, Int.reduceToNat, Int.reducePow, Int.reduceMul, Int.reduceAdd, Int.reduceNeg, Int.reduceSub, String.reduceEq, String.reduceNe, ne_eq, not_false_eq_true, not_true_eq_false, decide_false, decide_true, Bool.not_false, Bool.not_true, Bool.or_false, Bool.false_or, Bool.or_true, Bool.true_or, Bool.and_true, Bool.true_and, Bool.and_self, Bool.and_false, Bool.false_and, exists_eq', exists_eq, exists_const, false_or, or_false, or_self, List.all_cons, List.all_nil, List.any_cons, List.any_nil, Nat.reduceLeDiff, exists_false, List.map_nil, List.map_cons, Option.map_some, Option.isSome_some, Option.isSome_none, Option.getD_some, Option.getD_none, implies_true, List.foldl_cons, List.foldl_nil, forall_const, ofS_eq, Int.reduceLT, Int.reduceLE, Nat.reduceLT, ha, hl, T.c_Line, T.f_Line_queue, lf_queue, ln_need, List.length_map]
  refine ⟨a, l, S, _, _, rfl, hL, by simp [W6], fun hf => ?_, Rz_fin r⟩
  cases hq : S.q with
  | nil => exact absurd hq (hi (rf_body hf))
  | cons t q =>
    rw [hq] at hl
    simp only [↓RD, RU, aStart, wipeA, putFA, toP, toPs, scDs, valD_nil, valD_cons, putM_eq, mergeD_eq, keysOk, aHandle, endsAA, putAA, starSp, put_same, put_put, inV_nil, inV_str, cxK, atI_0, atI_1, atI_2, atI_3, ixN_30, ixN_31, ixN_32, List.map, List.replicate, List.length_cons, List.length_nil, List.nil_append, List.cons_append, List.append_nil, Nat.reduceSub, Nat.reduceAdd, List.getElem?_cons_zero, List.getElem?_cons_succ, List.set_cons_zero, List.set_cons_succ, List.cons.injEq, Option.some.injEq, V.int.injEq, V.str.injEq, V.bl.injEq, D.int.injEq, D.str.injEq, D.bl.injEq, D.ref.injEq, D.tup.injEq, D.lst.injEq, D.ty.injEq, AO.lst.injEq, AO.dct.injEq, AO.ins.injEq, Prod.mk.injEq, exists_eq_left, exists_eq_left', exists_eq_right, exists_eq_right', exists_and_left, exists_and_right, true_and, and_true, and_self, if_true, if_false, Bool.false_eq_true, Bool.true_eq_false, eq_self, reduceCtorEq, false_and, and_false, and_assoc, Int.reduceToNat, Int.reducePow, Int.reduceMul, Int.reduceAdd, Int.reduceNeg, Int.reduceSub, String.reduceEq, String.reduceNe, ne_eq, not_false_eq_true, not_true_eq_false, decide_false, decide_true, Bool.not_false, Bool.not_true, Bool.or_false, Bool.false_or, Bool.or_true, Bool.true_or, Bool.and_true, Bool.true_and, Bool.and_self, Bool.and_false, Bool.false_and, exists_eq', exists_eq, exists_const, false_or, or_false, or_self, List.all_cons, List.all_nil, List.any_cons, List.any_nil, Nat.reduceLeDiff, exists_false, List.map_nil, List.map_cons, Option.map_some, Option.isSome_some, Option.isSome_none, Option.getD_some, Option.getD_none, implies_true, List.foldl_cons, List.foldl_nil, forall_const, ofS_eq, Int.reduceLT, Int.reduceLE, Nat.reduceLT, ha, hl, T.c_Line, T.f_Line_state, T.f_Line_queue, lf_state, lf_queue, ↓e_mark_after, lp_state, lf_len, put_ne hL.ne.symm, six0, List.eraseIdx_cons_zero, List.length_map]
    refine fin_id ?_
    have := k t q hf hq
    rw [setL, lq] at this; exact this
def sp_Line_drain (K : PySem.W.Frag) : ASp := fun ds A Q _ => ∃ a l S, ds = [.ref a] ∧ LineAt K A a l S ∧ ∀ l', A l' = none → Q (.lst (S.q.map D.str)) (setL K A a l' { S with m := markAfter "drain" S.m, q := [] })
theorem R_Line_drain {w : World} {K : PySem.W.Frag} {mg : Str → Option Value} {base : Heap} (T : Tx K mg) : FnR Pg w K mg base CX0 5 (He.ma K (He.ga K "Line") "drain") (liftSp K (sp_Line_drain K)) := by
  obtain ⟨fd, F⟩ := T.d_Line_drain
  refine Av.FunD.AR F sc_Line_drain (fun ds A Q E h => by obtain ⟨a, l, S, rfl, hL, k⟩ := h; rfl) (fun _ _ _ _ _ _ us hl => match us, hl with | [_], _ => rfl) (fun cdv A0 outer s H0 E0 ds A Q E hr h => ?_)
  obtain ⟨a, l, S, rfl, hL, k⟩ := h
  refine ⟨_, (ass_cons (as_set (i := 1) sc_Line_drain.nd rfl (by first | exact Or.inl rfl | exact Or.inr rfl) (ae_callTy (ca_list false) (by rfl) T.n_list (by decide +kernel) (aa_cons (ae_fld (ae_var (pv 0)) rfl) aa_nil)))
      (ass_cons (as_fld (ae_var (pv 0)) (ae_callR (R_mark_after T) (hr.mono (by decide)) rfl T.g_mark_after T.k_mark_after (aa_cons ae_str (aa_cons (ae_fld (ae_var (pv 0)) rfl) aa_nil))) rfl)
      (ass_cons (as_fld (ae_var (pv 0)) (ae_lst true aa_nil) rfl)
      (ass_one (as_ret (ae_var (pv 1))))))), ?_⟩
  have ha := hL.ob; have hl := hL.qu
  simp only [↓RD, RU, aStart, wipeA, putFA, toP, toPs, scDs, valD_nil, valD_cons, putM_eq, mergeD_eq, keysOk, aHandle, endsAA, putAA, starSp, put_same, put_put, inV_nil, inV_str, cxK, atI_0, atI_1, atI_2, atI_3, ixN_30, ixN_31, ixN_32, List.map, List.replicate, List.length_cons, List.length_nil, List.nil_append, List.cons_append, List.append_nil, Nat.reduceSub, Nat.reduceAdd, List.getElem?_cons_zero, List.getElem?_cons_succ, List.set_cons_zero, List.set_cons_succ, List.cons.injEq, Option.some.injEq, V.int.injEq, V.str.injEq, V.bl.injEq, D.int.injEq, D.str.injEq, D.bl.injEq, D.ref.injEq, D.tup.injEq, D.lst.injEq, D.ty.injEq, AO.lst.injEq, AO.dct.injEq, AO.ins.injEq, Prod.mk.injEq, exists_eq_left, exists_eq_left', exists_eq_right, exists_eq_right', exists_and_left, exists_and_right, true_and, and_true, and_self, if_true, if_false, Bool.false_eq_true, Bool.true_eq_false, eq_self, reduceCtorEq, false_and, and_false, and_assoc, Int.reduceToNat, Int.reducePow, Int.reduceMul, Int.reduceAdd, Int.reduceNeg, Int.reduceSub, String.reduceEq, String.reduceNe, ne_eq, not_false_eq_true, not_true_eq_false, decide_false, decide_true, Bool.not_false, Bool.not_true, Bool.or_false, Bool.false_or, Bool.or_true, Bool.true_or, Bool.and_true, Bool.true_and, Bool.and_self, Bool.and_false, Bool.false_and, exists_eq', exists_eq, exists_const, false_or, or_false, or_self, List.all_cons, List.all_nil, List.any_cons, List.any_nil, Nat.reduceLeDiff, exists_false, List.map_nil, List.map_cons, Option.map_some, Option.isSome_some, Option.isSome_none, Option.getD_some, Option.getD_none, implies_true, List.foldl_cons, List.foldl_nil, forall_const, ofS_eq, Int.reduceLT, Int.reduceLE, Nat.reduceLT, ha, hl, T.c_Line, T.f_Line_state, T.f_Line_queue, lf_state, lf_queue, ↓e_mark_after, lp_state, lp_queue, lf_len]
  intro p hp
  obtain ⟨hpa, hp⟩ := put_none hp
  simp only [↓RD, RU, aStart, wipeA, putFA, toP, toPs, scDs, valD_nil, valD_cons, putM_eq, mergeD_eq, keysOk, aHandle, endsAA, putAA, starSp, put_same, put_put, inV_nil, inV_str, cxK, atI_0, atI_1, atI_2, atI_3, ixN_30, ixN_31, ixN_32, List.map, List.replicate, List.length_cons, List.length_nil, List.nil_append, List.cons_append, List.append_nil, Nat.reduceSub, Nat.reduceAdd, List.getElem?_cons_zero, List.getElem?_cons_succ, List.set_cons_zero, List.set_cons_succ, List.cons.injEq, Option.some.injEq, V.int.injEq, V.str.injEq, V.bl.injEq, D.int.injEq, D.str.injEq, D.bl.injEq, D.ref.injEq, D.tup.injEq, D.lst.injEq, D.ty.injEq, AO.lst.injEq, AO.dct.injEq, AO.ins.injEq, Prod.mk.injEq, exists_eq_left, exists_eq_left', exists_eq_right, exists_eq_right', exists_and_left, exists_and_right, true_and, and_true, and_self, if_true, if_false, Bool.false_eq_true, Bool.true_eq_false, eq_self, reduceCtorEq, false_and, and_false, and_assoc, Int.reduceToNat, Int.reducePow, Int.reduceMul, Int.reduceAdd, Int.reduceNeg, Int.reduceSub, String.reduceEq, String.reduceNe, ne_eq, not_false_eq_true, not_true_eq_false, decide_false, decide_true, Bool.not_false, Bool.not_true, Bool.or_false, Bool.false_or, Bool.or_true, Bool.true_or, Bool.and_true, Bool.true_and, Bool.and_self, Bool.and_false, Bool.false_and, exists_eq', exists_eq, exists_const, false_or, or_false, or_self, List.all_cons, List.all_nil, List.any_cons, List.any_nil, Nat.reduceLeDiff, exists_false, List.map_nil, List.map_cons, Option.map_some, Option.isSome_some, Option.isSome_none, Option.getD_some, Option.getD_none, implies_true, List.foldl_cons, List.foldl_nil, forall_const, ofS_eq, Int.reduceLT, Int.reduceLE, Nat.reduceLT, put_ne hpa.symm, T.c_Line, T.f_Line_queue, lp_queue, lf_len]
  refine fin_id ?_
  have := k p hp
  rw [setL] at this
  rw [put_comm hpa.symm, put_put, put_comm hpa]
  exact this
def closeS (c : D) (S : LS) : LS := if S.m = "closed" then S else { S with m := "closed", c := c, q := [] }
def sp_Line_close (K : PySem.W.Frag) : ASp := fun ds A Q _ => ∃ a l S c, ds = [.ref a, c] ∧ LineAt K A a l S ∧ ∀ l', l' = l ∨ A l' = none → Q .non (setL K A a l' (closeS c S))
theorem B_Line_close {w : World} {K : PySem.W.Frag} {mg : Str → Option Value} {base : Heap} (T : Tx K mg) : Av.BodyR Pg w K mg base D_Line_close.qual D_Line_close.body D_Line_close.scope (He.ma K (He.ga K "Line") "close") ["self", "cause"] 0 (sp_Line_close K) := by
  intro cdv A0 outer s H0 E0 ds A Q E hr h
  obtain ⟨a, l, S, c, rfl, hL, k⟩ := h
  refine ⟨_, (ass_one (as_if (at_cmpA (cmp_ne hr.units) (ae_fld (ae_var (pv 0)) rfl) ae_str (nomark _)) (ass_cons (as_fld (ae_var (pv 0)) ae_str rfl)
      (ass_cons (as_fld (ae_var (pv 0)) (ae_var (pv 1)) rfl)
      (ass_one (as_fld (ae_var (pv 0)) (ae_lst true aa_nil) rfl)))) ass_nil)), ?_⟩
  have ha := hL.ob; have hl := hL.qu
  simp only [↓RD, RU, aStart, wipeA, putFA, toP, toPs, scDs, valD_nil, valD_cons, putM_eq, mergeD_eq, keysOk, aHandle, endsAA, putAA, starSp, put_same, put_put, inV_nil, inV_str, cxK, atI_0, atI_1, atI_2, atI_3, ixN_30, ixN_31, ixN_32, List.map, List.replicate, List.length_cons, List.length_nil, List.nil_append, List.cons_append, List.append_nil, Nat.reduceSub, Nat.reduceAdd, List.getElem?_cons_zero, List.getElem?_cons_succ, List.set_cons_zero, List.set_cons_succ, List.cons.injEq, Option.some.injEq, V.int.injEq, V.str.injEq, V.bl.injEq, D.int.injEq, D.str.injEq, D.bl.injEq, D.ref.injEq, D.tup.injEq, D.lst.injEq, D.ty.injEq, AO.lst.injEq, AO.dct.injEq, AO.ins.injEq, Prod.mk.injEq, exists_eq_left, exists_eq_left', exists_eq_right, exists_eq_right', exists_and_left, exists_and_right, true_and, and_true, and_self, if_true, if_false, Bool.false_eq_true, Bool.true_eq_false, eq_self, reduceCtorEq, false_and, and_false, and_assoc, Int.reduceToNat, Int.reducePow, Int.reduceMul, Int.reduceAdd, Int.reduceNeg, Int.reduceSub, String.reduceEq, String.reduceNe, ne_eq, not_false_eq_true, not_true_eq_false, decide_false, decide_true, Bool.not_false, Bool.not_true, Bool.or_false, Bool.false_or, Bool.or_true, Bool.true_or, Bool.and_true, Bool.true_and, Bool.and_self, Bool.and_false, Bool.false_and, exists_eq', exists_eq, exists_const, false_or, or_false, or_self, List.all_cons, List.all_nil, List.any_cons, List.any_nil, Nat.reduceLeDiff, exists_false, List.map_nil, List.map_cons, Option.map_some, Option.isSome_some, Option.isSome_none, Option.getD_some, Option.getD_none, implies_true, List.foldl_cons, List.foldl_nil, forall_const, ofS_eq, Int.reduceLT, Int.reduceLE, Nat.reduceLT, ha, T.c_Line, T.f_Line_state, lf_state]
  by_cases h : S.m = "closed"
  · simp only [h, decide_true, Bool.not_true, Bool.false_eq_true, if_false]
    refine fin_id ?_
    have := k l (.inl rfl)
    rw [closeS, if_pos h, hL.same] at this; exact this
  · simp only [↓RD, RU, aStart, wipeA, putFA, toP, toPs, scDs, valD_nil, valD_cons, putM_eq, mergeD_eq, keysOk, aHandle, endsAA, putAA, starSp, put_same, put_put, inV_nil, inV_str, cxK, atI_0, atI_1, atI_2, atI_3, ixN_30, ixN_31, ixN_32, List.map, List.replicate, List.length_cons, List.length_nil, List.nil_append, List.cons_append, List.append_nil, Nat.reduceSub, Nat.reduceAdd, List.getElem?_cons_zero, List.getElem?_cons_succ, List.set_cons_zero, List.set_cons_succ, List.cons.injEq, Option.some.injEq, V.int.injEq, V.str.injEq, V.bl.injEq, D.int.injEq, D.str.injEq, D.bl.injEq, D.ref.injEq, D.tup.injEq, D.lst.injEq, D.ty.injEq, AO.lst.injEq, AO.dct.injEq, AO.ins.injEq, Prod.mk.injEq, exists_eq_left, exists_eq_left', exists_eq_right, exists_eq_right', exists_and_left, exists_and_right, true_and, and_true, and_self, if_true, if_false, Bool.false_eq_true, Bool.true_eq_false, eq_self, reduceCtorEq, false_and, and_false, and_assoc, Int.reduceToNat, Int.reducePow, Int.reduceMul, Int.reduceAdd, Int.reduceNeg, Int.reduceSub, String.reduceEq, String.reduceNe, ne_eq, not_false_eq_true, not_true_eq_false, decide_false, decide_true, Bool.not_false, Bool.not_true, Bool.or_false, Bool.false_or, Bool.or_true, Bool.true_or, Bool.and_true, Bool.true_and, Bool.and_self, Bool.and_false, Bool.false_and, exists_eq', exists_eq, exists_const, false_or, or_false, or_self, List.all_cons, List.all_nil, List.any_cons, List.any_nil, Nat.reduceLeDiff, exists_false, List.map_nil, List.map_cons, Option.map_some, Option.isSome_some, Option.isSome_none, Option.getD_some, Option.getD_none, implies_true, List.foldl_cons, List.foldl_nil, forall_const, ofS_eq, Int.reduceLT, Int.reduceLE, Nat.reduceLT, h, ha, T.c_Line, T.f_Line_state, T.f_Line_cause, T.f_Line_queue, lf_state, lp_state, lp_cause, lp_queue, lf_len]
    intro p hp
    obtain ⟨hpa, hp⟩ := put_none hp
    simp only [↓RD, RU, aStart, wipeA, putFA, toP, toPs, scDs, valD_nil, valD_cons, putM_eq, mergeD_eq, keysOk, aHandle, endsAA, putAA, starSp, put_same, put_put, inV_nil, inV_str, cxK, atI_0, atI_1, atI_2, atI_3, ixN_30, ixN_31, ixN_32, List.map, List.replicate, List.length_cons, List.length_nil, List.nil_append, List.cons_append, List.append_nil, Nat.reduceSub, Nat.reduceAdd, List.getElem?_cons_zero, List.getElem?_cons_succ, List.set_cons_zero, List.set_cons_succ, List.cons.injEq, Option.some.injEq, V.int.injEq, V.str.injEq, V.bl.injEq, D.int.injEq, D.str.injEq, D.bl.injEq, D.ref.injEq, D.tup.injEq, D.lst.injEq, D.ty.injEq, AO.lst.injEq, AO.dct.injEq, AO.ins.injEq, Prod.mk.injEq, exists_eq_left, exists_eq_left', exists_eq_right, exists_eq_right', exists_and_left, exists_and_right, true_and, and_true, and_self, if_true, if_false, Bool.false_eq_true, Bool.true_eq_false, eq_self, reduceCtorEq, false_and, and_false, and_assoc, Int.reduceToNat, Int.reducePow, Int.reduceMul, Int.reduceAdd, Int.reduceNeg, Int.reduceSub, String.reduceEq, String.reduceNe, ne_eq, not_false_eq_true, not_true_eq_false, decide_false, decide_true, Bool.not_false, Bool.not_true, Bool.or_false, Bool.false_or, Bool.or_true, Bool.true_or, Bool.and_true, Bool.true_and, Bool.and_self, Bool.and_false, Bool.false_and, exists_eq', exists_eq, exists_const, false_or, or_false, or_self, List.all_cons, List.all_nil, List.any_cons, List.any_nil, Nat.reduceLeDiff, exists_false, List.map_nil, List.map_cons, Option.map_some, Option.isSome_some, Option.isSome_none, Option.getD_some, Option.getD_none, implies_true, List.foldl_cons, List.foldl_nil, forall_const, ofS_eq, Int.reduceLT, Int.reduceLE, Nat.reduceLT, put_ne hpa.symm, T.c_Line, T.f_Line_queue, lp_queue, lf_len]
    refine fin_id ?_
    have := k p (.inr hp)
    rw [setL, closeS, if_neg h] at this
    rw [put_comm hpa.symm, put_put, put_comm hpa]
    exact this
theorem R_Line_close1 {w : World} {K : PySem.W.Frag} {mg : Str → Option Value} {base : Heap} (T : Tx K mg) : FnR Pg w K mg base CX0 1 (He.ma K (He.ga K "Line") "close") (liftSp K (sp_Line_close K)) := by
  obtain ⟨fd, F⟩ := T.d_Line_close
  refine FnR.imp (Av.FunD.AD 2 1 [] F sc_Line_close (fun ds A Q E h => by obtain ⟨a, l, S, c, rfl, _⟩ := h; rfl) (by intro h; cases h) rfl (fun T kV doc pm an cdv ct us its h1 h2 => ?_) (fun _ _ => .nil) (B_Line_close T)) fun vs H Q E h => ?_
  · match us, its, h1, h2 with
    | [_, _], [_], _, _ => exact ⟨_, rfl, rfl⟩
  · simpa only [List.append_nil] using h
theorem R_Line_close0 {w : World} {K : PySem.W.Frag} {mg : Str → Option Value} {base : Heap} (T : Tx K mg) : FnR Pg w K mg base CX0 1 (He.ma K (He.ga K "Line") "close") (liftSp K (fun ds A Q E => sp_Line_close K (ds ++ [.non]) A Q E)) := by
  obtain ⟨fd, F⟩ := T.d_Line_close
  refine Av.FunD.AD 1 0 [.non] F sc_Line_close (fun ds A Q E h => by obtain ⟨a, l, S, c, rfl, _⟩ := h; rfl) (by intro h; cases h) rfl (fun T kV doc pm an cdv ct us its h1 h2 => ?_) (fun _ _ => .cons .non .nil) (B_Line_close T)
  match us, its, h1, h2 with
  | [_], [_], _, _ => exact ⟨_, rfl, rfl⟩
def sp_Line_tags (K : PySem.W.Frag) : ASp := fun ds A Q _ => ∃ a l S, ds = [.ref a] ∧ LineAt K A a l S ∧ Q (.lst (S.q.map D.str)) A
theorem R_Line_tags {w : World} {K : PySem.W.Frag} {mg : Str → Option Value} {base : Heap} (T : Tx K mg) : FnR Pg w K mg base CX0 1 (He.ma K (He.ga K "Line") "tags") (liftSp K (sp_Line_tags K)) := by
  obtain ⟨fd, F⟩ := T.d_Line_tags
  refine Av.FunD.AR F sc_Line_tags (fun ds A Q E h => by obtain ⟨a, l, S, rfl, hL, k⟩ := h; rfl) (fun _ _ _ _ _ _ us hl => match us, hl with | [_], _ => rfl) (fun cdv A0 outer s H0 E0 ds A Q E hr h => ?_)
  obtain ⟨a, l, S, rfl, hL, k⟩ := h
  refine ⟨_, (ass_one (as_ret (ae_callTy (ca_list false) (by rfl) T.n_list (by decide +kernel) (aa_cons (ae_fld (ae_var (pv 0)) rfl) aa_nil)))), ?_⟩
  have ha := hL.ob; have hl := hL.qu
  simp only [↓RD, RU, aStart, wipeA, putFA, toP, toPs, scDs, valD_nil, valD_cons, putM_eq, mergeD_eq, keysOk, aHandle, endsAA, putAA, starSp, put_same, put_put, inV_nil, inV_str, cxK, atI_0, atI_1, atI_2, atI_3, ixN_30, ixN_31, ixN_32, List.map, List.replicate, List.length_cons, List.length_nil, List.nil_append, List.cons_append, List.append_nil, Nat.reduceSub, Nat.reduceAdd, List.getElem?_cons_zero, List.getElem?_cons_succ, List.set_cons_zero, List.set_cons_succ, List.cons.injEq, Option.some.injEq, V.int.injEq, V.str.injEq, V.bl.injEq, D.int.injEq, D.str.injEq, D.bl.injEq, D.ref.injEq, D.tup.injEq, D.lst.injEq, D.ty.injEq, AO.lst.injEq, AO.dct.injEq, AO.ins.injEq, Prod.mk.injEq, exists_eq_left, exists_eq_left', exists_eq_right, exists_eq_right', exists_and_left, exists_and_right, true_and, and_true, and_self, if_true, if_false, Bool.false_eq_true, Bool.true_eq_false, eq_self, reduceCtorEq, false_and, and_false, and_assoc, Int.reduceToNat, Int.reducePow, Int.reduceMul, Int.reduceAdd, Int.reduceNeg, Int.reduceSub, String.reduceEq, String.reduceNe, ne_eq, not_false_eq_true, not_true_eq_false, decide_false, decide_true, Bool.not_false, Bool.not_true, Bool.or_false, Bool.false_or, Bool.or_true, Bool.true_or, Bool.and_true, Bool.true_and, Bool.and_self, Bool.and_false, Bool.false_and, exists_eq', exists_eq, exists_const, false_or, or_false, or_self, List.all_cons, List.all_nil, List.any_cons, List.any_nil, Nat.reduceLeDiff, exists_false, List.map_nil, List.map_cons, Option.map_some, Option.isSome_some, Option.isSome_none, Option.getD_some, Option.getD_none, implies_true, List.foldl_cons, List.foldl_nil, forall_const, ofS_eq, Int.reduceLT, Int.reduceLE, Nat.reduceLT, ha, hl, T.c_Line, T.f_Line_queue, lf_queue]
  exact fin_id k

end V35

set_option Elab.async false
set_option linter.all false
set_option maxRecDepth 100000
set_option maxHeartbeats 4000000
namespace V35
open PySem PySem.Spec PyProof.Rows L2 My Av
/-- the source of draws: [digits, mixed, count] -/
def BagL (l : List D) (n : Nat) : Prop := ∃ x0 x1 x2 : Int, l = [.int x0, .int x1, .int x2] ∧ 0 ≤ x0 ∧ 0 ≤ x1 ∧ x1 < 2 ^ 34 ∧ 0 ≤ x2 ∧ x2 ≤ n
theorem bag_up {l : List D} {n m : Nat} (h : BagL l n) (hm : n ≤ m) : BagL l m := by
  obtain ⟨x0, x1, x2, e, a, b, c, d, f⟩ := h
  exact ⟨x0, x1, x2, e, a, b, c, d, by omega⟩
theorem cpow {i j : Int} (h0 : 0 ≤ j) (h1 : j ≤ 64) (h2 : -(2 ^ 64) < i) (h3 : i < 2 ^ 64) : CPowW i j := by
  refine ⟨h0, h1, ?_⟩
  have : i.natAbs < 2 ^ 64 := by omega
  exact Nat.lt_of_lt_of_le this (Nat.pow_le_pow_right (by decide) (by decide))
theorem log_lt {i : Int} {k : Nat} (hk : 0 < k) (h : i.natAbs < 2 ^ k) : i.natAbs.log2 < k := PySem.Flt.log2_lt_of hk h
theorem cdivW {i j : Int} (h0 : 0 < j) (h1 : j < 2 ^ 60) : CDivW i j := ⟨h0, Nat.lt_of_lt_of_le (log_lt (k := 60) (by decide) (by omega)) (by decide)⟩
theorem cmulW {i j : Int} (h1 : i.natAbs < 2 ^ 100) (h2 : j.natAbs < 2 ^ 100) : CMulW i j := by
  have a := log_lt (k := 100) (by decide) h1
  have b := log_lt (k := 100) (by decide) h2
  unfold CMulW; omega
def sp_l_source (_ : PySem.W.Frag) : ASp := fun ds A Q _ => ∃ (xs : List Int) (i : Nat), ds = [.rol (xs.map D.int), .int (i : Int)] ∧ i ≤ 63 ∧ xs.length ≤ 63 ∧ ∀ l p, BagL l 0 → A p = none → Q (.ref p) (put A p (.lst l))
theorem atI_int {xs : List Int} {i : Nat} (h : i < xs.length) : ∃ z, atI (xs.map D.int) (i : Int) = some (.int z) := by
  refine ⟨xs[i], ?_⟩
  unfold atI ixN
  rw [if_pos (by omega), if_pos (by rw [List.length_map]; omega)]
  simp [h]
theorem bag0 {c z : Int} {i : Nat} (hc : 0 ≤ c) (hi : i ≤ 63) : BagL [.int c, .int (z % 2147483579 + 9176 * (i : Int) + 41), .int 0] 0 := by
  have e1 : 0 ≤ z % 2147483579 := Int.emod_nonneg _ (by decide)
  have e2 : z % 2147483579 < 2147483579 := Int.emod_lt_of_pos _ (by decide)
  exact ⟨c, _, 0, rfl, hc, by omega, by omega, by omega, by omega⟩
theorem R_l_source {w : World} {K : PySem.W.Frag} {mg : Str → Option Value} {base : Heap} (T : Tx K mg) : FnR Pg w K mg base CX0 1 (He.ga K "_law_source") (liftSp K (sp_l_source K)) := by
  obtain ⟨fd, F⟩ := T.d_l_source
  refine Av.FunD.AR F sc_l_source (fun ds A Q E h => by obtain ⟨xs, i, rfl, hi, hx, k⟩ := h; rfl) (fun _ _ _ _ _ _ us hl => match us, hl with | [_, _], _ => rfl) (fun cdv A0 outer s H0 E0 ds A Q E hr h => ?_)
  obtain ⟨xs, i, rfl, hi, hx, k⟩ := h
  refine ⟨_, (ass_cons (as_set (i := 2) sc_l_source.nd rfl (by first | exact Or.inl rfl | exact Or.inr rfl) (ae_if (at_cmpA cmp_lt (ae_var (pv 1)) (ae_callB ca_len (by rfl) T.n_len (by decide +kernel) (aa_cons (ae_var (pv 0)) aa_nil)) (nomark _)) (ae_callTy ca_int (by rfl) T.n_int (by decide +kernel) (aa_cons (ae_subs (ae_var (pv 0)) (ae_var (pv 1)) (fun _ _ => rfl)) aa_nil)) ae_int))
      (ass_cons (as_set (i := 3) sc_l_source.nd rfl (by first | exact Or.inl rfl | exact Or.inr rfl) (ae_if (at_cmpA cmp_ge (ae_callB ca_abs (by rfl) T.n_abs (by decide +kernel) (aa_cons (ae_var (pv 2)) aa_nil)) (ae_pow ae_int ae_int) (nomark _)) (ae_callB ca_abs (by rfl) T.n_abs (by decide +kernel) (aa_cons (ae_var (pv 2)) aa_nil)) ae_int))
      (ass_one (as_ret (ae_lst true (aa_cons (ae_var (pv 3)) (aa_cons (ae_add false (ae_add false (ae_mod (ae_callTy ca_int (by rfl) T.n_int (by decide +kernel) (aa_cons (ae_var (pv 2)) aa_nil)) ae_int) (ae_mul false ae_int (ae_var (pv 1)))) ae_int) (aa_cons ae_int aa_nil)))))))), ?_⟩
  simp only [↓RD, RU, aStart, wipeA, putFA, toP, toPs, scDs, valD_nil, valD_cons, putM_eq, mergeD_eq, keysOk, aHandle, endsAA, putAA, starSp, put_same, put_put, inV_nil, inV_str, cxK, atI_0, atI_1, atI_2, atI_3, ixN_30, ixN_31, ixN_32, List.map, List.replicate, List.length_cons, List.length_nil, List.nil_append, List.cons_append, List.append_nil, Nat.reduceSub, Nat.reduceAdd, List.getElem?_cons_zero, List.getElem?_cons_succ, List.set_cons_zero, List.set_cons_succ, List.cons.injEq, Option.some.injEq, V.int.injEq, V.str.injEq, V.bl.injEq, D.int.injEq, D.str.injEq, D.bl.injEq, D.ref.injEq, D.tup.injEq, D.lst.injEq, D.ty.injEq, AO.lst.injEq, AO.dct.injEq, AO.ins.injEq, Prod.mk.injEq, exists_eq_left, exists_eq_left', exists_eq_right, exists_eq_right', exists_and_left, exists_and_right, true_and, and_true, and_self, if_true, if_false, Bool.false_eq_true, Bool.true_eq_false, eq_self, reduceCtorEq, false_and, and_false, and_assoc, Int.reduceToNat, Int.reducePow, Int.reduceMul, Int.reduceAdd, Int.reduceNeg, Int.reduceSub, String.reduceEq, String.reduceNe, ne_eq, not_false_eq_true, not_true_eq_false, decide_false, decide_true, Bool.not_false, Bool.not_true, Bool.or_false, Bool.false_or, Bool.or_true, Bool.true_or, Bool.and_true, Bool.true_and, Bool.and_self, Bool.and_false, Bool.false_and, exists_eq', exists_eq, exists_const, false_or, or_false, or_self, List.all_cons, List.all_nil, List.any_cons, List.any_nil, Nat.reduceLeDiff, exists_false, List.map_nil, List.map_cons, Option.map_some, Option.isSome_some, Option.isSome_none, Option.getD_some, Option.getD_none, implies_true, List.foldl_cons, List.foldl_nil, forall_const, ofS_eq, Int.reduceLT, Int.reduceLE, Nat.reduceLT, List.length_map]
  have c1 : CPowW 10 18 := cpow (by decide) (by decide) (by decide) (by decide)
  have c2 : CMulW 9176 (i : Int) := cmulW (by decide) (by omega)
  refine ite_dec (fun g => ?_) (fun g => ?_)
  · obtain ⟨z, hz⟩ := atI_int (xs := xs) (i := i) (by omega)
    refine oK_mk hz ?_
    simp only [↓RD, RU, aStart, wipeA, putFA, toP, toPs, scDs, valD_nil, valD_cons, putM_eq, mergeD_eq, keysOk, aHandle, endsAA, putAA, starSp, put_same, put_put, inV_nil, inV_str, cxK, atI_0, atI_1, atI_2, atI_3, ixN_30, ixN_31, ixN_32, List.map, List.replicate, List.length_cons, List.length_nil, List.nil_append, List.cons_append, List.append_nil, Nat.reduceSub, Nat.reduceAdd, List.getElem?_cons_zero, List.getElem?_cons_succ, List.set_cons_zero, List.set_cons_succ, List.cons.injEq, Option.some.injEq, V.int.injEq, V.str.injEq, V.bl.injEq, D.int.injEq, D.str.injEq, D.bl.injEq, D.ref.injEq, D.tup.injEq, D.lst.injEq, D.ty.injEq, AO.lst.injEq, AO.dct.injEq, AO.ins.injEq, Prod.mk.injEq, exists_eq_left, exists_eq_left', exists_eq_right, exists_eq_right', exists_and_left, exists_and_right, true_and, and_true, and_self, if_true, if_false, Bool.false_eq_true, Bool.true_eq_false, eq_self, reduceCtorEq, false_and, and_false, and_assoc, Int.reduceToNat, Int.reducePow, Int.reduceMul, Int.reduceAdd, Int.reduceNeg, Int.reduceSub, String.reduceEq, String.reduceNe, ne_eq, not_false_eq_true, not_true_eq_false, decide_false, decide_true, Bool.not_false, Bool.not_true, Bool.or_false, Bool.false_or, Bool.or_true, Bool.true_or, Bool.and_true, Bool.true_and, Bool.and_self, Bool.and_false, Bool.false_and, exists_eq', exists_eq, exists_const, false_or, or_false, or_self, List.all_cons, List.all_nil, List.any_cons, List.any_nil, Nat.reduceLeDiff, exists_false, List.map_nil, List.map_cons, Option.map_some, Option.isSome_some, Option.isSome_none, Option.getD_some, Option.getD_none, implies_true, List.foldl_cons, List.foldl_nil, forall_const, ofS_eq, Int.reduceLT, Int.reduceLE, Nat.reduceLT]
    refine ⟨c1, ite_dec (fun g2 => ?_) (fun g2 => ?_)⟩
    · exact ⟨c2, fun p hp => fin_id (k _ p (bag0 (by split <;> omega) hi) hp)⟩
    · exact ⟨c2, fun p hp => fin_id (k _ p (bag0 (by decide) hi) hp)⟩
  · exact ⟨c1, c2, fun p hp => fin_id (k _ p (bag0 (z := 0) (by decide) hi) hp)⟩
def sp_l_draw (_ : PySem.W.Frag) : ASp := fun ds A Q _ => ∃ (b : Addr) (m : Int) (n : Nat) (l : List D), ds = [.ref b, .int m] ∧ A b = some (.lst l) ∧ BagL l n ∧ 0 < m ∧ m < 2 ^ 60 ∧ n ≤ 1000000 ∧ ∀ (r : Int) (l' : List D), 0 ≤ r → r < m → BagL l' (n + 1) → Q (.int r) (put A b (.lst l'))
theorem R_l_draw {w : World} {K : PySem.W.Frag} {mg : Str → Option Value} {base : Heap} (T : Tx K mg) : FnR Pg w K mg base CX0 1 (He.ga K "_law_draw") (liftSp K (sp_l_draw K)) := by
  obtain ⟨fd, F⟩ := T.d_l_draw
  refine Av.FunD.AR F sc_l_draw (fun ds A Q E h => by obtain ⟨b, m, n, l, rfl, hb, ⟨x0, x1, x2, rfl, h0, h1, h1', h2, h2'⟩, m0, m1, hn, k⟩ := h; rfl) (fun _ _ _ _ _ _ us hl => match us, hl with | [_, _], _ => rfl) (fun cdv A0 outer s H0 E0 ds A Q E hr h => ?_)
  obtain ⟨b, m, n, l, rfl, hb, ⟨x0, x1, x2, rfl, h0, h1, h1', h2, h2'⟩, m0, m1, hn, k⟩ := h
  refine ⟨_, (ass_cons (as_if (at_cmpA cmp_gt (ae_subs (ae_var (pv 0)) ae_int (fun _ _ => rfl)) ae_int (nomark _)) (ass_cons (as_set (i := 2) sc_l_draw.nd rfl (by first | exact Or.inl rfl | exact Or.inr rfl) (ae_mod (ae_callTy ca_int (by rfl) T.n_int (by decide +kernel) (aa_cons (ae_subs (ae_var (pv 0)) ae_int (fun _ _ => rfl)) aa_nil)) (ae_var (pv 1))))
      (ass_cons (as_setix (ae_var (pv 0)) ae_int (ae_fdiv (ae_subs (ae_var (pv 0)) ae_int (fun _ _ => rfl)) (ae_var (pv 1))))
      (ass_one (as_ret (ae_var (pv 2)))))) ass_nil)
      (ass_cons (as_set (i := 3) sc_l_draw.nd rfl (by first | exact Or.inl rfl | exact Or.inr rfl) (ae_add false (ae_subs (ae_var (pv 0)) ae_int (fun _ _ => rfl)) ae_int))
      (ass_cons (as_setix (ae_var (pv 0)) ae_int (ae_var (pv 3)))
      (ass_cons (as_set (i := 4) sc_l_draw.nd rfl (by first | exact Or.inl rfl | exact Or.inr rfl) (ae_mod (ae_callTy ca_int (by rfl) T.n_int (by decide +kernel) (aa_cons (ae_add false (ae_add false (ae_mul false (ae_subs (ae_var (pv 0)) ae_int (fun _ _ => rfl)) ae_int) (ae_mul false (ae_mul false ae_int (ae_var (pv 3))) (ae_var (pv 3)))) ae_int) aa_nil)) ae_int))
      (ass_cons (as_setix (ae_var (pv 0)) ae_int (ae_var (pv 4)))
      (ass_one (as_ret (ae_mod (ae_mod (ae_callTy ca_int (by rfl) T.n_int (by decide +kernel) (aa_cons (ae_add false (ae_pow (ae_fdiv (ae_var (pv 4)) ae_int) ae_int) (ae_fdiv (ae_var (pv 4)) ae_int)) aa_nil)) ae_int) (ae_var (pv 1)))))))))), ?_⟩
  simp only [↓RD, RU, aStart, wipeA, putFA, toP, toPs, scDs, valD_nil, valD_cons, putM_eq, mergeD_eq, keysOk, aHandle, endsAA, putAA, starSp, put_same, put_put, inV_nil, inV_str, cxK, atI_0, atI_1, atI_2, atI_3, ixN_30, ixN_31, ixN_32, List.map, List.replicate, List.length_cons, List.length_nil, List.nil_append, List.cons_append, List.append_nil, Nat.reduceSub, Nat.reduceAdd, List.getElem?_cons_zero, List.getElem?_cons_succ, List.set_cons_zero, List.set_cons_succ, List.cons.injEq, Option.some.injEq, V.int.injEq, V.str.injEq, V.bl.injEq, D.int.injEq, D.str.injEq, D.bl.injEq, D.ref.injEq, D.tup.injEq, D.lst.injEq, D.ty.injEq, AO.lst.injEq, AO.dct.injEq, AO.ins.injEq, Prod.mk.injEq, exists_eq_left, exists_eq_left', exists_eq_right, exists_eq_right', exists_and_left, exists_and_right, true_and, and_true, and_self, if_true, if_false, Bool.false_eq_true, Bool.true_eq_false, eq_self, reduceCtorEq, false_and, and_false, and_assoc, Int.reduceToNat, Int.reducePow, Int.reduceMul, Int.reduceAdd, Int.reduceNeg, Int.reduceSub, String.reduceEq, String.reduceNe, ne_eq, not_false_eq_true, not_true_eq_false, decide_false, decide_true, Bool.not_false, Bool.not_true, Bool.or_false, Bool.false_or, Bool.or_true, Bool.true_or, Bool.and_true, Bool.true_and, Bool.and_self, Bool.and_false, Bool.false_and, exists_eq', exists_eq, exists_const, false_or, or_false, or_self, List.all_cons, List.all_nil, List.any_cons, List.any_nil, Nat.reduceLeDiff, exists_false, List.map_nil, List.map_cons, Option.map_some, Option.isSome_some, Option.isSome_none, Option.getD_some, Option.getD_none, implies_true, List.foldl_cons, List.foldl_nil, forall_const, ofS_eq, Int.reduceLT, Int.reduceLE, Nat.reduceLT, hb]
  refine ite_dec (fun g => ?_) (fun g => ?_)
  · refine ⟨m0, cdivW m0 m1, fin_id (k _ _ (Int.emod_nonneg _ (by omega)) (Int.emod_lt_of_pos _ m0) ⟨_, x1, x2, rfl, Int.ediv_nonneg h0 (by omega), h1, h1', h2, by omega⟩)⟩
  · have e1 : 0 ≤ (x1 * 40692 + 12211 * (x2 + 1) * (x2 + 1) + 77) % 2147483399 := Int.emod_nonneg _ (by decide)
    have e2 : (x1 * 40692 + 12211 * (x2 + 1) * (x2 + 1) + 77) % 2147483399 < 2147483399 := Int.emod_lt_of_pos _ (by decide)
    generalize (x1 * 40692 + 12211 * (x2 + 1) * (x2 + 1) + 77) % 2147483399 = y at e1 e2 ⊢
    have x2b : x2 + 1 ≤ 1000001 := by omega
    refine ⟨cmulW (by omega) (by decide), cmulW (by decide) (by omega), cmulW (by omega) (by omega), ⟨by decide, by decide⟩, cpow (by decide) (by decide) (by omega) (by omega), ⟨by decide, by decide⟩, m0, ?_⟩
    exact fin_id (k _ _ (Int.emod_nonneg _ (by omega)) (Int.emod_lt_of_pos _ m0) ⟨x0, y, x2 + 1, rfl, h0, e1, by omega, by omega, by omega⟩)
/-- one of some -/
theorem atI_of {α : Type} {xs : List α} {r : Int} (h0 : 0 ≤ r) (h1 : r < xs.length) : ∃ v, atI xs r = some v ∧ v ∈ xs := by
  have hl : r.toNat < xs.length := by omega
  refine ⟨xs[r.toNat], ?_, List.getElem_mem _⟩
  unfold atI ixN
  rw [if_pos h0, if_pos h1]
  simp [hl]
def sp_l_of (_ : PySem.W.Frag) : ASp := fun ds A Q _ => ∃ (b : Addr) (n : Nat) (l xs : List D), ds = [.ref b, .lst xs] ∧ A b = some (.lst l) ∧ BagL l n ∧ n ≤ 1000000 ∧ xs ≠ [] ∧ xs.length ≤ 1000000 ∧ ∀ (v : D) (l' : List D), v ∈ xs → BagL l' (n + 1) → Q v (put A b (.lst l'))
theorem R_l_of {w : World} {K : PySem.W.Frag} {mg : Str → Option Value} {base : Heap} (T : Tx K mg) : FnR Pg w K mg base CX0 3 (He.ga K "_law_of") (liftSp K (sp_l_of K)) := by
  obtain ⟨fd, F⟩ := T.d_l_of
  refine Av.FunD.AR F sc_l_of (fun ds A Q E h => by obtain ⟨b, n, l, xs, rfl, hb, hB, hn, hx, hz, k⟩ := h; rfl) (fun _ _ _ _ _ _ us hl => match us, hl with | [_, _], _ => rfl) (fun cdv A0 outer s H0 E0 ds A Q E hr h => ?_)
  obtain ⟨b, n, l, xs, rfl, hb, hB, hn, hx, hz, k⟩ := h
  refine ⟨_, (ass_one (as_ret (ae_subs (ae_var (pv 1)) (ae_callR (R_l_draw T) (hr.mono (by decide)) rfl T.g__law_draw T.k__law_draw (aa_cons (ae_var (pv 0)) (aa_cons (ae_callB ca_len (by rfl) T.n_len (by decide +kernel) (aa_cons (ae_var (pv 1)) aa_nil)) aa_nil))) (fun _ _ => rfl)))), ?_⟩
  simp only [↓RD, RU, aStart, wipeA, putFA, toP, toPs, scDs, valD_nil, valD_cons, putM_eq, mergeD_eq, keysOk, aHandle, endsAA, putAA, starSp, put_same, put_put, inV_nil, inV_str, cxK, atI_0, atI_1, atI_2, atI_3, ixN_30, ixN_31, ixN_32, List.map, List.replicate, List.length_cons, List.length_nil, List.nil_append, List.cons_append, List.append_nil, Nat.reduceSub, Nat.reduceAdd, List.getElem?_cons_zero, List.getElem?_cons_succ, List.set_cons_zero, List.set_cons_succ, List.cons.injEq, Option.some.injEq, V.int.injEq, V.str.injEq, V.bl.injEq, D.int.injEq, D.str.injEq, D.bl.injEq, D.ref.injEq, D.tup.injEq, D.lst.injEq, D.ty.injEq, AO.lst.injEq, AO.dct.injEq, AO.ins.injEq, Prod.mk.injEq, exists_eq_left, exists_eq_left', exists_eq_right, exists_eq_right', exists_and_left, exists_and_right, true_and, and_true, and_self, if_true, if_false, Bool.false_eq_true, Bool.true_eq_false, eq_self, reduceCtorEq, false_and, and_false, and_assoc, Int.reduceToNat, Int.reducePow, Int.reduceMul, Int.reduceAdd, Int.reduceNeg, Int.reduceSub, String.reduceEq, String.reduceNe, ne_eq, not_false_eq_true, not_true_eq_false, decide_false, decide_true, Bool.not_false, Bool.not_true, Bool.or_false, Bool.false_or, Bool.or_true, Bool.true_or, Bool.and_true, Bool.true_and, Bool.and_self, Bool.and_false, Bool.false_and, exists_eq', exists_eq, exists_const, false_or, or_false, or_self, List.all_cons, List.all_nil, List.any_cons, List.any_nil, Nat.reduceLeDiff, exists_false, List.map_nil, List.map_cons, Option.map_some, Option.isSome_some, Option.isSome_none, Option.getD_some, Option.getD_none, implies_true, List.foldl_cons, List.foldl_nil, forall_const, ofS_eq, Int.reduceLT, Int.reduceLE, Nat.reduceLT]
  have hl : 0 < xs.length := List.length_pos_iff.mpr hx
  refine ⟨b, _, n, l, rfl, hb, hB, by omega, by omega, hn, fun r l' r0 r1 hB' => ?_⟩
  obtain ⟨v, hv, hm⟩ := atI_of (xs := xs) r0 r1
  simp only [↓RD, RU, aStart, wipeA, putFA, toP, toPs, scDs, valD_nil, valD_cons, putM_eq, mergeD_eq, keysOk, aHandle, endsAA, putAA, starSp, put_same, put_put, inV_nil, inV_str, cxK, atI_0, atI_1, atI_2, atI_3, ixN_30, ixN_31, ixN_32, List.map, List.replicate, List.length_cons, List.length_nil, List.nil_append, List.cons_append, List.append_nil, Nat.reduceSub, Nat.reduceAdd, List.getElem?_cons_zero, List.getElem?_cons_succ, List.set_cons_zero, List.set_cons_succ, List.cons.injEq, Option.some.injEq, V.int.injEq, V.str.injEq, V.bl.injEq, D.int.injEq, D.str.injEq, D.bl.injEq, D.ref.injEq, D.tup.injEq, D.lst.injEq, D.ty.injEq, AO.lst.injEq, AO.dct.injEq, AO.ins.injEq, Prod.mk.injEq, exists_eq_left, exists_eq_left', exists_eq_right, exists_eq_right', exists_and_left, exists_and_right, true_and, and_true, and_self, if_true, if_false, Bool.false_eq_true, Bool.true_eq_false, eq_self, reduceCtorEq, false_and, and_false, and_assoc, Int.reduceToNat, Int.reducePow, Int.reduceMul, Int.reduceAdd, Int.reduceNeg, Int.reduceSub, String.reduceEq, String.reduceNe, ne_eq, not_false_eq_true, not_true_eq_false, decide_false, decide_true, Bool.not_false, Bool.not_true, Bool.or_false, Bool.false_or, Bool.or_true, Bool.true_or, Bool.and_true, Bool.true_and, Bool.and_self, Bool.and_false, Bool.false_and, exists_eq', exists_eq, exists_const, false_or, or_false, or_self, List.all_cons, List.all_nil, List.any_cons, List.any_nil, Nat.reduceLeDiff, exists_false, List.map_nil, List.map_cons, Option.map_some, Option.isSome_some, Option.isSome_none, Option.getD_some, Option.getD_none, implies_true, List.foldl_cons, List.foldl_nil, forall_const, ofS_eq, Int.reduceLT, Int.reduceLE, Nat.reduceLT, hv]
  exact fin_id (k v l' hm hB')

end V35

set_option Elab.async false
set_option linter.all false
set_option maxRecDepth 100000
set_option maxHeartbeats 4000000
namespace V35
open PySem PySem.Spec PyProof.Rows L2 My Av
mutual
def dpt : Nat → D → Bool
  | _, .non => true
  | _, .bl _ => true
  | _, .int _ => true
  | _, .str _ => true
  | n + 1, .lst ds => decide (ds.length ≤ 100000) && dpts n ds
  | n + 1, .tup ds => decide (ds.length ≤ 100000) && dpts n ds
  | _, _ => false
def dpts : Nat → List D → Bool
  | _, [] => true
  | n, d :: ds => dpt n d && dpts n ds
end
theorem dpts_mem : ∀ {n : Nat} {ds : List D} {d : D}, dpts n ds = true → d ∈ ds → dpt n d = true
  | n, e :: ds, d, h, hd => by
    rw [dpts] at h
    obtain ⟨h1, h2⟩ := Bool.and_eq_true_iff.mp h
    rcases List.mem_cons.mp hd with rfl | hd
    · exact h1
    · exact dpts_mem h2 hd
def sp_l_same (n : Nat) : ASp := fun ds A Q _ => ∃ d, ds = [d, d] ∧ dpt n d = true ∧ Q (.bl true) A
theorem zipL_self {xs : List D} : zipL xs xs = xs.map fun d => .tup [d, d] := by
  unfold zipL
  induction xs with
  | nil => rfl
  | cons x xs ih => rw [List.zipWith_cons_cons, ih]; rfl
theorem R_same_step {w : World} {K : PySem.W.Frag} {mg : Str → Option Value} {base : Heap} (T : Tx K mg) (n : Nat) (ih : FnR Pg w K mg base CX0 (n + 1) (He.ga K "_law_same") (liftSp K (sp_l_same n))) : FnR Pg w K mg base CX0 (n + 2) (He.ga K "_law_same") (liftSp K (sp_l_same (n + 1))) := by
  obtain ⟨fd, F⟩ := T.d_l_same
  refine Av.FunD.AR F sc_l_same (fun ds A Q E h => by obtain ⟨d, rfl, _⟩ := h; rfl) (fun _ _ _ _ _ _ us hl => match us, hl with | [_, _], _ => rfl) (fun cdv A0 outer s H0 E0 ds A Q E hr h => ?_)
  obtain ⟨d, rfl, hd, k⟩ := h
  refine ⟨_, (ass_cons (as_if (PW.pt (aw_or (at_cmpA cmp_is (ae_var (pv 1)) ae_non (nomark _)) (aw_or1 (at_truth (ae_callB ca_isi (by rfl) T.n_isinstance (by decide +kernel) (aa_cons (ae_var (pv 1)) (aa_cons (ae_c (pe_bltn (v := .ty "bool") (by rfl) T.n_bool (by decide +kernel) rfl) fun _ _ => .ty "bool") aa_nil))))))) (ass_one (as_ret (ae_if (at_cmpA cmp_is (ae_var (pv 1)) ae_non (nomark _)) (ae_cmpA cmp_is (ae_var (pv 0)) ae_non (nomark _)) (ae_and (ae_callB ca_isi (by rfl) T.n_isinstance (by decide +kernel) (aa_cons (ae_var (pv 0)) (aa_cons (ae_c (pe_bltn (v := .ty "bool") (by rfl) T.n_bool (by decide +kernel) rfl) fun _ _ => .ty "bool") aa_nil))) (ae_one (ae_cmpA (cmp_eq hr.units) (ae_var (pv 0)) (ae_var (pv 1)) (nomark _))))))) ass_nil)
      (ass_cons (as_if (at_cmpA (cmp_ne hr.units) (ae_callB ca_isi (by rfl) T.n_isinstance (by decide +kernel) (aa_cons (ae_var (pv 1)) (aa_cons (ae_c (pe_bltn (v := .ty "tuple") (by rfl) T.n_tuple (by decide +kernel) rfl) fun _ _ => .ty "tuple") aa_nil))) (ae_callB ca_isi (by rfl) T.n_isinstance (by decide +kernel) (aa_cons (ae_var (pv 0)) (aa_cons (ae_c (pe_bltn (v := .ty "tuple") (by rfl) T.n_tuple (by decide +kernel) rfl) fun _ _ => .ty "tuple") aa_nil))) (nomark _)) (ass_one (as_ret ae_bl)) ass_nil)
      (ass_cons (as_if (at_cmpA (cmp_ne hr.units) (ae_callB ca_isi (by rfl) T.n_isinstance (by decide +kernel) (aa_cons (ae_var (pv 1)) (aa_cons (ae_c (pe_bltn (v := .ty "list") (by rfl) T.n_list (by decide +kernel) rfl) fun _ _ => .ty "list") aa_nil))) (ae_callB ca_isi (by rfl) T.n_isinstance (by decide +kernel) (aa_cons (ae_var (pv 0)) (aa_cons (ae_c (pe_bltn (v := .ty "list") (by rfl) T.n_list (by decide +kernel) rfl) fun _ _ => .ty "list") aa_nil))) (nomark _)) (ass_one (as_ret ae_bl)) ass_nil)
      (ass_cons (as_if (at_truth (ae_callB ca_isi2 (by rfl) T.n_isinstance (by decide +kernel) (aa_cons (ae_var (pv 1)) (aa_cons (ae_tup (aa_cons (ae_c (pe_bltn (v := .ty "tuple") (by rfl) T.n_tuple (by decide +kernel) rfl) fun _ _ => .ty "tuple") (aa_cons (ae_c (pe_bltn (v := .ty "list") (by rfl) T.n_list (by decide +kernel) rfl) fun _ _ => .ty "list") aa_nil))) aa_nil)))) (ass_one (as_ret (ae_and (ae_cmpA (cmp_eq hr.units) (ae_callB ca_len (by rfl) T.n_len (by decide +kernel) (aa_cons (ae_var (pv 0)) aa_nil)) (ae_callB ca_len (by rfl) T.n_len (by decide +kernel) (aa_cons (ae_var (pv 1)) aa_nil)) (nomark _)) (ae_one (ae_callB (ca_all rfl) (by rfl) T.n_all (by decide +kernel) (aa_cons (ae_lc false (own := [("_law_one", 2), ("_law_two", 3)]) (pt := (.tp [(.nm 2), (.nm 3)])) rfl sc_l_same.nd (ai_zipA (by rfl) T.n_zip (aa_cons (ae_var (pv 0)) (aa_cons (ae_var (pv 1)) aa_nil))) (blkOk_by (own := [("_law_one", 2), ("_law_two", 3)]) (N := ["_law_actual", "_law_due_here", "_law_one", "_law_two"]) (sc := defScope s_l_same) (by decide +kernel)) (by decide) (fun _ _ _ _ _ => by exact (pg_tup (n := 2) rfl (pgs_cons (pg_name (i := 2) sc_l_same.nd rfl (by first | exact Or.inl rfl | exact Or.inr rfl)) (pgs_cons (pg_name (i := 3) sc_l_same.nd rfl (by first | exact Or.inl rfl | exact Or.inr rfl)) pgs_nil)))) (fun _ _ _ _ _ => by exact ats_nil) (fun _ _ _ _ _ => by exact (ae_callR ih (hr.mono (Nat.le_refl _)) rfl T.g__law_same T.k__law_same (aa_cons (ae_var (pv 2)) (aa_cons (ae_var (pv 3)) aa_nil))))) aa_nil)))))) ass_nil)
      (ass_cons (as_if (at_truth (ae_callB ca_isi (by rfl) T.n_isinstance (by decide +kernel) (aa_cons (ae_var (pv 1)) (aa_cons (ae_c (pe_bltn (v := .ty "int") (by rfl) T.n_int (by decide +kernel) rfl) fun _ _ => .ty "int") aa_nil)))) (ass_one (as_ret (ae_and (ae_callB ca_isi (by rfl) T.n_isinstance (by decide +kernel) (aa_cons (ae_var (pv 0)) (aa_cons (ae_c (pe_bltn (v := .ty "int") (by rfl) T.n_int (by decide +kernel) rfl) fun _ _ => .ty "int") aa_nil))) (ae_and (ae_not (ae_callB ca_isi (by rfl) T.n_isinstance (by decide +kernel) (aa_cons (ae_var (pv 0)) (aa_cons (ae_c (pe_bltn (v := .ty "bool") (by rfl) T.n_bool (by decide +kernel) rfl) fun _ _ => .ty "bool") aa_nil)))) (ae_one (ae_cmpA (cmp_eq hr.units) (ae_var (pv 0)) (ae_var (pv 1)) (nomark _))))))) ass_nil)
      (ass_one (as_ret (ae_and (ae_callB ca_isi (by rfl) T.n_isinstance (by decide +kernel) (aa_cons (ae_var (pv 0)) (aa_cons (ae_c (pe_bltn (v := .ty "str") (by rfl) T.n_str (by decide +kernel) rfl) fun _ _ => .ty "str") aa_nil))) (ae_one (ae_cmpA (cmp_eq hr.units) (ae_var (pv 0)) (ae_var (pv 1)) (nomark _))))))))))), ?_⟩
  cases d with
  | non => simp only [↓RD, RU, aStart, wipeA, putFA, toP, toPs, scDs, valD_nil, valD_cons, putM_eq, mergeD_eq, keysOk, aHandle, endsAA, putAA, starSp, put_same, put_put, inV_nil, inV_str, cxK, atI_0, atI_1, atI_2, atI_3, ixN_30, ixN_31, ixN_32, List.map, List.replicate, List.length_cons, List.length_nil, List.nil_append, List.cons_append, List.append_nil, Nat.reduceSub, Nat.reduceAdd, List.getElem?_cons_zero, List.getElem?_cons_succ, List.set_cons_zero, List.set_cons_succ, List.cons.injEq, Option.some.injEq, V.int.injEq, V.str.injEq, V.bl.injEq, D.int.injEq, D.str.injEq, D.bl.injEq, D.ref.injEq, D.tup.injEq, D.lst.injEq, D.ty.injEq, AO.lst.injEq, AO.dct.injEq, AO.ins.injEq, Prod.mk.injEq, exists_eq_left, exists_eq_left', exists_eq_right, exists_eq_right', exists_and_left, exists_and_right, true_and, and_true, and_self, if_true, if_false, Bool.false_eq_true, Bool.true_eq_false, eq_self, reduceCtorEq, false_and, and_false, and_assoc, Int.reduceToNat, Int.reducePow, Int.reduceMul, Int.reduceAdd, Int.reduceNeg, Int.reduceSub, String.reduceEq, String.reduceNe, ne_eq, not_false_eq_true, not_true_eq_false, decide_false, decide_true, Bool.not_false, Bool.not_true, Bool.or_false, Bool.false_or, Bool.or_true, Bool.true_or, Bool.and_true, Bool.true_and, Bool.and_self, Bool.and_false, Bool.false_and, exists_eq', exists_eq, exists_const, false_or, or_false, or_self, List.all_cons, List.all_nil, List.any_cons, List.any_nil, Nat.reduceLeDiff, exists_false, List.map_nil, List.map_cons, Option.map_some, Option.isSome_some, Option.isSome_none, Option.getD_some, Option.getD_none, implies_true, List.foldl_cons, List.foldl_nil, forall_const, ofS_eq, Int.reduceLT, Int.reduceLE, Nat.reduceLT]; exact fin_id k
  | bl b => simp only [↓RD, RU, aStart, wipeA, putFA, toP, toPs, scDs, valD_nil, valD_cons, putM_eq, mergeD_eq, keysOk, aHandle, endsAA, putAA, starSp, put_same, put_put, inV_nil, inV_str, cxK, atI_0, atI_1, atI_2, atI_3, ixN_30, ixN_31, ixN_32, List.map, List.replicate, List.length_cons, List.length_nil, List.nil_append, List.cons_append, List.append_nil, Nat.reduceSub, Nat.reduceAdd, List.getElem?_cons_zero, List.getElem?_cons_succ, List.set_cons_zero, List.set_cons_succ, List.cons.injEq, Option.some.injEq, V.int.injEq, V.str.injEq, V.bl.injEq, D.int.injEq, D.str.injEq, D.bl.injEq, D.ref.injEq, D.tup.injEq, D.lst.injEq, D.ty.injEq, AO.lst.injEq, AO.dct.injEq, AO.ins.injEq, Prod.mk.injEq, exists_eq_left, exists_eq_left', exists_eq_right, exists_eq_right', exists_and_left, exists_and_right, true_and, and_true, and_self, if_true, if_false, Bool.false_eq_true, Bool.true_eq_false, eq_self, reduceCtorEq, false_and, and_false, and_assoc, Int.reduceToNat, Int.reducePow, Int.reduceMul, Int.reduceAdd, Int.reduceNeg, Int.reduceSub, String.reduceEq, String.reduceNe, ne_eq, not_false_eq_true, not_true_eq_false, decide_false, decide_true, Bool.not_false, Bool.not_true, Bool.or_false, Bool.false_or, Bool.or_true, Bool.true_or, Bool.and_true, Bool.true_and, Bool.and_self, Bool.and_false, Bool.false_and, exists_eq', exists_eq, exists_const, false_or, or_false, or_self, List.all_cons, List.all_nil, List.any_cons, List.any_nil, Nat.reduceLeDiff, exists_false, List.map_nil, List.map_cons, Option.map_some, Option.isSome_some, Option.isSome_none, Option.getD_some, Option.getD_none, implies_true, List.foldl_cons, List.foldl_nil, forall_const, ofS_eq, Int.reduceLT, Int.reduceLE, Nat.reduceLT]; exact fin_id k
  | int i => simp only [↓RD, RU, aStart, wipeA, putFA, toP, toPs, scDs, valD_nil, valD_cons, putM_eq, mergeD_eq, keysOk, aHandle, endsAA, putAA, starSp, put_same, put_put, inV_nil, inV_str, cxK, atI_0, atI_1, atI_2, atI_3, ixN_30, ixN_31, ixN_32, List.map, List.replicate, List.length_cons, List.length_nil, List.nil_append, List.cons_append, List.append_nil, Nat.reduceSub, Nat.reduceAdd, List.getElem?_cons_zero, List.getElem?_cons_succ, List.set_cons_zero, List.set_cons_succ, List.cons.injEq, Option.some.injEq, V.int.injEq, V.str.injEq, V.bl.injEq, D.int.injEq, D.str.injEq, D.bl.injEq, D.ref.injEq, D.tup.injEq, D.lst.injEq, D.ty.injEq, AO.lst.injEq, AO.dct.injEq, AO.ins.injEq, Prod.mk.injEq, exists_eq_left, exists_eq_left', exists_eq_right, exists_eq_right', exists_and_left, exists_and_right, true_and, and_true, and_self, if_true, if_false, Bool.false_eq_true, Bool.true_eq_false, eq_self, reduceCtorEq, false_and, and_false, and_assoc, Int.reduceToNat, Int.reducePow, Int.reduceMul, Int.reduceAdd, Int.reduceNeg, Int.reduceSub, String.reduceEq, String.reduceNe, ne_eq, not_false_eq_true, not_true_eq_false, decide_false, decide_true, Bool.not_false, Bool.not_true, Bool.or_false, Bool.false_or, Bool.or_true, Bool.true_or, Bool.and_true, Bool.true_and, Bool.and_self, Bool.and_false, Bool.false_and, exists_eq', exists_eq, exists_const, false_or, or_false, or_self, List.all_cons, List.all_nil, List.any_cons, List.any_nil, Nat.reduceLeDiff, exists_false, List.map_nil, List.map_cons, Option.map_some, Option.isSome_some, Option.isSome_none, Option.getD_some, Option.getD_none, implies_true, List.foldl_cons, List.foldl_nil, forall_const, ofS_eq, Int.reduceLT, Int.reduceLE, Nat.reduceLT]; exact fin_id k
  | str x => simp only [↓RD, RU, aStart, wipeA, putFA, toP, toPs, scDs, valD_nil, valD_cons, putM_eq, mergeD_eq, keysOk, aHandle, endsAA, putAA, starSp, put_same, put_put, inV_nil, inV_str, cxK, atI_0, atI_1, atI_2, atI_3, ixN_30, ixN_31, ixN_32, List.map, List.replicate, List.length_cons, List.length_nil, List.nil_append, List.cons_append, List.append_nil, Nat.reduceSub, Nat.reduceAdd, List.getElem?_cons_zero, List.getElem?_cons_succ, List.set_cons_zero, List.set_cons_succ, List.cons.injEq, Option.some.injEq, V.int.injEq, V.str.injEq, V.bl.injEq, D.int.injEq, D.str.injEq, D.bl.injEq, D.ref.injEq, D.tup.injEq, D.lst.injEq, D.ty.injEq, AO.lst.injEq, AO.dct.injEq, AO.ins.injEq, Prod.mk.injEq, exists_eq_left, exists_eq_left', exists_eq_right, exists_eq_right', exists_and_left, exists_and_right, true_and, and_true, and_self, if_true, if_false, Bool.false_eq_true, Bool.true_eq_false, eq_self, reduceCtorEq, false_and, and_false, and_assoc, Int.reduceToNat, Int.reducePow, Int.reduceMul, Int.reduceAdd, Int.reduceNeg, Int.reduceSub, String.reduceEq, String.reduceNe, ne_eq, not_false_eq_true, not_true_eq_false, decide_false, decide_true, Bool.not_false, Bool.not_true, Bool.or_false, Bool.false_or, Bool.or_true, Bool.true_or, Bool.and_true, Bool.true_and, Bool.and_self, Bool.and_false, Bool.false_and, exists_eq', exists_eq, exists_const, false_or, or_false, or_self, List.all_cons, List.all_nil, List.any_cons, List.any_nil, Nat.reduceLeDiff, exists_false, List.map_nil, List.map_cons, Option.map_some, Option.isSome_some, Option.isSome_none, Option.getD_some, Option.getD_none, implies_true, List.foldl_cons, List.foldl_nil, forall_const, ofS_eq, Int.reduceLT, Int.reduceLE, Nat.reduceLT]; exact fin_id k
  | lst xs =>
    rw [dpt] at hd
    obtain ⟨h1, h2⟩ := Bool.and_eq_true_iff.mp hd
    have hz : xs.length ≤ 100000 := of_decide_eq_true h1
    simp only [↓RD, RU, aStart, wipeA, putFA, toP, toPs, scDs, valD_nil, valD_cons, putM_eq, mergeD_eq, keysOk, aHandle, endsAA, putAA, starSp, put_same, put_put, inV_nil, inV_str, cxK, atI_0, atI_1, atI_2, atI_3, ixN_30, ixN_31, ixN_32, List.map, List.replicate, List.length_cons, List.length_nil, List.nil_append, List.cons_append, List.append_nil, Nat.reduceSub, Nat.reduceAdd, List.getElem?_cons_zero, List.getElem?_cons_succ, List.set_cons_zero, List.set_cons_succ, List.cons.injEq, Option.some.injEq, V.int.injEq, V.str.injEq, V.bl.injEq, D.int.injEq, D.str.injEq, D.bl.injEq, D.ref.injEq, D.tup.injEq, D.lst.injEq, D.ty.injEq, AO.lst.injEq, AO.dct.injEq, AO.ins.injEq, Prod.mk.injEq, exists_eq_left, exists_eq_left', exists_eq_right, exists_eq_right', exists_and_left, exists_and_right, true_and, and_true, and_self, if_true, if_false, Bool.false_eq_true, Bool.true_eq_false, eq_self, reduceCtorEq, false_and, and_false, and_assoc, Int.reduceToNat, Int.reducePow, Int.reduceMul, Int.reduceAdd, Int.reduceNeg, Int.reduceSub, String.reduceEq, String.reduceNe, ne_eq, not_false_eq_true, not_true_eq_false, decide_false, decide_true, Bool.not_false, Bool.not_true, Bool.or_false, Bool.false_or, Bool.or_true, Bool.true_or, Bool.and_true, Bool.true_and, Bool.and_self, Bool.and_false, Bool.false_and, exists_eq', exists_eq, exists_const, false_or, or_false, or_self, List.all_cons, List.all_nil, List.any_cons, List.any_nil, Nat.reduceLeDiff, exists_false, List.map_nil, List.map_cons, Option.map_some, Option.isSome_some, Option.isSome_none, Option.getD_some, Option.getD_none, implies_true, List.foldl_cons, List.foldl_nil, forall_const, ofS_eq, Int.reduceLT, Int.reduceLE, Nat.reduceLT]
    rw [zipL_self]
    refine comp_map (fun _ => .bl true) (by first | exact ⟨rfl, rfl⟩ | trivial) _ [] ?_ (fun d hd' R hR => ?_) ?_
    · rw [List.length_map, List.length_nil]; exact Nat.le_trans (by omega) (show 100000 ≤ sizeLine by decide)
    · obtain ⟨e, he, rfl⟩ := List.mem_map.mp hd'
      simp only [↓RD, RU, aStart, wipeA, putFA, toP, toPs, scDs, valD_nil, valD_cons, putM_eq, mergeD_eq, keysOk, aHandle, endsAA, putAA, starSp, put_same, put_put, inV_nil, inV_str, cxK, atI_0, atI_1, atI_2, atI_3, ixN_30, ixN_31, ixN_32, List.map, List.replicate, List.length_cons, List.length_nil, List.nil_append, List.cons_append, List.append_nil, Nat.reduceSub, Nat.reduceAdd, List.getElem?_cons_zero, List.getElem?_cons_succ, List.set_cons_zero, List.set_cons_succ, List.cons.injEq, Option.some.injEq, V.int.injEq, V.str.injEq, V.bl.injEq, D.int.injEq, D.str.injEq, D.bl.injEq, D.ref.injEq, D.tup.injEq, D.lst.injEq, D.ty.injEq, AO.lst.injEq, AO.dct.injEq, AO.ins.injEq, Prod.mk.injEq, exists_eq_left, exists_eq_left', exists_eq_right, exists_eq_right', exists_and_left, exists_and_right, true_and, and_true, and_self, if_true, if_false, Bool.false_eq_true, Bool.true_eq_false, eq_self, reduceCtorEq, false_and, and_false, and_assoc, Int.reduceToNat, Int.reducePow, Int.reduceMul, Int.reduceAdd, Int.reduceNeg, Int.reduceSub, String.reduceEq, String.reduceNe, ne_eq, not_false_eq_true, not_true_eq_false, decide_false, decide_true, Bool.not_false, Bool.not_true, Bool.or_false, Bool.false_or, Bool.or_true, Bool.true_or, Bool.and_true, Bool.true_and, Bool.and_self, Bool.and_false, Bool.false_and, exists_eq', exists_eq, exists_const, false_or, or_false, or_self, List.all_cons, List.all_nil, List.any_cons, List.any_nil, Nat.reduceLeDiff, exists_false, List.map_nil, List.map_cons, Option.map_some, Option.isSome_some, Option.isSome_none, Option.getD_some, Option.getD_none, implies_true, List.foldl_cons, List.foldl_nil, forall_const, ofS_eq, Int.reduceLT, Int.reduceLE, Nat.reduceLT]
      exact ⟨e, rfl, dpts_mem h2 he, hR⟩
    · simp only [↓RD, RU, aStart, wipeA, putFA, toP, toPs, scDs, valD_nil, valD_cons, putM_eq, mergeD_eq, keysOk, aHandle, endsAA, putAA, starSp, put_same, put_put, inV_nil, inV_str, cxK, atI_0, atI_1, atI_2, atI_3, ixN_30, ixN_31, ixN_32, List.map, List.replicate, List.length_cons, List.length_nil, List.nil_append, List.cons_append, List.append_nil, Nat.reduceSub, Nat.reduceAdd, List.getElem?_cons_zero, List.getElem?_cons_succ, List.set_cons_zero, List.set_cons_succ, List.cons.injEq, Option.some.injEq, V.int.injEq, V.str.injEq, V.bl.injEq, D.int.injEq, D.str.injEq, D.bl.injEq, D.ref.injEq, D.tup.injEq, D.lst.injEq, D.ty.injEq, AO.lst.injEq, AO.dct.injEq, AO.ins.injEq, Prod.mk.injEq, exists_eq_left, exists_eq_left', exists_eq_right, exists_eq_right', exists_and_left, exists_and_right, true_and, and_true, and_self, if_true, if_false, Bool.false_eq_true, Bool.true_eq_false, eq_self, reduceCtorEq, false_and, and_false, and_assoc, Int.reduceToNat, Int.reducePow, Int.reduceMul, Int.reduceAdd, Int.reduceNeg, Int.reduceSub, String.reduceEq, String.reduceNe, ne_eq, not_false_eq_true, not_true_eq_false, decide_false, decide_true, Bool.not_false, Bool.not_true, Bool.or_false, Bool.false_or, Bool.or_true, Bool.true_or, Bool.and_true, Bool.true_and, Bool.and_self, Bool.and_false, Bool.false_and, exists_eq', exists_eq, exists_const, false_or, or_false, or_self, List.all_cons, List.all_nil, List.any_cons, List.any_nil, Nat.reduceLeDiff, exists_false, List.map_nil, List.map_cons, Option.map_some, Option.isSome_some, Option.isSome_none, Option.getD_some, Option.getD_none, implies_true, List.foldl_cons, List.foldl_nil, forall_const, ofS_eq, Int.reduceLT, Int.reduceLE, Nat.reduceLT, bls_map (fun _ => true)]
      have : ((xs.map fun d => D.tup [d, d]).map fun _ => true).all id = true := by simp
      rw [this]; exact fin_id k
  | tup xs =>
    rw [dpt] at hd
    obtain ⟨h1, h2⟩ := Bool.and_eq_true_iff.mp hd
    have hz : xs.length ≤ 100000 := of_decide_eq_true h1
    simp only [↓RD, RU, aStart, wipeA, putFA, toP, toPs, scDs, valD_nil, valD_cons, putM_eq, mergeD_eq, keysOk, aHandle, endsAA, putAA, starSp, put_same, put_put, inV_nil, inV_str, cxK, atI_0, atI_1, atI_2, atI_3, ixN_30, ixN_31, ixN_32, List.map, List.replicate, List.length_cons, List.length_nil, List.nil_append, List.cons_append, List.append_nil, Nat.reduceSub, Nat.reduceAdd, List.getElem?_cons_zero, List.getElem?_cons_succ, List.set_cons_zero, List.set_cons_succ, List.cons.injEq, Option.some.injEq, V.int.injEq, V.str.injEq, V.bl.injEq, D.int.injEq, D.str.injEq, D.bl.injEq, D.ref.injEq, D.tup.injEq, D.lst.injEq, D.ty.injEq, AO.lst.injEq, AO.dct.injEq, AO.ins.injEq, Prod.mk.injEq, exists_eq_left, exists_eq_left', exists_eq_right, exists_eq_right', exists_and_left, exists_and_right, true_and, and_true, and_self, if_true, if_false, Bool.false_eq_true, Bool.true_eq_false, eq_self, reduceCtorEq, false_and, and_false, and_assoc, Int.reduceToNat, Int.reducePow, Int.reduceMul, Int.reduceAdd, Int.reduceNeg, Int.reduceSub, String.reduceEq, String.reduceNe, ne_eq, not_false_eq_true, not_true_eq_false, decide_false, decide_true, Bool.not_false, Bool.not_true, Bool.or_false, Bool.false_or, Bool.or_true, Bool.true_or, Bool.and_true, Bool.true_and, Bool.and_self, Bool.and_false, Bool.false_and, exists_eq', exists_eq, exists_const, false_or, or_false, or_self, List.all_cons, List.all_nil, List.any_cons, List.any_nil, Nat.reduceLeDiff, exists_false, List.map_nil, List.map_cons, Option.map_some, Option.isSome_some, Option.isSome_none, Option.getD_some, Option.getD_none, implies_true, List.foldl_cons, List.foldl_nil, forall_const, ofS_eq, Int.reduceLT, Int.reduceLE, Nat.reduceLT]
    rw [zipL_self]
    refine comp_map (fun _ => .bl true) (by first | exact ⟨rfl, rfl⟩ | trivial) _ [] ?_ (fun d hd' R hR => ?_) ?_
    · rw [List.length_map, List.length_nil]; exact Nat.le_trans (by omega) (show 100000 ≤ sizeLine by decide)
    · obtain ⟨e, he, rfl⟩ := List.mem_map.mp hd'
      simp only [↓RD, RU, aStart, wipeA, putFA, toP, toPs, scDs, valD_nil, valD_cons, putM_eq, mergeD_eq, keysOk, aHandle, endsAA, putAA, starSp, put_same, put_put, inV_nil, inV_str, cxK, atI_0, atI_1, atI_2, atI_3, ixN_30, ixN_31, ixN_32, List.map, List.replicate, List.length_cons, List.length_nil, List.nil_append, List.cons_append, List.append_nil, Nat.reduceSub, Nat.reduceAdd, List.getElem?_cons_zero, List.getElem?_cons_succ, List.set_cons_zero, List.set_cons_succ, List.cons.injEq, Option.some.injEq, V.int.injEq, V.str.injEq, V.bl.injEq, D.int.injEq, D.str.injEq, D.bl.injEq, D.ref.injEq, D.tup.injEq, D.lst.injEq, D.ty.injEq, AO.lst.injEq, AO.dct.injEq, AO.ins.injEq, Prod.mk.injEq, exists_eq_left, exists_eq_left', exists_eq_right, exists_eq_right', exists_and_left, exists_and_right, true_and, and_true, and_self, if_true, if_false, Bool.false_eq_true, Bool.true_eq_false, eq_self, reduceCtorEq, false_and, and_false, and_assoc, Int.reduceToNat, Int.reducePow, Int.reduceMul, Int.reduceAdd, Int.reduceNeg, Int.reduceSub, String.reduceEq, String.reduceNe, ne_eq, not_false_eq_true, not_true_eq_false, decide_false, decide_true, Bool.not_false, Bool.not_true, Bool.or_false, Bool.false_or, Bool.or_true, Bool.true_or, Bool.and_true, Bool.true_and, Bool.and_self, Bool.and_false, Bool.false_and, exists_eq', exists_eq, exists_const, false_or, or_false, or_self, List.all_cons, List.all_nil, List.any_cons, List.any_nil, Nat.reduceLeDiff, exists_false, List.map_nil, List.map_cons, Option.map_some, Option.isSome_some, Option.isSome_none, Option.getD_some, Option.getD_none, implies_true, List.foldl_cons, List.foldl_nil, forall_const, ofS_eq, Int.reduceLT, Int.reduceLE, Nat.reduceLT]
      exact ⟨e, rfl, dpts_mem h2 he, hR⟩
    · simp only [↓RD, RU, aStart, wipeA, putFA, toP, toPs, scDs, valD_nil, valD_cons, putM_eq, mergeD_eq, keysOk, aHandle, endsAA, putAA, starSp, put_same, put_put, inV_nil, inV_str, cxK, atI_0, atI_1, atI_2, atI_3, ixN_30, ixN_31, ixN_32, List.map, List.replicate, List.length_cons, List.length_nil, List.nil_append, List.cons_append, List.append_nil, Nat.reduceSub, Nat.reduceAdd, List.getElem?_cons_zero, List.getElem?_cons_succ, List.set_cons_zero, List.set_cons_succ, List.cons.injEq, Option.some.injEq, V.int.injEq, V.str.injEq, V.bl.injEq, D.int.injEq, D.str.injEq, D.bl.injEq, D.ref.injEq, D.tup.injEq, D.lst.injEq, D.ty.injEq, AO.lst.injEq, AO.dct.injEq, AO.ins.injEq, Prod.mk.injEq, exists_eq_left, exists_eq_left', exists_eq_right, exists_eq_right', exists_and_left, exists_and_right, true_and, and_true, and_self, if_true, if_false, Bool.false_eq_true, Bool.true_eq_false, eq_self, reduceCtorEq, false_and, and_false, and_assoc, Int.reduceToNat, Int.reducePow, Int.reduceMul, Int.reduceAdd, Int.reduceNeg, Int.reduceSub, String.reduceEq, String.reduceNe, ne_eq, not_false_eq_true, not_true_eq_false, decide_false, decide_true, Bool.not_false, Bool.not_true, Bool.or_false, Bool.false_or, Bool.or_true, Bool.true_or, Bool.and_true, Bool.true_and, Bool.and_self, Bool.and_false, Bool.false_and, exists_eq', exists_eq, exists_const, false_or, or_false, or_self, List.all_cons, List.all_nil, List.any_cons, List.any_nil, Nat.reduceLeDiff, exists_false, List.map_nil, List.map_cons, Option.map_some, Option.isSome_some, Option.isSome_none, Option.getD_some, Option.getD_none, implies_true, List.foldl_cons, List.foldl_nil, forall_const, ofS_eq, Int.reduceLT, Int.reduceLE, Nat.reduceLT, bls_map (fun _ => true)]
      have : ((xs.map fun d => D.tup [d, d]).map fun _ => true).all id = true := by simp
      rw [this]; exact fin_id k
  | ty _ => cases hd
  | ref _ => cases hd
  | rol _ => cases hd
  | dct _ => cases hd
  | dtt _ => cases hd
  | obj _ _ => cases hd
  | exc _ _ _ _ => cases hd
theorem R_same0 {w : World} {K : PySem.W.Frag} {mg : Str → Option Value} {base : Heap} (T : Tx K mg) : FnR Pg w K mg base CX0 1 (He.ga K "_law_same") (liftSp K (sp_l_same 0)) := by
  obtain ⟨fd, F⟩ := T.d_l_same
  refine Av.FunD.AR F sc_l_same (fun ds A Q E h => by obtain ⟨d, rfl, _⟩ := h; rfl) (fun _ _ _ _ _ _ us hl => match us, hl with | [_, _], _ => rfl) (fun cdv A0 outer s H0 E0 ds A Q E hr h => ?_)
  obtain ⟨d, rfl, hd, k⟩ := h
  refine ⟨_, (ass_cons (as_if (PW.pt (aw_or (at_cmpA cmp_is (ae_var (pv 1)) ae_non (nomark _)) (aw_or1 (at_truth (ae_callB ca_isi (by rfl) T.n_isinstance (by decide +kernel) (aa_cons (ae_var (pv 1)) (aa_cons (ae_c (pe_bltn (v := .ty "bool") (by rfl) T.n_bool (by decide +kernel) rfl) fun _ _ => .ty "bool") aa_nil))))))) (ass_one (as_ret (ae_if (at_cmpA cmp_is (ae_var (pv 1)) ae_non (nomark _)) (ae_cmpA cmp_is (ae_var (pv 0)) ae_non (nomark _)) (ae_and (ae_callB ca_isi (by rfl) T.n_isinstance (by decide +kernel) (aa_cons (ae_var (pv 0)) (aa_cons (ae_c (pe_bltn (v := .ty "bool") (by rfl) T.n_bool (by decide +kernel) rfl) fun _ _ => .ty "bool") aa_nil))) (ae_one (ae_cmpA (cmp_eq hr.units) (ae_var (pv 0)) (ae_var (pv 1)) (nomark _))))))) ass_nil)
      (ass_cons (as_if (at_cmpA (cmp_ne hr.units) (ae_callB ca_isi (by rfl) T.n_isinstance (by decide +kernel) (aa_cons (ae_var (pv 1)) (aa_cons (ae_c (pe_bltn (v := .ty "tuple") (by rfl) T.n_tuple (by decide +kernel) rfl) fun _ _ => .ty "tuple") aa_nil))) (ae_callB ca_isi (by rfl) T.n_isinstance (by decide +kernel) (aa_cons (ae_var (pv 0)) (aa_cons (ae_c (pe_bltn (v := .ty "tuple") (by rfl) T.n_tuple (by decide +kernel) rfl) fun _ _ => .ty "tuple") aa_nil))) (nomark _)) (ass_one (as_ret ae_bl)) ass_nil)
      (ass_cons (as_if (at_cmpA (cmp_ne hr.units) (ae_callB ca_isi (by rfl) T.n_isinstance (by decide +kernel) (aa_cons (ae_var (pv 1)) (aa_cons (ae_c (pe_bltn (v := .ty "list") (by rfl) T.n_list (by decide +kernel) rfl) fun _ _ => .ty "list") aa_nil))) (ae_callB ca_isi (by rfl) T.n_isinstance (by decide +kernel) (aa_cons (ae_var (pv 0)) (aa_cons (ae_c (pe_bltn (v := .ty "list") (by rfl) T.n_list (by decide +kernel) rfl) fun _ _ => .ty "list") aa_nil))) (nomark _)) (ass_one (as_ret ae_bl)) ass_nil)
      (ass_cons (as_if (at_truth (ae_callB ca_isi2 (by rfl) T.n_isinstance (by decide +kernel) (aa_cons (ae_var (pv 1)) (aa_cons (ae_tup (aa_cons (ae_c (pe_bltn (v := .ty "tuple") (by rfl) T.n_tuple (by decide +kernel) rfl) fun _ _ => .ty "tuple") (aa_cons (ae_c (pe_bltn (v := .ty "list") (by rfl) T.n_list (by decide +kernel) rfl) fun _ _ => .ty "list") aa_nil))) aa_nil)))) (ass_one as_never) ass_nil)
      (ass_cons (as_if (at_truth (ae_callB ca_isi (by rfl) T.n_isinstance (by decide +kernel) (aa_cons (ae_var (pv 1)) (aa_cons (ae_c (pe_bltn (v := .ty "int") (by rfl) T.n_int (by decide +kernel) rfl) fun _ _ => .ty "int") aa_nil)))) (ass_one (as_ret (ae_and (ae_callB ca_isi (by rfl) T.n_isinstance (by decide +kernel) (aa_cons (ae_var (pv 0)) (aa_cons (ae_c (pe_bltn (v := .ty "int") (by rfl) T.n_int (by decide +kernel) rfl) fun _ _ => .ty "int") aa_nil))) (ae_and (ae_not (ae_callB ca_isi (by rfl) T.n_isinstance (by decide +kernel) (aa_cons (ae_var (pv 0)) (aa_cons (ae_c (pe_bltn (v := .ty "bool") (by rfl) T.n_bool (by decide +kernel) rfl) fun _ _ => .ty "bool") aa_nil)))) (ae_one (ae_cmpA (cmp_eq hr.units) (ae_var (pv 0)) (ae_var (pv 1)) (nomark _))))))) ass_nil)
      (ass_one (as_ret (ae_and (ae_callB ca_isi (by rfl) T.n_isinstance (by decide +kernel) (aa_cons (ae_var (pv 0)) (aa_cons (ae_c (pe_bltn (v := .ty "str") (by rfl) T.n_str (by decide +kernel) rfl) fun _ _ => .ty "str") aa_nil))) (ae_one (ae_cmpA (cmp_eq hr.units) (ae_var (pv 0)) (ae_var (pv 1)) (nomark _))))))))))), ?_⟩
  cases d with
  | non => simp only [↓RD, RU, aStart, wipeA, putFA, toP, toPs, scDs, valD_nil, valD_cons, putM_eq, mergeD_eq, keysOk, aHandle, endsAA, putAA, starSp, put_same, put_put, inV_nil, inV_str, cxK, atI_0, atI_1, atI_2, atI_3, ixN_30, ixN_31, ixN_32, List.map, List.replicate, List.length_cons, List.length_nil, List.nil_append, List.cons_append, List.append_nil, Nat.reduceSub, Nat.reduceAdd, List.getElem?_cons_zero, List.getElem?_cons_succ, List.set_cons_zero, List.set_cons_succ, List.cons.injEq, Option.some.injEq, V.int.injEq, V.str.injEq, V.bl.injEq, D.int.injEq, D.str.injEq, D.bl.injEq, D.ref.injEq, D.tup.injEq, D.lst.injEq, D.ty.injEq, AO.lst.injEq, AO.dct.injEq, AO.ins.injEq, Prod.mk.injEq, exists_eq_left, exists_eq_left', exists_eq_right, exists_eq_right', exists_and_left, exists_and_right, true_and, and_true, and_self, if_true, if_false, Bool.false_eq_true, Bool.true_eq_false, eq_self, reduceCtorEq, false_and, and_false, and_assoc, Int.reduceToNat, Int.reducePow, Int.reduceMul, Int.reduceAdd, Int.reduceNeg, Int.reduceSub, String.reduceEq, String.reduceNe, ne_eq, not_false_eq_true, not_true_eq_false, decide_false, decide_true, Bool.not_false, Bool.not_true, Bool.or_false, Bool.false_or, Bool.or_true, Bool.true_or, Bool.and_true, Bool.true_and, Bool.and_self, Bool.and_false, Bool.false_and, exists_eq', exists_eq, exists_const, false_or, or_false, or_self, List.all_cons, List.all_nil, List.any_cons, List.any_nil, Nat.reduceLeDiff, exists_false, List.map_nil, List.map_cons, Option.map_some, Option.isSome_some, Option.isSome_none, Option.getD_some, Option.getD_none, implies_true, List.foldl_cons, List.foldl_nil, forall_const, ofS_eq, Int.reduceLT, Int.reduceLE, Nat.reduceLT]; exact fin_id k
  | bl b => simp only [↓RD, RU, aStart, wipeA, putFA, toP, toPs, scDs, valD_nil, valD_cons, putM_eq, mergeD_eq, keysOk, aHandle, endsAA, putAA, starSp, put_same, put_put, inV_nil, inV_str, cxK, atI_0, atI_1, atI_2, atI_3, ixN_30, ixN_31, ixN_32, List.map, List.replicate, List.length_cons, List.length_nil, List.nil_append, List.cons_append, List.append_nil, Nat.reduceSub, Nat.reduceAdd, List.getElem?_cons_zero, List.getElem?_cons_succ, List.set_cons_zero, List.set_cons_succ, List.cons.injEq, Option.some.injEq, V.int.injEq, V.str.injEq, V.bl.injEq, D.int.injEq, D.str.injEq, D.bl.injEq, D.ref.injEq, D.tup.injEq, D.lst.injEq, D.ty.injEq, AO.lst.injEq, AO.dct.injEq, AO.ins.injEq, Prod.mk.injEq, exists_eq_left, exists_eq_left', exists_eq_right, exists_eq_right', exists_and_left, exists_and_right, true_and, and_true, and_self, if_true, if_false, Bool.false_eq_true, Bool.true_eq_false, eq_self, reduceCtorEq, false_and, and_false, and_assoc, Int.reduceToNat, Int.reducePow, Int.reduceMul, Int.reduceAdd, Int.reduceNeg, Int.reduceSub, String.reduceEq, String.reduceNe, ne_eq, not_false_eq_true, not_true_eq_false, decide_false, decide_true, Bool.not_false, Bool.not_true, Bool.or_false, Bool.false_or, Bool.or_true, Bool.true_or, Bool.and_true, Bool.true_and, Bool.and_self, Bool.and_false, Bool.false_and, exists_eq', exists_eq, exists_const, false_or, or_false, or_self, List.all_cons, List.all_nil, List.any_cons, List.any_nil, Nat.reduceLeDiff, exists_false, List.map_nil, List.map_cons, Option.map_some, Option.isSome_some, Option.isSome_none, Option.getD_some, Option.getD_none, implies_true, List.foldl_cons, List.foldl_nil, forall_const, ofS_eq, Int.reduceLT, Int.reduceLE, Nat.reduceLT]; exact fin_id k
  | int i => simp only [↓RD, RU, aStart, wipeA, putFA, toP, toPs, scDs, valD_nil, valD_cons, putM_eq, mergeD_eq, keysOk, aHandle, endsAA, putAA, starSp, put_same, put_put, inV_nil, inV_str, cxK, atI_0, atI_1, atI_2, atI_3, ixN_30, ixN_31, ixN_32, List.map, List.replicate, List.length_cons, List.length_nil, List.nil_append, List.cons_append, List.append_nil, Nat.reduceSub, Nat.reduceAdd, List.getElem?_cons_zero, List.getElem?_cons_succ, List.set_cons_zero, List.set_cons_succ, List.cons.injEq, Option.some.injEq, V.int.injEq, V.str.injEq, V.bl.injEq, D.int.injEq, D.str.injEq, D.bl.injEq, D.ref.injEq, D.tup.injEq, D.lst.injEq, D.ty.injEq, AO.lst.injEq, AO.dct.injEq, AO.ins.injEq, Prod.mk.injEq, exists_eq_left, exists_eq_left', exists_eq_right, exists_eq_right', exists_and_left, exists_and_right, true_and, and_true, and_self, if_true, if_false, Bool.false_eq_true, Bool.true_eq_false, eq_self, reduceCtorEq, false_and, and_false, and_assoc, Int.reduceToNat, Int.reducePow, Int.reduceMul, Int.reduceAdd, Int.reduceNeg, Int.reduceSub, String.reduceEq, String.reduceNe, ne_eq, not_false_eq_true, not_true_eq_false, decide_false, decide_true, Bool.not_false, Bool.not_true, Bool.or_false, Bool.false_or, Bool.or_true, Bool.true_or, Bool.and_true, Bool.true_and, Bool.and_self, Bool.and_false, Bool.false_and, exists_eq', exists_eq, exists_const, false_or, or_false, or_self, List.all_cons, List.all_nil, List.any_cons, List.any_nil, Nat.reduceLeDiff, exists_false, List.map_nil, List.map_cons, Option.map_some, Option.isSome_some, Option.isSome_none, Option.getD_some, Option.getD_none, implies_true, List.foldl_cons, List.foldl_nil, forall_const, ofS_eq, Int.reduceLT, Int.reduceLE, Nat.reduceLT]; exact fin_id k
  | str x => simp only [↓RD, RU, aStart, wipeA, putFA, toP, toPs, scDs, valD_nil, valD_cons, putM_eq, mergeD_eq, keysOk, aHandle, endsAA, putAA, starSp, put_same, put_put, inV_nil, inV_str, cxK, atI_0, atI_1, atI_2, atI_3, ixN_30, ixN_31, ixN_32, List.map, List.replicate, List.length_cons, List.length_nil, List.nil_append, List.cons_append, List.append_nil, Nat.reduceSub, Nat.reduceAdd, List.getElem?_cons_zero, List.getElem?_cons_succ, List.set_cons_zero, List.set_cons_succ, List.cons.injEq, Option.some.injEq, V.int.injEq, V.str.injEq, V.bl.injEq, D.int.injEq, D.str.injEq, D.bl.injEq, D.ref.injEq, D.tup.injEq, D.lst.injEq, D.ty.injEq, AO.lst.injEq, AO.dct.injEq, AO.ins.injEq, Prod.mk.injEq, exists_eq_left, exists_eq_left', exists_eq_right, exists_eq_right', exists_and_left, exists_and_right, true_and, and_true, and_self, if_true, if_false, Bool.false_eq_true, Bool.true_eq_false, eq_self, reduceCtorEq, false_and, and_false, and_assoc, Int.reduceToNat, Int.reducePow, Int.reduceMul, Int.reduceAdd, Int.reduceNeg, Int.reduceSub, String.reduceEq, String.reduceNe, ne_eq, not_false_eq_true, not_true_eq_false, decide_false, decide_true, Bool.not_false, Bool.not_true, Bool.or_false, Bool.false_or, Bool.or_true, Bool.true_or, Bool.and_true, Bool.true_and, Bool.and_self, Bool.and_false, Bool.false_and, exists_eq', exists_eq, exists_const, false_or, or_false, or_self, List.all_cons, List.all_nil, List.any_cons, List.any_nil, Nat.reduceLeDiff, exists_false, List.map_nil, List.map_cons, Option.map_some, Option.isSome_some, Option.isSome_none, Option.getD_some, Option.getD_none, implies_true, List.foldl_cons, List.foldl_nil, forall_const, ofS_eq, Int.reduceLT, Int.reduceLE, Nat.reduceLT]; exact fin_id k
  | _ => cases hd
theorem R_l_same {w : World} {K : PySem.W.Frag} {mg : Str → Option Value} {base : Heap} (T : Tx K mg) : FnR Pg w K mg base CX0 5 (He.ga K "_law_same") (liftSp K (sp_l_same 4)) := R_same_step T 3 (R_same_step T 2 (R_same_step T 1 (R_same_step T 0 (R_same0 T))))
/-- what is the same is the same -/
theorem e_same {K : PySem.W.Frag} {d : D} {A : AH} {Q : AQ} {E : AX} {tg : Tag (Q, E)} (h : dpt 4 d = true) (q : Q (.bl true) A) : Call (sp_l_same 4) [d, d] A Q E tg := ⟨d, rfl, h, q⟩

end V35

set_option Elab.async false
set_option linter.all false
set_option maxRecDepth 100000
set_option maxHeartbeats 4000000
namespace V35
open PySem PySem.Spec PyProof.Rows L2 My Av
def Mk (m : Str) : Prop := m = "whole" ∨ m = "out" ∨ m = "in" ∨ m = "both" ∨ m = "closed"
def W8 (w : Str) : Prop := w = "ask" ∨ w = "begin" ∨ w = "finish" ∨ w = "read" ∨ w = "head" ∨ w = "body" ∨ w = "drain" ∨ w = "close"
structure GoodS (S : LS) : Prop where
  mm : Mk S.m
  hd : isIn S.m = true → S.q ≠ []
def stepQ (w : Str) (ts : List Str) (S : LS) : List Str := if w = "ask" then S.q ++ ts else if w = "finish" then S.q ++ [S.g] else if w = "read" ∨ w = "body" then S.q.tail else S.q
def stepS (w : Str) (ts : List Str) (why : D) (S : LS) : LS := if w = "close" then closeS why S else if w = "drain" then { S with m := markAfter "drain" S.m, q := [] } else if rowF w S.m (S.q.length : Int) = none then { S with m := markAfter w S.m, q := stepQ w ts S, g := if w = "begin" then ts.headD "" else S.g } else S
def fauR (S : LS) (f : Option Str) : D := .tup [fD f, if f = some ("amid" : Str) then .str S.m else .int S.n]
def stepR (w : Str) (S : LS) : D := if w = "close" then .tup [.str "told", .non] else if w = "drain" then .tup [.str "told", .lst (S.q.map D.str)] else if rowF w S.m (S.q.length : Int) = none then .tup [.str "told", if w = "read" ∨ w = "head" ∨ w = "body" then .str (S.q.headD "") else .non] else fauR S (rowF w S.m (S.q.length : Int))
def sp_l_fault (_ : PySem.W.Frag) : ASp := fun ds A Q _ => ∃ (w m : Str) (n : Nat), ds = [.str w, .str m, .int (n : Int)] ∧ W6 w ∧ Q (rowFault w m n) A
theorem R_l_fault {w : World} {K : PySem.W.Frag} {mg : Str → Option Value} {base : Heap} (T : Tx K mg) : FnR Pg w K mg base CX0 1 (He.ga K "_law_fault") (liftSp K (sp_l_fault K)) := by
  obtain ⟨fd, F⟩ := T.d_l_fault
  refine Av.FunD.AR F sc_l_fault (fun ds A Q E h => by obtain ⟨w', m, n, rfl, hw, k⟩ := h; rfl) (fun _ _ _ _ _ _ us hl => match us, hl with | [_, _, _], _ => rfl) (fun cdv A0 outer s H0 E0 ds A Q E hr h => ?_)
  obtain ⟨w', m, n, rfl, hw, k⟩ := h
  refine ⟨_, (ass_cons (as_if (at_notInT (ae_var (pv 0)) (aa_cons ae_str (aa_cons ae_str (aa_cons ae_str (aa_cons ae_str (aa_cons ae_str (aa_cons ae_str aa_nil))))))) (ass_one (as_ret ae_non)) ass_nil)
      (ass_cons (as_if (at_cmpA (cmp_eq hr.units) (ae_var (pv 1)) ae_str (nomark _)) (ass_one (as_ret ae_str)) ass_nil)
      (ass_cons (as_par2 (i := 3) (j := 4) (by rfl) sc_l_fault.nd rfl rfl (by decide) rfl rfl (aa_cons (ae_inT (ae_var (pv 1)) (aa_cons ae_str (aa_cons ae_str aa_nil))) (aa_cons (ae_inT (ae_var (pv 1)) (aa_cons ae_str (aa_cons ae_str aa_nil))) aa_nil)) (by rfl))
      (ass_cons (as_set (i := 5) sc_l_fault.nd rfl (by first | exact Or.inl rfl | exact Or.inr rfl) (ae_disp false (l := [(_, _), (_, _), (_, _), (_, _), (_, _)]) (pps_cons ae_str (ae_var (pv 3)) (pps_cons ae_str (ae_var (pv 3)) (pps_cons ae_str (ae_not (ae_var (pv 3))) (pps_cons ae_str (ae_var (pv 4)) (pps_cons ae_str (ae_var (pv 4)) pps_nil))))) (by rfl) (by rfl) (fun z => by cases z) (by decide)))
      (ass_cons (as_if (at_truth (ae_dget2 (hu_of hr) (ae_var (pv 5)) (ae_var (pv 0)) (ae_not (ae_var (pv 4))) ⟨rfl, rfl, rfl, rfl⟩)) (ass_one (as_ret ae_str)) ass_nil)
      (ass_one (as_ret (ae_if (PW.pt (aw_and (at_inT (ae_var (pv 0)) (aa_cons ae_str (aa_cons ae_str aa_nil))) (aw_and1 (at_cmpA (cmp_eq hr.units) (ae_var (pv 2)) ae_int (nomark _))))) ae_str ae_non)))))))), ?_⟩
  have k := fin_id k
  have hn : (decide ((n : Int) = 0)) = decide ((n : Int) < 1) := by
    by_cases h : n = 0
    · simp [h]
    · have : ¬ ((n : Int) < 1) := by omega
      simp [h, this]
  rw [rowFault_eq] at k
  rcases hw with rfl | rfl | rfl | rfl | rfl | rfl <;> simp only [↓RD, RU, aStart, wipeA, putFA, toP, toPs, scDs, valD_nil, valD_cons, putM_eq, mergeD_eq, keysOk, aHandle, endsAA, putAA, starSp, put_same, put_put, inV_nil, inV_str, cxK, atI_0, atI_1, atI_2, atI_3, ixN_30, ixN_31, ixN_32, List.map, List.replicate, List.length_cons, List.length_nil, List.nil_append, List.cons_append, List.append_nil, Nat.reduceSub, Nat.reduceAdd, List.getElem?_cons_zero, List.getElem?_cons_succ, List.set_cons_zero, List.set_cons_succ, List.cons.injEq, Option.some.injEq, V.int.injEq, V.str.injEq, V.bl.injEq, D.int.injEq, D.str.injEq, D.bl.injEq, D.ref.injEq, D.tup.injEq, D.lst.injEq, D.ty.injEq, AO.lst.injEq, AO.dct.injEq, AO.ins.injEq, Prod.mk.injEq, exists_eq_left, exists_eq_left', exists_eq_right, exists_eq_right', exists_and_left, exists_and_right, true_and, and_true, and_self, if_true, if_false, Bool.false_eq_true, Bool.true_eq_false, eq_self, reduceCtorEq, false_and, and_false, and_assoc, Int.reduceToNat, Int.reducePow, Int.reduceMul, Int.reduceAdd, Int.reduceNeg, Int.reduceSub, String.reduceEq, String.reduceNe, ne_eq, not_false_eq_true, not_true_eq_false, decide_false, decide_true, Bool.not_false, Bool.not_true, Bool.or_false, Bool.false_or, Bool.or_true, Bool.true_or, Bool.and_true, Bool.true_and, Bool.and_self, Bool.and_false, Bool.false_and, exists_eq', exists_eq, exists_const, false_or, or_false, or_self, List.all_cons, List.all_nil, List.any_cons, List.any_nil, Nat.reduceLeDiff, exists_false, List.map_nil, List.map_cons, Option.map_some, Option.isSome_some, Option.isSome_none, Option.getD_some, Option.getD_none, implies_true, List.foldl_cons, List.foldl_nil, forall_const, ofS_eq, Int.reduceLT, Int.reduceLE, Nat.reduceLT, hn] <;> simp only [isAmid, isIn, isOut, ofS_eq, String.reduceEq, or_false, false_or, true_or, or_true, or_self, if_true, if_false, true_and, false_and, decide_eq_true_eq, Bool.or_eq_true, Bool.not_eq_true', Bool.or_eq_false_iff, decide_eq_false_iff_not] at k ⊢ <;> repeat' split
  all_goals simp_all
def sp_l_mark (_ : PySem.W.Frag) : ASp := fun ds A Q _ => ∃ (w m : Str), ds = [.str w, .str m] ∧ W8 w ∧ Mk m ∧ Q (.str (markAfter w m)) A
theorem R_l_mark {w : World} {K : PySem.W.Frag} {mg : Str → Option Value} {base : Heap} (T : Tx K mg) : FnR Pg w K mg base CX0 1 (He.ga K "_law_mark") (liftSp K (sp_l_mark K)) := by
  obtain ⟨fd, F⟩ := T.d_l_mark
  refine Av.FunD.AR F sc_l_mark (fun ds A Q E h => by obtain ⟨w', m, rfl, hw, hm, k⟩ := h; rfl) (fun _ _ _ _ _ _ us hl => match us, hl with | [_, _], _ => rfl) (fun cdv A0 outer s H0 E0 ds A Q E hr h => ?_)
  obtain ⟨w', m, rfl, hw, hm, k⟩ := h
  refine ⟨_, (ass_cons (as_if (PW.pt (aw_or (at_cmpA (cmp_eq hr.units) (ae_var (pv 1)) ae_str (nomark _)) (aw_or1 (at_cmpA (cmp_eq hr.units) (ae_var (pv 0)) ae_str (nomark _))))) (ass_one (as_ret ae_str)) ass_nil)
      (ass_cons (as_par2 (i := 2) (j := 3) (by rfl) sc_l_mark.nd rfl rfl (by decide) rfl rfl (aa_cons (ae_inT (ae_var (pv 1)) (aa_cons ae_str (aa_cons ae_str aa_nil))) (aa_cons (ae_inT (ae_var (pv 1)) (aa_cons ae_str (aa_cons ae_str aa_nil))) aa_nil)) (by rfl))
      (ass_cons (as_if (at_inT (ae_var (pv 0)) (aa_cons ae_str (aa_cons ae_str aa_nil))) (ass_one (as_set (i := 2) sc_l_mark.nd rfl (by first | exact Or.inl rfl | exact Or.inr rfl) (ae_cmpA (cmp_eq hr.units) (ae_var (pv 0)) ae_str (nomark _)))) ass_nil)
      (ass_cons (as_if (at_inT (ae_var (pv 0)) (aa_cons ae_str (aa_cons ae_str (aa_cons ae_str aa_nil)))) (ass_one (as_set (i := 3) sc_l_mark.nd rfl (by first | exact Or.inl rfl | exact Or.inr rfl) (ae_cmpA (cmp_eq hr.units) (ae_var (pv 0)) ae_str (nomark _)))) ass_nil)
      (ass_one (as_ret (ae_subs (ae_subs (ae_lst false (aa_cons (ae_lst false (aa_cons ae_str (aa_cons ae_str aa_nil))) (aa_cons (ae_lst false (aa_cons ae_str (aa_cons ae_str aa_nil))) aa_nil))) (ae_callTy ca_int (by rfl) T.n_int (by decide +kernel) (aa_cons (ae_var (pv 2)) aa_nil)) (fun _ _ => rfl)) (ae_callTy ca_int (by rfl) T.n_int (by decide +kernel) (aa_cons (ae_var (pv 3)) aa_nil)) (fun _ _ => rfl)))))))), ?_⟩
  have k := fin_id k
  rcases hw with rfl | rfl | rfl | rfl | rfl | rfl | rfl | rfl <;> rcases hm with rfl | rfl | rfl | rfl | rfl <;> simp only [↓RD, RU, aStart, wipeA, putFA, toP, toPs, scDs, valD_nil, valD_cons, putM_eq, mergeD_eq, keysOk, aHandle, endsAA, putAA, starSp, put_same, put_put, inV_nil, inV_str, cxK, atI_0, atI_1, atI_2, atI_3, ixN_30, ixN_31, ixN_32, List.map, List.replicate, List.length_cons, List.length_nil, List.nil_append, List.cons_append, List.append_nil, Nat.reduceSub, Nat.reduceAdd, List.getElem?_cons_zero, List.getElem?_cons_succ, List.set_cons_zero, List.set_cons_succ, List.cons.injEq, Option.some.injEq, V.int.injEq, V.str.injEq, V.bl.injEq, D.int.injEq, D.str.injEq, D.bl.injEq, D.ref.injEq, D.tup.injEq, D.lst.injEq, D.ty.injEq, AO.lst.injEq, AO.dct.injEq, AO.ins.injEq, Prod.mk.injEq, exists_eq_left, exists_eq_left', exists_eq_right, exists_eq_right', exists_and_left, exists_and_right, true_and, and_true, and_self, if_true, if_false, Bool.false_eq_true, Bool.true_eq_false, eq_self, reduceCtorEq, false_and, and_false, and_assoc, Int.reduceToNat, Int.reducePow, Int.reduceMul, Int.reduceAdd, Int.reduceNeg, Int.reduceSub, String.reduceEq, String.reduceNe, ne_eq, not_false_eq_true, not_true_eq_false, decide_false, decide_true, Bool.not_false, Bool.not_true, Bool.or_false, Bool.false_or, Bool.or_true, Bool.true_or, Bool.and_true, Bool.true_and, Bool.and_self, Bool.and_false, Bool.false_and, exists_eq', exists_eq, exists_const, false_or, or_false, or_self, List.all_cons, List.all_nil, List.any_cons, List.any_nil, Nat.reduceLeDiff, exists_false, List.map_nil, List.map_cons, Option.map_some, Option.isSome_some, Option.isSome_none, Option.getD_some, Option.getD_none, implies_true, List.foldl_cons, List.foldl_nil, forall_const, ofS_eq, Int.reduceLT, Int.reduceLE, Nat.reduceLT] <;> simpa [markAfter, markOf, isIn, isOut, ofS_eq] using k
def nowD (S : LS) (g : D) : List (D × D) := [(.str "number", .int S.n), (.str "mark", .str S.m), (.str "queue", .lst (S.q.map D.str)), (.str "begun", g), (.str "cause", S.c)]
def sp_l_new (_ : PySem.W.Frag) : ASp := fun ds A Q _ => ∃ n : Int, ds = [.int n] ∧ ∀ d, A d = none → Q (.ref d) (put A d (.dct (nowD (newS n) .non)))
theorem R_l_new {w : World} {K : PySem.W.Frag} {mg : Str → Option Value} {base : Heap} (T : Tx K mg) : FnR Pg w K mg base CX0 1 (He.ga K "_law_new") (liftSp K (sp_l_new K)) := by
  obtain ⟨fd, F⟩ := T.d_l_new
  refine Av.FunD.AR F sc_l_new (fun ds A Q E h => by obtain ⟨n, rfl, k⟩ := h; rfl) (fun _ _ _ _ _ _ us hl => match us, hl with | [_], _ => rfl) (fun cdv A0 outer s H0 E0 ds A Q E hr h => ?_)
  obtain ⟨n, rfl, k⟩ := h
  refine ⟨_, (ass_one (as_ret (ae_disp true (l := [(_, _), (_, _), (_, _), (_, _), (_, _)]) (pps_cons ae_str (ae_var (pv 0)) (pps_cons ae_str ae_str (pps_cons ae_str (ae_lst false aa_nil) (pps_cons ae_str ae_non (pps_cons ae_str ae_non pps_nil))))) (by rfl) (by rfl) (fun z => by cases z) (by decide)))), ?_⟩
  simp only [↓RD, RU, aStart, wipeA, putFA, toP, toPs, scDs, valD_nil, valD_cons, putM_eq, mergeD_eq, keysOk, aHandle, endsAA, putAA, starSp, put_same, put_put, inV_nil, inV_str, cxK, atI_0, atI_1, atI_2, atI_3, ixN_30, ixN_31, ixN_32, List.map, List.replicate, List.length_cons, List.length_nil, List.nil_append, List.cons_append, List.append_nil, Nat.reduceSub, Nat.reduceAdd, List.getElem?_cons_zero, List.getElem?_cons_succ, List.set_cons_zero, List.set_cons_succ, List.cons.injEq, Option.some.injEq, V.int.injEq, V.str.injEq, V.bl.injEq, D.int.injEq, D.str.injEq, D.bl.injEq, D.ref.injEq, D.tup.injEq, D.lst.injEq, D.ty.injEq, AO.lst.injEq, AO.dct.injEq, AO.ins.injEq, Prod.mk.injEq, exists_eq_left, exists_eq_left', exists_eq_right, exists_eq_right', exists_and_left, exists_and_right, true_and, and_true, and_self, if_true, if_false, Bool.false_eq_true, Bool.true_eq_false, eq_self, reduceCtorEq, false_and, and_false, and_assoc, Int.reduceToNat, Int.reducePow, Int.reduceMul, Int.reduceAdd, Int.reduceNeg, Int.reduceSub, String.reduceEq, String.reduceNe, ne_eq, not_false_eq_true, not_true_eq_false, decide_false, decide_true, Bool.not_false, Bool.not_true, Bool.or_false, Bool.false_or, Bool.or_true, Bool.true_or, Bool.and_true, Bool.true_and, Bool.and_self, Bool.and_false, Bool.false_and, exists_eq', exists_eq, exists_const, false_or, or_false, or_self, List.all_cons, List.all_nil, List.any_cons, List.any_nil, Nat.reduceLeDiff, exists_false, List.map_nil, List.map_cons, Option.map_some, Option.isSome_some, Option.isSome_none, Option.getD_some, Option.getD_none, implies_true, List.foldl_cons, List.foldl_nil, forall_const, ofS_eq, Int.reduceLT, Int.reduceLE, Nat.reduceLT]
  intro p hp
  exact fin_id (k p hp)
section
variable (S : LS) (g v : D)
theorem nv_number : valD (nowD S g) (.str "number") = some (.int S.n) := by simp [nowD, valD, keyEq, ofS_eq]
theorem nv_mark : valD (nowD S g) (.str "mark") = some (.str S.m) := by simp [nowD, valD, keyEq, ofS_eq]
theorem nv_queue : valD (nowD S g) (.str "queue") = some (.lst (S.q.map D.str)) := by simp [nowD, valD, keyEq, ofS_eq]
theorem nv_begun : valD (nowD S g) (.str "begun") = some g := by simp [nowD, valD, keyEq, ofS_eq]
theorem nv_cause : valD (nowD S g) (.str "cause") = some S.c := by simp [nowD, valD, keyEq, ofS_eq]
theorem np_mark (m : Str) : putD (nowD S g) (.str "mark") (.str m) = nowD { S with m := m } g := by simp [nowD, putD, keyEq, ofS_eq]
theorem np_queue (q : List Str) : putD (nowD S g) (.str "queue") (.lst (q.map D.str)) = nowD { S with q := q } g := by simp [nowD, putD, keyEq, ofS_eq]
theorem np_begun : putD (nowD S g) (.str "begun") v = nowD S v := by simp [nowD, putD, keyEq, ofS_eq]
theorem np_cause : putD (nowD S g) (.str "cause") v = nowD { S with c := v } g := by simp [nowD, putD, keyEq, ofS_eq]
theorem n_len : (nowD S g).length = 5 := rfl
end
theorem five : 5 < sizeLine := by decide

end V35

set_option Elab.async false
set_option linter.all false
set_option maxRecDepth 100000
set_option maxHeartbeats 4000000
namespace V35
open PySem PySem.Spec PyProof.Rows L2 My Av
def sp_l_due (_ : PySem.W.Frag) : ASp := fun ds A Q _ => ∃ (d : Addr) (S : LS) (g : D) (w : Str) (ts : List Str) (why : D), ds = [.ref d, .str w, .lst (List.map D.str ts), why] ∧ A d = some (.dct (nowD S g)) ∧ W8 w ∧ GoodS S ∧ (isOut S.m = true → g = .str S.g) ∧ (w = "begin" → ts ≠ []) ∧ S.q.length + ts.length < 100000 ∧
  ∀ g', (isOut (stepS w ts why S).m = true → g' = .str (stepS w ts why S).g) → Q (stepR w S) (put A d (.dct (nowD (stepS w ts why S) g')))
theorem w8_cases {w : Str} (h : W8 w) : w = "close" ∨ w = "drain" ∨ (W6 w ∧ ¬ w = "close" ∧ ¬ w = "drain") := by
  rcases h with rfl | rfl | rfl | rfl | rfl | rfl | rfl | rfl <;> simp [W6, ofS_eq]
theorem tl_cut {xs : List D} : Av.cutD xs (some 1) none = xs.tail := by
  unfold Av.cutD HT.sIx
  cases xs with
  | nil => rfl
  | cons x xs => simp
theorem ma_w {m : Str} : markAfter "ask" m = markAfter "read" m := by unfold markAfter; simp [ofS_eq]
theorem out_begin {m : Str} (h : rowF "begin" m 0 = none) : True := trivial
theorem io_mk (a b : Bool) : isOut (markOf a b) = a := by cases a <;> cases b <;> decide
theorem m_out {w m : Str} (h1 : ¬ w = "begin") (h : isOut (markAfter w m) = true) : isOut m = true := by
  unfold markAfter at h
  split at h
  · exact absurd h (by decide)
  · split at h
    · rw [io_mk] at h; cases h
    · split at h
      · rw [io_mk] at h; exact h
      · split at h
        · rw [io_mk] at h; exact h
        · exact h
theorem rf_n {w m : Str} {n n' : Int} (h1 : ¬ (w = "read" ∨ w = "head")) : rowF w m n = rowF w m n' := by
  unfold rowF
  rw [if_neg (fun z => h1 z.1 : ¬ ((w = "read" ∨ w = "head") ∧ n < 1)), if_neg (fun z => h1 z.1 : ¬ ((w = "read" ∨ w = "head") ∧ n' < 1))]
theorem rf_open {w m : Str} {n : Int} (h : rowF w m n = none) : ¬ m = "closed" := by
  intro e
  unfold rowF at h
  rw [if_pos e] at h
  cases h
theorem R_l_due {w : World} {K : PySem.W.Frag} {mg : Str → Option Value} {base : Heap} (T : Tx K mg) : FnR Pg w K mg base CX0 3 (He.ga K "_law_due") (liftSp K (sp_l_due K)) := by
  obtain ⟨fd, F⟩ := T.d_l_due
  refine Av.FunD.AR F sc_l_due (fun ds A Q E h => by obtain ⟨d, S, g, w', ts, why, rfl, hd, hw, hG, hg, hb, hz, k⟩ := h; rfl) (fun _ _ _ _ _ _ us hl => match us, hl with | [_, _, _, _], _ => rfl) (fun cdv A0 outer s H0 E0 ds A Q E hr h => ?_)
  obtain ⟨d, S, g, w', ts, why, rfl, hd, hw, hG, hg, hb, hz, k⟩ := h
  refine ⟨_, (ass_cons (as_par2 (i := 4) (j := 5) (by rfl) sc_l_due.nd rfl rfl (by decide) rfl rfl (aa_cons (ae_dget (hu_of hr) (ae_var (pv 0)) ae_str (fun _ _ => rfl)) (aa_cons (ae_dget (hu_of hr) (ae_var (pv 0)) ae_str (fun _ _ => rfl)) aa_nil)) (by rfl))
      (ass_cons (as_if (at_cmpA (cmp_eq hr.units) (ae_var (pv 1)) ae_str (nomark _)) (ass_cons (as_if (at_cmpA (cmp_ne hr.units) (ae_var (pv 5)) ae_str (nomark _)) (ass_one (as_asgG (ae_tup (aa_cons ae_str (aa_cons (ae_var (pv 3)) (aa_cons (ae_lst false aa_nil) aa_nil)))) (ag_tp (n := 3) rfl (ags_cons (ag_dk (hu_of hr) (ae_var (pv 0)) ae_str) (ags_cons (ag_dk (hu_of hr) (ae_var (pv 0)) ae_str) (ags_cons (ag_dk (hu_of hr) (ae_var (pv 0)) ae_str) ags_nil)))))) ass_nil)
      (ass_one (as_ret (ae_tup (aa_cons ae_str (aa_cons ae_non aa_nil)))))) ass_nil)
      (ass_cons (as_if (at_cmpA (cmp_eq hr.units) (ae_var (pv 1)) ae_str (nomark _)) (ass_cons (as_asgG (ae_tup (aa_cons (ae_callR (R_l_mark T) (hr.mono (by decide)) rfl T.g__law_mark T.k__law_mark (aa_cons (ae_var (pv 1)) (aa_cons (ae_var (pv 5)) aa_nil))) (aa_cons (ae_lst false aa_nil) aa_nil))) (ag_tp (n := 2) rfl (ags_cons (ag_dk (hu_of hr) (ae_var (pv 0)) ae_str) (ags_cons (ag_dk (hu_of hr) (ae_var (pv 0)) ae_str) ags_nil))))
      (ass_one (as_ret (ae_tup (aa_cons ae_str (aa_cons (ae_callTy (ca_list false) (by rfl) T.n_list (by decide +kernel) (aa_cons (ae_var (pv 4)) aa_nil)) aa_nil)))))) ass_nil)
      (ass_cons (as_set (i := 6) sc_l_due.nd rfl (by first | exact Or.inl rfl | exact Or.inr rfl) (ae_callR (R_l_fault T) (hr.mono (by decide)) rfl T.g__law_fault T.k__law_fault (aa_cons (ae_var (pv 1)) (aa_cons (ae_var (pv 5)) (aa_cons (ae_callB ca_len (by rfl) T.n_len (by decide +kernel) (aa_cons (ae_var (pv 4)) aa_nil)) aa_nil)))))
      (ass_cons (as_if (at_cmpA cmp_isnt (ae_var (pv 6)) ae_non (nomark _)) (ass_one (as_ret (ae_tup (aa_cons (ae_var (pv 6)) (aa_cons (ae_if (at_cmpA (cmp_eq hr.units) (ae_var (pv 6)) ae_str (nomark _)) (ae_var (pv 5)) (ae_dget (hu_of hr) (ae_var (pv 0)) ae_str (fun _ _ => rfl))) aa_nil))))) ass_nil)
      (ass_cons (as_dput (hu_of hr) (ae_var (pv 0)) ae_str (ae_callR (R_l_mark T) (hr.mono (by decide)) rfl T.g__law_mark T.k__law_mark (aa_cons (ae_var (pv 1)) (aa_cons (ae_var (pv 5)) aa_nil))) rfl)
      (ass_cons (as_if (at_cmpA (cmp_eq hr.units) (ae_var (pv 1)) ae_str (nomark _)) (ass_one (as_dput (hu_of hr) (ae_var (pv 0)) ae_str (ae_add false (ae_var (pv 4)) (ae_var (pv 2))) rfl)) ass_nil)
      (ass_cons (as_if (at_cmpA (cmp_eq hr.units) (ae_var (pv 1)) ae_str (nomark _)) (ass_one (as_dput (hu_of hr) (ae_var (pv 0)) ae_str (ae_subs (ae_var (pv 2)) ae_int (fun _ _ => rfl)) rfl)) ass_nil)
      (ass_cons (as_if (at_cmpA (cmp_eq hr.units) (ae_var (pv 1)) ae_str (nomark _)) (ass_one (as_dput (hu_of hr) (ae_var (pv 0)) ae_str (ae_add false (ae_var (pv 4)) (ae_lst false (aa_cons (ae_dget (hu_of hr) (ae_var (pv 0)) ae_str (fun _ _ => rfl)) aa_nil))) rfl)) ass_nil)
      (ass_cons (as_if (at_inT (ae_var (pv 1)) (aa_cons ae_str (aa_cons ae_str aa_nil))) (ass_one (as_dput (hu_of hr) (ae_var (pv 0)) ae_str (ae_slice false (ae_var (pv 4)) (ao_some ae_int) ao_none) rfl)) ass_nil)
      (ass_one (as_ret (ae_tup (aa_cons ae_str (aa_cons (ae_if (at_inT (ae_var (pv 1)) (aa_cons ae_str (aa_cons ae_str (aa_cons ae_str aa_nil)))) (ae_subs (ae_var (pv 4)) ae_int (fun _ _ => rfl)) ae_non) aa_nil))))))))))))))), ?_⟩
  have fvs := five
  have mapl : (List.map D.str S.q).length = S.q.length := List.length_map ..
  rcases w8_cases hw with rfl | rfl | ⟨h6, hc, hdr⟩
  · simp only [↓RD, RU, aStart, wipeA, putFA, toP, toPs, scDs, valD_nil, valD_cons, putM_eq, mergeD_eq, keysOk, aHandle, endsAA, putAA, starSp, put_same, put_put, inV_nil, inV_str, cxK, atI_0, atI_1, atI_2, atI_3, ixN_30, ixN_31, ixN_32, List.map, List.replicate, List.length_cons, List.length_nil, List.nil_append, List.cons_append, List.append_nil, Nat.reduceSub, Nat.reduceAdd, List.getElem?_cons_zero, List.getElem?_cons_succ, List.set_cons_zero, List.set_cons_succ, List.cons.injEq, Option.some.injEq, V.int.injEq, V.str.injEq, V.bl.injEq, D.int.injEq, D.str.injEq, D.bl.injEq, D.ref.injEq, D.tup.injEq, D.lst.injEq, D.ty.injEq, AO.lst.injEq, AO.dct.injEq, AO.ins.injEq, Prod.mk.injEq, exists_eq_left, exists_eq_left', exists_eq_right, exists_eq_right', exists_and_left, exists_and_right, true_and, and_true, and_self, if_true, if_false, Bool.false_eq_true, Bool.true_eq_false, eq_self, reduceCtorEq, false_and, and_false, and_assoc, Int.reduceToNat, Int.reducePow, Int.reduceMul, Int.reduceAdd, Int.reduceNeg, Int.reduceSub, String.reduceEq, String.reduceNe, ne_eq, not_false_eq_true, not_true_eq_false, decide_false, decide_true, Bool.not_false, Bool.not_true, Bool.or_false, Bool.false_or, Bool.or_true, Bool.true_or, Bool.and_true, Bool.true_and, Bool.and_self, Bool.and_false, Bool.false_and, exists_eq', exists_eq, exists_const, false_or, or_false, or_self, List.all_cons, List.all_nil, List.any_cons, List.any_nil, Nat.reduceLeDiff, exists_false, List.map_nil, List.map_cons, Option.map_some, Option.isSome_some, Option.isSome_none, Option.getD_some, Option.getD_none, implies_true, List.foldl_cons, List.foldl_nil, forall_const, ofS_eq, Int.reduceLT, Int.reduceLE, Nat.reduceLT, hd, nv_queue, nv_mark]
    by_cases h : S.m = "closed"
    · simp only [↓RD, RU, aStart, wipeA, putFA, toP, toPs, scDs, valD_nil, valD_cons, putM_eq, mergeD_eq, keysOk, aHandle, endsAA, putAA, starSp, put_same, put_put, inV_nil, inV_str, cxK, atI_0, atI_1, atI_2, atI_3, ixN_30, ixN_31, ixN_32, List.map, List.replicate, List.length_cons, List.length_nil, List.nil_append, List.cons_append, List.append_nil, Nat.reduceSub, Nat.reduceAdd, List.getElem?_cons_zero, List.getElem?_cons_succ, List.set_cons_zero, List.set_cons_succ, List.cons.injEq, Option.some.injEq, V.int.injEq, V.str.injEq, V.bl.injEq, D.int.injEq, D.str.injEq, D.bl.injEq, D.ref.injEq, D.tup.injEq, D.lst.injEq, D.ty.injEq, AO.lst.injEq, AO.dct.injEq, AO.ins.injEq, Prod.mk.injEq, exists_eq_left, exists_eq_left', exists_eq_right, exists_eq_right', exists_and_left, exists_and_right, true_and, and_true, and_self, if_true, if_false, Bool.false_eq_true, Bool.true_eq_false, eq_self, reduceCtorEq, false_and, and_false, and_assoc, Int.reduceToNat, Int.reducePow, Int.reduceMul, Int.reduceAdd, Int.reduceNeg, Int.reduceSub, String.reduceEq, String.reduceNe, ne_eq, not_false_eq_true, not_true_eq_false, decide_false, decide_true, Bool.not_false, Bool.not_true, Bool.or_false, Bool.false_or, Bool.or_true, Bool.true_or, Bool.and_true, Bool.true_and, Bool.and_self, Bool.and_false, Bool.false_and, exists_eq', exists_eq, exists_const, false_or, or_false, or_self, List.all_cons, List.all_nil, List.any_cons, List.any_nil, Nat.reduceLeDiff, exists_false, List.map_nil, List.map_cons, Option.map_some, Option.isSome_some, Option.isSome_none, Option.getD_some, Option.getD_none, implies_true, List.foldl_cons, List.foldl_nil, forall_const, ofS_eq, Int.reduceLT, Int.reduceLE, Nat.reduceLT, h]
      have := k g (fun z => by rw [stepS, if_pos rfl, closeS, if_pos h, h] at z; exact absurd z (by decide))
      rw [stepS, if_pos rfl, closeS, if_pos h, put_self hd] at this
      exact fin_id this
    · simp only [↓RD, RU, aStart, wipeA, putFA, toP, toPs, scDs, valD_nil, valD_cons, putM_eq, mergeD_eq, keysOk, aHandle, endsAA, putAA, starSp, put_same, put_put, inV_nil, inV_str, cxK, atI_0, atI_1, atI_2, atI_3, ixN_30, ixN_31, ixN_32, List.map, List.replicate, List.length_cons, List.length_nil, List.nil_append, List.cons_append, List.append_nil, Nat.reduceSub, Nat.reduceAdd, List.getElem?_cons_zero, List.getElem?_cons_succ, List.set_cons_zero, List.set_cons_succ, List.cons.injEq, Option.some.injEq, V.int.injEq, V.str.injEq, V.bl.injEq, D.int.injEq, D.str.injEq, D.bl.injEq, D.ref.injEq, D.tup.injEq, D.lst.injEq, D.ty.injEq, AO.lst.injEq, AO.dct.injEq, AO.ins.injEq, Prod.mk.injEq, exists_eq_left, exists_eq_left', exists_eq_right, exists_eq_right', exists_and_left, exists_and_right, true_and, and_true, and_self, if_true, if_false, Bool.false_eq_true, Bool.true_eq_false, eq_self, reduceCtorEq, false_and, and_false, and_assoc, Int.reduceToNat, Int.reducePow, Int.reduceMul, Int.reduceAdd, Int.reduceNeg, Int.reduceSub, String.reduceEq, String.reduceNe, ne_eq, not_false_eq_true, not_true_eq_false, decide_false, decide_true, Bool.not_false, Bool.not_true, Bool.or_false, Bool.false_or, Bool.or_true, Bool.true_or, Bool.and_true, Bool.true_and, Bool.and_self, Bool.and_false, Bool.false_and, exists_eq', exists_eq, exists_const, false_or, or_false, or_self, List.all_cons, List.all_nil, List.any_cons, List.any_nil, Nat.reduceLeDiff, exists_false, List.map_nil, List.map_cons, Option.map_some, Option.isSome_some, Option.isSome_none, Option.getD_some, Option.getD_none, implies_true, List.foldl_cons, List.foldl_nil, forall_const, ofS_eq, Int.reduceLT, Int.reduceLE, Nat.reduceLT, h, hd, np_mark, np_cause, n_len, fvs]
      have e0 : ([] : List D) = List.map D.str [] := rfl
      rw [e0, np_queue]
      have := k g (fun z => by rw [stepS, if_pos rfl, closeS, if_neg h] at z; exact absurd (show isOut "closed" = true from z) (by decide))
      rw [stepS, if_pos rfl, closeS, if_neg h] at this
      exact fin_id this
  · simp only [↓RD, RU, aStart, wipeA, putFA, toP, toPs, scDs, valD_nil, valD_cons, putM_eq, mergeD_eq, keysOk, aHandle, endsAA, putAA, starSp, put_same, put_put, inV_nil, inV_str, cxK, atI_0, atI_1, atI_2, atI_3, ixN_30, ixN_31, ixN_32, List.map, List.replicate, List.length_cons, List.length_nil, List.nil_append, List.cons_append, List.append_nil, Nat.reduceSub, Nat.reduceAdd, List.getElem?_cons_zero, List.getElem?_cons_succ, List.set_cons_zero, List.set_cons_succ, List.cons.injEq, Option.some.injEq, V.int.injEq, V.str.injEq, V.bl.injEq, D.int.injEq, D.str.injEq, D.bl.injEq, D.ref.injEq, D.tup.injEq, D.lst.injEq, D.ty.injEq, AO.lst.injEq, AO.dct.injEq, AO.ins.injEq, Prod.mk.injEq, exists_eq_left, exists_eq_left', exists_eq_right, exists_eq_right', exists_and_left, exists_and_right, true_and, and_true, and_self, if_true, if_false, Bool.false_eq_true, Bool.true_eq_false, eq_self, reduceCtorEq, false_and, and_false, and_assoc, Int.reduceToNat, Int.reducePow, Int.reduceMul, Int.reduceAdd, Int.reduceNeg, Int.reduceSub, String.reduceEq, String.reduceNe, ne_eq, not_false_eq_true, not_true_eq_false, decide_false, decide_true, Bool.not_false, Bool.not_true, Bool.or_false, Bool.false_or, Bool.or_true, Bool.true_or, Bool.and_true, Bool.true_and, Bool.and_self, Bool.and_false, Bool.false_and, exists_eq', exists_eq, exists_const, false_or, or_false, or_self, List.all_cons, List.all_nil, List.any_cons, List.any_nil, Nat.reduceLeDiff, exists_false, List.map_nil, List.map_cons, Option.map_some, Option.isSome_some, Option.isSome_none, Option.getD_some, Option.getD_none, implies_true, List.foldl_cons, List.foldl_nil, forall_const, ofS_eq, Int.reduceLT, Int.reduceLE, Nat.reduceLT, hd, nv_queue, nv_mark]
    refine ⟨_, _, rfl, hw, hG.mm, ?_⟩
    simp only [↓RD, RU, aStart, wipeA, putFA, toP, toPs, scDs, valD_nil, valD_cons, putM_eq, mergeD_eq, keysOk, aHandle, endsAA, putAA, starSp, put_same, put_put, inV_nil, inV_str, cxK, atI_0, atI_1, atI_2, atI_3, ixN_30, ixN_31, ixN_32, List.map, List.replicate, List.length_cons, List.length_nil, List.nil_append, List.cons_append, List.append_nil, Nat.reduceSub, Nat.reduceAdd, List.getElem?_cons_zero, List.getElem?_cons_succ, List.set_cons_zero, List.set_cons_succ, List.cons.injEq, Option.some.injEq, V.int.injEq, V.str.injEq, V.bl.injEq, D.int.injEq, D.str.injEq, D.bl.injEq, D.ref.injEq, D.tup.injEq, D.lst.injEq, D.ty.injEq, AO.lst.injEq, AO.dct.injEq, AO.ins.injEq, Prod.mk.injEq, exists_eq_left, exists_eq_left', exists_eq_right, exists_eq_right', exists_and_left, exists_and_right, true_and, and_true, and_self, if_true, if_false, Bool.false_eq_true, Bool.true_eq_false, eq_self, reduceCtorEq, false_and, and_false, and_assoc, Int.reduceToNat, Int.reducePow, Int.reduceMul, Int.reduceAdd, Int.reduceNeg, Int.reduceSub, String.reduceEq, String.reduceNe, ne_eq, not_false_eq_true, not_true_eq_false, decide_false, decide_true, Bool.not_false, Bool.not_true, Bool.or_false, Bool.false_or, Bool.or_true, Bool.true_or, Bool.and_true, Bool.true_and, Bool.and_self, Bool.and_false, Bool.false_and, exists_eq', exists_eq, exists_const, false_or, or_false, or_self, List.all_cons, List.all_nil, List.any_cons, List.any_nil, Nat.reduceLeDiff, exists_false, List.map_nil, List.map_cons, Option.map_some, Option.isSome_some, Option.isSome_none, Option.getD_some, Option.getD_none, implies_true, List.foldl_cons, List.foldl_nil, forall_const, ofS_eq, Int.reduceLT, Int.reduceLE, Nat.reduceLT, hd, np_mark, n_len, fvs]
    have e0 : ([] : List D) = List.map D.str [] := rfl
    rw [e0, np_queue]
    have := k g (fun z => by
      rw [stepS, if_neg (by decide), if_pos rfl] at z ⊢
      exact hg (m_out (by decide) z))
    rw [stepS, if_neg (by decide), if_pos rfl] at this
    exact fin_id this
  · simp only [↓RD, RU, aStart, wipeA, putFA, toP, toPs, scDs, valD_nil, valD_cons, putM_eq, mergeD_eq, keysOk, aHandle, endsAA, putAA, starSp, put_same, put_put, inV_nil, inV_str, cxK, atI_0, atI_1, atI_2, atI_3, ixN_30, ixN_31, ixN_32, List.map, List.replicate, List.length_cons, List.length_nil, List.nil_append, List.cons_append, List.append_nil, Nat.reduceSub, Nat.reduceAdd, List.getElem?_cons_zero, List.getElem?_cons_succ, List.set_cons_zero, List.set_cons_succ, List.cons.injEq, Option.some.injEq, V.int.injEq, V.str.injEq, V.bl.injEq, D.int.injEq, D.str.injEq, D.bl.injEq, D.ref.injEq, D.tup.injEq, D.lst.injEq, D.ty.injEq, AO.lst.injEq, AO.dct.injEq, AO.ins.injEq, Prod.mk.injEq, exists_eq_left, exists_eq_left', exists_eq_right, exists_eq_right', exists_and_left, exists_and_right, true_and, and_true, and_self, if_true, if_false, Bool.false_eq_true, Bool.true_eq_false, eq_self, reduceCtorEq, false_and, and_false, and_assoc, Int.reduceToNat, Int.reducePow, Int.reduceMul, Int.reduceAdd, Int.reduceNeg, Int.reduceSub, String.reduceEq, String.reduceNe, ne_eq, not_false_eq_true, not_true_eq_false, decide_false, decide_true, Bool.not_false, Bool.not_true, Bool.or_false, Bool.false_or, Bool.or_true, Bool.true_or, Bool.and_true, Bool.true_and, Bool.and_self, Bool.and_false, Bool.false_and, exists_eq', exists_eq, exists_const, false_or, or_false, or_self, List.all_cons, List.all_nil, List.any_cons, List.any_nil, Nat.reduceLeDiff, exists_false, List.map_nil, List.map_cons, Option.map_some, Option.isSome_some, Option.isSome_none, Option.getD_some, Option.getD_none, implies_true, List.foldl_cons, List.foldl_nil, forall_const, ofS_eq, Int.reduceLT, Int.reduceLE, Nat.reduceLT, hd, nv_queue, nv_mark, hc, hdr, mapl]
    refine ⟨_, _, _, rfl, h6, ?_⟩
    have eS : ∀ f, rowF w' S.m (S.q.length : Int) = some f → stepS w' ts why S = S ∧ stepR w' S = fauR S (some f) := fun f e => by
      unfold stepS stepR
      rw [if_neg hc, if_neg hdr, if_neg (by rw [e]; simp), if_neg hc, if_neg hdr, if_neg (by rw [e]; simp), e]
      exact ⟨rfl, rfl⟩
    have fault : ∀ f : Str, rowF w' S.m (S.q.length : Int) = some f → fin Q (fauR S (some f)) A := fun f e => by
      obtain ⟨e1, e2⟩ := eS f e
      have := k g (by rw [e1]; exact hg)
      rw [e1, e2, put_self hd] at this
      exact fin_id this
    have ef : rowFault w' S.m (S.q.length : Int) = fD (rowF w' S.m (S.q.length : Int)) := rfl
    rcases rf_cases w' S.m (S.q.length : Int) with e | e | e | e <;> rw [ef, e] <;> simp only [fD]
    · simp only [↓RD, RU, aStart, wipeA, putFA, toP, toPs, scDs, valD_nil, valD_cons, putM_eq, mergeD_eq, keysOk, aHandle, endsAA, putAA, starSp, put_same, put_put, inV_nil, inV_str, cxK, atI_0, atI_1, atI_2, atI_3, ixN_30, ixN_31, ixN_32, List.map, List.replicate, List.length_cons, List.length_nil, List.nil_append, List.cons_append, List.append_nil, Nat.reduceSub, Nat.reduceAdd, List.getElem?_cons_zero, List.getElem?_cons_succ, List.set_cons_zero, List.set_cons_succ, List.cons.injEq, Option.some.injEq, V.int.injEq, V.str.injEq, V.bl.injEq, D.int.injEq, D.str.injEq, D.bl.injEq, D.ref.injEq, D.tup.injEq, D.lst.injEq, D.ty.injEq, AO.lst.injEq, AO.dct.injEq, AO.ins.injEq, Prod.mk.injEq, exists_eq_left, exists_eq_left', exists_eq_right, exists_eq_right', exists_and_left, exists_and_right, true_and, and_true, and_self, if_true, if_false, Bool.false_eq_true, Bool.true_eq_false, eq_self, reduceCtorEq, false_and, and_false, and_assoc, Int.reduceToNat, Int.reducePow, Int.reduceMul, Int.reduceAdd, Int.reduceNeg, Int.reduceSub, String.reduceEq, String.reduceNe, ne_eq, not_false_eq_true, not_true_eq_false, decide_false, decide_true, Bool.not_false, Bool.not_true, Bool.or_false, Bool.false_or, Bool.or_true, Bool.true_or, Bool.and_true, Bool.true_and, Bool.and_self, Bool.and_false, Bool.false_and, exists_eq', exists_eq, exists_const, false_or, or_false, or_self, List.all_cons, List.all_nil, List.any_cons, List.any_nil, Nat.reduceLeDiff, exists_false, List.map_nil, List.map_cons, Option.map_some, Option.isSome_some, Option.isSome_none, Option.getD_some, Option.getD_none, implies_true, List.foldl_cons, List.foldl_nil, forall_const, ofS_eq, Int.reduceLT, Int.reduceLE, Nat.reduceLT, hd, nv_number]
      exact fault _ e
    · simp only [↓RD, RU, aStart, wipeA, putFA, toP, toPs, scDs, valD_nil, valD_cons, putM_eq, mergeD_eq, keysOk, aHandle, endsAA, putAA, starSp, put_same, put_put, inV_nil, inV_str, cxK, atI_0, atI_1, atI_2, atI_3, ixN_30, ixN_31, ixN_32, List.map, List.replicate, List.length_cons, List.length_nil, List.nil_append, List.cons_append, List.append_nil, Nat.reduceSub, Nat.reduceAdd, List.getElem?_cons_zero, List.getElem?_cons_succ, List.set_cons_zero, List.set_cons_succ, List.cons.injEq, Option.some.injEq, V.int.injEq, V.str.injEq, V.bl.injEq, D.int.injEq, D.str.injEq, D.bl.injEq, D.ref.injEq, D.tup.injEq, D.lst.injEq, D.ty.injEq, AO.lst.injEq, AO.dct.injEq, AO.ins.injEq, Prod.mk.injEq, exists_eq_left, exists_eq_left', exists_eq_right, exists_eq_right', exists_and_left, exists_and_right, true_and, and_true, and_self, if_true, if_false, Bool.false_eq_true, Bool.true_eq_false, eq_self, reduceCtorEq, false_and, and_false, and_assoc, Int.reduceToNat, Int.reducePow, Int.reduceMul, Int.reduceAdd, Int.reduceNeg, Int.reduceSub, String.reduceEq, String.reduceNe, ne_eq, not_false_eq_true, not_true_eq_false, decide_false, decide_true, Bool.not_false, Bool.not_true, Bool.or_false, Bool.false_or, Bool.or_true, Bool.true_or, Bool.and_true, Bool.true_and, Bool.and_self, Bool.and_false, Bool.false_and, exists_eq', exists_eq, exists_const, false_or, or_false, or_self, List.all_cons, List.all_nil, List.any_cons, List.any_nil, Nat.reduceLeDiff, exists_false, List.map_nil, List.map_cons, Option.map_some, Option.isSome_some, Option.isSome_none, Option.getD_some, Option.getD_none, implies_true, List.foldl_cons, List.foldl_nil, forall_const, ofS_eq, Int.reduceLT, Int.reduceLE, Nat.reduceLT, hd]
      exact fault _ e
    · simp only [↓RD, RU, aStart, wipeA, putFA, toP, toPs, scDs, valD_nil, valD_cons, putM_eq, mergeD_eq, keysOk, aHandle, endsAA, putAA, starSp, put_same, put_put, inV_nil, inV_str, cxK, atI_0, atI_1, atI_2, atI_3, ixN_30, ixN_31, ixN_32, List.map, List.replicate, List.length_cons, List.length_nil, List.nil_append, List.cons_append, List.append_nil, Nat.reduceSub, Nat.reduceAdd, List.getElem?_cons_zero, List.getElem?_cons_succ, List.set_cons_zero, List.set_cons_succ, List.cons.injEq, Option.some.injEq, V.int.injEq, V.str.injEq, V.bl.injEq, D.int.injEq, D.str.injEq, D.bl.injEq, D.ref.injEq, D.tup.injEq, D.lst.injEq, D.ty.injEq, AO.lst.injEq, AO.dct.injEq, AO.ins.injEq, Prod.mk.injEq, exists_eq_left, exists_eq_left', exists_eq_right, exists_eq_right', exists_and_left, exists_and_right, true_and, and_true, and_self, if_true, if_false, Bool.false_eq_true, Bool.true_eq_false, eq_self, reduceCtorEq, false_and, and_false, and_assoc, Int.reduceToNat, Int.reducePow, Int.reduceMul, Int.reduceAdd, Int.reduceNeg, Int.reduceSub, String.reduceEq, String.reduceNe, ne_eq, not_false_eq_true, not_true_eq_false, decide_false, decide_true, Bool.not_false, Bool.not_true, Bool.or_false, Bool.false_or, Bool.or_true, Bool.true_or, Bool.and_true, Bool.true_and, Bool.and_self, Bool.and_false, Bool.false_and, exists_eq', exists_eq, exists_const, false_or, or_false, or_self, List.all_cons, List.all_nil, List.any_cons, List.any_nil, Nat.reduceLeDiff, exists_false, List.map_nil, List.map_cons, Option.map_some, Option.isSome_some, Option.isSome_none, Option.getD_some, Option.getD_none, implies_true, List.foldl_cons, List.foldl_nil, forall_const, ofS_eq, Int.reduceLT, Int.reduceLE, Nat.reduceLT, hd, nv_number]
      exact fault _ e
    · simp only [↓RD, RU, aStart, wipeA, putFA, toP, toPs, scDs, valD_nil, valD_cons, putM_eq, mergeD_eq, keysOk, aHandle, endsAA, putAA, starSp, put_same, put_put, inV_nil, inV_str, cxK, atI_0, atI_1, atI_2, atI_3, ixN_30, ixN_31, ixN_32, List.map, List.replicate, List.length_cons, List.length_nil, List.nil_append, List.cons_append, List.append_nil, Nat.reduceSub, Nat.reduceAdd, List.getElem?_cons_zero, List.getElem?_cons_succ, List.set_cons_zero, List.set_cons_succ, List.cons.injEq, Option.some.injEq, V.int.injEq, V.str.injEq, V.bl.injEq, D.int.injEq, D.str.injEq, D.bl.injEq, D.ref.injEq, D.tup.injEq, D.lst.injEq, D.ty.injEq, AO.lst.injEq, AO.dct.injEq, AO.ins.injEq, Prod.mk.injEq, exists_eq_left, exists_eq_left', exists_eq_right, exists_eq_right', exists_and_left, exists_and_right, true_and, and_true, and_self, if_true, if_false, Bool.false_eq_true, Bool.true_eq_false, eq_self, reduceCtorEq, false_and, and_false, and_assoc, Int.reduceToNat, Int.reducePow, Int.reduceMul, Int.reduceAdd, Int.reduceNeg, Int.reduceSub, String.reduceEq, String.reduceNe, ne_eq, not_false_eq_true, not_true_eq_false, decide_false, decide_true, Bool.not_false, Bool.not_true, Bool.or_false, Bool.false_or, Bool.or_true, Bool.true_or, Bool.and_true, Bool.true_and, Bool.and_self, Bool.and_false, Bool.false_and, exists_eq', exists_eq, exists_const, false_or, or_false, or_self, List.all_cons, List.all_nil, List.any_cons, List.any_nil, Nat.reduceLeDiff, exists_false, List.map_nil, List.map_cons, Option.map_some, Option.isSome_some, Option.isSome_none, Option.getD_some, Option.getD_none, implies_true, List.foldl_cons, List.foldl_nil, forall_const, ofS_eq, Int.reduceLT, Int.reduceLE, Nat.reduceLT, hd]
      refine ⟨_, _, rfl, hw, hG.mm, ?_⟩
      have eN : stepS w' ts why S = { S with m := markAfter w' S.m, q := stepQ w' ts S, g := if w' = "begin" then ts.headD "" else S.g } ∧ stepR w' S = .tup [.str "told", if w' = "read" ∨ w' = "head" ∨ w' = "body" then .str (S.q.headD "") else .non] := by
        unfold stepS stepR
        rw [if_neg hc, if_neg hdr, if_pos e, if_neg hc, if_neg hdr, if_pos e]
        exact ⟨rfl, rfl⟩
      rw [eN.1, eN.2] at k
      have hgo : ¬ w' = "begin" → isOut (markAfter w' S.m) = true → g = .str S.g := fun h1 h2 => hg (m_out h1 h2)
      rcases h6 with rfl | rfl | rfl | rfl | rfl | rfl
      · simp only [↓RD, RU, aStart, wipeA, putFA, toP, toPs, scDs, valD_nil, valD_cons, putM_eq, mergeD_eq, keysOk, aHandle, endsAA, putAA, starSp, put_same, put_put, inV_nil, inV_str, cxK, atI_0, atI_1, atI_2, atI_3, ixN_30, ixN_31, ixN_32, List.map, List.replicate, List.length_cons, List.length_nil, List.nil_append, List.cons_append, List.append_nil, Nat.reduceSub, Nat.reduceAdd, List.getElem?_cons_zero, List.getElem?_cons_succ, List.set_cons_zero, List.set_cons_succ, List.cons.injEq, Option.some.injEq, V.int.injEq, V.str.injEq, V.bl.injEq, D.int.injEq, D.str.injEq, D.bl.injEq, D.ref.injEq, D.tup.injEq, D.lst.injEq, D.ty.injEq, AO.lst.injEq, AO.dct.injEq, AO.ins.injEq, Prod.mk.injEq, exists_eq_left, exists_eq_left', exists_eq_right, exists_eq_right', exists_and_left, exists_and_right, true_and, and_true, and_self, if_true, if_false, Bool.false_eq_true, Bool.true_eq_false, eq_self, reduceCtorEq, false_and, and_false, and_assoc, Int.reduceToNat, Int.reducePow, Int.reduceMul, Int.reduceAdd, Int.reduceNeg, Int.reduceSub, String.reduceEq, String.reduceNe, ne_eq, not_false_eq_true, not_true_eq_false, decide_false, decide_true, Bool.not_false, Bool.not_true, Bool.or_false, Bool.false_or, Bool.or_true, Bool.true_or, Bool.and_true, Bool.true_and, Bool.and_self, Bool.and_false, Bool.false_and, exists_eq', exists_eq, exists_const, false_or, or_false, or_self, List.all_cons, List.all_nil, List.any_cons, List.any_nil, Nat.reduceLeDiff, exists_false, List.map_nil, List.map_cons, Option.map_some, Option.isSome_some, Option.isSome_none, Option.getD_some, Option.getD_none, implies_true, List.foldl_cons, List.foldl_nil, forall_const, ofS_eq, Int.reduceLT, Int.reduceLE, Nat.reduceLT, hd, np_mark, n_len, fvs, mapl, List.length_map]
        refine ⟨Nat.le_trans (Nat.le_of_lt hz) (by decide), ?_⟩
        rw [← List.map_append, np_queue]
        have := k g (by simpa [ofS_eq] using hgo (by decide))
        simp only [stepQ, ofS_eq, String.reduceEq, if_true, if_false, or_self] at this
        exact fin_id this
      · cases ts with
        | nil => exact absurd rfl (hb rfl)
        | cons t ts =>
          simp only [↓RD, RU, aStart, wipeA, putFA, toP, toPs, scDs, valD_nil, valD_cons, putM_eq, mergeD_eq, keysOk, aHandle, endsAA, putAA, starSp, put_same, put_put, inV_nil, inV_str, cxK, atI_0, atI_1, atI_2, atI_3, ixN_30, ixN_31, ixN_32, List.map, List.replicate, List.length_cons, List.length_nil, List.nil_append, List.cons_append, List.append_nil, Nat.reduceSub, Nat.reduceAdd, List.getElem?_cons_zero, List.getElem?_cons_succ, List.set_cons_zero, List.set_cons_succ, List.cons.injEq, Option.some.injEq, V.int.injEq, V.str.injEq, V.bl.injEq, D.int.injEq, D.str.injEq, D.bl.injEq, D.ref.injEq, D.tup.injEq, D.lst.injEq, D.ty.injEq, AO.lst.injEq, AO.dct.injEq, AO.ins.injEq, Prod.mk.injEq, exists_eq_left, exists_eq_left', exists_eq_right, exists_eq_right', exists_and_left, exists_and_right, true_and, and_true, and_self, if_true, if_false, Bool.false_eq_true, Bool.true_eq_false, eq_self, reduceCtorEq, false_and, and_false, and_assoc, Int.reduceToNat, Int.reducePow, Int.reduceMul, Int.reduceAdd, Int.reduceNeg, Int.reduceSub, String.reduceEq, String.reduceNe, ne_eq, not_false_eq_true, not_true_eq_false, decide_false, decide_true, Bool.not_false, Bool.not_true, Bool.or_false, Bool.false_or, Bool.or_true, Bool.true_or, Bool.and_true, Bool.true_and, Bool.and_self, Bool.and_false, Bool.false_and, exists_eq', exists_eq, exists_const, false_or, or_false, or_self, List.all_cons, List.all_nil, List.any_cons, List.any_nil, Nat.reduceLeDiff, exists_false, List.map_nil, List.map_cons, Option.map_some, Option.isSome_some, Option.isSome_none, Option.getD_some, Option.getD_none, implies_true, List.foldl_cons, List.foldl_nil, forall_const, ofS_eq, Int.reduceLT, Int.reduceLE, Nat.reduceLT, hd, np_mark, np_begun, n_len, fvs]
          have := k (.str t) (fun _ => by simp)
          simp only [stepQ, ofS_eq, String.reduceEq, if_true, if_false, or_self, List.headD_cons] at this
          exact fin_id this
      · simp only [↓RD, RU, aStart, wipeA, putFA, toP, toPs, scDs, valD_nil, valD_cons, putM_eq, mergeD_eq, keysOk, aHandle, endsAA, putAA, starSp, put_same, put_put, inV_nil, inV_str, cxK, atI_0, atI_1, atI_2, atI_3, ixN_30, ixN_31, ixN_32, List.map, List.replicate, List.length_cons, List.length_nil, List.nil_append, List.cons_append, List.append_nil, Nat.reduceSub, Nat.reduceAdd, List.getElem?_cons_zero, List.getElem?_cons_succ, List.set_cons_zero, List.set_cons_succ, List.cons.injEq, Option.some.injEq, V.int.injEq, V.str.injEq, V.bl.injEq, D.int.injEq, D.str.injEq, D.bl.injEq, D.ref.injEq, D.tup.injEq, D.lst.injEq, D.ty.injEq, AO.lst.injEq, AO.dct.injEq, AO.ins.injEq, Prod.mk.injEq, exists_eq_left, exists_eq_left', exists_eq_right, exists_eq_right', exists_and_left, exists_and_right, true_and, and_true, and_self, if_true, if_false, Bool.false_eq_true, Bool.true_eq_false, eq_self, reduceCtorEq, false_and, and_false, and_assoc, Int.reduceToNat, Int.reducePow, Int.reduceMul, Int.reduceAdd, Int.reduceNeg, Int.reduceSub, String.reduceEq, String.reduceNe, ne_eq, not_false_eq_true, not_true_eq_false, decide_false, decide_true, Bool.not_false, Bool.not_true, Bool.or_false, Bool.false_or, Bool.or_true, Bool.true_or, Bool.and_true, Bool.true_and, Bool.and_self, Bool.and_false, Bool.false_and, exists_eq', exists_eq, exists_const, false_or, or_false, or_self, List.all_cons, List.all_nil, List.any_cons, List.any_nil, Nat.reduceLeDiff, exists_false, List.map_nil, List.map_cons, Option.map_some, Option.isSome_some, Option.isSome_none, Option.getD_some, Option.getD_none, implies_true, List.foldl_cons, List.foldl_nil, forall_const, ofS_eq, Int.reduceLT, Int.reduceLE, Nat.reduceLT, hd, np_mark, np_queue, nv_begun, n_len, fvs, mapl]
        have hg' : g = .str S.g := hg (by
          unfold rowF at e
          split at e
          · cases e
          · split at e
            · cases e
            · rename_i z
              simpa [isAmid, ofS_eq] using z)
        refine ⟨Nat.le_trans (show S.q.length + 1 ≤ 100000 by omega) (by decide), ?_⟩
        subst hg'
        have e0 : List.map D.str S.q ++ [D.str S.g] = List.map D.str (S.q ++ [S.g]) := by rw [List.map_append]; rfl
        rw [e0, np_queue]
        have := k (.str S.g) (fun _ => by simp [ofS_eq])
        simp only [stepQ, ofS_eq, String.reduceEq, if_true, if_false, or_self] at this
        exact fin_id this
      · cases hq : S.q with
        | nil => rw [hq] at e; have := rf_some (.inl rfl) e; simp at this
        | cons t q =>
          simp only [↓RD, RU, aStart, wipeA, putFA, toP, toPs, scDs, valD_nil, valD_cons, putM_eq, mergeD_eq, keysOk, aHandle, endsAA, putAA, starSp, put_same, put_put, inV_nil, inV_str, cxK, atI_0, atI_1, atI_2, atI_3, ixN_30, ixN_31, ixN_32, List.map, List.replicate, List.length_cons, List.length_nil, List.nil_append, List.cons_append, List.append_nil, Nat.reduceSub, Nat.reduceAdd, List.getElem?_cons_zero, List.getElem?_cons_succ, List.set_cons_zero, List.set_cons_succ, List.cons.injEq, Option.some.injEq, V.int.injEq, V.str.injEq, V.bl.injEq, D.int.injEq, D.str.injEq, D.bl.injEq, D.ref.injEq, D.tup.injEq, D.lst.injEq, D.ty.injEq, AO.lst.injEq, AO.dct.injEq, AO.ins.injEq, Prod.mk.injEq, exists_eq_left, exists_eq_left', exists_eq_right, exists_eq_right', exists_and_left, exists_and_right, true_and, and_true, and_self, if_true, if_false, Bool.false_eq_true, Bool.true_eq_false, eq_self, reduceCtorEq, false_and, and_false, and_assoc, Int.reduceToNat, Int.reducePow, Int.reduceMul, Int.reduceAdd, Int.reduceNeg, Int.reduceSub, String.reduceEq, String.reduceNe, ne_eq, not_false_eq_true, not_true_eq_false, decide_false, decide_true, Bool.not_false, Bool.not_true, Bool.or_false, Bool.false_or, Bool.or_true, Bool.true_or, Bool.and_true, Bool.true_and, Bool.and_self, Bool.and_false, Bool.false_and, exists_eq', exists_eq, exists_const, false_or, or_false, or_self, List.all_cons, List.all_nil, List.any_cons, List.any_nil, Nat.reduceLeDiff, exists_false, List.map_nil, List.map_cons, Option.map_some, Option.isSome_some, Option.isSome_none, Option.getD_some, Option.getD_none, implies_true, List.foldl_cons, List.foldl_nil, forall_const, ofS_eq, Int.reduceLT, Int.reduceLE, Nat.reduceLT, hd, np_mark, n_len, fvs, tl_cut, List.map_cons, List.tail_cons]
          rw [np_queue]
          have := k g (by simpa [ofS_eq] using hgo (by decide))
          simp only [stepQ, ofS_eq, String.reduceEq, if_true, if_false, or_self, or_false, true_or, hq, List.tail_cons, List.headD_cons] at this
          exact fin_id this
      · cases hq : S.q with
        | nil => rw [hq] at e; have := rf_some (.inr rfl) e; simp at this
        | cons t q =>
          simp only [↓RD, RU, aStart, wipeA, putFA, toP, toPs, scDs, valD_nil, valD_cons, putM_eq, mergeD_eq, keysOk, aHandle, endsAA, putAA, starSp, put_same, put_put, inV_nil, inV_str, cxK, atI_0, atI_1, atI_2, atI_3, ixN_30, ixN_31, ixN_32, List.map, List.replicate, List.length_cons, List.length_nil, List.nil_append, List.cons_append, List.append_nil, Nat.reduceSub, Nat.reduceAdd, List.getElem?_cons_zero, List.getElem?_cons_succ, List.set_cons_zero, List.set_cons_succ, List.cons.injEq, Option.some.injEq, V.int.injEq, V.str.injEq, V.bl.injEq, D.int.injEq, D.str.injEq, D.bl.injEq, D.ref.injEq, D.tup.injEq, D.lst.injEq, D.ty.injEq, AO.lst.injEq, AO.dct.injEq, AO.ins.injEq, Prod.mk.injEq, exists_eq_left, exists_eq_left', exists_eq_right, exists_eq_right', exists_and_left, exists_and_right, true_and, and_true, and_self, if_true, if_false, Bool.false_eq_true, Bool.true_eq_false, eq_self, reduceCtorEq, false_and, and_false, and_assoc, Int.reduceToNat, Int.reducePow, Int.reduceMul, Int.reduceAdd, Int.reduceNeg, Int.reduceSub, String.reduceEq, String.reduceNe, ne_eq, not_false_eq_true, not_true_eq_false, decide_false, decide_true, Bool.not_false, Bool.not_true, Bool.or_false, Bool.false_or, Bool.or_true, Bool.true_or, Bool.and_true, Bool.true_and, Bool.and_self, Bool.and_false, Bool.false_and, exists_eq', exists_eq, exists_const, false_or, or_false, or_self, List.all_cons, List.all_nil, List.any_cons, List.any_nil, Nat.reduceLeDiff, exists_false, List.map_nil, List.map_cons, Option.map_some, Option.isSome_some, Option.isSome_none, Option.getD_some, Option.getD_none, implies_true, List.foldl_cons, List.foldl_nil, forall_const, ofS_eq, Int.reduceLT, Int.reduceLE, Nat.reduceLT, hd, np_mark, n_len, fvs, List.map_cons]
          have := k g (by simpa [ofS_eq] using hgo (by decide))
          simp only [stepQ, ofS_eq, String.reduceEq, if_true, if_false, or_self, or_false, false_or, true_or, hq, List.headD_cons] at this
          rw [← hq] at this
          exact fin_id this
      · cases hq : S.q with
        | nil => exact absurd hq (hG.hd (rf_body e))
        | cons t q =>
          simp only [↓RD, RU, aStart, wipeA, putFA, toP, toPs, scDs, valD_nil, valD_cons, putM_eq, mergeD_eq, keysOk, aHandle, endsAA, putAA, starSp, put_same, put_put, inV_nil, inV_str, cxK, atI_0, atI_1, atI_2, atI_3, ixN_30, ixN_31, ixN_32, List.map, List.replicate, List.length_cons, List.length_nil, List.nil_append, List.cons_append, List.append_nil, Nat.reduceSub, Nat.reduceAdd, List.getElem?_cons_zero, List.getElem?_cons_succ, List.set_cons_zero, List.set_cons_succ, List.cons.injEq, Option.some.injEq, V.int.injEq, V.str.injEq, V.bl.injEq, D.int.injEq, D.str.injEq, D.bl.injEq, D.ref.injEq, D.tup.injEq, D.lst.injEq, D.ty.injEq, AO.lst.injEq, AO.dct.injEq, AO.ins.injEq, Prod.mk.injEq, exists_eq_left, exists_eq_left', exists_eq_right, exists_eq_right', exists_and_left, exists_and_right, true_and, and_true, and_self, if_true, if_false, Bool.false_eq_true, Bool.true_eq_false, eq_self, reduceCtorEq, false_and, and_false, and_assoc, Int.reduceToNat, Int.reducePow, Int.reduceMul, Int.reduceAdd, Int.reduceNeg, Int.reduceSub, String.reduceEq, String.reduceNe, ne_eq, not_false_eq_true, not_true_eq_false, decide_false, decide_true, Bool.not_false, Bool.not_true, Bool.or_false, Bool.false_or, Bool.or_true, Bool.true_or, Bool.and_true, Bool.true_and, Bool.and_self, Bool.and_false, Bool.false_and, exists_eq', exists_eq, exists_const, false_or, or_false, or_self, List.all_cons, List.all_nil, List.any_cons, List.any_nil, Nat.reduceLeDiff, exists_false, List.map_nil, List.map_cons, Option.map_some, Option.isSome_some, Option.isSome_none, Option.getD_some, Option.getD_none, implies_true, List.foldl_cons, List.foldl_nil, forall_const, ofS_eq, Int.reduceLT, Int.reduceLE, Nat.reduceLT, hd, np_mark, n_len, fvs, tl_cut, List.map_cons, List.tail_cons]
          rw [np_queue]
          have := k g (by simpa [ofS_eq] using hgo (by decide))
          simp only [stepQ, ofS_eq, String.reduceEq, if_true, if_false, or_self, or_false, false_or, or_true, true_or, hq, List.tail_cons, List.headD_cons] at this
          exact fin_id this
def sp_l_ask (K : PySem.W.Frag) : ASp := fun ds A Q E => ∃ (a l : Addr) (S : LS) (ts : List Str), ds = [.ref a, .lst (List.map D.str ts)] ∧ LineAt K A a l S ∧ ts.length ≤ 3 ∧ S.q.length + ts.length < 100000 ∧ (rowF "ask" S.m 0 = none → Q .non (setL K A a l { S with q := S.q ++ ts })) ∧ Rz K E A S (rowF "ask" S.m 0)
theorem R_l_ask {w : World} {K : PySem.W.Frag} {mg : Str → Option Value} {base : Heap} (T : Tx K mg) : FnR Pg w K mg base (L2.CX Pg w) 11 (He.ga K "_law_ask") (liftSp K (sp_l_ask K)) := by
  obtain ⟨fd, F⟩ := T.d_l_ask
  refine Av.FunD.AX F sc_l_ask (fun ds A Q E h => by obtain ⟨a, l, S, ts, rfl, hL, h3, hz, k, r⟩ := h; rfl) (fun _ _ _ _ _ _ us hl => match us, hl with | [_, _], _ => rfl) (fun cdv A0 outer s H0 E0 ds A Q E hr h => ?_)
  obtain ⟨a, l, S, ts, rfl, hL, h3, hz, k, r⟩ := h
  refine ⟨_, (ass_one (as_if (at_cmpA (cmp_eq hr.units) (ae_callB ca_len (by rfl) T.n_len (by decide +kernel) (aa_cons (ae_var (pv 1)) aa_nil)) ae_int (nomark _)) (ass_one (as_expr (ae_methX0 (ae_var (pv 0)) T.c_Line T.m_Line_ask (R_Line_ask T) (hr.mono (by decide)) (takes_of rfl rfl rfl rfl)))) (ass_one (as_if (at_cmpA (cmp_eq hr.units) (ae_callB ca_len (by rfl) T.n_len (by decide +kernel) (aa_cons (ae_var (pv 1)) aa_nil)) ae_int (nomark _)) (ass_one (as_expr (ae_methX (ae_var (pv 0)) T.c_Line T.m_Line_ask (R_Line_ask T) (hr.mono (by decide)) (takes_of rfl rfl rfl rfl) (aa_cons (ae_subs (ae_var (pv 1)) ae_int (fun _ _ => rfl)) aa_nil)))) (ass_one (as_if (at_cmpA (cmp_eq hr.units) (ae_callB ca_len (by rfl) T.n_len (by decide +kernel) (aa_cons (ae_var (pv 1)) aa_nil)) ae_int (nomark _)) (ass_one (as_expr (ae_methX (ae_var (pv 0)) T.c_Line T.m_Line_ask (R_Line_ask T) (hr.mono (by decide)) (takes_of rfl rfl rfl rfl) (aa_cons (ae_subs (ae_var (pv 1)) ae_int (fun _ _ => rfl)) (aa_cons (ae_subs (ae_var (pv 1)) ae_int (fun _ _ => rfl)) aa_nil))))) (ass_one (as_expr (ae_methX (ae_var (pv 0)) T.c_Line T.m_Line_ask (R_Line_ask T) (hr.mono (by decide)) (takes_of rfl rfl rfl rfl) (aa_cons (ae_subs (ae_var (pv 1)) ae_int (fun _ _ => rfl)) (aa_cons (ae_subs (ae_var (pv 1)) ae_int (fun _ _ => rfl)) (aa_cons (ae_subs (ae_var (pv 1)) ae_int (fun _ _ => rfl)) aa_nil)))))))))))), ?_⟩
  have ha := hL.ob
  have r := Rz_fin r
  have fin : ∀ {tg}, Call (starSp 1 (spi_Line_ask K)) (.ref a :: List.map D.str ts) A (fun _ A1 => fin Q .non A1) (fun C fs A1 => ∃ A'', (∀ a o, A'' a = some o → A1 a = some o) ∧ E C fs A'') tg := ⟨[.ref a], List.map D.str ts, rfl, rfl, by rw [List.length_map]; exact Nat.le_trans h3 (by decide), a, l, S, ts, rfl, hL, Nat.le_of_lt hz, fun hf => fin_id (k hf), r⟩
  have c0 : ((0 : Nat) : Int) = 0 := rfl
  have c1 : ((1 : Nat) : Int) = 1 := rfl
  have c2 : ((2 : Nat) : Int) = 2 := rfl
  have c3 : ((3 : Nat) : Int) = 3 := rfl
  clear k r hz
  revert fin
  match ts, h3 with
  | [], _ => intro fin; simp only [↓RD, RU, aStart, wipeA, putFA, toP, toPs, scDs, valD_nil, valD_cons, putM_eq, mergeD_eq, keysOk, aHandle, endsAA, putAA, starSp, put_same, put_put, inV_nil, inV_str, cxK, atI_0, atI_1, atI_2, atI_3, ixN_30, ixN_31, ixN_32, List.map, List.replicate, List.length_cons, List.length_nil, List.nil_append, List.cons_append, List.append_nil, Nat.reduceSub, Nat.reduceAdd, List.getElem?_cons_zero, List.getElem?_cons_succ, List.set_cons_zero, List.set_cons_succ, List.cons.injEq, Option.some.injEq, V.int.injEq, V.str.injEq, V.bl.injEq, D.int.injEq, D.str.injEq, D.bl.injEq, D.ref.injEq, D.tup.injEq, D.lst.injEq, D.ty.injEq, AO.lst.injEq, AO.dct.injEq, AO.ins.injEq, Prod.mk.injEq, exists_eq_left, exists_eq_left', exists_eq_right, exists_eq_right', exists_and_left, exists_and_right, true_and, and_true, and_self, if_true, if_false, Bool.false_eq_true, Bool.true_eq_false, eq_self, reduceCtorEq, false_and, and_false, and_assoc, Int.reduceToNat, Int.reducePow, Int.reduceMul, Int.reduceAdd, Int.reduceNeg, Int.reduceSub, String.reduceEq, String.reduceNe, ne_eq, not_false_eq_true, not_true_eq_false, decide_false, decide_true, Bool.not_false, Bool.not_true, Bool.or_false, Bool.false_or, Bool.or_true, Bool.true_or, Bool.and_true, Bool.true_and, Bool.and_self, Bool.and_false, Bool.false_and, exists_eq', exists_eq, exists_const, false_or, or_false, or_self, List.all_cons, List.all_nil, List.any_cons, List.any_nil, Nat.reduceLeDiff, exists_false, List.map_nil, List.map_cons, Option.map_some, Option.isSome_some, Option.isSome_none, Option.getD_some, Option.getD_none, implies_true, List.foldl_cons, List.foldl_nil, forall_const, ofS_eq, Int.reduceLT, Int.reduceLE, Nat.reduceLT, ha, ln_ask, Int.reduceEq, c0, c1, c2, c3, decide_true, decide_false]; exact fin
  | [t1], _ => intro fin; simp only [↓RD, RU, aStart, wipeA, putFA, toP, toPs, scDs, valD_nil, valD_cons, putM_eq, mergeD_eq, keysOk, aHandle, endsAA, putAA, starSp, put_same, put_put, inV_nil, inV_str, cxK, atI_0, atI_1, atI_2, atI_3, ixN_30, ixN_31, ixN_32, List.map, List.replicate, List.length_cons, List.length_nil, List.nil_append, List.cons_append, List.append_nil, Nat.reduceSub, Nat.reduceAdd, List.getElem?_cons_zero, List.getElem?_cons_succ, List.set_cons_zero, List.set_cons_succ, List.cons.injEq, Option.some.injEq, V.int.injEq, V.str.injEq, V.bl.injEq, D.int.injEq, D.str.injEq, D.bl.injEq, D.ref.injEq, D.tup.injEq, D.lst.injEq, D.ty.injEq, AO.lst.injEq, AO.dct.injEq, AO.ins.injEq, Prod.mk.injEq, exists_eq_left, exists_eq_left', exists_eq_right, exists_eq_right', exists_and_left, exists_and_right, true_and, and_true, and_self, if_true, if_false, Bool.false_eq_true, Bool.true_eq_false, eq_self, reduceCtorEq, false_and, and_false, and_assoc, Int.reduceToNat, Int.reducePow, Int.reduceMul, Int.reduceAdd, Int.reduceNeg, Int.reduceSub, String.reduceEq, String.reduceNe, ne_eq, not_false_eq_true, not_true_eq_false, decide_false, decide_true, Bool.not_false, Bool.not_true, Bool.or_false, Bool.false_or, Bool.or_true, Bool.true_or, Bool.and_true, Bool.true_and, Bool.and_self, Bool.and_false, Bool.false_and, exists_eq', exists_eq, exists_const, false_or, or_false, or_self, List.all_cons, List.all_nil, List.any_cons, List.any_nil, Nat.reduceLeDiff, exists_false, List.map_nil, List.map_cons, Option.map_some, Option.isSome_some, Option.isSome_none, Option.getD_some, Option.getD_none, implies_true, List.foldl_cons, List.foldl_nil, forall_const, ofS_eq, Int.reduceLT, Int.reduceLE, Nat.reduceLT, ha, ln_ask, Int.reduceEq, c0, c1, c2, c3, decide_true, decide_false]; exact fin
  | [t1, t2], _ => intro fin; simp only [↓RD, RU, aStart, wipeA, putFA, toP, toPs, scDs, valD_nil, valD_cons, putM_eq, mergeD_eq, keysOk, aHandle, endsAA, putAA, starSp, put_same, put_put, inV_nil, inV_str, cxK, atI_0, atI_1, atI_2, atI_3, ixN_30, ixN_31, ixN_32, List.map, List.replicate, List.length_cons, List.length_nil, List.nil_append, List.cons_append, List.append_nil, Nat.reduceSub, Nat.reduceAdd, List.getElem?_cons_zero, List.getElem?_cons_succ, List.set_cons_zero, List.set_cons_succ, List.cons.injEq, Option.some.injEq, V.int.injEq, V.str.injEq, V.bl.injEq, D.int.injEq, D.str.injEq, D.bl.injEq, D.ref.injEq, D.tup.injEq, D.lst.injEq, D.ty.injEq, AO.lst.injEq, AO.dct.injEq, AO.ins.injEq, Prod.mk.injEq, exists_eq_left, exists_eq_left', exists_eq_right, exists_eq_right', exists_and_left, exists_and_right, true_and, and_true, and_self, if_true, if_false, Bool.false_eq_true, Bool.true_eq_false, eq_self, reduceCtorEq, false_and, and_false, and_assoc, Int.reduceToNat, Int.reducePow, Int.reduceMul, Int.reduceAdd, Int.reduceNeg, Int.reduceSub, String.reduceEq, String.reduceNe, ne_eq, not_false_eq_true, not_true_eq_false, decide_false, decide_true, Bool.not_false, Bool.not_true, Bool.or_false, Bool.false_or, Bool.or_true, Bool.true_or, Bool.and_true, Bool.true_and, Bool.and_self, Bool.and_false, Bool.false_and, exists_eq', exists_eq, exists_const, false_or, or_false, or_self, List.all_cons, List.all_nil, List.any_cons, List.any_nil, Nat.reduceLeDiff, exists_false, List.map_nil, List.map_cons, Option.map_some, Option.isSome_some, Option.isSome_none, Option.getD_some, Option.getD_none, implies_true, List.foldl_cons, List.foldl_nil, forall_const, ofS_eq, Int.reduceLT, Int.reduceLE, Nat.reduceLT, ha, ln_ask, Int.reduceEq, c0, c1, c2, c3, decide_true, decide_false]; exact fin
  | [t1, t2, t3], _ => intro fin; simp only [↓RD, RU, aStart, wipeA, putFA, toP, toPs, scDs, valD_nil, valD_cons, putM_eq, mergeD_eq, keysOk, aHandle, endsAA, putAA, starSp, put_same, put_put, inV_nil, inV_str, cxK, atI_0, atI_1, atI_2, atI_3, ixN_30, ixN_31, ixN_32, List.map, List.replicate, List.length_cons, List.length_nil, List.nil_append, List.cons_append, List.append_nil, Nat.reduceSub, Nat.reduceAdd, List.getElem?_cons_zero, List.getElem?_cons_succ, List.set_cons_zero, List.set_cons_succ, List.cons.injEq, Option.some.injEq, V.int.injEq, V.str.injEq, V.bl.injEq, D.int.injEq, D.str.injEq, D.bl.injEq, D.ref.injEq, D.tup.injEq, D.lst.injEq, D.ty.injEq, AO.lst.injEq, AO.dct.injEq, AO.ins.injEq, Prod.mk.injEq, exists_eq_left, exists_eq_left', exists_eq_right, exists_eq_right', exists_and_left, exists_and_right, true_and, and_true, and_self, if_true, if_false, Bool.false_eq_true, Bool.true_eq_false, eq_self, reduceCtorEq, false_and, and_false, and_assoc, Int.reduceToNat, Int.reducePow, Int.reduceMul, Int.reduceAdd, Int.reduceNeg, Int.reduceSub, String.reduceEq, String.reduceNe, ne_eq, not_false_eq_true, not_true_eq_false, decide_false, decide_true, Bool.not_false, Bool.not_true, Bool.or_false, Bool.false_or, Bool.or_true, Bool.true_or, Bool.and_true, Bool.true_and, Bool.and_self, Bool.and_false, Bool.false_and, exists_eq', exists_eq, exists_const, false_or, or_false, or_self, List.all_cons, List.all_nil, List.any_cons, List.any_nil, Nat.reduceLeDiff, exists_false, List.map_nil, List.map_cons, Option.map_some, Option.isSome_some, Option.isSome_none, Option.getD_some, Option.getD_none, implies_true, List.foldl_cons, List.foldl_nil, forall_const, ofS_eq, Int.reduceLT, Int.reduceLE, Nat.reduceLT, ha, ln_ask, Int.reduceEq, c0, c1, c2, c3, decide_true, decide_false]; exact fin
def noF (w : Str) (S : LS) : Prop := w = "drain" ∨ w = "close" ∨ rowF w S.m (S.q.length : Int) = none
def valR (w : Str) (S : LS) : D := if w = "drain" then .lst (S.q.map D.str) else if w = "read" ∨ w = "head" ∨ w = "body" then .str (S.q.headD "") else .non
def sp_l_do (K : PySem.W.Frag) : ASp := fun ds A Q E => ∃ (a l : Addr) (S : LS) (w : Str) (ts : List Str) (why : D), ds = [.ref a, .str w, .lst (List.map D.str ts), why] ∧ LineAt K A a l S ∧ W8 w ∧ GoodS S ∧ (w = "ask" → ts.length ≤ 3) ∧ (w = "begin" → ts ≠ []) ∧ S.q.length + ts.length < 100000 ∧
  (noF w S → ∀ l', l' = l ∨ A l' = none → Q (valR w S) (setL K A a l' (stepS w ts why S))) ∧ (W6 w → Rz K E A S (rowF w S.m (S.q.length : Int)))
section
variable {ts : List Str} {why : D} {S : LS}
theorem step_ok {w : Str} (h1 : ¬ w = "close") (h2 : ¬ w = "drain") (h3 : rowF w S.m (S.q.length : Int) = none) : stepS w ts why S = { S with m := markAfter w S.m, q := stepQ w ts S, g := if w = "begin" then ts.headD "" else S.g } := by
  unfold stepS; rw [if_neg h1, if_neg h2, if_pos h3]
theorem ma_id {w m : Str} (hw : w = "ask" ∨ w = "read") (h : ¬ m = "closed") : markAfter w m = m := by
  rcases hw with rfl | rfl <;> simp [markAfter, h, ofS_eq]
theorem S_ask (hf : rowF "ask" S.m (S.q.length : Int) = none) : stepS "ask" ts why S = { S with q := S.q ++ ts } := by
  rw [step_ok (by decide) (by decide) hf, ma_id (.inl rfl) (rf_open hf)]
  simp [stepQ, ofS_eq]
theorem S_begin {t : Str} (hf : rowF "begin" S.m (S.q.length : Int) = none) : stepS "begin" (t :: ts) why S = { S with m := markAfter "begin" S.m, g := t } := by
  rw [step_ok (by decide) (by decide) hf]
  simp [stepQ, ofS_eq]
theorem S_finish (hf : rowF "finish" S.m (S.q.length : Int) = none) : stepS "finish" ts why S = { S with m := markAfter "finish" S.m, q := S.q ++ [S.g] } := by
  rw [step_ok (by decide) (by decide) hf]
  simp [stepQ, ofS_eq]
theorem S_read {t : Str} {q : List Str} (e : S.q = t :: q) (hf : rowF "read" S.m (S.q.length : Int) = none) : stepS "read" ts why S = { S with q := q } := by
  rw [step_ok (by decide) (by decide) hf, ma_id (.inr rfl) (rf_open hf)]
  simp [stepQ, ofS_eq, e]
theorem S_head (hf : rowF "head" S.m (S.q.length : Int) = none) : stepS "head" ts why S = { S with m := markAfter "head" S.m } := by
  rw [step_ok (by decide) (by decide) hf]
  simp [stepQ, ofS_eq]
theorem S_body {t : Str} {q : List Str} (e : S.q = t :: q) (hf : rowF "body" S.m (S.q.length : Int) = none) : stepS "body" ts why S = { S with m := markAfter "body" S.m, q := q } := by
  rw [step_ok (by decide) (by decide) hf]
  simp [stepQ, ofS_eq, e]
theorem S_drain : stepS "drain" ts why S = { S with m := markAfter "drain" S.m, q := [] } := by
  unfold stepS; rw [if_neg (by decide), if_pos rfl]
theorem S_close : stepS "close" ts why S = closeS why S := by
  unfold stepS; rw [if_pos rfl]
end
theorem v_hd {w : Str} {S : LS} {t : Str} {q : List Str} (hw : w = "read" ∨ w = "head" ∨ w = "body") (e : S.q = t :: q) : valR w S = .str t := by
  unfold valR
  rw [if_neg (by rcases hw with rfl | rfl | rfl <;> decide), if_pos hw, e]; rfl
theorem v_no {w : Str} {S : LS} (h : w = "ask" ∨ w = "begin" ∨ w = "finish" ∨ w = "close") : valR w S = .non := by
  unfold valR
  rw [if_neg (by rcases h with rfl | rfl | rfl | rfl <;> decide), if_neg (by rcases h with rfl | rfl | rfl | rfl <;> simp [ofS_eq])]
theorem R_l_do {w : World} {K : PySem.W.Frag} {mg : Str → Option Value} {base : Heap} (T : Tx K mg) : FnR Pg w K mg base (L2.CX Pg w) 13 (He.ga K "_law_do") (liftSp K (sp_l_do K)) := by
  obtain ⟨fd, F⟩ := T.d_l_do
  refine Av.FunD.AX F sc_l_do (fun ds A Q E h => by obtain ⟨a, l, S, w', ts, why, rfl, hL, hw, hG, h3, hb, hz, k, r⟩ := h; rfl) (fun _ _ _ _ _ _ us hl => match us, hl with | [_, _, _, _], _ => rfl) (fun cdv A0 outer s H0 E0 ds A Q E hr h => ?_)
  obtain ⟨a, l, S, w', ts, why, rfl, hL, hw, hG, h3, hb, hz, k, r⟩ := h
  refine ⟨_, (ass_cons (as_if (at_cmpA (cmp_eq hr.units) (ae_var (pv 1)) ae_str (nomark _)) (ass_one (as_ret (ae_methR0 (ae_var (pv 0)) T.c_Line T.m_Line_drain (R_Line_drain T) (hr.mono (by decide))))) ass_nil)
      (ass_cons (as_if (at_cmpA (cmp_eq hr.units) (ae_var (pv 1)) ae_str (nomark _)) (ass_one (as_ret (ae_methX0 (ae_var (pv 0)) T.c_Line T.m_Line_read (R_Line_read T) (hr.mono (by decide)) (takes_of rfl rfl rfl rfl)))) ass_nil)
      (ass_cons (as_if (at_cmpA (cmp_eq hr.units) (ae_var (pv 1)) ae_str (nomark _)) (ass_one (as_ret (ae_methX0 (ae_var (pv 0)) T.c_Line T.m_Line_head (R_Line_head T) (hr.mono (by decide)) (takes_of rfl rfl rfl rfl)))) ass_nil)
      (ass_cons (as_if (at_cmpA (cmp_eq hr.units) (ae_var (pv 1)) ae_str (nomark _)) (ass_one (as_ret (ae_methX0 (ae_var (pv 0)) T.c_Line T.m_Line_body (R_Line_body T) (hr.mono (by decide)) (takes_of rfl rfl rfl rfl)))) ass_nil)
      (ass_cons (as_if (at_cmpA (cmp_eq hr.units) (ae_var (pv 1)) ae_str (nomark _)) (ass_one (as_expr (ae_callX (R_l_ask T) (hr.mono (by decide)) rfl T.g__law_ask T.k__law_ask (takes_of rfl rfl rfl rfl) (aa_cons (ae_var (pv 0)) (aa_cons (ae_var (pv 2)) aa_nil))))) (ass_one (as_if (at_cmpA (cmp_eq hr.units) (ae_var (pv 1)) ae_str (nomark _)) (ass_one (as_expr (ae_methX (ae_var (pv 0)) T.c_Line T.m_Line_begin (R_Line_begin T) (hr.mono (by decide)) (takes_of rfl rfl rfl rfl) (aa_cons (ae_subs (ae_var (pv 2)) ae_int (fun _ _ => rfl)) aa_nil)))) (ass_one (as_if (at_cmpA (cmp_eq hr.units) (ae_var (pv 1)) ae_str (nomark _)) (ass_one (as_expr (ae_methX0 (ae_var (pv 0)) T.c_Line T.m_Line_finish (R_Line_finish T) (hr.mono (by decide)) (takes_of rfl rfl rfl rfl)))) (ass_one (as_if (at_cmpA cmp_is (ae_var (pv 3)) ae_non (nomark _)) (ass_one (as_expr (ae_methR0 (ae_var (pv 0)) T.c_Line T.m_Line_close (R_Line_close0 T) (hr.mono (by decide))))) (ass_one (as_expr (ae_methR (ae_var (pv 0)) T.c_Line T.m_Line_close (R_Line_close1 T) (hr.mono (by decide)) (aa_cons (ae_var (pv 3)) aa_nil)))))))))))
      (ass_one (as_ret ae_non))))))), ?_⟩
  have ha := hL.ob
  have hz' : S.q.length ≤ 100000 := by omega
  rcases hw with rfl | rfl | rfl | rfl | rfl | rfl | rfl | rfl
  · have e := rf_n (w := "ask") (m := S.m) (n := (S.q.length : Int)) (n' := 0) (by decide)
    have r := Rz_fin (r (by simp [W6]))
    rw [e] at r
    simp only [↓RD, RU, aStart, wipeA, putFA, toP, toPs, scDs, valD_nil, valD_cons, putM_eq, mergeD_eq, keysOk, aHandle, endsAA, putAA, starSp, put_same, put_put, inV_nil, inV_str, cxK, atI_0, atI_1, atI_2, atI_3, ixN_30, ixN_31, ixN_32, List.map, List.replicate, List.length_cons, List.length_nil, List.nil_append, List.cons_append, List.append_nil, Nat.reduceSub, Nat.reduceAdd, List.getElem?_cons_zero, List.getElem?_cons_succ, List.set_cons_zero, List.set_cons_succ, List.cons.injEq, Option.some.injEq, V.int.injEq, V.str.injEq, V.bl.injEq, D.int.injEq, D.str.injEq, D.bl.injEq, D.ref.injEq, D.tup.injEq, D.lst.injEq, D.ty.injEq, AO.lst.injEq, AO.dct.injEq, AO.ins.injEq, Prod.mk.injEq, exists_eq_left, exists_eq_left', exists_eq_right, exists_eq_right', exists_and_left, exists_and_right, true_and, and_true, and_self, if_true, if_false, Bool.false_eq_true, Bool.true_eq_false, eq_self, reduceCtorEq, false_and, and_false, and_assoc, Int.reduceToNat, Int.reducePow, Int.reduceMul, Int.reduceAdd, Int.reduceNeg, Int.reduceSub, String.reduceEq, String.reduceNe, ne_eq, not_false_eq_true, not_true_eq_false, decide_false, decide_true, Bool.not_false, Bool.not_true, Bool.or_false, Bool.false_or, Bool.or_true, Bool.true_or, Bool.and_true, Bool.true_and, Bool.and_self, Bool.and_false, Bool.false_and, exists_eq', exists_eq, exists_const, false_or, or_false, or_self, List.all_cons, List.all_nil, List.any_cons, List.any_nil, Nat.reduceLeDiff, exists_false, List.map_nil, List.map_cons, Option.map_some, Option.isSome_some, Option.isSome_none, Option.getD_some, Option.getD_none, implies_true, List.foldl_cons, List.foldl_nil, forall_const, ofS_eq, Int.reduceLT, Int.reduceLE, Nat.reduceLT, ha]
    refine ⟨a, l, S, ts, rfl, hL, h3 rfl, hz, fun hf => ?_, r⟩
    have hf' := e.trans hf
    have := k (.inr (.inr hf')) l (.inl rfl)
    rw [S_ask hf', v_no (.inl rfl)] at this
    simp only [↓RD, RU, aStart, wipeA, putFA, toP, toPs, scDs, valD_nil, valD_cons, putM_eq, mergeD_eq, keysOk, aHandle, endsAA, putAA, starSp, put_same, put_put, inV_nil, inV_str, cxK, atI_0, atI_1, atI_2, atI_3, ixN_30, ixN_31, ixN_32, List.map, List.replicate, List.length_cons, List.length_nil, List.nil_append, List.cons_append, List.append_nil, Nat.reduceSub, Nat.reduceAdd, List.getElem?_cons_zero, List.getElem?_cons_succ, List.set_cons_zero, List.set_cons_succ, List.cons.injEq, Option.some.injEq, V.int.injEq, V.str.injEq, V.bl.injEq, D.int.injEq, D.str.injEq, D.bl.injEq, D.ref.injEq, D.tup.injEq, D.lst.injEq, D.ty.injEq, AO.lst.injEq, AO.dct.injEq, AO.ins.injEq, Prod.mk.injEq, exists_eq_left, exists_eq_left', exists_eq_right, exists_eq_right', exists_and_left, exists_and_right, true_and, and_true, and_self, if_true, if_false, Bool.false_eq_true, Bool.true_eq_false, eq_self, reduceCtorEq, false_and, and_false, and_assoc, Int.reduceToNat, Int.reducePow, Int.reduceMul, Int.reduceAdd, Int.reduceNeg, Int.reduceSub, String.reduceEq, String.reduceNe, ne_eq, not_false_eq_true, not_true_eq_false, decide_false, decide_true, Bool.not_false, Bool.not_true, Bool.or_false, Bool.false_or, Bool.or_true, Bool.true_or, Bool.and_true, Bool.true_and, Bool.and_self, Bool.and_false, Bool.false_and, exists_eq', exists_eq, exists_const, false_or, or_false, or_self, List.all_cons, List.all_nil, List.any_cons, List.any_nil, Nat.reduceLeDiff, exists_false, List.map_nil, List.map_cons, Option.map_some, Option.isSome_some, Option.isSome_none, Option.getD_some, Option.getD_none, implies_true, List.foldl_cons, List.foldl_nil, forall_const, ofS_eq, Int.reduceLT, Int.reduceLE, Nat.reduceLT]; exact fin_id this
  · have e := rf_n (w := "begin") (m := S.m) (n := (S.q.length : Int)) (n' := 0) (by decide)
    have r := Rz_fin (r (by simp [W6]))
    rw [e] at r
    cases ts with
    | nil => exact absurd rfl (hb rfl)
    | cons t ts =>
      simp only [↓RD, RU, aStart, wipeA, putFA, toP, toPs, scDs, valD_nil, valD_cons, putM_eq, mergeD_eq, keysOk, aHandle, endsAA, putAA, starSp, put_same, put_put, inV_nil, inV_str, cxK, atI_0, atI_1, atI_2, atI_3, ixN_30, ixN_31, ixN_32, List.map, List.replicate, List.length_cons, List.length_nil, List.nil_append, List.cons_append, List.append_nil, Nat.reduceSub, Nat.reduceAdd, List.getElem?_cons_zero, List.getElem?_cons_succ, List.set_cons_zero, List.set_cons_succ, List.cons.injEq, Option.some.injEq, V.int.injEq, V.str.injEq, V.bl.injEq, D.int.injEq, D.str.injEq, D.bl.injEq, D.ref.injEq, D.tup.injEq, D.lst.injEq, D.ty.injEq, AO.lst.injEq, AO.dct.injEq, AO.ins.injEq, Prod.mk.injEq, exists_eq_left, exists_eq_left', exists_eq_right, exists_eq_right', exists_and_left, exists_and_right, true_and, and_true, and_self, if_true, if_false, Bool.false_eq_true, Bool.true_eq_false, eq_self, reduceCtorEq, false_and, and_false, and_assoc, Int.reduceToNat, Int.reducePow, Int.reduceMul, Int.reduceAdd, Int.reduceNeg, Int.reduceSub, String.reduceEq, String.reduceNe, ne_eq, not_false_eq_true, not_true_eq_false, decide_false, decide_true, Bool.not_false, Bool.not_true, Bool.or_false, Bool.false_or, Bool.or_true, Bool.true_or, Bool.and_true, Bool.true_and, Bool.and_self, Bool.and_false, Bool.false_and, exists_eq', exists_eq, exists_const, false_or, or_false, or_self, List.all_cons, List.all_nil, List.any_cons, List.any_nil, Nat.reduceLeDiff, exists_false, List.map_nil, List.map_cons, Option.map_some, Option.isSome_some, Option.isSome_none, Option.getD_some, Option.getD_none, implies_true, List.foldl_cons, List.foldl_nil, forall_const, ofS_eq, Int.reduceLT, Int.reduceLE, Nat.reduceLT, ha, ln_begin]
      refine ⟨a, l, S, t, rfl, hL, fun hf => ?_, r⟩
      have hf' := e.trans hf
      have := k (.inr (.inr hf')) l (.inl rfl)
      rw [S_begin hf', v_no (.inr (.inl rfl))] at this
      simp only [↓RD, RU, aStart, wipeA, putFA, toP, toPs, scDs, valD_nil, valD_cons, putM_eq, mergeD_eq, keysOk, aHandle, endsAA, putAA, starSp, put_same, put_put, inV_nil, inV_str, cxK, atI_0, atI_1, atI_2, atI_3, ixN_30, ixN_31, ixN_32, List.map, List.replicate, List.length_cons, List.length_nil, List.nil_append, List.cons_append, List.append_nil, Nat.reduceSub, Nat.reduceAdd, List.getElem?_cons_zero, List.getElem?_cons_succ, List.set_cons_zero, List.set_cons_succ, List.cons.injEq, Option.some.injEq, V.int.injEq, V.str.injEq, V.bl.injEq, D.int.injEq, D.str.injEq, D.bl.injEq, D.ref.injEq, D.tup.injEq, D.lst.injEq, D.ty.injEq, AO.lst.injEq, AO.dct.injEq, AO.ins.injEq, Prod.mk.injEq, exists_eq_left, exists_eq_left', exists_eq_right, exists_eq_right', exists_and_left, exists_and_right, true_and, and_true, and_self, if_true, if_false, Bool.false_eq_true, Bool.true_eq_false, eq_self, reduceCtorEq, false_and, and_false, and_assoc, Int.reduceToNat, Int.reducePow, Int.reduceMul, Int.reduceAdd, Int.reduceNeg, Int.reduceSub, String.reduceEq, String.reduceNe, ne_eq, not_false_eq_true, not_true_eq_false, decide_false, decide_true, Bool.not_false, Bool.not_true, Bool.or_false, Bool.false_or, Bool.or_true, Bool.true_or, Bool.and_true, Bool.true_and, Bool.and_self, Bool.and_false, Bool.false_and, exists_eq', exists_eq, exists_const, false_or, or_false, or_self, List.all_cons, List.all_nil, List.any_cons, List.any_nil, Nat.reduceLeDiff, exists_false, List.map_nil, List.map_cons, Option.map_some, Option.isSome_some, Option.isSome_none, Option.getD_some, Option.getD_none, implies_true, List.foldl_cons, List.foldl_nil, forall_const, ofS_eq, Int.reduceLT, Int.reduceLE, Nat.reduceLT]; exact fin_id this
  · have e := rf_n (w := "finish") (m := S.m) (n := (S.q.length : Int)) (n' := 0) (by decide)
    have r := Rz_fin (r (by simp [W6]))
    rw [e] at r
    simp only [↓RD, RU, aStart, wipeA, putFA, toP, toPs, scDs, valD_nil, valD_cons, putM_eq, mergeD_eq, keysOk, aHandle, endsAA, putAA, starSp, put_same, put_put, inV_nil, inV_str, cxK, atI_0, atI_1, atI_2, atI_3, ixN_30, ixN_31, ixN_32, List.map, List.replicate, List.length_cons, List.length_nil, List.nil_append, List.cons_append, List.append_nil, Nat.reduceSub, Nat.reduceAdd, List.getElem?_cons_zero, List.getElem?_cons_succ, List.set_cons_zero, List.set_cons_succ, List.cons.injEq, Option.some.injEq, V.int.injEq, V.str.injEq, V.bl.injEq, D.int.injEq, D.str.injEq, D.bl.injEq, D.ref.injEq, D.tup.injEq, D.lst.injEq, D.ty.injEq, AO.lst.injEq, AO.dct.injEq, AO.ins.injEq, Prod.mk.injEq, exists_eq_left, exists_eq_left', exists_eq_right, exists_eq_right', exists_and_left, exists_and_right, true_and, and_true, and_self, if_true, if_false, Bool.false_eq_true, Bool.true_eq_false, eq_self, reduceCtorEq, false_and, and_false, and_assoc, Int.reduceToNat, Int.reducePow, Int.reduceMul, Int.reduceAdd, Int.reduceNeg, Int.reduceSub, String.reduceEq, String.reduceNe, ne_eq, not_false_eq_true, not_true_eq_false, decide_false, decide_true, Bool.not_false, Bool.not_true, Bool.or_false, Bool.false_or, Bool.or_true, Bool.true_or, Bool.and_true, Bool.true_and, Bool.and_self, Bool.and_false, Bool.false_and, exists_eq', exists_eq, exists_const, false_or, or_false, or_self, List.all_cons, List.all_nil, List.any_cons, List.any_nil, Nat.reduceLeDiff, exists_false, List.map_nil, List.map_cons, Option.map_some, Option.isSome_some, Option.isSome_none, Option.getD_some, Option.getD_none, implies_true, List.foldl_cons, List.foldl_nil, forall_const, ofS_eq, Int.reduceLT, Int.reduceLE, Nat.reduceLT, ha, ln_finish]
    refine ⟨a, l, S, rfl, hL, by omega, fun hf => ?_, r⟩
    have hf' := e.trans hf
    have := k (.inr (.inr hf')) l (.inl rfl)
    rw [S_finish hf', v_no (.inr (.inr (.inl rfl)))] at this
    simp only [↓RD, RU, aStart, wipeA, putFA, toP, toPs, scDs, valD_nil, valD_cons, putM_eq, mergeD_eq, keysOk, aHandle, endsAA, putAA, starSp, put_same, put_put, inV_nil, inV_str, cxK, atI_0, atI_1, atI_2, atI_3, ixN_30, ixN_31, ixN_32, List.map, List.replicate, List.length_cons, List.length_nil, List.nil_append, List.cons_append, List.append_nil, Nat.reduceSub, Nat.reduceAdd, List.getElem?_cons_zero, List.getElem?_cons_succ, List.set_cons_zero, List.set_cons_succ, List.cons.injEq, Option.some.injEq, V.int.injEq, V.str.injEq, V.bl.injEq, D.int.injEq, D.str.injEq, D.bl.injEq, D.ref.injEq, D.tup.injEq, D.lst.injEq, D.ty.injEq, AO.lst.injEq, AO.dct.injEq, AO.ins.injEq, Prod.mk.injEq, exists_eq_left, exists_eq_left', exists_eq_right, exists_eq_right', exists_and_left, exists_and_right, true_and, and_true, and_self, if_true, if_false, Bool.false_eq_true, Bool.true_eq_false, eq_self, reduceCtorEq, false_and, and_false, and_assoc, Int.reduceToNat, Int.reducePow, Int.reduceMul, Int.reduceAdd, Int.reduceNeg, Int.reduceSub, String.reduceEq, String.reduceNe, ne_eq, not_false_eq_true, not_true_eq_false, decide_false, decide_true, Bool.not_false, Bool.not_true, Bool.or_false, Bool.false_or, Bool.or_true, Bool.true_or, Bool.and_true, Bool.true_and, Bool.and_self, Bool.and_false, Bool.false_and, exists_eq', exists_eq, exists_const, false_or, or_false, or_self, List.all_cons, List.all_nil, List.any_cons, List.any_nil, Nat.reduceLeDiff, exists_false, List.map_nil, List.map_cons, Option.map_some, Option.isSome_some, Option.isSome_none, Option.getD_some, Option.getD_none, implies_true, List.foldl_cons, List.foldl_nil, forall_const, ofS_eq, Int.reduceLT, Int.reduceLE, Nat.reduceLT]; exact fin_id this
  · simp only [↓RD, RU, aStart, wipeA, putFA, toP, toPs, scDs, valD_nil, valD_cons, putM_eq, mergeD_eq, keysOk, aHandle, endsAA, putAA, starSp, put_same, put_put, inV_nil, inV_str, cxK, atI_0, atI_1, atI_2, atI_3, ixN_30, ixN_31, ixN_32, List.map, List.replicate, List.length_cons, List.length_nil, List.nil_append, List.cons_append, List.append_nil, Nat.reduceSub, Nat.reduceAdd, List.getElem?_cons_zero, List.getElem?_cons_succ, List.set_cons_zero, List.set_cons_succ, List.cons.injEq, Option.some.injEq, V.int.injEq, V.str.injEq, V.bl.injEq, D.int.injEq, D.str.injEq, D.bl.injEq, D.ref.injEq, D.tup.injEq, D.lst.injEq, D.ty.injEq, AO.lst.injEq, AO.dct.injEq, AO.ins.injEq, Prod.mk.injEq, exists_eq_left, exists_eq_left', exists_eq_right, exists_eq_right', exists_and_left, exists_and_right, true_and, and_true, and_self, if_true, if_false, Bool.false_eq_true, Bool.true_eq_false, eq_self, reduceCtorEq, false_and, and_false, and_assoc, Int.reduceToNat, Int.reducePow, Int.reduceMul, Int.reduceAdd, Int.reduceNeg, Int.reduceSub, String.reduceEq, String.reduceNe, ne_eq, not_false_eq_true, not_true_eq_false, decide_false, decide_true, Bool.not_false, Bool.not_true, Bool.or_false, Bool.false_or, Bool.or_true, Bool.true_or, Bool.and_true, Bool.true_and, Bool.and_self, Bool.and_false, Bool.false_and, exists_eq', exists_eq, exists_const, false_or, or_false, or_self, List.all_cons, List.all_nil, List.any_cons, List.any_nil, Nat.reduceLeDiff, exists_false, List.map_nil, List.map_cons, Option.map_some, Option.isSome_some, Option.isSome_none, Option.getD_some, Option.getD_none, implies_true, List.foldl_cons, List.foldl_nil, forall_const, ofS_eq, Int.reduceLT, Int.reduceLE, Nat.reduceLT, ha, ln_read]
    refine ⟨a, l, S, rfl, hL, hz', fun t q hf hq => ?_, Rz_fin (r (by simp [W6]))⟩
    have := k (.inr (.inr hf)) l (.inl rfl)
    rw [S_read hq hf, v_hd (.inl rfl) hq] at this
    exact fin_id this
  · simp only [↓RD, RU, aStart, wipeA, putFA, toP, toPs, scDs, valD_nil, valD_cons, putM_eq, mergeD_eq, keysOk, aHandle, endsAA, putAA, starSp, put_same, put_put, inV_nil, inV_str, cxK, atI_0, atI_1, atI_2, atI_3, ixN_30, ixN_31, ixN_32, List.map, List.replicate, List.length_cons, List.length_nil, List.nil_append, List.cons_append, List.append_nil, Nat.reduceSub, Nat.reduceAdd, List.getElem?_cons_zero, List.getElem?_cons_succ, List.set_cons_zero, List.set_cons_succ, List.cons.injEq, Option.some.injEq, V.int.injEq, V.str.injEq, V.bl.injEq, D.int.injEq, D.str.injEq, D.bl.injEq, D.ref.injEq, D.tup.injEq, D.lst.injEq, D.ty.injEq, AO.lst.injEq, AO.dct.injEq, AO.ins.injEq, Prod.mk.injEq, exists_eq_left, exists_eq_left', exists_eq_right, exists_eq_right', exists_and_left, exists_and_right, true_and, and_true, and_self, if_true, if_false, Bool.false_eq_true, Bool.true_eq_false, eq_self, reduceCtorEq, false_and, and_false, and_assoc, Int.reduceToNat, Int.reducePow, Int.reduceMul, Int.reduceAdd, Int.reduceNeg, Int.reduceSub, String.reduceEq, String.reduceNe, ne_eq, not_false_eq_true, not_true_eq_false, decide_false, decide_true, Bool.not_false, Bool.not_true, Bool.or_false, Bool.false_or, Bool.or_true, Bool.true_or, Bool.and_true, Bool.true_and, Bool.and_self, Bool.and_false, Bool.false_and, exists_eq', exists_eq, exists_const, false_or, or_false, or_self, List.all_cons, List.all_nil, List.any_cons, List.any_nil, Nat.reduceLeDiff, exists_false, List.map_nil, List.map_cons, Option.map_some, Option.isSome_some, Option.isSome_none, Option.getD_some, Option.getD_none, implies_true, List.foldl_cons, List.foldl_nil, forall_const, ofS_eq, Int.reduceLT, Int.reduceLE, Nat.reduceLT, ha, ln_head]
    refine ⟨a, l, S, rfl, hL, hz', fun t q hf hq => ?_, Rz_fin (r (by simp [W6]))⟩
    have := k (.inr (.inr hf)) l (.inl rfl)
    rw [S_head hf, v_hd (.inr (.inl rfl)) hq] at this
    exact fin_id this
  · simp only [↓RD, RU, aStart, wipeA, putFA, toP, toPs, scDs, valD_nil, valD_cons, putM_eq, mergeD_eq, keysOk, aHandle, endsAA, putAA, starSp, put_same, put_put, inV_nil, inV_str, cxK, atI_0, atI_1, atI_2, atI_3, ixN_30, ixN_31, ixN_32, List.map, List.replicate, List.length_cons, List.length_nil, List.nil_append, List.cons_append, List.append_nil, Nat.reduceSub, Nat.reduceAdd, List.getElem?_cons_zero, List.getElem?_cons_succ, List.set_cons_zero, List.set_cons_succ, List.cons.injEq, Option.some.injEq, V.int.injEq, V.str.injEq, V.bl.injEq, D.int.injEq, D.str.injEq, D.bl.injEq, D.ref.injEq, D.tup.injEq, D.lst.injEq, D.ty.injEq, AO.lst.injEq, AO.dct.injEq, AO.ins.injEq, Prod.mk.injEq, exists_eq_left, exists_eq_left', exists_eq_right, exists_eq_right', exists_and_left, exists_and_right, true_and, and_true, and_self, if_true, if_false, Bool.false_eq_true, Bool.true_eq_false, eq_self, reduceCtorEq, false_and, and_false, and_assoc, Int.reduceToNat, Int.reducePow, Int.reduceMul, Int.reduceAdd, Int.reduceNeg, Int.reduceSub, String.reduceEq, String.reduceNe, ne_eq, not_false_eq_true, not_true_eq_false, decide_false, decide_true, Bool.not_false, Bool.not_true, Bool.or_false, Bool.false_or, Bool.or_true, Bool.true_or, Bool.and_true, Bool.true_and, Bool.and_self, Bool.and_false, Bool.false_and, exists_eq', exists_eq, exists_const, false_or, or_false, or_self, List.all_cons, List.all_nil, List.any_cons, List.any_nil, Nat.reduceLeDiff, exists_false, List.map_nil, List.map_cons, Option.map_some, Option.isSome_some, Option.isSome_none, Option.getD_some, Option.getD_none, implies_true, List.foldl_cons, List.foldl_nil, forall_const, ofS_eq, Int.reduceLT, Int.reduceLE, Nat.reduceLT, ha, ln_body]
    refine ⟨a, l, S, rfl, hL, hz', hG.hd, fun t q hf hq => ?_, Rz_fin (r (by simp [W6]))⟩
    have := k (.inr (.inr hf)) l (.inl rfl)
    rw [S_body hq hf, v_hd (.inr (.inr rfl)) hq] at this
    exact fin_id this
  · simp only [↓RD, RU, aStart, wipeA, putFA, toP, toPs, scDs, valD_nil, valD_cons, putM_eq, mergeD_eq, keysOk, aHandle, endsAA, putAA, starSp, put_same, put_put, inV_nil, inV_str, cxK, atI_0, atI_1, atI_2, atI_3, ixN_30, ixN_31, ixN_32, List.map, List.replicate, List.length_cons, List.length_nil, List.nil_append, List.cons_append, List.append_nil, Nat.reduceSub, Nat.reduceAdd, List.getElem?_cons_zero, List.getElem?_cons_succ, List.set_cons_zero, List.set_cons_succ, List.cons.injEq, Option.some.injEq, V.int.injEq, V.str.injEq, V.bl.injEq, D.int.injEq, D.str.injEq, D.bl.injEq, D.ref.injEq, D.tup.injEq, D.lst.injEq, D.ty.injEq, AO.lst.injEq, AO.dct.injEq, AO.ins.injEq, Prod.mk.injEq, exists_eq_left, exists_eq_left', exists_eq_right, exists_eq_right', exists_and_left, exists_and_right, true_and, and_true, and_self, if_true, if_false, Bool.false_eq_true, Bool.true_eq_false, eq_self, reduceCtorEq, false_and, and_false, and_assoc, Int.reduceToNat, Int.reducePow, Int.reduceMul, Int.reduceAdd, Int.reduceNeg, Int.reduceSub, String.reduceEq, String.reduceNe, ne_eq, not_false_eq_true, not_true_eq_false, decide_false, decide_true, Bool.not_false, Bool.not_true, Bool.or_false, Bool.false_or, Bool.or_true, Bool.true_or, Bool.and_true, Bool.true_and, Bool.and_self, Bool.and_false, Bool.false_and, exists_eq', exists_eq, exists_const, false_or, or_false, or_self, List.all_cons, List.all_nil, List.any_cons, List.any_nil, Nat.reduceLeDiff, exists_false, List.map_nil, List.map_cons, Option.map_some, Option.isSome_some, Option.isSome_none, Option.getD_some, Option.getD_none, implies_true, List.foldl_cons, List.foldl_nil, forall_const, ofS_eq, Int.reduceLT, Int.reduceLE, Nat.reduceLT, ha, ln_drain]
    refine ⟨a, l, S, rfl, hL, fun l' hl' => ?_⟩
    have := k (.inl rfl) l' (.inr hl')
    rw [S_drain] at this
    exact fin_id this
  · simp only [↓RD, RU, aStart, wipeA, putFA, toP, toPs, scDs, valD_nil, valD_cons, putM_eq, mergeD_eq, keysOk, aHandle, endsAA, putAA, starSp, put_same, put_put, inV_nil, inV_str, cxK, atI_0, atI_1, atI_2, atI_3, ixN_30, ixN_31, ixN_32, List.map, List.replicate, List.length_cons, List.length_nil, List.nil_append, List.cons_append, List.append_nil, Nat.reduceSub, Nat.reduceAdd, List.getElem?_cons_zero, List.getElem?_cons_succ, List.set_cons_zero, List.set_cons_succ, List.cons.injEq, Option.some.injEq, V.int.injEq, V.str.injEq, V.bl.injEq, D.int.injEq, D.str.injEq, D.bl.injEq, D.ref.injEq, D.tup.injEq, D.lst.injEq, D.ty.injEq, AO.lst.injEq, AO.dct.injEq, AO.ins.injEq, Prod.mk.injEq, exists_eq_left, exists_eq_left', exists_eq_right, exists_eq_right', exists_and_left, exists_and_right, true_and, and_true, and_self, if_true, if_false, Bool.false_eq_true, Bool.true_eq_false, eq_self, reduceCtorEq, false_and, and_false, and_assoc, Int.reduceToNat, Int.reducePow, Int.reduceMul, Int.reduceAdd, Int.reduceNeg, Int.reduceSub, String.reduceEq, String.reduceNe, ne_eq, not_false_eq_true, not_true_eq_false, decide_false, decide_true, Bool.not_false, Bool.not_true, Bool.or_false, Bool.false_or, Bool.or_true, Bool.true_or, Bool.and_true, Bool.true_and, Bool.and_self, Bool.and_false, Bool.false_and, exists_eq', exists_eq, exists_const, false_or, or_false, or_self, List.all_cons, List.all_nil, List.any_cons, List.any_nil, Nat.reduceLeDiff, exists_false, List.map_nil, List.map_cons, Option.map_some, Option.isSome_some, Option.isSome_none, Option.getD_some, Option.getD_none, implies_true, List.foldl_cons, List.foldl_nil, forall_const, ofS_eq, Int.reduceLT, Int.reduceLE, Nat.reduceLT, ha, ln_close]
    cases hw : isNoD why with
    | true =>
      have e0 : why = .non := by cases why <;> first | rfl | cases hw
      subst e0
      simp only [↓RD, RU, aStart, wipeA, putFA, toP, toPs, scDs, valD_nil, valD_cons, putM_eq, mergeD_eq, keysOk, aHandle, endsAA, putAA, starSp, put_same, put_put, inV_nil, inV_str, cxK, atI_0, atI_1, atI_2, atI_3, ixN_30, ixN_31, ixN_32, List.map, List.replicate, List.length_cons, List.length_nil, List.nil_append, List.cons_append, List.append_nil, Nat.reduceSub, Nat.reduceAdd, List.getElem?_cons_zero, List.getElem?_cons_succ, List.set_cons_zero, List.set_cons_succ, List.cons.injEq, Option.some.injEq, V.int.injEq, V.str.injEq, V.bl.injEq, D.int.injEq, D.str.injEq, D.bl.injEq, D.ref.injEq, D.tup.injEq, D.lst.injEq, D.ty.injEq, AO.lst.injEq, AO.dct.injEq, AO.ins.injEq, Prod.mk.injEq, exists_eq_left, exists_eq_left', exists_eq_right, exists_eq_right', exists_and_left, exists_and_right, true_and, and_true, and_self, if_true, if_false, Bool.false_eq_true, Bool.true_eq_false, eq_self, reduceCtorEq, false_and, and_false, and_assoc, Int.reduceToNat, Int.reducePow, Int.reduceMul, Int.reduceAdd, Int.reduceNeg, Int.reduceSub, String.reduceEq, String.reduceNe, ne_eq, not_false_eq_true, not_true_eq_false, decide_false, decide_true, Bool.not_false, Bool.not_true, Bool.or_false, Bool.false_or, Bool.or_true, Bool.true_or, Bool.and_true, Bool.true_and, Bool.and_self, Bool.and_false, Bool.false_and, exists_eq', exists_eq, exists_const, false_or, or_false, or_self, List.all_cons, List.all_nil, List.any_cons, List.any_nil, Nat.reduceLeDiff, exists_false, List.map_nil, List.map_cons, Option.map_some, Option.isSome_some, Option.isSome_none, Option.getD_some, Option.getD_none, implies_true, List.foldl_cons, List.foldl_nil, forall_const, ofS_eq, Int.reduceLT, Int.reduceLE, Nat.reduceLT]
      refine ⟨a, l, S, .non, rfl, hL, fun l' hl' => ?_⟩
      have := k (.inr (.inl rfl)) l' hl'
      rw [S_close, v_no (.inr (.inr (.inr rfl)))] at this
      simp only [↓RD, RU, aStart, wipeA, putFA, toP, toPs, scDs, valD_nil, valD_cons, putM_eq, mergeD_eq, keysOk, aHandle, endsAA, putAA, starSp, put_same, put_put, inV_nil, inV_str, cxK, atI_0, atI_1, atI_2, atI_3, ixN_30, ixN_31, ixN_32, List.map, List.replicate, List.length_cons, List.length_nil, List.nil_append, List.cons_append, List.append_nil, Nat.reduceSub, Nat.reduceAdd, List.getElem?_cons_zero, List.getElem?_cons_succ, List.set_cons_zero, List.set_cons_succ, List.cons.injEq, Option.some.injEq, V.int.injEq, V.str.injEq, V.bl.injEq, D.int.injEq, D.str.injEq, D.bl.injEq, D.ref.injEq, D.tup.injEq, D.lst.injEq, D.ty.injEq, AO.lst.injEq, AO.dct.injEq, AO.ins.injEq, Prod.mk.injEq, exists_eq_left, exists_eq_left', exists_eq_right, exists_eq_right', exists_and_left, exists_and_right, true_and, and_true, and_self, if_true, if_false, Bool.false_eq_true, Bool.true_eq_false, eq_self, reduceCtorEq, false_and, and_false, and_assoc, Int.reduceToNat, Int.reducePow, Int.reduceMul, Int.reduceAdd, Int.reduceNeg, Int.reduceSub, String.reduceEq, String.reduceNe, ne_eq, not_false_eq_true, not_true_eq_false, decide_false, decide_true, Bool.not_false, Bool.not_true, Bool.or_false, Bool.false_or, Bool.or_true, Bool.true_or, Bool.and_true, Bool.true_and, Bool.and_self, Bool.and_false, Bool.false_and, exists_eq', exists_eq, exists_const, false_or, or_false, or_self, List.all_cons, List.all_nil, List.any_cons, List.any_nil, Nat.reduceLeDiff, exists_false, List.map_nil, List.map_cons, Option.map_some, Option.isSome_some, Option.isSome_none, Option.getD_some, Option.getD_none, implies_true, List.foldl_cons, List.foldl_nil, forall_const, ofS_eq, Int.reduceLT, Int.reduceLE, Nat.reduceLT]; exact fin_id this
    | false =>
      simp only [↓RD, RU, aStart, wipeA, putFA, toP, toPs, scDs, valD_nil, valD_cons, putM_eq, mergeD_eq, keysOk, aHandle, endsAA, putAA, starSp, put_same, put_put, inV_nil, inV_str, cxK, atI_0, atI_1, atI_2, atI_3, ixN_30, ixN_31, ixN_32, List.map, List.replicate, List.length_cons, List.length_nil, List.nil_append, List.cons_append, List.append_nil, Nat.reduceSub, Nat.reduceAdd, List.getElem?_cons_zero, List.getElem?_cons_succ, List.set_cons_zero, List.set_cons_succ, List.cons.injEq, Option.some.injEq, V.int.injEq, V.str.injEq, V.bl.injEq, D.int.injEq, D.str.injEq, D.bl.injEq, D.ref.injEq, D.tup.injEq, D.lst.injEq, D.ty.injEq, AO.lst.injEq, AO.dct.injEq, AO.ins.injEq, Prod.mk.injEq, exists_eq_left, exists_eq_left', exists_eq_right, exists_eq_right', exists_and_left, exists_and_right, true_and, and_true, and_self, if_true, if_false, Bool.false_eq_true, Bool.true_eq_false, eq_self, reduceCtorEq, false_and, and_false, and_assoc, Int.reduceToNat, Int.reducePow, Int.reduceMul, Int.reduceAdd, Int.reduceNeg, Int.reduceSub, String.reduceEq, String.reduceNe, ne_eq, not_false_eq_true, not_true_eq_false, decide_false, decide_true, Bool.not_false, Bool.not_true, Bool.or_false, Bool.false_or, Bool.or_true, Bool.true_or, Bool.and_true, Bool.true_and, Bool.and_self, Bool.and_false, Bool.false_and, exists_eq', exists_eq, exists_const, false_or, or_false, or_self, List.all_cons, List.all_nil, List.any_cons, List.any_nil, Nat.reduceLeDiff, exists_false, List.map_nil, List.map_cons, Option.map_some, Option.isSome_some, Option.isSome_none, Option.getD_some, Option.getD_none, implies_true, List.foldl_cons, List.foldl_nil, forall_const, ofS_eq, Int.reduceLT, Int.reduceLE, Nat.reduceLT]
      refine ⟨a, l, S, why, rfl, hL, fun l' hl' => ?_⟩
      have := k (.inr (.inl rfl)) l' hl'
      rw [S_close, v_no (.inr (.inr (.inr rfl)))] at this
      simp only [↓RD, RU, aStart, wipeA, putFA, toP, toPs, scDs, valD_nil, valD_cons, putM_eq, mergeD_eq, keysOk, aHandle, endsAA, putAA, starSp, put_same, put_put, inV_nil, inV_str, cxK, atI_0, atI_1, atI_2, atI_3, ixN_30, ixN_31, ixN_32, List.map, List.replicate, List.length_cons, List.length_nil, List.nil_append, List.cons_append, List.append_nil, Nat.reduceSub, Nat.reduceAdd, List.getElem?_cons_zero, List.getElem?_cons_succ, List.set_cons_zero, List.set_cons_succ, List.cons.injEq, Option.some.injEq, V.int.injEq, V.str.injEq, V.bl.injEq, D.int.injEq, D.str.injEq, D.bl.injEq, D.ref.injEq, D.tup.injEq, D.lst.injEq, D.ty.injEq, AO.lst.injEq, AO.dct.injEq, AO.ins.injEq, Prod.mk.injEq, exists_eq_left, exists_eq_left', exists_eq_right, exists_eq_right', exists_and_left, exists_and_right, true_and, and_true, and_self, if_true, if_false, Bool.false_eq_true, Bool.true_eq_false, eq_self, reduceCtorEq, false_and, and_false, and_assoc, Int.reduceToNat, Int.reducePow, Int.reduceMul, Int.reduceAdd, Int.reduceNeg, Int.reduceSub, String.reduceEq, String.reduceNe, ne_eq, not_false_eq_true, not_true_eq_false, decide_false, decide_true, Bool.not_false, Bool.not_true, Bool.or_false, Bool.false_or, Bool.or_true, Bool.true_or, Bool.and_true, Bool.true_and, Bool.and_self, Bool.and_false, Bool.false_and, exists_eq', exists_eq, exists_const, false_or, or_false, or_self, List.all_cons, List.all_nil, List.any_cons, List.any_nil, Nat.reduceLeDiff, exists_false, List.map_nil, List.map_cons, Option.map_some, Option.isSome_some, Option.isSome_none, Option.getD_some, Option.getD_none, implies_true, List.foldl_cons, List.foldl_nil, forall_const, ofS_eq, Int.reduceLT, Int.reduceLE, Nat.reduceLT]; exact fin_id this

end V35

set_option Elab.async false
set_option linter.all false
set_option maxRecDepth 100000
set_option maxHeartbeats 4000000
namespace V35
open PySem PySem.Spec PyProof.Rows L2 My Av
theorem R_noF {w : Str} {S : LS} (hw : W8 w) (h : noF w S) : stepR w S = .tup [.str "told", valR w S] := by
  unfold stepR valR
  by_cases hc : w = "close"
  · subst hc; rw [if_pos rfl, if_neg (by decide), if_neg (by simp [ofS_eq])]
  rw [if_neg hc]
  by_cases hd : w = "drain"
  · rw [if_pos hd, if_pos hd]
  rw [if_neg hd, if_neg hd, if_pos (by rcases h with h | h | h; exact absurd h hd; exact absurd h hc; exact h)]
theorem step_fault {w : Str} {ts : List Str} {why : D} {S : LS} (hc : ¬ w = "close") (hd : ¬ w = "drain") (hf : ¬ rowF w S.m (S.q.length : Int) = none) : stepS w ts why S = S ∧ stepR w S = fauR S (rowF w S.m (S.q.length : Int)) := by
  unfold stepS stepR
  rw [if_neg hc, if_neg hd, if_neg hf, if_neg hc, if_neg hd, if_neg hf]
  exact ⟨rfl, rfl⟩
def sp_l_call (K : PySem.W.Frag) : ASp := fun ds A Q _ => ∃ (a l : Addr) (S : LS) (w : Str) (ts : List Str) (why : D), ds = [.ref a, .str w, .lst (List.map D.str ts), why] ∧ LineAt K A a l S ∧ W8 w ∧ GoodS S ∧ (w = "ask" → ts.length ≤ 3) ∧ (w = "begin" → ts ≠ []) ∧ S.q.length + ts.length < 100000 ∧
  ∀ l', l' = l ∨ A l' = none → Q (stepR w S) (setL K A a l' (stepS w ts why S))
theorem R_l_call {w : World} {K : PySem.W.Frag} {mg : Str → Option Value} {base : Heap} (T : Tx K mg) : FnR Pg w K mg base CX0 15 (He.ga K "_law_call") (liftSp K (sp_l_call K)) := by
  obtain ⟨fd, F⟩ := T.d_l_call
  refine Av.FunD.AR F sc_l_call (fun ds A Q E h => by obtain ⟨a, l, S, w', ts, why, rfl, hL, hw, hG, h3, hb, hz, k⟩ := h; rfl) (fun _ _ _ _ _ _ us hl => match us, hl with | [_, _, _, _], _ => rfl) (fun cdv A0 outer s H0 E0 ds A Q E hr h => ?_)
  obtain ⟨a, l, S, w', ts, why, rfl, hL, hw, hG, h3, hb, hz, k⟩ := h
  refine ⟨_, (ass_cons (as_try rfl rfl sc_l_call.nd takes_none5 (fun W pn xe tk po => by exact (ass_one (as_set (i := 4) sc_l_call.nd rfl (by first | exact Or.inl rfl | exact Or.inr rfl) (ae_tup (aa_cons ae_str (aa_cons (ae_callX (R_l_do T) (hr.mono (by decide)) rfl T.g__law_do T.k__law_do tk (aa_cons (ae_var (pv 0)) (aa_cons (ae_var (pv 1)) (aa_cons (ae_var (pv 2)) (aa_cons (ae_var (pv 3)) aa_nil))))) aa_nil)))))) (AClsOk.as (i := 5) ⟨rfl, by decide, .inl T.g_Closed⟩ rfl rfl (fun a dd CC fs oe pn hz hf => by exact (ass_one (as_set (i := 4) sc_l_call.nd rfl (by first | exact Or.inl rfl | exact Or.inr rfl) (ae_tup (aa_cons ae_str (aa_cons (ae_fldOw T.ow_Closed hz hf (ae_var (pv 5)) rfl) aa_nil)))))) (AClsOk.as (i := 5) ⟨rfl, by decide, .inl T.g_Amid⟩ rfl rfl (fun a dd CC fs oe pn hz hf => by exact (ass_one (as_set (i := 4) sc_l_call.nd rfl (by first | exact Or.inl rfl | exact Or.inr rfl) (ae_tup (aa_cons ae_str (aa_cons (ae_fldOw T.ow_Amid hz hf (ae_var (pv 5)) rfl) aa_nil)))))) (AClsOk.as (i := 5) ⟨rfl, by decide, .inl T.g_Starved⟩ rfl rfl (fun a dd CC fs oe pn hz hf => by exact (ass_one (as_set (i := 4) sc_l_call.nd rfl (by first | exact Or.inl rfl | exact Or.inr rfl) (ae_tup (aa_cons ae_str (aa_cons (ae_fldOw T.ow_Starved hz hf (ae_var (pv 5)) rfl) aa_nil)))))) AClsOk.nil))))
      (ass_one (as_ret (ae_var (pv 4))))), ?_⟩
  simp only [↓RD, RU, aStart, wipeA, putFA, toP, toPs, scDs, valD_nil, valD_cons, putM_eq, mergeD_eq, keysOk, aHandle, endsAA, putAA, starSp, put_same, put_put, inV_nil, inV_str, cxK, atI_0, atI_1, atI_2, atI_3, ixN_30, ixN_31, ixN_32, List.map, List.replicate, List.length_cons, List.length_nil, List.nil_append, List.cons_append, List.append_nil, Nat.reduceSub, Nat.reduceAdd, List.getElem?_cons_zero, List.getElem?_cons_succ, List.set_cons_zero, List.set_cons_succ, List.cons.injEq, Option.some.injEq, V.int.injEq, V.str.injEq, V.bl.injEq, D.int.injEq, D.str.injEq, D.bl.injEq, D.ref.injEq, D.tup.injEq, D.lst.injEq, D.ty.injEq, AO.lst.injEq, AO.dct.injEq, AO.ins.injEq, Prod.mk.injEq, exists_eq_left, exists_eq_left', exists_eq_right, exists_eq_right', exists_and_left, exists_and_right, true_and, and_true, and_self, if_true, if_false, Bool.false_eq_true, Bool.true_eq_false, eq_self, reduceCtorEq, false_and, and_false, and_assoc, Int.reduceToNat, Int.reducePow, Int.reduceMul, Int.reduceAdd, Int.reduceNeg, Int.reduceSub, String.reduceEq, String.reduceNe, ne_eq, not_false_eq_true, not_true_eq_false, decide_false, decide_true, Bool.not_false, Bool.not_true, Bool.or_false, Bool.false_or, Bool.or_true, Bool.true_or, Bool.and_true, Bool.true_and, Bool.and_self, Bool.and_false, Bool.false_and, exists_eq', exists_eq, exists_const, false_or, or_false, or_self, List.all_cons, List.all_nil, List.any_cons, List.any_nil, Nat.reduceLeDiff, exists_false, List.map_nil, List.map_cons, Option.map_some, Option.isSome_some, Option.isSome_none, Option.getD_some, Option.getD_none, implies_true, List.foldl_cons, List.foldl_nil, forall_const, ofS_eq, Int.reduceLT, Int.reduceLE, Nat.reduceLT]
  refine ⟨a, l, S, w', ts, why, rfl, hL, hw, hG, h3, hb, hz, fun hn l1 hl1 => ?_, fun h6 => ?_⟩
  · have := k l1 hl1
    rw [R_noF hw hn] at this
    simp only [↓RD, RU, aStart, wipeA, putFA, toP, toPs, scDs, valD_nil, valD_cons, putM_eq, mergeD_eq, keysOk, aHandle, endsAA, putAA, starSp, put_same, put_put, inV_nil, inV_str, cxK, atI_0, atI_1, atI_2, atI_3, ixN_30, ixN_31, ixN_32, List.map, List.replicate, List.length_cons, List.length_nil, List.nil_append, List.cons_append, List.append_nil, Nat.reduceSub, Nat.reduceAdd, List.getElem?_cons_zero, List.getElem?_cons_succ, List.set_cons_zero, List.set_cons_succ, List.cons.injEq, Option.some.injEq, V.int.injEq, V.str.injEq, V.bl.injEq, D.int.injEq, D.str.injEq, D.bl.injEq, D.ref.injEq, D.tup.injEq, D.lst.injEq, D.ty.injEq, AO.lst.injEq, AO.dct.injEq, AO.ins.injEq, Prod.mk.injEq, exists_eq_left, exists_eq_left', exists_eq_right, exists_eq_right', exists_and_left, exists_and_right, true_and, and_true, and_self, if_true, if_false, Bool.false_eq_true, Bool.true_eq_false, eq_self, reduceCtorEq, false_and, and_false, and_assoc, Int.reduceToNat, Int.reducePow, Int.reduceMul, Int.reduceAdd, Int.reduceNeg, Int.reduceSub, String.reduceEq, String.reduceNe, ne_eq, not_false_eq_true, not_true_eq_false, decide_false, decide_true, Bool.not_false, Bool.not_true, Bool.or_false, Bool.false_or, Bool.or_true, Bool.true_or, Bool.and_true, Bool.true_and, Bool.and_self, Bool.and_false, Bool.false_and, exists_eq', exists_eq, exists_const, false_or, or_false, or_self, List.all_cons, List.all_nil, List.any_cons, List.any_nil, Nat.reduceLeDiff, exists_false, List.map_nil, List.map_cons, Option.map_some, Option.isSome_some, Option.isSome_none, Option.getD_some, Option.getD_none, implies_true, List.foldl_cons, List.foldl_nil, forall_const, ofS_eq, Int.reduceLT, Int.reduceLE, Nat.reduceLT]
    exact fin_id this
  · have hc : ¬ w' = "close" := by rcases h6 with rfl | rfl | rfl | rfl | rfl | rfl <;> decide
    have hdr : ¬ w' = "drain" := by rcases h6 with rfl | rfl | rfl | rfl | rfl | rfl <;> decide
    have fn : ¬ rowF w' S.m (S.q.length : Int) = none → Q (fauR S (rowF w' S.m (S.q.length : Int))) A := fun hf => by
      obtain ⟨t1, t2⟩ := step_fault (ts := ts) (why := why) hc hdr hf
      have := k l (.inl rfl)
      rw [t1, t2, hL.same] at this
      exact this
    refine ⟨fun hf => ?_, fun hf => ?_, fun hf => ?_⟩
    · have fn := fn (by rw [hf]; intro z; cases z)
      rw [hf] at fn
      refine ⟨true, T.x_Closed_Closed, fun _ e dd => ?_, fun z => by cases z⟩
      simp only [↓RD, RU, aStart, wipeA, putFA, toP, toPs, scDs, valD_nil, valD_cons, putM_eq, mergeD_eq, keysOk, aHandle, endsAA, putAA, starSp, put_same, put_put, inV_nil, inV_str, cxK, atI_0, atI_1, atI_2, atI_3, ixN_30, ixN_31, ixN_32, List.map, List.replicate, List.length_cons, List.length_nil, List.nil_append, List.cons_append, List.append_nil, Nat.reduceSub, Nat.reduceAdd, List.getElem?_cons_zero, List.getElem?_cons_succ, List.set_cons_zero, List.set_cons_succ, List.cons.injEq, Option.some.injEq, V.int.injEq, V.str.injEq, V.bl.injEq, D.int.injEq, D.str.injEq, D.bl.injEq, D.ref.injEq, D.tup.injEq, D.lst.injEq, D.ty.injEq, AO.lst.injEq, AO.dct.injEq, AO.ins.injEq, Prod.mk.injEq, exists_eq_left, exists_eq_left', exists_eq_right, exists_eq_right', exists_and_left, exists_and_right, true_and, and_true, and_self, if_true, if_false, Bool.false_eq_true, Bool.true_eq_false, eq_self, reduceCtorEq, false_and, and_false, and_assoc, Int.reduceToNat, Int.reducePow, Int.reduceMul, Int.reduceAdd, Int.reduceNeg, Int.reduceSub, String.reduceEq, String.reduceNe, ne_eq, not_false_eq_true, not_true_eq_false, decide_false, decide_true, Bool.not_false, Bool.not_true, Bool.or_false, Bool.false_or, Bool.or_true, Bool.true_or, Bool.and_true, Bool.true_and, Bool.and_self, Bool.and_false, Bool.false_and, exists_eq', exists_eq, exists_const, false_or, or_false, or_self, List.all_cons, List.all_nil, List.any_cons, List.any_nil, Nat.reduceLeDiff, exists_false, List.map_nil, List.map_cons, Option.map_some, Option.isSome_some, Option.isSome_none, Option.getD_some, Option.getD_none, implies_true, List.foldl_cons, List.foldl_nil, forall_const, ofS_eq, Int.reduceLT, Int.reduceLE, Nat.reduceLT]
      exact ⟨_, rfl, fin_id fn⟩
    · have fn := fn (by rw [hf]; intro z; cases z)
      rw [hf] at fn
      refine ⟨false, T.x_Amid_Closed, (fun z => by cases z), fun _ => ⟨true, T.x_Amid_Amid, fun _ e dd => ?_, fun z => by cases z⟩⟩
      simp only [↓RD, RU, aStart, wipeA, putFA, toP, toPs, scDs, valD_nil, valD_cons, putM_eq, mergeD_eq, keysOk, aHandle, endsAA, putAA, starSp, put_same, put_put, inV_nil, inV_str, cxK, atI_0, atI_1, atI_2, atI_3, ixN_30, ixN_31, ixN_32, List.map, List.replicate, List.length_cons, List.length_nil, List.nil_append, List.cons_append, List.append_nil, Nat.reduceSub, Nat.reduceAdd, List.getElem?_cons_zero, List.getElem?_cons_succ, List.set_cons_zero, List.set_cons_succ, List.cons.injEq, Option.some.injEq, V.int.injEq, V.str.injEq, V.bl.injEq, D.int.injEq, D.str.injEq, D.bl.injEq, D.ref.injEq, D.tup.injEq, D.lst.injEq, D.ty.injEq, AO.lst.injEq, AO.dct.injEq, AO.ins.injEq, Prod.mk.injEq, exists_eq_left, exists_eq_left', exists_eq_right, exists_eq_right', exists_and_left, exists_and_right, true_and, and_true, and_self, if_true, if_false, Bool.false_eq_true, Bool.true_eq_false, eq_self, reduceCtorEq, false_and, and_false, and_assoc, Int.reduceToNat, Int.reducePow, Int.reduceMul, Int.reduceAdd, Int.reduceNeg, Int.reduceSub, String.reduceEq, String.reduceNe, ne_eq, not_false_eq_true, not_true_eq_false, decide_false, decide_true, Bool.not_false, Bool.not_true, Bool.or_false, Bool.false_or, Bool.or_true, Bool.true_or, Bool.and_true, Bool.true_and, Bool.and_self, Bool.and_false, Bool.false_and, exists_eq', exists_eq, exists_const, false_or, or_false, or_self, List.all_cons, List.all_nil, List.any_cons, List.any_nil, Nat.reduceLeDiff, exists_false, List.map_nil, List.map_cons, Option.map_some, Option.isSome_some, Option.isSome_none, Option.getD_some, Option.getD_none, implies_true, List.foldl_cons, List.foldl_nil, forall_const, ofS_eq, Int.reduceLT, Int.reduceLE, Nat.reduceLT]
      exact ⟨_, rfl, fin_id fn⟩
    · have fn := fn (by rw [hf]; intro z; cases z)
      rw [hf] at fn
      refine ⟨false, T.x_Starved_Closed, (fun z => by cases z), fun _ => ⟨false, T.x_Starved_Amid, (fun z => by cases z), fun _ => ⟨true, T.x_Starved_Starved, fun _ e dd => ?_, fun z => by cases z⟩⟩⟩
      simp only [↓RD, RU, aStart, wipeA, putFA, toP, toPs, scDs, valD_nil, valD_cons, putM_eq, mergeD_eq, keysOk, aHandle, endsAA, putAA, starSp, put_same, put_put, inV_nil, inV_str, cxK, atI_0, atI_1, atI_2, atI_3, ixN_30, ixN_31, ixN_32, List.map, List.replicate, List.length_cons, List.length_nil, List.nil_append, List.cons_append, List.append_nil, Nat.reduceSub, Nat.reduceAdd, List.getElem?_cons_zero, List.getElem?_cons_succ, List.set_cons_zero, List.set_cons_succ, List.cons.injEq, Option.some.injEq, V.int.injEq, V.str.injEq, V.bl.injEq, D.int.injEq, D.str.injEq, D.bl.injEq, D.ref.injEq, D.tup.injEq, D.lst.injEq, D.ty.injEq, AO.lst.injEq, AO.dct.injEq, AO.ins.injEq, Prod.mk.injEq, exists_eq_left, exists_eq_left', exists_eq_right, exists_eq_right', exists_and_left, exists_and_right, true_and, and_true, and_self, if_true, if_false, Bool.false_eq_true, Bool.true_eq_false, eq_self, reduceCtorEq, false_and, and_false, and_assoc, Int.reduceToNat, Int.reducePow, Int.reduceMul, Int.reduceAdd, Int.reduceNeg, Int.reduceSub, String.reduceEq, String.reduceNe, ne_eq, not_false_eq_true, not_true_eq_false, decide_false, decide_true, Bool.not_false, Bool.not_true, Bool.or_false, Bool.false_or, Bool.or_true, Bool.true_or, Bool.and_true, Bool.true_and, Bool.and_self, Bool.and_false, Bool.false_and, exists_eq', exists_eq, exists_const, false_or, or_false, or_self, List.all_cons, List.all_nil, List.any_cons, List.any_nil, Nat.reduceLeDiff, exists_false, List.map_nil, List.map_cons, Option.map_some, Option.isSome_some, Option.isSome_none, Option.getD_some, Option.getD_none, implies_true, List.foldl_cons, List.foldl_nil, forall_const, ofS_eq, Int.reduceLT, Int.reduceLE, Nat.reduceLT]
      exact ⟨_, rfl, fin_id fn⟩

theorem toPs_strs : ∀ (q : List Str), toPs (q.map D.str) = some (q.map PyData.str)
  | [] => rfl
  | x :: q => by rw [List.map_cons, toPs, toPs_strs q]; rfl
theorem dAll_strs : ∀ (q : List Str), PyData.depthAll (q.map PyData.str) = 0
  | [] => rfl
  | x :: q => by rw [List.map_cons, PyData.depthAll, dAll_strs q]; rfl
theorem dpts_strs : ∀ (n : Nat) (q : List Str), dpts n (q.map D.str) = true
  | n, [] => by rw [List.map_nil, dpts]
  | n, x :: q => by rw [List.map_cons, dpts, dpts_strs n q, dpt]; rfl
theorem dpt_strs {q : List Str} (n : Nat) (h : q.length ≤ 100000) : dpt (n + 1) (.lst (q.map D.str)) = true := by
  rw [dpt, dpts_strs, List.length_map, decide_eq_true h]; rfl
def sp_l_stands (K : PySem.W.Frag) : ASp := fun ds A Q _ => ∃ (a l d : Addr) (S : LS) (g : D) (t : Str), ds = [.ref a, .ref d, .str t] ∧ LineAt K A a l S ∧ A d = some (.dct (nowD S g)) ∧ dpt 4 S.c = true ∧ S.q.length ≤ 100000 ∧ Q (.bl true) A
theorem R_l_stands {w : World} {K : PySem.W.Frag} {mg : Str → Option Value} {base : Heap} (T : Tx K mg) : FnR Pg w K mg base CX0 7 (He.ga K "_law_stands") (liftSp K (sp_l_stands K)) := by
  obtain ⟨fd, F⟩ := T.d_l_stands
  refine Av.FunD.AR F sc_l_stands (fun ds A Q E h => by obtain ⟨a, l, d, S, g, t, rfl, hL, hd, hp, hz, k⟩ := h; rfl) (fun _ _ _ _ _ _ us hl => match us, hl with | [_, _, _], _ => rfl) (fun cdv A0 outer s H0 E0 ds A Q E hr h => ?_)
  obtain ⟨a, l, d, S, g, t, rfl, hL, hd, hp, hz, k⟩ := h
  refine ⟨_, (ass_cons (as_par2 (i := 3) (j := 4) (by rfl) sc_l_stands.nd rfl rfl (by decide) rfl rfl (aa_cons (ae_dget (hu_of hr) (ae_var (pv 1)) ae_str (fun _ _ => rfl)) (aa_cons (ae_dget (hu_of hr) (ae_var (pv 1)) ae_str (fun _ _ => rfl)) aa_nil)) (by rfl))
      (ass_cons (as_if (PW.pt (aw_or (at_not (at_truth (ae_callR (R_l_same T) (hr.mono (by decide)) rfl T.g__law_same T.k__law_same (aa_cons (ae_prop (ae_var (pv 0)) T.c_Line T.p_Line_mark (R_Line_mark T) (hr.mono (by decide)) rfl) (aa_cons (ae_var (pv 4)) aa_nil))))) (aw_or1 (at_not (at_truth (ae_callR (R_l_same T) (hr.mono (by decide)) rfl T.g__law_same T.k__law_same (aa_cons (ae_methR0 (ae_var (pv 0)) T.c_Line T.m_Line_tags (R_Line_tags T) (hr.mono (by decide))) (aa_cons (ae_var (pv 3)) aa_nil)))))))) (ass_one (as_ret ae_bl)) ass_nil)
      (ass_cons (as_if (PW.pt (aw_or (at_not (at_truth (ae_callR (R_l_same T) (hr.mono (by decide)) rfl T.g__law_same T.k__law_same (aa_cons (ae_prop (ae_var (pv 0)) T.c_Line T.p_Line_owed (R_Line_owed T) (hr.mono (by decide)) rfl) (aa_cons (ae_callB ca_len (by rfl) T.n_len (by decide +kernel) (aa_cons (ae_var (pv 3)) aa_nil)) aa_nil))))) (aw_or1 (at_not (at_truth (ae_callR (R_l_same T) (hr.mono (by decide)) rfl T.g__law_same T.k__law_same (aa_cons (ae_callB (ca_lenO (R_Line___len__ T) (hr.mono (by decide)) T.s_Line___len__) (by rfl) T.n_len (by decide +kernel) (aa_cons (ae_var (pv 0)) aa_nil)) (aa_cons (ae_callB ca_len (by rfl) T.n_len (by decide +kernel) (aa_cons (ae_var (pv 3)) aa_nil)) aa_nil)))))))) (ass_one (as_ret ae_bl)) ass_nil)
      (ass_cons (as_if (PW.pt (aw_or (at_not (at_truth (ae_callR (R_l_same T) (hr.mono (by decide)) rfl T.g__law_same T.k__law_same (aa_cons (ae_fld (ae_var (pv 0)) rfl) (aa_cons (ae_dget (hu_of hr) (ae_var (pv 1)) ae_str (fun _ _ => rfl)) aa_nil))))) (aw_or1 (at_not (at_truth (ae_callR (R_l_same T) (hr.mono (by decide)) rfl T.g__law_same T.k__law_same (aa_cons (ae_fld (ae_var (pv 0)) rfl) (aa_cons (ae_dget (hu_of hr) (ae_var (pv 1)) ae_str (fun _ _ => rfl)) aa_nil)))))))) (ass_one (as_ret ae_bl)) ass_nil)
      (ass_cons (as_if (at_cmpA (cmp_ne hr.units) (ae_callTy ca_bool (by rfl) T.n_bool (by decide +kernel) (aa_cons (ae_cmpA (cmp_inO (R_Line___contains__ T) (hr.mono (by decide)) T.s_Line___contains__) (ae_var (pv 2)) (ae_var (pv 0)) rfl) aa_nil)) (ae_cmpA cmp_in (ae_var (pv 2)) (ae_var (pv 3)) rfl) (nomark _)) (ass_one (as_ret ae_bl)) ass_nil)
      (ass_one (as_ret (ae_and (ae_callR (R_l_same T) (hr.mono (by decide)) rfl T.g__law_same T.k__law_same (aa_cons (ae_prop (ae_var (pv 0)) T.c_Line T.p_Line_is_open (R_Line_is_open T) (hr.mono (by decide)) rfl) (aa_cons (ae_cmpA (cmp_ne hr.units) (ae_var (pv 4)) ae_str (nomark _)) aa_nil))) (ae_one (ae_callR (R_l_same T) (hr.mono (by decide)) rfl T.g__law_same T.k__law_same (aa_cons (ae_prop (ae_var (pv 0)) T.c_Line T.p_Line_is_clean (R_Line_is_clean T) (hr.mono (by decide)) rfl) (aa_cons (ae_and (ae_cmpA (cmp_eq hr.units) (ae_var (pv 4)) ae_str (nomark _)) (ae_one (ae_cmpA (cmp_eq hr.units) (ae_var (pv 3)) (ae_lst false aa_nil) (nomark _)))) aa_nil)))))))))))), ?_⟩
  have ha := hL.ob
  simp only [↓RD, RU, aStart, wipeA, putFA, toP, toPs, scDs, valD_nil, valD_cons, putM_eq, mergeD_eq, keysOk, aHandle, endsAA, putAA, starSp, put_same, put_put, inV_nil, inV_str, cxK, atI_0, atI_1, atI_2, atI_3, ixN_30, ixN_31, ixN_32, List.map, List.replicate, List.length_cons, List.length_nil, List.nil_append, List.cons_append, List.append_nil, Nat.reduceSub, Nat.reduceAdd, List.getElem?_cons_zero, List.getElem?_cons_succ, List.set_cons_zero, List.set_cons_succ, List.cons.injEq, Option.some.injEq, V.int.injEq, V.str.injEq, V.bl.injEq, D.int.injEq, D.str.injEq, D.bl.injEq, D.ref.injEq, D.tup.injEq, D.lst.injEq, D.ty.injEq, AO.lst.injEq, AO.dct.injEq, AO.ins.injEq, Prod.mk.injEq, exists_eq_left, exists_eq_left', exists_eq_right, exists_eq_right', exists_and_left, exists_and_right, true_and, and_true, and_self, if_true, if_false, Bool.false_eq_true, Bool.true_eq_false, eq_self, reduceCtorEq, false_and, and_false, and_assoc, Int.reduceToNat, Int.reducePow, Int.reduceMul, Int.reduceAdd, Int.reduceNeg, Int.reduceSub, String.reduceEq, String.reduceNe, ne_eq, not_false_eq_true, not_true_eq_false, decide_false, decide_true, Bool.not_false, Bool.not_true, Bool.or_false, Bool.false_or, Bool.or_true, Bool.true_or, Bool.and_true, Bool.true_and, Bool.and_self, Bool.and_false, Bool.false_and, exists_eq', exists_eq, exists_const, false_or, or_false, or_self, List.all_cons, List.all_nil, List.any_cons, List.any_nil, Nat.reduceLeDiff, exists_false, List.map_nil, List.map_cons, Option.map_some, Option.isSome_some, Option.isSome_none, Option.getD_some, Option.getD_none, implies_true, List.foldl_cons, List.foldl_nil, forall_const, ofS_eq, Int.reduceLT, Int.reduceLE, Nat.reduceLT, hd, ha, ln_tags, nv_queue, nv_mark, nv_number, nv_cause, List.length_map, T.c_Line, T.f_Line_number, T.f_Line_cause, lf_number, lf_cause]
  refine ⟨a, l, S, rfl, hL, ?_⟩
  simp only [↓RD, RU, aStart, wipeA, putFA, toP, toPs, scDs, valD_nil, valD_cons, putM_eq, mergeD_eq, keysOk, aHandle, endsAA, putAA, starSp, put_same, put_put, inV_nil, inV_str, cxK, atI_0, atI_1, atI_2, atI_3, ixN_30, ixN_31, ixN_32, List.map, List.replicate, List.length_cons, List.length_nil, List.nil_append, List.cons_append, List.append_nil, Nat.reduceSub, Nat.reduceAdd, List.getElem?_cons_zero, List.getElem?_cons_succ, List.set_cons_zero, List.set_cons_succ, List.cons.injEq, Option.some.injEq, V.int.injEq, V.str.injEq, V.bl.injEq, D.int.injEq, D.str.injEq, D.bl.injEq, D.ref.injEq, D.tup.injEq, D.lst.injEq, D.ty.injEq, AO.lst.injEq, AO.dct.injEq, AO.ins.injEq, Prod.mk.injEq, exists_eq_left, exists_eq_left', exists_eq_right, exists_eq_right', exists_and_left, exists_and_right, true_and, and_true, and_self, if_true, if_false, Bool.false_eq_true, Bool.true_eq_false, eq_self, reduceCtorEq, false_and, and_false, and_assoc, Int.reduceToNat, Int.reducePow, Int.reduceMul, Int.reduceAdd, Int.reduceNeg, Int.reduceSub, String.reduceEq, String.reduceNe, ne_eq, not_false_eq_true, not_true_eq_false, decide_false, decide_true, Bool.not_false, Bool.not_true, Bool.or_false, Bool.false_or, Bool.or_true, Bool.true_or, Bool.and_true, Bool.true_and, Bool.and_self, Bool.and_false, Bool.false_and, exists_eq', exists_eq, exists_const, false_or, or_false, or_self, List.all_cons, List.all_nil, List.any_cons, List.any_nil, Nat.reduceLeDiff, exists_false, List.map_nil, List.map_cons, Option.map_some, Option.isSome_some, Option.isSome_none, Option.getD_some, Option.getD_none, implies_true, List.foldl_cons, List.foldl_nil, forall_const, ofS_eq, Int.reduceLT, Int.reduceLE, Nat.reduceLT, hd, ha, ln_tags, nv_queue, nv_mark, nv_number, nv_cause, List.length_map, T.c_Line, T.f_Line_number, T.f_Line_cause, lf_number, lf_cause]
  refine e_same (K := K) rfl ?_
  simp only [↓RD, RU, aStart, wipeA, putFA, toP, toPs, scDs, valD_nil, valD_cons, putM_eq, mergeD_eq, keysOk, aHandle, endsAA, putAA, starSp, put_same, put_put, inV_nil, inV_str, cxK, atI_0, atI_1, atI_2, atI_3, ixN_30, ixN_31, ixN_32, List.map, List.replicate, List.length_cons, List.length_nil, List.nil_append, List.cons_append, List.append_nil, Nat.reduceSub, Nat.reduceAdd, List.getElem?_cons_zero, List.getElem?_cons_succ, List.set_cons_zero, List.set_cons_succ, List.cons.injEq, Option.some.injEq, V.int.injEq, V.str.injEq, V.bl.injEq, D.int.injEq, D.str.injEq, D.bl.injEq, D.ref.injEq, D.tup.injEq, D.lst.injEq, D.ty.injEq, AO.lst.injEq, AO.dct.injEq, AO.ins.injEq, Prod.mk.injEq, exists_eq_left, exists_eq_left', exists_eq_right, exists_eq_right', exists_and_left, exists_and_right, true_and, and_true, and_self, if_true, if_false, Bool.false_eq_true, Bool.true_eq_false, eq_self, reduceCtorEq, false_and, and_false, and_assoc, Int.reduceToNat, Int.reducePow, Int.reduceMul, Int.reduceAdd, Int.reduceNeg, Int.reduceSub, String.reduceEq, String.reduceNe, ne_eq, not_false_eq_true, not_true_eq_false, decide_false, decide_true, Bool.not_false, Bool.not_true, Bool.or_false, Bool.false_or, Bool.or_true, Bool.true_or, Bool.and_true, Bool.true_and, Bool.and_self, Bool.and_false, Bool.false_and, exists_eq', exists_eq, exists_const, false_or, or_false, or_self, List.all_cons, List.all_nil, List.any_cons, List.any_nil, Nat.reduceLeDiff, exists_false, List.map_nil, List.map_cons, Option.map_some, Option.isSome_some, Option.isSome_none, Option.getD_some, Option.getD_none, implies_true, List.foldl_cons, List.foldl_nil, forall_const, ofS_eq, Int.reduceLT, Int.reduceLE, Nat.reduceLT, hd, ha, ln_tags, nv_queue, nv_mark, nv_number, nv_cause, List.length_map, T.c_Line, T.f_Line_number, T.f_Line_cause, lf_number, lf_cause]
  refine ⟨a, l, S, rfl, hL, ?_⟩
  simp only [↓RD, RU, aStart, wipeA, putFA, toP, toPs, scDs, valD_nil, valD_cons, putM_eq, mergeD_eq, keysOk, aHandle, endsAA, putAA, starSp, put_same, put_put, inV_nil, inV_str, cxK, atI_0, atI_1, atI_2, atI_3, ixN_30, ixN_31, ixN_32, List.map, List.replicate, List.length_cons, List.length_nil, List.nil_append, List.cons_append, List.append_nil, Nat.reduceSub, Nat.reduceAdd, List.getElem?_cons_zero, List.getElem?_cons_succ, List.set_cons_zero, List.set_cons_succ, List.cons.injEq, Option.some.injEq, V.int.injEq, V.str.injEq, V.bl.injEq, D.int.injEq, D.str.injEq, D.bl.injEq, D.ref.injEq, D.tup.injEq, D.lst.injEq, D.ty.injEq, AO.lst.injEq, AO.dct.injEq, AO.ins.injEq, Prod.mk.injEq, exists_eq_left, exists_eq_left', exists_eq_right, exists_eq_right', exists_and_left, exists_and_right, true_and, and_true, and_self, if_true, if_false, Bool.false_eq_true, Bool.true_eq_false, eq_self, reduceCtorEq, false_and, and_false, and_assoc, Int.reduceToNat, Int.reducePow, Int.reduceMul, Int.reduceAdd, Int.reduceNeg, Int.reduceSub, String.reduceEq, String.reduceNe, ne_eq, not_false_eq_true, not_true_eq_false, decide_false, decide_true, Bool.not_false, Bool.not_true, Bool.or_false, Bool.false_or, Bool.or_true, Bool.true_or, Bool.and_true, Bool.true_and, Bool.and_self, Bool.and_false, Bool.false_and, exists_eq', exists_eq, exists_const, false_or, or_false, or_self, List.all_cons, List.all_nil, List.any_cons, List.any_nil, Nat.reduceLeDiff, exists_false, List.map_nil, List.map_cons, Option.map_some, Option.isSome_some, Option.isSome_none, Option.getD_some, Option.getD_none, implies_true, List.foldl_cons, List.foldl_nil, forall_const, ofS_eq, Int.reduceLT, Int.reduceLE, Nat.reduceLT, hd, ha, ln_tags, nv_queue, nv_mark, nv_number, nv_cause, List.length_map, T.c_Line, T.f_Line_number, T.f_Line_cause, lf_number, lf_cause]
  refine e_same (K := K) (dpt_strs 3 hz) ?_
  simp only [↓RD, RU, aStart, wipeA, putFA, toP, toPs, scDs, valD_nil, valD_cons, putM_eq, mergeD_eq, keysOk, aHandle, endsAA, putAA, starSp, put_same, put_put, inV_nil, inV_str, cxK, atI_0, atI_1, atI_2, atI_3, ixN_30, ixN_31, ixN_32, List.map, List.replicate, List.length_cons, List.length_nil, List.nil_append, List.cons_append, List.append_nil, Nat.reduceSub, Nat.reduceAdd, List.getElem?_cons_zero, List.getElem?_cons_succ, List.set_cons_zero, List.set_cons_succ, List.cons.injEq, Option.some.injEq, V.int.injEq, V.str.injEq, V.bl.injEq, D.int.injEq, D.str.injEq, D.bl.injEq, D.ref.injEq, D.tup.injEq, D.lst.injEq, D.ty.injEq, AO.lst.injEq, AO.dct.injEq, AO.ins.injEq, Prod.mk.injEq, exists_eq_left, exists_eq_left', exists_eq_right, exists_eq_right', exists_and_left, exists_and_right, true_and, and_true, and_self, if_true, if_false, Bool.false_eq_true, Bool.true_eq_false, eq_self, reduceCtorEq, false_and, and_false, and_assoc, Int.reduceToNat, Int.reducePow, Int.reduceMul, Int.reduceAdd, Int.reduceNeg, Int.reduceSub, String.reduceEq, String.reduceNe, ne_eq, not_false_eq_true, not_true_eq_false, decide_false, decide_true, Bool.not_false, Bool.not_true, Bool.or_false, Bool.false_or, Bool.or_true, Bool.true_or, Bool.and_true, Bool.true_and, Bool.and_self, Bool.and_false, Bool.false_and, exists_eq', exists_eq, exists_const, false_or, or_false, or_self, List.all_cons, List.all_nil, List.any_cons, List.any_nil, Nat.reduceLeDiff, exists_false, List.map_nil, List.map_cons, Option.map_some, Option.isSome_some, Option.isSome_none, Option.getD_some, Option.getD_none, implies_true, List.foldl_cons, List.foldl_nil, forall_const, ofS_eq, Int.reduceLT, Int.reduceLE, Nat.reduceLT, hd, ha, ln_tags, nv_queue, nv_mark, nv_number, nv_cause, List.length_map, T.c_Line, T.f_Line_number, T.f_Line_cause, lf_number, lf_cause]
  refine ⟨a, l, S, rfl, hL, ?_⟩
  simp only [↓RD, RU, aStart, wipeA, putFA, toP, toPs, scDs, valD_nil, valD_cons, putM_eq, mergeD_eq, keysOk, aHandle, endsAA, putAA, starSp, put_same, put_put, inV_nil, inV_str, cxK, atI_0, atI_1, atI_2, atI_3, ixN_30, ixN_31, ixN_32, List.map, List.replicate, List.length_cons, List.length_nil, List.nil_append, List.cons_append, List.append_nil, Nat.reduceSub, Nat.reduceAdd, List.getElem?_cons_zero, List.getElem?_cons_succ, List.set_cons_zero, List.set_cons_succ, List.cons.injEq, Option.some.injEq, V.int.injEq, V.str.injEq, V.bl.injEq, D.int.injEq, D.str.injEq, D.bl.injEq, D.ref.injEq, D.tup.injEq, D.lst.injEq, D.ty.injEq, AO.lst.injEq, AO.dct.injEq, AO.ins.injEq, Prod.mk.injEq, exists_eq_left, exists_eq_left', exists_eq_right, exists_eq_right', exists_and_left, exists_and_right, true_and, and_true, and_self, if_true, if_false, Bool.false_eq_true, Bool.true_eq_false, eq_self, reduceCtorEq, false_and, and_false, and_assoc, Int.reduceToNat, Int.reducePow, Int.reduceMul, Int.reduceAdd, Int.reduceNeg, Int.reduceSub, String.reduceEq, String.reduceNe, ne_eq, not_false_eq_true, not_true_eq_false, decide_false, decide_true, Bool.not_false, Bool.not_true, Bool.or_false, Bool.false_or, Bool.or_true, Bool.true_or, Bool.and_true, Bool.true_and, Bool.and_self, Bool.and_false, Bool.false_and, exists_eq', exists_eq, exists_const, false_or, or_false, or_self, List.all_cons, List.all_nil, List.any_cons, List.any_nil, Nat.reduceLeDiff, exists_false, List.map_nil, List.map_cons, Option.map_some, Option.isSome_some, Option.isSome_none, Option.getD_some, Option.getD_none, implies_true, List.foldl_cons, List.foldl_nil, forall_const, ofS_eq, Int.reduceLT, Int.reduceLE, Nat.reduceLT, hd, ha, ln_tags, nv_queue, nv_mark, nv_number, nv_cause, List.length_map, T.c_Line, T.f_Line_number, T.f_Line_cause, lf_number, lf_cause]
  refine e_same (K := K) rfl ?_
  simp only [↓RD, RU, aStart, wipeA, putFA, toP, toPs, scDs, valD_nil, valD_cons, putM_eq, mergeD_eq, keysOk, aHandle, endsAA, putAA, starSp, put_same, put_put, inV_nil, inV_str, cxK, atI_0, atI_1, atI_2, atI_3, ixN_30, ixN_31, ixN_32, List.map, List.replicate, List.length_cons, List.length_nil, List.nil_append, List.cons_append, List.append_nil, Nat.reduceSub, Nat.reduceAdd, List.getElem?_cons_zero, List.getElem?_cons_succ, List.set_cons_zero, List.set_cons_succ, List.cons.injEq, Option.some.injEq, V.int.injEq, V.str.injEq, V.bl.injEq, D.int.injEq, D.str.injEq, D.bl.injEq, D.ref.injEq, D.tup.injEq, D.lst.injEq, D.ty.injEq, AO.lst.injEq, AO.dct.injEq, AO.ins.injEq, Prod.mk.injEq, exists_eq_left, exists_eq_left', exists_eq_right, exists_eq_right', exists_and_left, exists_and_right, true_and, and_true, and_self, if_true, if_false, Bool.false_eq_true, Bool.true_eq_false, eq_self, reduceCtorEq, false_and, and_false, and_assoc, Int.reduceToNat, Int.reducePow, Int.reduceMul, Int.reduceAdd, Int.reduceNeg, Int.reduceSub, String.reduceEq, String.reduceNe, ne_eq, not_false_eq_true, not_true_eq_false, decide_false, decide_true, Bool.not_false, Bool.not_true, Bool.or_false, Bool.false_or, Bool.or_true, Bool.true_or, Bool.and_true, Bool.true_and, Bool.and_self, Bool.and_false, Bool.false_and, exists_eq', exists_eq, exists_const, false_or, or_false, or_self, List.all_cons, List.all_nil, List.any_cons, List.any_nil, Nat.reduceLeDiff, exists_false, List.map_nil, List.map_cons, Option.map_some, Option.isSome_some, Option.isSome_none, Option.getD_some, Option.getD_none, implies_true, List.foldl_cons, List.foldl_nil, forall_const, ofS_eq, Int.reduceLT, Int.reduceLE, Nat.reduceLT, hd, ha, ln_tags, nv_queue, nv_mark, nv_number, nv_cause, List.length_map, T.c_Line, T.f_Line_number, T.f_Line_cause, lf_number, lf_cause]
  refine ⟨a, l, S, rfl, hL, ?_⟩
  simp only [↓RD, RU, aStart, wipeA, putFA, toP, toPs, scDs, valD_nil, valD_cons, putM_eq, mergeD_eq, keysOk, aHandle, endsAA, putAA, starSp, put_same, put_put, inV_nil, inV_str, cxK, atI_0, atI_1, atI_2, atI_3, ixN_30, ixN_31, ixN_32, List.map, List.replicate, List.length_cons, List.length_nil, List.nil_append, List.cons_append, List.append_nil, Nat.reduceSub, Nat.reduceAdd, List.getElem?_cons_zero, List.getElem?_cons_succ, List.set_cons_zero, List.set_cons_succ, List.cons.injEq, Option.some.injEq, V.int.injEq, V.str.injEq, V.bl.injEq, D.int.injEq, D.str.injEq, D.bl.injEq, D.ref.injEq, D.tup.injEq, D.lst.injEq, D.ty.injEq, AO.lst.injEq, AO.dct.injEq, AO.ins.injEq, Prod.mk.injEq, exists_eq_left, exists_eq_left', exists_eq_right, exists_eq_right', exists_and_left, exists_and_right, true_and, and_true, and_self, if_true, if_false, Bool.false_eq_true, Bool.true_eq_false, eq_self, reduceCtorEq, false_and, and_false, and_assoc, Int.reduceToNat, Int.reducePow, Int.reduceMul, Int.reduceAdd, Int.reduceNeg, Int.reduceSub, String.reduceEq, String.reduceNe, ne_eq, not_false_eq_true, not_true_eq_false, decide_false, decide_true, Bool.not_false, Bool.not_true, Bool.or_false, Bool.false_or, Bool.or_true, Bool.true_or, Bool.and_true, Bool.true_and, Bool.and_self, Bool.and_false, Bool.false_and, exists_eq', exists_eq, exists_const, false_or, or_false, or_self, List.all_cons, List.all_nil, List.any_cons, List.any_nil, Nat.reduceLeDiff, exists_false, List.map_nil, List.map_cons, Option.map_some, Option.isSome_some, Option.isSome_none, Option.getD_some, Option.getD_none, implies_true, List.foldl_cons, List.foldl_nil, forall_const, ofS_eq, Int.reduceLT, Int.reduceLE, Nat.reduceLT, hd, ha, ln_tags, nv_queue, nv_mark, nv_number, nv_cause, List.length_map, T.c_Line, T.f_Line_number, T.f_Line_cause, lf_number, lf_cause]
  refine ⟨Int.natCast_nonneg _, by omega, e_same (K := K) rfl ?_⟩
  simp only [↓RD, RU, aStart, wipeA, putFA, toP, toPs, scDs, valD_nil, valD_cons, putM_eq, mergeD_eq, keysOk, aHandle, endsAA, putAA, starSp, put_same, put_put, inV_nil, inV_str, cxK, atI_0, atI_1, atI_2, atI_3, ixN_30, ixN_31, ixN_32, List.map, List.replicate, List.length_cons, List.length_nil, List.nil_append, List.cons_append, List.append_nil, Nat.reduceSub, Nat.reduceAdd, List.getElem?_cons_zero, List.getElem?_cons_succ, List.set_cons_zero, List.set_cons_succ, List.cons.injEq, Option.some.injEq, V.int.injEq, V.str.injEq, V.bl.injEq, D.int.injEq, D.str.injEq, D.bl.injEq, D.ref.injEq, D.tup.injEq, D.lst.injEq, D.ty.injEq, AO.lst.injEq, AO.dct.injEq, AO.ins.injEq, Prod.mk.injEq, exists_eq_left, exists_eq_left', exists_eq_right, exists_eq_right', exists_and_left, exists_and_right, true_and, and_true, and_self, if_true, if_false, Bool.false_eq_true, Bool.true_eq_false, eq_self, reduceCtorEq, false_and, and_false, and_assoc, Int.reduceToNat, Int.reducePow, Int.reduceMul, Int.reduceAdd, Int.reduceNeg, Int.reduceSub, String.reduceEq, String.reduceNe, ne_eq, not_false_eq_true, not_true_eq_false, decide_false, decide_true, Bool.not_false, Bool.not_true, Bool.or_false, Bool.false_or, Bool.or_true, Bool.true_or, Bool.and_true, Bool.true_and, Bool.and_self, Bool.and_false, Bool.false_and, exists_eq', exists_eq, exists_const, false_or, or_false, or_self, List.all_cons, List.all_nil, List.any_cons, List.any_nil, Nat.reduceLeDiff, exists_false, List.map_nil, List.map_cons, Option.map_some, Option.isSome_some, Option.isSome_none, Option.getD_some, Option.getD_none, implies_true, List.foldl_cons, List.foldl_nil, forall_const, ofS_eq, Int.reduceLT, Int.reduceLE, Nat.reduceLT, hd, ha, ln_tags, nv_queue, nv_mark, nv_number, nv_cause, List.length_map, T.c_Line, T.f_Line_number, T.f_Line_cause, lf_number, lf_cause, scDs_strs, inV_strs]
  refine e_same (K := K) rfl ?_
  simp only [↓RD, RU, aStart, wipeA, putFA, toP, toPs, scDs, valD_nil, valD_cons, putM_eq, mergeD_eq, keysOk, aHandle, endsAA, putAA, starSp, put_same, put_put, inV_nil, inV_str, cxK, atI_0, atI_1, atI_2, atI_3, ixN_30, ixN_31, ixN_32, List.map, List.replicate, List.length_cons, List.length_nil, List.nil_append, List.cons_append, List.append_nil, Nat.reduceSub, Nat.reduceAdd, List.getElem?_cons_zero, List.getElem?_cons_succ, List.set_cons_zero, List.set_cons_succ, List.cons.injEq, Option.some.injEq, V.int.injEq, V.str.injEq, V.bl.injEq, D.int.injEq, D.str.injEq, D.bl.injEq, D.ref.injEq, D.tup.injEq, D.lst.injEq, D.ty.injEq, AO.lst.injEq, AO.dct.injEq, AO.ins.injEq, Prod.mk.injEq, exists_eq_left, exists_eq_left', exists_eq_right, exists_eq_right', exists_and_left, exists_and_right, true_and, and_true, and_self, if_true, if_false, Bool.false_eq_true, Bool.true_eq_false, eq_self, reduceCtorEq, false_and, and_false, and_assoc, Int.reduceToNat, Int.reducePow, Int.reduceMul, Int.reduceAdd, Int.reduceNeg, Int.reduceSub, String.reduceEq, String.reduceNe, ne_eq, not_false_eq_true, not_true_eq_false, decide_false, decide_true, Bool.not_false, Bool.not_true, Bool.or_false, Bool.false_or, Bool.or_true, Bool.true_or, Bool.and_true, Bool.true_and, Bool.and_self, Bool.and_false, Bool.false_and, exists_eq', exists_eq, exists_const, false_or, or_false, or_self, List.all_cons, List.all_nil, List.any_cons, List.any_nil, Nat.reduceLeDiff, exists_false, List.map_nil, List.map_cons, Option.map_some, Option.isSome_some, Option.isSome_none, Option.getD_some, Option.getD_none, implies_true, List.foldl_cons, List.foldl_nil, forall_const, ofS_eq, Int.reduceLT, Int.reduceLE, Nat.reduceLT, hd, ha, ln_tags, nv_queue, nv_mark, nv_number, nv_cause, List.length_map, T.c_Line, T.f_Line_number, T.f_Line_cause, lf_number, lf_cause, scDs_strs, inV_strs]
  refine e_same (K := K) hp ?_
  simp only [↓RD, RU, aStart, wipeA, putFA, toP, toPs, scDs, valD_nil, valD_cons, putM_eq, mergeD_eq, keysOk, aHandle, endsAA, putAA, starSp, put_same, put_put, inV_nil, inV_str, cxK, atI_0, atI_1, atI_2, atI_3, ixN_30, ixN_31, ixN_32, List.map, List.replicate, List.length_cons, List.length_nil, List.nil_append, List.cons_append, List.append_nil, Nat.reduceSub, Nat.reduceAdd, List.getElem?_cons_zero, List.getElem?_cons_succ, List.set_cons_zero, List.set_cons_succ, List.cons.injEq, Option.some.injEq, V.int.injEq, V.str.injEq, V.bl.injEq, D.int.injEq, D.str.injEq, D.bl.injEq, D.ref.injEq, D.tup.injEq, D.lst.injEq, D.ty.injEq, AO.lst.injEq, AO.dct.injEq, AO.ins.injEq, Prod.mk.injEq, exists_eq_left, exists_eq_left', exists_eq_right, exists_eq_right', exists_and_left, exists_and_right, true_and, and_true, and_self, if_true, if_false, Bool.false_eq_true, Bool.true_eq_false, eq_self, reduceCtorEq, false_and, and_false, and_assoc, Int.reduceToNat, Int.reducePow, Int.reduceMul, Int.reduceAdd, Int.reduceNeg, Int.reduceSub, String.reduceEq, String.reduceNe, ne_eq, not_false_eq_true, not_true_eq_false, decide_false, decide_true, Bool.not_false, Bool.not_true, Bool.or_false, Bool.false_or, Bool.or_true, Bool.true_or, Bool.and_true, Bool.true_and, Bool.and_self, Bool.and_false, Bool.false_and, exists_eq', exists_eq, exists_const, false_or, or_false, or_self, List.all_cons, List.all_nil, List.any_cons, List.any_nil, Nat.reduceLeDiff, exists_false, List.map_nil, List.map_cons, Option.map_some, Option.isSome_some, Option.isSome_none, Option.getD_some, Option.getD_none, implies_true, List.foldl_cons, List.foldl_nil, forall_const, ofS_eq, Int.reduceLT, Int.reduceLE, Nat.reduceLT, hd, ha, ln_tags, nv_queue, nv_mark, nv_number, nv_cause, List.length_map, T.c_Line, T.f_Line_number, T.f_Line_cause, lf_number, lf_cause, scDs_strs, inV_strs]
  refine ⟨a, l, S, t, rfl, hL, ?_⟩
  simp only [↓RD, RU, aStart, wipeA, putFA, toP, toPs, scDs, valD_nil, valD_cons, putM_eq, mergeD_eq, keysOk, aHandle, endsAA, putAA, starSp, put_same, put_put, inV_nil, inV_str, cxK, atI_0, atI_1, atI_2, atI_3, ixN_30, ixN_31, ixN_32, List.map, List.replicate, List.length_cons, List.length_nil, List.nil_append, List.cons_append, List.append_nil, Nat.reduceSub, Nat.reduceAdd, List.getElem?_cons_zero, List.getElem?_cons_succ, List.set_cons_zero, List.set_cons_succ, List.cons.injEq, Option.some.injEq, V.int.injEq, V.str.injEq, V.bl.injEq, D.int.injEq, D.str.injEq, D.bl.injEq, D.ref.injEq, D.tup.injEq, D.lst.injEq, D.ty.injEq, AO.lst.injEq, AO.dct.injEq, AO.ins.injEq, Prod.mk.injEq, exists_eq_left, exists_eq_left', exists_eq_right, exists_eq_right', exists_and_left, exists_and_right, true_and, and_true, and_self, if_true, if_false, Bool.false_eq_true, Bool.true_eq_false, eq_self, reduceCtorEq, false_and, and_false, and_assoc, Int.reduceToNat, Int.reducePow, Int.reduceMul, Int.reduceAdd, Int.reduceNeg, Int.reduceSub, String.reduceEq, String.reduceNe, ne_eq, not_false_eq_true, not_true_eq_false, decide_false, decide_true, Bool.not_false, Bool.not_true, Bool.or_false, Bool.false_or, Bool.or_true, Bool.true_or, Bool.and_true, Bool.true_and, Bool.and_self, Bool.and_false, Bool.false_and, exists_eq', exists_eq, exists_const, false_or, or_false, or_self, List.all_cons, List.all_nil, List.any_cons, List.any_nil, Nat.reduceLeDiff, exists_false, List.map_nil, List.map_cons, Option.map_some, Option.isSome_some, Option.isSome_none, Option.getD_some, Option.getD_none, implies_true, List.foldl_cons, List.foldl_nil, forall_const, ofS_eq, Int.reduceLT, Int.reduceLE, Nat.reduceLT, hd, ha, ln_tags, nv_queue, nv_mark, nv_number, nv_cause, List.length_map, T.c_Line, T.f_Line_number, T.f_Line_cause, lf_number, lf_cause, scDs_strs, inV_strs]
  refine ⟨a, l, S, rfl, hL, ?_⟩
  simp only [↓RD, RU, aStart, wipeA, putFA, toP, toPs, scDs, valD_nil, valD_cons, putM_eq, mergeD_eq, keysOk, aHandle, endsAA, putAA, starSp, put_same, put_put, inV_nil, inV_str, cxK, atI_0, atI_1, atI_2, atI_3, ixN_30, ixN_31, ixN_32, List.map, List.replicate, List.length_cons, List.length_nil, List.nil_append, List.cons_append, List.append_nil, Nat.reduceSub, Nat.reduceAdd, List.getElem?_cons_zero, List.getElem?_cons_succ, List.set_cons_zero, List.set_cons_succ, List.cons.injEq, Option.some.injEq, V.int.injEq, V.str.injEq, V.bl.injEq, D.int.injEq, D.str.injEq, D.bl.injEq, D.ref.injEq, D.tup.injEq, D.lst.injEq, D.ty.injEq, AO.lst.injEq, AO.dct.injEq, AO.ins.injEq, Prod.mk.injEq, exists_eq_left, exists_eq_left', exists_eq_right, exists_eq_right', exists_and_left, exists_and_right, true_and, and_true, and_self, if_true, if_false, Bool.false_eq_true, Bool.true_eq_false, eq_self, reduceCtorEq, false_and, and_false, and_assoc, Int.reduceToNat, Int.reducePow, Int.reduceMul, Int.reduceAdd, Int.reduceNeg, Int.reduceSub, String.reduceEq, String.reduceNe, ne_eq, not_false_eq_true, not_true_eq_false, decide_false, decide_true, Bool.not_false, Bool.not_true, Bool.or_false, Bool.false_or, Bool.or_true, Bool.true_or, Bool.and_true, Bool.true_and, Bool.and_self, Bool.and_false, Bool.false_and, exists_eq', exists_eq, exists_const, false_or, or_false, or_self, List.all_cons, List.all_nil, List.any_cons, List.any_nil, Nat.reduceLeDiff, exists_false, List.map_nil, List.map_cons, Option.map_some, Option.isSome_some, Option.isSome_none, Option.getD_some, Option.getD_none, implies_true, List.foldl_cons, List.foldl_nil, forall_const, ofS_eq, Int.reduceLT, Int.reduceLE, Nat.reduceLT, hd, ha, ln_tags, nv_queue, nv_mark, nv_number, nv_cause, List.length_map, T.c_Line, T.f_Line_number, T.f_Line_cause, lf_number, lf_cause, scDs_strs, inV_strs]
  refine e_same (K := K) rfl ?_
  simp only [↓RD, RU, aStart, wipeA, putFA, toP, toPs, scDs, valD_nil, valD_cons, putM_eq, mergeD_eq, keysOk, aHandle, endsAA, putAA, starSp, put_same, put_put, inV_nil, inV_str, cxK, atI_0, atI_1, atI_2, atI_3, ixN_30, ixN_31, ixN_32, List.map, List.replicate, List.length_cons, List.length_nil, List.nil_append, List.cons_append, List.append_nil, Nat.reduceSub, Nat.reduceAdd, List.getElem?_cons_zero, List.getElem?_cons_succ, List.set_cons_zero, List.set_cons_succ, List.cons.injEq, Option.some.injEq, V.int.injEq, V.str.injEq, V.bl.injEq, D.int.injEq, D.str.injEq, D.bl.injEq, D.ref.injEq, D.tup.injEq, D.lst.injEq, D.ty.injEq, AO.lst.injEq, AO.dct.injEq, AO.ins.injEq, Prod.mk.injEq, exists_eq_left, exists_eq_left', exists_eq_right, exists_eq_right', exists_and_left, exists_and_right, true_and, and_true, and_self, if_true, if_false, Bool.false_eq_true, Bool.true_eq_false, eq_self, reduceCtorEq, false_and, and_false, and_assoc, Int.reduceToNat, Int.reducePow, Int.reduceMul, Int.reduceAdd, Int.reduceNeg, Int.reduceSub, String.reduceEq, String.reduceNe, ne_eq, not_false_eq_true, not_true_eq_false, decide_false, decide_true, Bool.not_false, Bool.not_true, Bool.or_false, Bool.false_or, Bool.or_true, Bool.true_or, Bool.and_true, Bool.true_and, Bool.and_self, Bool.and_false, Bool.false_and, exists_eq', exists_eq, exists_const, false_or, or_false, or_self, List.all_cons, List.all_nil, List.any_cons, List.any_nil, Nat.reduceLeDiff, exists_false, List.map_nil, List.map_cons, Option.map_some, Option.isSome_some, Option.isSome_none, Option.getD_some, Option.getD_none, implies_true, List.foldl_cons, List.foldl_nil, forall_const, ofS_eq, Int.reduceLT, Int.reduceLE, Nat.reduceLT, hd, ha, ln_tags, nv_queue, nv_mark, nv_number, nv_cause, List.length_map, T.c_Line, T.f_Line_number, T.f_Line_cause, lf_number, lf_cause, scDs_strs, inV_strs]
  refine ⟨a, l, S, rfl, hL, ?_⟩
  simp only [↓RD, RU, aStart, wipeA, putFA, toP, toPs, scDs, valD_nil, valD_cons, putM_eq, mergeD_eq, keysOk, aHandle, endsAA, putAA, starSp, put_same, put_put, inV_nil, inV_str, cxK, atI_0, atI_1, atI_2, atI_3, ixN_30, ixN_31, ixN_32, List.map, List.replicate, List.length_cons, List.length_nil, List.nil_append, List.cons_append, List.append_nil, Nat.reduceSub, Nat.reduceAdd, List.getElem?_cons_zero, List.getElem?_cons_succ, List.set_cons_zero, List.set_cons_succ, List.cons.injEq, Option.some.injEq, V.int.injEq, V.str.injEq, V.bl.injEq, D.int.injEq, D.str.injEq, D.bl.injEq, D.ref.injEq, D.tup.injEq, D.lst.injEq, D.ty.injEq, AO.lst.injEq, AO.dct.injEq, AO.ins.injEq, Prod.mk.injEq, exists_eq_left, exists_eq_left', exists_eq_right, exists_eq_right', exists_and_left, exists_and_right, true_and, and_true, and_self, if_true, if_false, Bool.false_eq_true, Bool.true_eq_false, eq_self, reduceCtorEq, false_and, and_false, and_assoc, Int.reduceToNat, Int.reducePow, Int.reduceMul, Int.reduceAdd, Int.reduceNeg, Int.reduceSub, String.reduceEq, String.reduceNe, ne_eq, not_false_eq_true, not_true_eq_false, decide_false, decide_true, Bool.not_false, Bool.not_true, Bool.or_false, Bool.false_or, Bool.or_true, Bool.true_or, Bool.and_true, Bool.true_and, Bool.and_self, Bool.and_false, Bool.false_and, exists_eq', exists_eq, exists_const, false_or, or_false, or_self, List.all_cons, List.all_nil, List.any_cons, List.any_nil, Nat.reduceLeDiff, exists_false, List.map_nil, List.map_cons, Option.map_some, Option.isSome_some, Option.isSome_none, Option.getD_some, Option.getD_none, implies_true, List.foldl_cons, List.foldl_nil, forall_const, ofS_eq, Int.reduceLT, Int.reduceLE, Nat.reduceLT, hd, ha, ln_tags, nv_queue, nv_mark, nv_number, nv_cause, List.length_map, T.c_Line, T.f_Line_number, T.f_Line_cause, lf_number, lf_cause, scDs_strs, inV_strs]
  refine ite_dec (fun h => ?_) (fun h => ?_)
  · rw [toPs_strs]
    simp only [↓RD, RU, aStart, wipeA, putFA, toP, toPs, scDs, valD_nil, valD_cons, putM_eq, mergeD_eq, keysOk, aHandle, endsAA, putAA, starSp, put_same, put_put, inV_nil, inV_str, cxK, atI_0, atI_1, atI_2, atI_3, ixN_30, ixN_31, ixN_32, List.map, List.replicate, List.length_cons, List.length_nil, List.nil_append, List.cons_append, List.append_nil, Nat.reduceSub, Nat.reduceAdd, List.getElem?_cons_zero, List.getElem?_cons_succ, List.set_cons_zero, List.set_cons_succ, List.cons.injEq, Option.some.injEq, V.int.injEq, V.str.injEq, V.bl.injEq, D.int.injEq, D.str.injEq, D.bl.injEq, D.ref.injEq, D.tup.injEq, D.lst.injEq, D.ty.injEq, AO.lst.injEq, AO.dct.injEq, AO.ins.injEq, Prod.mk.injEq, exists_eq_left, exists_eq_left', exists_eq_right, exists_eq_right', exists_and_left, exists_and_right, true_and, and_true, and_self, if_true, if_false, Bool.false_eq_true, Bool.true_eq_false, eq_self, reduceCtorEq, false_and, and_false, and_assoc, Int.reduceToNat, Int.reducePow, Int.reduceMul, Int.reduceAdd, Int.reduceNeg, Int.reduceSub, String.reduceEq, String.reduceNe, ne_eq, not_false_eq_true, not_true_eq_false, decide_false, decide_true, Bool.not_false, Bool.not_true, Bool.or_false, Bool.false_or, Bool.or_true, Bool.true_or, Bool.and_true, Bool.true_and, Bool.and_self, Bool.and_false, Bool.false_and, exists_eq', exists_eq, exists_const, false_or, or_false, or_self, List.all_cons, List.all_nil, List.any_cons, List.any_nil, Nat.reduceLeDiff, exists_false, List.map_nil, List.map_cons, Option.map_some, Option.isSome_some, Option.isSome_none, Option.getD_some, Option.getD_none, implies_true, List.foldl_cons, List.foldl_nil, forall_const, ofS_eq, Int.reduceLT, Int.reduceLE, Nat.reduceLT]
    refine ⟨?_, by decide, ?_⟩
    · rw [PyData.depth, dAll_strs]; decide
    · rw [decide_eq_true h, Bool.true_and, show PyData.eqv (.list (S.q.map PyData.str)) (.list []) = S.q.isEmpty by cases S.q <;> rfl]
      exact e_same (K := K) rfl (fin_id k)
  · rw [decide_eq_false h, Bool.false_and]
    exact e_same (K := K) rfl (fin_id k)

end V35

set_option Elab.async false
set_option linter.all false
set_option maxRecDepth 100000
set_option maxHeartbeats 4000000
namespace V35
open PySem PySem.Spec PyProof.Rows L2 My Av
def sp_Line_tagsL (K : PySem.W.Frag) : ASp := fun ds A Q _ => ∃ a l S, ds = [.ref a] ∧ LineAt K A a l S ∧ ∀ p, A p = none → Q (.ref p) (put A p (.lst (S.q.map D.str)))
theorem R_Line_tagsL {w : World} {K : PySem.W.Frag} {mg : Str → Option Value} {base : Heap} (T : Tx K mg) : FnR Pg w K mg base CX0 1 (He.ma K (He.ga K "Line") "tags") (liftSp K (sp_Line_tagsL K)) := by
  obtain ⟨fd, F⟩ := T.d_Line_tags
  refine Av.FunD.AR F sc_Line_tags (fun ds A Q E h => by obtain ⟨a, l, S, rfl, hL, k⟩ := h; rfl) (fun _ _ _ _ _ _ us hl => match us, hl with | [_], _ => rfl) (fun cdv A0 outer s H0 E0 ds A Q E hr h => ?_)
  obtain ⟨a, l, S, rfl, hL, k⟩ := h
  refine ⟨_, (ass_one (as_ret (ae_callTy (ca_list true) (by rfl) T.n_list (by decide +kernel) (aa_cons (ae_fld (ae_var (pv 0)) rfl) aa_nil)))), ?_⟩
  have ha := hL.ob; have hl := hL.qu
  simp only [↓RD, RU, aStart, wipeA, putFA, toP, toPs, scDs, valD_nil, valD_cons, putM_eq, mergeD_eq, keysOk, aHandle, endsAA, putAA, starSp, put_same, put_put, inV_nil, inV_str, cxK, atI_0, atI_1, atI_2, atI_3, ixN_30, ixN_31, ixN_32, List.map, List.replicate, List.length_cons, List.length_nil, List.nil_append, List.cons_append, List.append_nil, Nat.reduceSub, Nat.reduceAdd, List.getElem?_cons_zero, List.getElem?_cons_succ, List.set_cons_zero, List.set_cons_succ, List.cons.injEq, Option.some.injEq, V.int.injEq, V.str.injEq, V.bl.injEq, D.int.injEq, D.str.injEq, D.bl.injEq, D.ref.injEq, D.tup.injEq, D.lst.injEq, D.ty.injEq, AO.lst.injEq, AO.dct.injEq, AO.ins.injEq, Prod.mk.injEq, exists_eq_left, exists_eq_left', exists_eq_right, exists_eq_right', exists_and_left, exists_and_right, true_and, and_true, and_self, if_true, if_false, Bool.false_eq_true, Bool.true_eq_false, eq_self, reduceCtorEq, false_and, and_false, and_assoc, Int.reduceToNat, Int.reducePow, Int.reduceMul, Int.reduceAdd, Int.reduceNeg, Int.reduceSub, String.reduceEq, String.reduceNe, ne_eq, not_false_eq_true, not_true_eq_false, decide_false, decide_true, Bool.not_false, Bool.not_true, Bool.or_false, Bool.false_or, Bool.or_true, Bool.true_or, Bool.and_true, Bool.true_and, Bool.and_self, Bool.and_false, Bool.false_and, exists_eq', exists_eq, exists_const, false_or, or_false, or_self, List.all_cons, List.all_nil, List.any_cons, List.any_nil, Nat.reduceLeDiff, exists_false, List.map_nil, List.map_cons, Option.map_some, Option.isSome_some, Option.isSome_none, Option.getD_some, Option.getD_none, implies_true, List.foldl_cons, List.foldl_nil, forall_const, ofS_eq, Int.reduceLT, Int.reduceLE, Nat.reduceLT, ha, hl, T.c_Line, T.f_Line_queue, lf_queue]
  intro p hp
  exact fin_id (k p hp)
theorem ne_k2 {A : AH} {x y : Addr} {o : AO} (h : A x = some o) (k : A y = none) : x ≠ y := fun e => by
  subst e; rw [h] at k; cases k
/-- what is kept of a line's tags: the list that was told, spoilt or not, and a copy -/
def sp_l_kept (K : PySem.W.Frag) : ASp := fun ds A Q _ => ∃ (a l b h : Addr) (S : LS) (n : Nat) (lb hs : List D), ds = [.ref a, .ref b, .ref h] ∧ LineAt K A a l S ∧ A b = some (.lst lb) ∧ BagL lb n ∧ n ≤ 900000 ∧ A h = some (.lst hs) ∧ h ≠ b ∧ hs.length < 100000 ∧ S.q.length < 100000 ∧
  ∀ (lb' : List D) (ys : List Str), BagL lb' (n + 1) → ys.length ≤ S.q.length + 1 → Q (.bl true) (put (put A b (.lst lb')) h (.lst (hs ++ [.tup [.lst (ys.map D.str), .lst (ys.map D.str)]])))
theorem R_l_kept {w : World} {K : PySem.W.Frag} {mg : Str → Option Value} {base : Heap} (T : Tx K mg) : FnR Pg w K mg base CX0 3 (He.ga K "_law_kept") (liftSp K (sp_l_kept K)) := by
  obtain ⟨fd, F⟩ := T.d_l_kept
  refine Av.FunD.AR F sc_l_kept (fun ds A Q E h => by obtain ⟨a, l, b, h, S, n, lb, hs, rfl, hL, hb, hB, hn, hh, hhb, hhz, hqz, k⟩ := h; rfl) (fun _ _ _ _ _ _ us hl => match us, hl with | [_, _, _], _ => rfl) (fun cdv A0 outer s H0 E0 ds A Q E hr h => ?_)
  obtain ⟨a, l, b, h, S, n, lb, hs, rfl, hL, hb, hB, hn, hh, hhb, hhz, hqz, k⟩ := h
  refine ⟨_, (ass_cons (as_set (i := 3) sc_l_kept.nd rfl (by first | exact Or.inl rfl | exact Or.inr rfl) (ae_methR0 (ae_var (pv 0)) T.c_Line T.m_Line_tags (R_Line_tagsL T) (hr.mono (by decide))))
      (ass_cons (as_if (at_not (at_truth (ae_callB ca_isi (by rfl) T.n_isinstance (by decide +kernel) (aa_cons (ae_var (pv 3)) (aa_cons (ae_c (pe_bltn (v := .ty "list") (by rfl) T.n_list (by decide +kernel) rfl) fun _ _ => .ty "list") aa_nil))))) (ass_one (as_ret ae_bl)) ass_nil)
      (ass_cons (as_if (at_cmpA (cmp_eq hr.units) (ae_callR (R_l_draw T) (hr.mono (by decide)) rfl T.g__law_draw T.k__law_draw (aa_cons (ae_var (pv 1)) (aa_cons ae_int aa_nil))) ae_int (nomark _)) (ass_cons (as_expr (ae_bm PySem.F.slot_list_append PySem.F.type_list_append ma_append (ae_var (pv 3)) (aa_cons ae_str aa_nil)))
      (ass_one (as_expr (ae_bm0 PySem.F.slot_list_reverse PySem.F.type_list_reverse ma_reverse (ae_var (pv 3)))))) ass_nil)
      (ass_cons (as_frz 3 (as_expr (ae_bm PySem.F.slot_list_append PySem.F.type_list_append ma_append (ae_var (pv 2)) (aa_cons (ae_tup (aa_cons (ae_var (pv 3)) (aa_cons (ae_lc false (own := [("_law_tag", 4)]) (pt := (.nm 4)) rfl sc_l_kept.nd (ai_list (ae_var (pv 3))) (blkOk_by (own := [("_law_tag", 4)]) (N := ["_law_line", "_law_source_here", "_law_held", "_law_told", "_law_tag"]) (sc := defScope s_l_kept) (by decide +kernel)) (by decide) (fun _ _ _ _ _ => by exact (pg_name (i := 4) sc_l_kept.nd rfl (by first | exact Or.inl rfl | exact Or.inr rfl))) (fun _ _ _ _ _ => by exact ats_nil) (fun _ _ _ _ _ => by exact (ae_var (pv 4)))) aa_nil))) aa_nil))))
      (ass_one (as_ret ae_bl)))))), ?_⟩
  have ha := hL.ob
  simp only [↓RD, RU, aStart, wipeA, putFA, toP, toPs, scDs, valD_nil, valD_cons, putM_eq, mergeD_eq, keysOk, aHandle, endsAA, putAA, starSp, put_same, put_put, inV_nil, inV_str, cxK, atI_0, atI_1, atI_2, atI_3, ixN_30, ixN_31, ixN_32, List.map, List.replicate, List.length_cons, List.length_nil, List.nil_append, List.cons_append, List.append_nil, Nat.reduceSub, Nat.reduceAdd, List.getElem?_cons_zero, List.getElem?_cons_succ, List.set_cons_zero, List.set_cons_succ, List.cons.injEq, Option.some.injEq, V.int.injEq, V.str.injEq, V.bl.injEq, D.int.injEq, D.str.injEq, D.bl.injEq, D.ref.injEq, D.tup.injEq, D.lst.injEq, D.ty.injEq, AO.lst.injEq, AO.dct.injEq, AO.ins.injEq, Prod.mk.injEq, exists_eq_left, exists_eq_left', exists_eq_right, exists_eq_right', exists_and_left, exists_and_right, true_and, and_true, and_self, if_true, if_false, Bool.false_eq_true, Bool.true_eq_false, eq_self, reduceCtorEq, false_and, and_false, and_assoc, Int.reduceToNat, Int.reducePow, Int.reduceMul, Int.reduceAdd, Int.reduceNeg, Int.reduceSub, String.reduceEq, String.reduceNe, ne_eq, not_false_eq_true, not_true_eq_false, decide_false, decide_true, Bool.not_false, Bool.not_true, Bool.or_false, Bool.false_or, Bool.or_true, Bool.true_or, Bool.and_true, Bool.true_and, Bool.and_self, Bool.and_false, Bool.false_and, exists_eq', exists_eq, exists_const, false_or, or_false, or_self, List.all_cons, List.all_nil, List.any_cons, List.any_nil, Nat.reduceLeDiff, exists_false, List.map_nil, List.map_cons, Option.map_some, Option.isSome_some, Option.isSome_none, Option.getD_some, Option.getD_none, implies_true, List.foldl_cons, List.foldl_nil, forall_const, ofS_eq, Int.reduceLT, Int.reduceLE, Nat.reduceLT, ha, ln_tags]
  refine ⟨a, l, S, rfl, hL, fun p hp => ?_⟩
  simp only [↓RD, RU, aStart, wipeA, putFA, toP, toPs, scDs, valD_nil, valD_cons, putM_eq, mergeD_eq, keysOk, aHandle, endsAA, putAA, starSp, put_same, put_put, inV_nil, inV_str, cxK, atI_0, atI_1, atI_2, atI_3, ixN_30, ixN_31, ixN_32, List.map, List.replicate, List.length_cons, List.length_nil, List.nil_append, List.cons_append, List.append_nil, Nat.reduceSub, Nat.reduceAdd, List.getElem?_cons_zero, List.getElem?_cons_succ, List.set_cons_zero, List.set_cons_succ, List.cons.injEq, Option.some.injEq, V.int.injEq, V.str.injEq, V.bl.injEq, D.int.injEq, D.str.injEq, D.bl.injEq, D.ref.injEq, D.tup.injEq, D.lst.injEq, D.ty.injEq, AO.lst.injEq, AO.dct.injEq, AO.ins.injEq, Prod.mk.injEq, exists_eq_left, exists_eq_left', exists_eq_right, exists_eq_right', exists_and_left, exists_and_right, true_and, and_true, and_self, if_true, if_false, Bool.false_eq_true, Bool.true_eq_false, eq_self, reduceCtorEq, false_and, and_false, and_assoc, Int.reduceToNat, Int.reducePow, Int.reduceMul, Int.reduceAdd, Int.reduceNeg, Int.reduceSub, String.reduceEq, String.reduceNe, ne_eq, not_false_eq_true, not_true_eq_false, decide_false, decide_true, Bool.not_false, Bool.not_true, Bool.or_false, Bool.false_or, Bool.or_true, Bool.true_or, Bool.and_true, Bool.true_and, Bool.and_self, Bool.and_false, Bool.false_and, exists_eq', exists_eq, exists_const, false_or, or_false, or_self, List.all_cons, List.all_nil, List.any_cons, List.any_nil, Nat.reduceLeDiff, exists_false, List.map_nil, List.map_cons, Option.map_some, Option.isSome_some, Option.isSome_none, Option.getD_some, Option.getD_none, implies_true, List.foldl_cons, List.foldl_nil, forall_const, ofS_eq, Int.reduceLT, Int.reduceLE, Nat.reduceLT]
  have npb : b ≠ p := ne_k2 hb hp
  have nph : h ≠ p := ne_k2 hh hp
  refine ⟨b, _, n, lb, rfl, (by rw [put_ne npb]; exact hb), hB, by decide, by decide, by omega, fun r l' r0 r1 hB' => ?_⟩
  rw [put_comm npb.symm]
  have hp' : put A b (.lst l') p = none := by rw [put_ne npb.symm]; exact hp
  have hh' : put A b (.lst l') h = some (.lst hs) := by rw [put_ne hhb]; exact hh
  have k' := fun ys hy => k l' ys hB' hy
  generalize put A b (.lst l') = A' at hp' hh' k' ⊢
  have hph : ∀ o, put A' p o h = some (.lst hs) := fun o => by rw [put_ne nph]; exact hh'
  have hdp : ∀ o, del (put A' p o) p = A' := fun o => del_put hp'
  have fz : ∀ (o : AO), (fun b => if b = p then some o else A' b) p = some o := fun o => by simp
  simp only [↓RD, RU, aStart, wipeA, putFA, toP, toPs, scDs, valD_nil, valD_cons, putM_eq, mergeD_eq, keysOk, aHandle, endsAA, putAA, starSp, put_same, put_put, inV_nil, inV_str, cxK, atI_0, atI_1, atI_2, atI_3, ixN_30, ixN_31, ixN_32, List.map, List.replicate, List.length_cons, List.length_nil, List.nil_append, List.cons_append, List.append_nil, Nat.reduceSub, Nat.reduceAdd, List.getElem?_cons_zero, List.getElem?_cons_succ, List.set_cons_zero, List.set_cons_succ, List.cons.injEq, Option.some.injEq, V.int.injEq, V.str.injEq, V.bl.injEq, D.int.injEq, D.str.injEq, D.bl.injEq, D.ref.injEq, D.tup.injEq, D.lst.injEq, D.ty.injEq, AO.lst.injEq, AO.dct.injEq, AO.ins.injEq, Prod.mk.injEq, exists_eq_left, exists_eq_left', exists_eq_right, exists_eq_right', exists_and_left, exists_and_right, true_and, and_true, and_self, if_true, if_false, Bool.false_eq_true, Bool.true_eq_false, eq_self, reduceCtorEq, false_and, and_false, and_assoc, Int.reduceToNat, Int.reducePow, Int.reduceMul, Int.reduceAdd, Int.reduceNeg, Int.reduceSub, String.reduceEq, String.reduceNe, ne_eq, not_false_eq_true, not_true_eq_false, decide_false, decide_true, Bool.not_false, Bool.not_true, Bool.or_false, Bool.false_or, Bool.or_true, Bool.true_or, Bool.and_true, Bool.true_and, Bool.and_self, Bool.and_false, Bool.false_and, exists_eq', exists_eq, exists_const, false_or, or_false, or_self, List.all_cons, List.all_nil, List.any_cons, List.any_nil, Nat.reduceLeDiff, exists_false, List.map_nil, List.map_cons, Option.map_some, Option.isSome_some, Option.isSome_none, Option.getD_some, Option.getD_none, implies_true, List.foldl_cons, List.foldl_nil, forall_const, ofS_eq, Int.reduceLT, Int.reduceLE, Nat.reduceLT]
  refine ite_dec (fun g => ?_) (fun g => ?_)
  · simp only [↓RD, RU, aStart, wipeA, putFA, toP, toPs, scDs, valD_nil, valD_cons, putM_eq, mergeD_eq, keysOk, aHandle, endsAA, putAA, starSp, put_same, put_put, inV_nil, inV_str, cxK, atI_0, atI_1, atI_2, atI_3, ixN_30, ixN_31, ixN_32, List.map, List.replicate, List.length_cons, List.length_nil, List.nil_append, List.cons_append, List.append_nil, Nat.reduceSub, Nat.reduceAdd, List.getElem?_cons_zero, List.getElem?_cons_succ, List.set_cons_zero, List.set_cons_succ, List.cons.injEq, Option.some.injEq, V.int.injEq, V.str.injEq, V.bl.injEq, D.int.injEq, D.str.injEq, D.bl.injEq, D.ref.injEq, D.tup.injEq, D.lst.injEq, D.ty.injEq, AO.lst.injEq, AO.dct.injEq, AO.ins.injEq, Prod.mk.injEq, exists_eq_left, exists_eq_left', exists_eq_right, exists_eq_right', exists_and_left, exists_and_right, true_and, and_true, and_self, if_true, if_false, Bool.false_eq_true, Bool.true_eq_false, eq_self, reduceCtorEq, false_and, and_false, and_assoc, Int.reduceToNat, Int.reducePow, Int.reduceMul, Int.reduceAdd, Int.reduceNeg, Int.reduceSub, String.reduceEq, String.reduceNe, ne_eq, not_false_eq_true, not_true_eq_false, decide_false, decide_true, Bool.not_false, Bool.not_true, Bool.or_false, Bool.false_or, Bool.or_true, Bool.true_or, Bool.and_true, Bool.true_and, Bool.and_self, Bool.and_false, Bool.false_and, exists_eq', exists_eq, exists_const, false_or, or_false, or_self, List.all_cons, List.all_nil, List.any_cons, List.any_nil, Nat.reduceLeDiff, exists_false, List.map_nil, List.map_cons, Option.map_some, Option.isSome_some, Option.isSome_none, Option.getD_some, Option.getD_none, implies_true, List.foldl_cons, List.foldl_nil, forall_const, ofS_eq, Int.reduceLT, Int.reduceLE, Nat.reduceLT, List.length_map, List.length_reverse, List.length_append, hdp, hh']
    refine ⟨Nat.lt_trans hqz (by decide), ?_⟩
    have e : (List.map D.str S.q ++ [D.str "spoilt"]).reverse = List.map D.str (S.q ++ [("spoilt" : Str)]).reverse := by simp
    rw [e]
    refine Av.comp_map (fun d => d) (id ?_) _ [] ?_ (fun d _ R hR => by simp only [↓RD, RU, aStart, wipeA, putFA, toP, toPs, scDs, valD_nil, valD_cons, putM_eq, mergeD_eq, keysOk, aHandle, endsAA, putAA, starSp, put_same, put_put, inV_nil, inV_str, cxK, atI_0, atI_1, atI_2, atI_3, ixN_30, ixN_31, ixN_32, List.map, List.replicate, List.length_cons, List.length_nil, List.nil_append, List.cons_append, List.append_nil, Nat.reduceSub, Nat.reduceAdd, List.getElem?_cons_zero, List.getElem?_cons_succ, List.set_cons_zero, List.set_cons_succ, List.cons.injEq, Option.some.injEq, V.int.injEq, V.str.injEq, V.bl.injEq, D.int.injEq, D.str.injEq, D.bl.injEq, D.ref.injEq, D.tup.injEq, D.lst.injEq, D.ty.injEq, AO.lst.injEq, AO.dct.injEq, AO.ins.injEq, Prod.mk.injEq, exists_eq_left, exists_eq_left', exists_eq_right, exists_eq_right', exists_and_left, exists_and_right, true_and, and_true, and_self, if_true, if_false, Bool.false_eq_true, Bool.true_eq_false, eq_self, reduceCtorEq, false_and, and_false, and_assoc, Int.reduceToNat, Int.reducePow, Int.reduceMul, Int.reduceAdd, Int.reduceNeg, Int.reduceSub, String.reduceEq, String.reduceNe, ne_eq, not_false_eq_true, not_true_eq_false, decide_false, decide_true, Bool.not_false, Bool.not_true, Bool.or_false, Bool.false_or, Bool.or_true, Bool.true_or, Bool.and_true, Bool.true_and, Bool.and_self, Bool.and_false, Bool.false_and, exists_eq', exists_eq, exists_const, false_or, or_false, or_self, List.all_cons, List.all_nil, List.any_cons, List.any_nil, Nat.reduceLeDiff, exists_false, List.map_nil, List.map_cons, Option.map_some, Option.isSome_some, Option.isSome_none, Option.getD_some, Option.getD_none, implies_true, List.foldl_cons, List.foldl_nil, forall_const, ofS_eq, Int.reduceLT, Int.reduceLE, Nat.reduceLT]; exact hR) ?_
    · rfl
    · simp only [List.length_nil, List.length_map, List.length_reverse, List.length_append, List.length_cons]; exact Nat.le_trans (show 0 + (S.q.length + (0 + 1)) ≤ 100000 by omega) (by decide)
    rw [List.map_id', List.nil_append]
    simp only [↓RD, RU, aStart, wipeA, putFA, toP, toPs, scDs, valD_nil, valD_cons, putM_eq, mergeD_eq, keysOk, aHandle, endsAA, putAA, starSp, put_same, put_put, inV_nil, inV_str, cxK, atI_0, atI_1, atI_2, atI_3, ixN_30, ixN_31, ixN_32, List.map, List.replicate, List.length_cons, List.length_nil, List.nil_append, List.cons_append, List.append_nil, Nat.reduceSub, Nat.reduceAdd, List.getElem?_cons_zero, List.getElem?_cons_succ, List.set_cons_zero, List.set_cons_succ, List.cons.injEq, Option.some.injEq, V.int.injEq, V.str.injEq, V.bl.injEq, D.int.injEq, D.str.injEq, D.bl.injEq, D.ref.injEq, D.tup.injEq, D.lst.injEq, D.ty.injEq, AO.lst.injEq, AO.dct.injEq, AO.ins.injEq, Prod.mk.injEq, exists_eq_left, exists_eq_left', exists_eq_right, exists_eq_right', exists_and_left, exists_and_right, true_and, and_true, and_self, if_true, if_false, Bool.false_eq_true, Bool.true_eq_false, eq_self, reduceCtorEq, false_and, and_false, and_assoc, Int.reduceToNat, Int.reducePow, Int.reduceMul, Int.reduceAdd, Int.reduceNeg, Int.reduceSub, String.reduceEq, String.reduceNe, ne_eq, not_false_eq_true, not_true_eq_false, decide_false, decide_true, Bool.not_false, Bool.not_true, Bool.or_false, Bool.false_or, Bool.or_true, Bool.true_or, Bool.and_true, Bool.true_and, Bool.and_self, Bool.and_false, Bool.false_and, exists_eq', exists_eq, exists_const, false_or, or_false, or_self, List.all_cons, List.all_nil, List.any_cons, List.any_nil, Nat.reduceLeDiff, exists_false, List.map_nil, List.map_cons, Option.map_some, Option.isSome_some, Option.isSome_none, Option.getD_some, Option.getD_none, implies_true, List.foldl_cons, List.foldl_nil, forall_const, ofS_eq, Int.reduceLT, Int.reduceLE, Nat.reduceLT, hh']
    refine ⟨Nat.lt_trans hhz (by decide), ?_⟩
    exact fin_id (k' _ (by simp))
  · simp only [↓RD, RU, aStart, wipeA, putFA, toP, toPs, scDs, valD_nil, valD_cons, putM_eq, mergeD_eq, keysOk, aHandle, endsAA, putAA, starSp, put_same, put_put, inV_nil, inV_str, cxK, atI_0, atI_1, atI_2, atI_3, ixN_30, ixN_31, ixN_32, List.map, List.replicate, List.length_cons, List.length_nil, List.nil_append, List.cons_append, List.append_nil, Nat.reduceSub, Nat.reduceAdd, List.getElem?_cons_zero, List.getElem?_cons_succ, List.set_cons_zero, List.set_cons_succ, List.cons.injEq, Option.some.injEq, V.int.injEq, V.str.injEq, V.bl.injEq, D.int.injEq, D.str.injEq, D.bl.injEq, D.ref.injEq, D.tup.injEq, D.lst.injEq, D.ty.injEq, AO.lst.injEq, AO.dct.injEq, AO.ins.injEq, Prod.mk.injEq, exists_eq_left, exists_eq_left', exists_eq_right, exists_eq_right', exists_and_left, exists_and_right, true_and, and_true, and_self, if_true, if_false, Bool.false_eq_true, Bool.true_eq_false, eq_self, reduceCtorEq, false_and, and_false, and_assoc, Int.reduceToNat, Int.reducePow, Int.reduceMul, Int.reduceAdd, Int.reduceNeg, Int.reduceSub, String.reduceEq, String.reduceNe, ne_eq, not_false_eq_true, not_true_eq_false, decide_false, decide_true, Bool.not_false, Bool.not_true, Bool.or_false, Bool.false_or, Bool.or_true, Bool.true_or, Bool.and_true, Bool.true_and, Bool.and_self, Bool.and_false, Bool.false_and, exists_eq', exists_eq, exists_const, false_or, or_false, or_self, List.all_cons, List.all_nil, List.any_cons, List.any_nil, Nat.reduceLeDiff, exists_false, List.map_nil, List.map_cons, Option.map_some, Option.isSome_some, Option.isSome_none, Option.getD_some, Option.getD_none, implies_true, List.foldl_cons, List.foldl_nil, forall_const, ofS_eq, Int.reduceLT, Int.reduceLE, Nat.reduceLT, hdp, hh']
    refine Av.comp_map (fun d => d) (id ?_) _ [] ?_ (fun d _ R hR => by simp only [↓RD, RU, aStart, wipeA, putFA, toP, toPs, scDs, valD_nil, valD_cons, putM_eq, mergeD_eq, keysOk, aHandle, endsAA, putAA, starSp, put_same, put_put, inV_nil, inV_str, cxK, atI_0, atI_1, atI_2, atI_3, ixN_30, ixN_31, ixN_32, List.map, List.replicate, List.length_cons, List.length_nil, List.nil_append, List.cons_append, List.append_nil, Nat.reduceSub, Nat.reduceAdd, List.getElem?_cons_zero, List.getElem?_cons_succ, List.set_cons_zero, List.set_cons_succ, List.cons.injEq, Option.some.injEq, V.int.injEq, V.str.injEq, V.bl.injEq, D.int.injEq, D.str.injEq, D.bl.injEq, D.ref.injEq, D.tup.injEq, D.lst.injEq, D.ty.injEq, AO.lst.injEq, AO.dct.injEq, AO.ins.injEq, Prod.mk.injEq, exists_eq_left, exists_eq_left', exists_eq_right, exists_eq_right', exists_and_left, exists_and_right, true_and, and_true, and_self, if_true, if_false, Bool.false_eq_true, Bool.true_eq_false, eq_self, reduceCtorEq, false_and, and_false, and_assoc, Int.reduceToNat, Int.reducePow, Int.reduceMul, Int.reduceAdd, Int.reduceNeg, Int.reduceSub, String.reduceEq, String.reduceNe, ne_eq, not_false_eq_true, not_true_eq_false, decide_false, decide_true, Bool.not_false, Bool.not_true, Bool.or_false, Bool.false_or, Bool.or_true, Bool.true_or, Bool.and_true, Bool.true_and, Bool.and_self, Bool.and_false, Bool.false_and, exists_eq', exists_eq, exists_const, false_or, or_false, or_self, List.all_cons, List.all_nil, List.any_cons, List.any_nil, Nat.reduceLeDiff, exists_false, List.map_nil, List.map_cons, Option.map_some, Option.isSome_some, Option.isSome_none, Option.getD_some, Option.getD_none, implies_true, List.foldl_cons, List.foldl_nil, forall_const, ofS_eq, Int.reduceLT, Int.reduceLE, Nat.reduceLT]; exact hR) ?_
    · rfl
    · simp only [List.length_nil, List.length_map]; exact Nat.le_trans (show 0 + S.q.length ≤ 100000 by omega) (by decide)
    rw [List.map_id', List.nil_append]
    simp only [↓RD, RU, aStart, wipeA, putFA, toP, toPs, scDs, valD_nil, valD_cons, putM_eq, mergeD_eq, keysOk, aHandle, endsAA, putAA, starSp, put_same, put_put, inV_nil, inV_str, cxK, atI_0, atI_1, atI_2, atI_3, ixN_30, ixN_31, ixN_32, List.map, List.replicate, List.length_cons, List.length_nil, List.nil_append, List.cons_append, List.append_nil, Nat.reduceSub, Nat.reduceAdd, List.getElem?_cons_zero, List.getElem?_cons_succ, List.set_cons_zero, List.set_cons_succ, List.cons.injEq, Option.some.injEq, V.int.injEq, V.str.injEq, V.bl.injEq, D.int.injEq, D.str.injEq, D.bl.injEq, D.ref.injEq, D.tup.injEq, D.lst.injEq, D.ty.injEq, AO.lst.injEq, AO.dct.injEq, AO.ins.injEq, Prod.mk.injEq, exists_eq_left, exists_eq_left', exists_eq_right, exists_eq_right', exists_and_left, exists_and_right, true_and, and_true, and_self, if_true, if_false, Bool.false_eq_true, Bool.true_eq_false, eq_self, reduceCtorEq, false_and, and_false, and_assoc, Int.reduceToNat, Int.reducePow, Int.reduceMul, Int.reduceAdd, Int.reduceNeg, Int.reduceSub, String.reduceEq, String.reduceNe, ne_eq, not_false_eq_true, not_true_eq_false, decide_false, decide_true, Bool.not_false, Bool.not_true, Bool.or_false, Bool.false_or, Bool.or_true, Bool.true_or, Bool.and_true, Bool.true_and, Bool.and_self, Bool.and_false, Bool.false_and, exists_eq', exists_eq, exists_const, false_or, or_false, or_self, List.all_cons, List.all_nil, List.any_cons, List.any_nil, Nat.reduceLeDiff, exists_false, List.map_nil, List.map_cons, Option.map_some, Option.isSome_some, Option.isSome_none, Option.getD_some, Option.getD_none, implies_true, List.foldl_cons, List.foldl_nil, forall_const, ofS_eq, Int.reduceLT, Int.reduceLE, Nat.reduceLT, hh']
    refine ⟨Nat.lt_trans hhz (by decide), ?_⟩
    exact fin_id (k' _ (by simp))
end V35

set_option Elab.async false
set_option linter.all false
set_option maxRecDepth 100000
set_option maxHeartbeats 4000000
namespace V35
open PySem PySem.Spec PyProof.Rows L2 My Av
theorem rf_read_ne {w : Str} {S : LS} (hw : w = "read" ∨ w = "head") (h : rowF w S.m (S.q.length : Int) = none) : S.q ≠ [] := fun e => by
  rw [e] at h; have := rf_some hw h; simp at this
/-- a good state stays good -/
theorem good_step {w : Str} {ts : List Str} {why : D} {S : LS} (hG : GoodS S) (hw : W8 w) : GoodS (stepS w ts why S) := by
  by_cases hc : w = "close"
  · subst hc
    rw [S_close]; unfold closeS
    split
    · exact hG
    · exact ⟨.inr (.inr (.inr (.inr rfl))), fun z => by cases z⟩
  by_cases hd : w = "drain"
  · subst hd
    rw [S_drain]
    refine ⟨?_, fun z => ?_⟩
    · show Mk (markAfter "drain" S.m)
      rcases hG.mm with h | h | h | h | h <;> rw [h] <;> simp [Mk, markAfter, isOut, isIn, markOf, ofS_eq]
    · exfalso
      have z' : isIn (markAfter "drain" S.m) = true := z
      rcases hG.mm with h | h | h | h | h <;> rw [h] at z' <;> revert z' <;> decide
  by_cases hf : rowF w S.m (S.q.length : Int) = none
  · have ho := rf_open hf
    rcases hw with rfl | rfl | rfl | rfl | rfl | rfl | h | h
    · rw [S_ask hf]
      exact ⟨hG.mm, fun z => by simp [hG.hd z]⟩
    · rw [step_ok hc hd hf]
      refine ⟨?_, fun z => ?_⟩
      · show Mk (markAfter "begin" S.m)
        rcases hG.mm with h | h | h | h | h <;> rw [h] <;> simp [Mk, markAfter, isOut, isIn, markOf, ofS_eq]
      · have z' : isIn (markAfter "begin" S.m) = true := z
        have : isIn S.m = true := by
          rcases hG.mm with h | h | h | h | h <;> rw [h] at z' ⊢ <;> revert z' <;> decide
        simpa [stepQ, ofS_eq] using hG.hd this
    · rw [S_finish hf]
      refine ⟨?_, fun z => by simp⟩
      show Mk (markAfter "finish" S.m)
      rcases hG.mm with h | h | h | h | h <;> rw [h] <;> simp [Mk, markAfter, isOut, isIn, markOf, ofS_eq]
    · obtain ⟨t, q, e⟩ : ∃ t q, S.q = t :: q := by
        cases e : S.q with
        | nil => exact absurd e (rf_read_ne (.inl rfl) hf)
        | cons t q => exact ⟨t, q, rfl⟩
      rw [S_read e hf]
      refine ⟨hG.mm, fun z => ?_⟩
      exfalso
      have e2 : isAmid "read" S.m = true := by
        unfold isAmid
        rw [if_neg (by decide), if_neg (by decide), if_pos (by decide)]; exact z
      unfold rowF at hf
      rw [if_neg ho, if_pos e2] at hf
      cases hf
    · rw [S_head hf]
      refine ⟨?_, fun z => rf_read_ne (S := S) (.inr rfl) hf⟩
      show Mk (markAfter "head" S.m)
      rcases hG.mm with h | h | h | h | h <;> rw [h] <;> simp [Mk, markAfter, isOut, isIn, markOf, ofS_eq]
    · obtain ⟨t, q, e⟩ : ∃ t q, S.q = t :: q := by
        cases e : S.q with
        | nil => exact absurd e (hG.hd (rf_body hf))
        | cons t q => exact ⟨t, q, rfl⟩
      rw [S_body e hf]
      refine ⟨?_, fun z => ?_⟩
      · show Mk (markAfter "body" S.m)
        rcases hG.mm with h | h | h | h | h <;> rw [h] <;> simp [Mk, markAfter, isOut, isIn, markOf, ofS_eq]
      · exfalso
        have z' : isIn (markAfter "body" S.m) = true := z
        rcases hG.mm with h | h | h | h | h <;> rw [h] at z' <;> revert z' <;> decide
    · exact absurd h hd
    · exact absurd h hc
  · rw [(step_fault hc hd hf).1]; exact hG
theorem len_step {w : Str} {ts : List Str} {why : D} {S : LS} : (stepS w ts why S).q.length ≤ S.q.length + ts.length + 1 := by
  unfold stepS
  split
  · unfold closeS
    split
    · omega
    · exact Nat.zero_le _
  split
  · simp
  split
  · show (stepQ w ts S).length ≤ _
    unfold stepQ
    repeat' split
    all_goals first | omega | (simp only [List.length_append, List.length_tail, List.length_cons, List.length_nil]; omega)
  · omega
theorem num_step {w : Str} {ts : List Str} {why : D} {S : LS} : (stepS w ts why S).n = S.n := by
  unfold stepS closeS
  repeat' split
  all_goals rfl
theorem cause_step {w : Str} {ts : List Str} {why : D} {S : LS} : (stepS w ts why S).c = S.c ∨ (stepS w ts why S).c = why := by
  unfold stepS closeS
  repeat' split
  all_goals simp

end V35

set_option Elab.async false
set_option linter.all false
set_option maxRecDepth 100000
set_option maxHeartbeats 4000000
namespace V35
open PySem PySem.Spec PyProof.Rows L2 My Av
theorem ne_k {A : AH} {x y : Addr} {o u : AO} (h : A x = some o) (k : A y = some u) (n : o ≠ u) : x ≠ y := fun e => by
  subst e; rw [h] at k; exact n (Option.some.inj k)
theorem ne_n {A : AH} {x y : Addr} {o : AO} (h : A x = some o) (k : A y = none) : x ≠ y := fun e => by
  subst e; rw [h] at k; cases k
def up {α : Type} (f : Nat → α) (i : Nat) (x : α) : Nat → α := fun j => if j = i then x else f j
theorem up_same {α : Type} {f : Nat → α} {i : Nat} {x : α} : up f i x i = x := if_pos rfl
theorem up_ne {α : Type} {f : Nat → α} {i j : Nat} {x : α} (h : j ≠ i) : up f i x j = f j := if_neg h
/-- many lines, many books, the source -/
structure Ws (K : PySem.W.Frag) (A0 A : AH) (b : Addr) (l : List D) (NL NB : Nat) (a q d : Nat → Addr) (S T : Nat → LS) (g : Nat → D) : Prop where
  B : A b = some (.lst l)
  L : ∀ i, i < NL → LineAt K A (a i) (q i) (S i)
  N : ∀ i, i < NB → A (d i) = some (.dct (nowD (T i) (g i)))
  fr : ∀ c o, A0 c = some o → c ≠ b → A c = some o
  fa : ∀ i, i < NL → A0 (a i) = none
  fq : ∀ i, i < NL → A0 (q i) = none
  fd : ∀ i, i < NB → A0 (d i) = none
  na : ∀ i j, i < NL → j < NL → i ≠ j → a i ≠ a j
  nq : ∀ i j, i < NL → j < NL → i ≠ j → q i ≠ q j
  nd : ∀ i j, i < NB → j < NB → i ≠ j → d i ≠ d j
  nb : ∀ i, i < NL → q i ≠ b
section
variable {K : PySem.W.Frag} {A0 A : AH} {b : Addr} {l l' : List D} {NL NB : Nat} {a q d : Nat → Addr} {S T : Nat → LS} {g : Nat → D}
theorem LineAt.off {a q c : Addr} {S : LS} {o : AO} (h : LineAt K A a q S) (h1 : a ≠ c) (h2 : q ≠ c) : LineAt K (put A c o) a q S := ⟨by rw [put_ne h1]; exact h.ob, by rw [put_ne h2]; exact h.qu⟩
theorem Ws.bag (W : Ws K A0 A b l NL NB a q d S T g) : Ws K A0 (put A b (.lst l')) b l' NL NB a q d S T g :=
  ⟨put_same, fun i hi => (W.L i hi).off (ne_k (W.L i hi).ob W.B (by simp)) (W.nb i hi), fun i hi => by rw [put_ne (ne_k (W.N i hi) W.B (by simp))]; exact W.N i hi, fun c o h n => by rw [put_ne n]; exact W.fr c o h n, W.fa, W.fq, W.fd, W.na, W.nq, W.nd, W.nb⟩
/-- a cell that is no part of the world -/
theorem Ws.other {c : Addr} {o : AO} (W : Ws K A0 A b l NL NB a q d S T g) (f : A0 c = none) (h0 : b ≠ c) (h1 : ∀ i, i < NL → a i ≠ c ∧ q i ≠ c) (h2 : ∀ i, i < NB → d i ≠ c) : Ws K A0 (put A c o) b l NL NB a q d S T g :=
  ⟨by rw [put_ne h0]; exact W.B, fun i hi => (W.L i hi).off (h1 i hi).1 (h1 i hi).2, fun i hi => by rw [put_ne (h2 i hi)]; exact W.N i hi, fun c' o' h n => by rw [put_ne (ne_n h f)]; exact W.fr c' o' h n, W.fa, W.fq, W.fd, W.na, W.nq, W.nd, W.nb⟩
theorem Ws.free (W : Ws K A0 A b l NL NB a q d S T g) {p : Addr} (h : A p = none) : A0 p = none := by
  cases e : A0 p with
  | none => rfl
  | some o => have := W.fr p o e (ne_n W.B h).symm; rw [h] at this; cases this
theorem Ws.new {c : Addr} {o : AO} (W : Ws K A0 A b l NL NB a q d S T g) (h : A c = none) : Ws K A0 (put A c o) b l NL NB a q d S T g :=
  W.other (W.free h) (ne_n W.B h) (fun i hi => ⟨ne_n (W.L i hi).ob h, ne_n (W.L i hi).qu h⟩) (fun i hi => ne_n (W.N i hi) h)
theorem Ws.book {k : Nat} {T' : LS} {g' : D} (W : Ws K A0 A b l NL NB a q d S T g) (hk : k < NB) : Ws K A0 (put A (d k) (.dct (nowD T' g'))) b l NL NB a q d S (up T k T') (up g k g') := by
  have e := W.N k hk
  refine ⟨by rw [put_ne (ne_k W.B e (by simp))]; exact W.B, fun i hi => (W.L i hi).off (ne_k (W.L i hi).ob e (by simp)) (ne_k (W.L i hi).qu e (by simp)), fun i hi => ?_, fun c o h n => by rw [put_ne (ne_n h (W.fd k hk))]; exact W.fr c o h n, W.fa, W.fq, W.fd, W.na, W.nq, W.nd, W.nb⟩
  by_cases h : i = k
  · subst h; rw [put_same, up_same, up_same]
  · rw [put_ne (W.nd i k hi hk h), up_ne h, up_ne h]; exact W.N i hi
theorem Ws.line {k : Nat} {q' : Addr} {S' : LS} (W : Ws K A0 A b l NL NB a q d S T g) (hk : k < NL) (hq : q' = q k ∨ A q' = none) : Ws K A0 (setL K A (a k) q' S') b l NL NB a (up q k q') d (up S k S') T g := by
  have e := W.L k hk
  have nl : ∀ {c o}, A c = some o → c ≠ q k → c ≠ q' := fun h n => by
    rcases hq with rfl | hq
    · exact n
    · exact ne_n h hq
  have off : ∀ {c o}, A c = some o → c ≠ a k → c ≠ q k → setL K A (a k) q' S' c = some o := fun h n1 n2 => by rw [setL_ne n1 (nl h n2)]; exact h
  have aq : a k ≠ q' := nl e.ob e.ne
  refine ⟨off W.B (ne_k W.B e.ob (by simp)) (W.nb k hk).symm, fun i hi => ?_, fun i hi => off (W.N i hi) (ne_k (W.N i hi) e.ob (by simp)) (ne_k (W.N i hi) e.qu (by simp)), fun c o h n => off (W.fr c o h n) (ne_n h (W.fa k hk)) (ne_n h (W.fq k hk)), W.fa, fun i hi => ?_, W.fd, W.na, fun i j hi hj h => ?_, W.nd, fun i hi => ?_⟩
  · by_cases h : i = k
    · subst h; rw [up_same, up_same]; exact LineAt.of_set aq
    · rw [up_ne h, up_ne h]
      have ei := W.L i hi
      exact ⟨off ei.ob (W.na i k hi hk h) (ne_k ei.ob e.qu (by simp)), off ei.qu (ne_k ei.qu e.ob (by simp)) (W.nq i k hi hk h)⟩
  · by_cases h : i = k
    · subst h; rw [up_same]
      rcases hq with rfl | hq
      · exact W.fq i hi
      · exact W.free hq
    · rw [up_ne h]; exact W.fq i hi
  · by_cases h1 : i = k <;> by_cases h2 : j = k
    · exact absurd (h1.trans h2.symm) h
    · subst h1; rw [up_same, up_ne h2]; exact (nl (W.L j hj).qu (W.nq j i hj hk h2)).symm
    · subst h2; rw [up_same, up_ne h1]; exact nl (W.L i hi).qu (W.nq i j hi hk h1)
    · rw [up_ne h1, up_ne h2]; exact W.nq i j hi hj h
  · by_cases h : i = k
    · subst h; rw [up_same]; exact (nl W.B (W.nb i hk).symm).symm
    · rw [up_ne h]; exact W.nb i hi
theorem Ws.addBook {p : Addr} {T' : LS} {g' : D} (W : Ws K A0 A b l NL NB a q d S T g) (hp : A p = none) : Ws K A0 (put A p (.dct (nowD T' g'))) b l NL (NB + 1) a q (up d NB p) S (up T NB T') (up g NB g') := by
  have V := W.new (o := .dct (nowD T' g')) hp
  have lt : ∀ {i}, i < NB + 1 → i ≠ NB → i < NB := fun h n => by omega
  refine ⟨V.B, V.L, fun i hi => ?_, V.fr, V.fa, V.fq, fun i hi => ?_, V.na, V.nq, fun i j hi hj h => ?_, V.nb⟩
  · by_cases h : i = NB
    · subst h; rw [up_same, up_same, up_same]; exact put_same
    · rw [up_ne h, up_ne h, up_ne h]; exact V.N i (lt hi h)
  · by_cases h : i = NB
    · subst h; rw [up_same]; exact W.free hp
    · rw [up_ne h]; exact V.fd i (lt hi h)
  · by_cases h1 : i = NB <;> by_cases h2 : j = NB
    · exact absurd (h1.trans h2.symm) h
    · subst h1; rw [up_same, up_ne h2]; exact (ne_n (W.N j (lt hj h2)) hp).symm
    · subst h2; rw [up_same, up_ne h1]; exact ne_n (W.N i (lt hi h1)) hp
    · rw [up_ne h1, up_ne h2]; exact V.nd i j (lt hi h1) (lt hj h2) h
theorem Ws.addLine {x q0 : Addr} {S' : LS} (W : Ws K A0 A b l NL NB a q d S T g) (hx : A x = none) (hq : A q0 = none) (hn : x ≠ q0) : Ws K A0 (setL K A x q0 S') b l (NL + 1) NB (up a NL x) (up q NL q0) d (up S NL S') T g := by
  have V1 := W.new (o := lo K q0 S') hx
  have hq1 : put A x (lo K q0 S') q0 = none := by rw [put_ne hn.symm]; exact hq
  have V : Ws K A0 (setL K A x q0 S') b l NL NB a q d S T g := V1.new (o := lq S') hq1
  have lt : ∀ {i}, i < NL + 1 → i ≠ NL → i < NL := fun h n => by omega
  refine ⟨V.B, fun i hi => ?_, V.N, V.fr, fun i hi => ?_, fun i hi => ?_, V.fd, fun i j hi hj h => ?_, fun i j hi hj h => ?_, V.nd, fun i hi => ?_⟩
  · by_cases h : i = NL
    · subst h; rw [up_same, up_same, up_same]; exact LineAt.of_set hn
    · rw [up_ne h, up_ne h, up_ne h]; exact V.L i (lt hi h)
  · by_cases h : i = NL
    · subst h; rw [up_same]; exact W.free hx
    · rw [up_ne h]; exact V.fa i (lt hi h)
  · by_cases h : i = NL
    · subst h; rw [up_same]; exact W.free hq
    · rw [up_ne h]; exact V.fq i (lt hi h)
  · by_cases h1 : i = NL <;> by_cases h2 : j = NL
    · exact absurd (h1.trans h2.symm) h
    · subst h1; rw [up_same, up_ne h2]; exact (ne_n (W.L j (lt hj h2)).ob hx).symm
    · subst h2; rw [up_same, up_ne h1]; exact ne_n (W.L i (lt hi h1)).ob hx
    · rw [up_ne h1, up_ne h2]; exact V.na i j (lt hi h1) (lt hj h2) h
  · by_cases h1 : i = NL <;> by_cases h2 : j = NL
    · exact absurd (h1.trans h2.symm) h
    · subst h1; rw [up_same, up_ne h2]; exact (ne_n (W.L j (lt hj h2)).qu hq).symm
    · subst h2; rw [up_same, up_ne h1]; exact ne_n (W.L i (lt hi h1)).qu hq
    · rw [up_ne h1, up_ne h2]; exact V.nq i j (lt hi h1) (lt hj h2) h
  · by_cases h : i = NL
    · subst h; rw [up_same]; exact (ne_n W.B hq).symm
    · rw [up_ne h]; exact V.nb i (lt hi h)
theorem Ws.back (W : Ws K A0 A b l NL NB a q d S T g) : ∀ c o, put A0 b (.lst l) c = some o → A c = some o := fun c o h => by
  by_cases e : c = b
  · subst e; rw [put_same] at h; rw [W.B]; exact h
  · rw [put_ne e] at h; exact W.fr c o h e
end

end V35

set_option Elab.async false
set_option linter.all false
set_option maxRecDepth 100000
set_option maxHeartbeats 4000000
namespace V35
open PySem PySem.Spec PyProof.Rows L2 My Av
def sp_l_holds (_ : PySem.W.Frag) : ASp := fun ds A Q _ => ∃ (b : Addr) (n : Nat) (l : List D), ds = [.ref b] ∧ A b = some (.lst l) ∧ BagL l n ∧ n ≤ 10000 ∧ ∀ (l' : List D), BagL l' (n + 1000) → Q (.bl true) (put A b (.lst l'))
def rf (a : Nat → Addr) (n : Nat) : List D := (List.range n).map fun i => .ref (a i)
theorem rf_up {a : Nat → Addr} {n : Nat} {x : Addr} : rf (up a n x) (n + 1) = rf a n ++ [.ref x] := by
  unfold rf
  rw [List.range_succ, List.map_append, List.map_singleton, up_same]
  congr 1
  apply List.map_congr_left
  intro i hi
  rw [up_ne (by have := List.mem_range.mp hi; omega)]
theorem dpt_stepR {w : Str} {S : LS} (h : S.q.length ≤ 100000) : dpt 4 (stepR w S) = true := by
  have e1 : ∀ d, dpt 3 d = true → dpt 4 (.tup [.str "told", d]) = true := fun d hd => by
    simp [dpt, dpts, hd]
  unfold stepR
  split
  · rfl
  split
  · exact e1 _ (dpt_strs 2 h)
  split
  · split
    · exact e1 _ rfl
    · rfl
  · unfold fauR
    cases rowF w S.m (S.q.length : Int) with
    | none => simp [dpt, dpts, fD]
    | some f => by_cases z : (some f = some ("amid" : Str)) <;> simp [dpt, dpts, fD, z]
/-- what holds of all lines behind i turns -/
def LInv (i N : Nat) (S : Nat → LS) (g : Nat → D) : Prop := ∀ j, j < N → GoodS (S j) ∧ (S j).q.length ≤ 3 * i ∧ (isOut (S j).m = true → g j = .str (S j).g) ∧ dpt 4 (S j).c = true
theorem LInv.step {i N k : Nat} {S : Nat → LS} {g : Nat → D} {w : Str} {ts : List Str} {why g' : D} (h : LInv i N S g) (hk : k < N) (hw : W8 w) (ht : ts.length ≤ 2) (hy : dpt 4 why = true) (hg : isOut (stepS w ts why (S k)).m = true → g' = .str (stepS w ts why (S k)).g) : LInv (i + 1) N (up S k (stepS w ts why (S k))) (up g k g') := fun j hj => by
  by_cases e : j = k
  · subst e
    rw [up_same, up_same]
    obtain ⟨h1, h2, h3, h4⟩ := h j hj
    refine ⟨good_step h1 hw, Nat.le_trans len_step (by omega), hg, ?_⟩
    rcases cause_step (w := w) (ts := ts) (why := why) (S := S j) with z | z <;> rw [z] <;> assumption
  · rw [up_ne e, up_ne e]
    obtain ⟨h1, h2, h3, h4⟩ := h j hj
    exact ⟨h1, by omega, h3, h4⟩
def HeldL (hs : List D) : Prop := ∀ x ∈ hs, ∃ ys : List Str, x = .tup [.lst (ys.map D.str), .lst (ys.map D.str)] ∧ ys.length ≤ 1000
theorem HeldL.add {hs : List D} {ys : List Str} (h : HeldL hs) (hy : ys.length ≤ 1000) : HeldL (hs ++ [.tup [.lst (ys.map D.str), .lst (ys.map D.str)]]) := fun x hx => by
  rcases List.mem_append.mp hx with hx | hx
  · exact h x hx
  · exact ⟨ys, List.mem_singleton.mp hx, hy⟩
theorem rf_at {a : Nat → Addr} {n i : Nat} (h : i < n) : atI (rf a n) (i : Int) = some (.ref (a i)) := by
  unfold atI ixN rf
  rw [if_pos (by omega), if_pos (by rw [List.length_map, List.length_range]; omega)]
  simp [h]
theorem rf_len {a : Nat → Addr} {n : Nat} : (rf a n).length = n := by simp [rf]
theorem zip_rf {a d : Nat → Addr} {n i : Nat} {y : D} (h : (zipL (rf a n) (rf d n))[i]? = some y) : i < n ∧ y = .tup [.ref (a i), .ref (d i)] := by
  have hl : i < (zipL (rf a n) (rf d n)).length := (List.getElem?_eq_some_iff.mp h).1
  have hn : i < n := by
    have : (zipL (rf a n) (rf d n)).length ≤ n := by unfold zipL; simp [rf]
    omega
  refine ⟨hn, ?_⟩
  unfold zipL rf at h
  simp [hn] at h
  exact h.symm
theorem hcut {X : Prop} {P G : AH → Prop} (k : (∀ A', P A' → G A') → X) (h : ∀ A', P A' → G A') : X := k h
theorem hcut2 {X : Prop} {α : Type} {P G : α → AH → Prop} (k : (∀ x A', P x A' → G x A') → X) (h : ∀ x A', P x A' → G x A') : X := k h
theorem R_l_holds {w : World} {K : PySem.W.Frag} {mg : Str → Option Value} {base : Heap} (T : Tx K mg) : FnR Pg w K mg base CX0 17 (He.ga K "_law_holds") (liftSp K (sp_l_holds K)) := by
  obtain ⟨fd, F⟩ := T.d_l_holds
  refine Av.FunD.AR F sc_l_holds (fun ds A Q E h => by obtain ⟨b, n, l, rfl, hb, hB, hn, k⟩ := h; rfl) (fun _ _ _ _ _ _ us hl => match us, hl with | [_], _ => rfl) (fun cdv A0 outer s H0 E0 ds A Q E hr h => ?_)
  obtain ⟨b, n, l, rfl, hb, hB, hn, k⟩ := h
  refine ⟨_, (ass_cons (as_set (i := 1) sc_l_holds.nd rfl (by first | exact Or.inl rfl | exact Or.inr rfl) (ae_add false ae_int (ae_callR (R_l_draw T) (hr.mono (by decide)) rfl T.g__law_draw T.k__law_draw (aa_cons (ae_var (pv 0)) (aa_cons ae_int aa_nil)))))
      (ass_cons (as_setLc false (i := 2) (own := [("_law_turn", 7)]) (pt := (.nm 7)) rfl sc_l_holds.nd rfl rfl (sw_true rfl rfl rfl (by decide +kernel)) (ai_range1 rfl T.n_range (aa_cons (ae_var (pv 1)) aa_nil)) (blkOk_by (own := [("_law_turn", 7)]) (N := ["_law_source_here", "_law_many", "_law_numbers", "_law_lines", "_law_models", "_law_words", "_law_held", "_law_turn", "_law_at", "_law_word", "_law_tags", "_law_due_here", "_law_told", "_law_line", "_law_now", "_law_number", "_law_place"]) (sc := defScope s_l_holds) (by decide +kernel)) (by decide) (fun _ _ _ _ _ => by exact (pg_name (i := 7) sc_l_holds.nd rfl (by first | exact Or.inl rfl | exact Or.inr rfl))) (fun _ _ _ _ _ => by exact ats_nil) (fun _ _ _ _ _ => by exact (ae_callR (asp := sp_l_draw K) (R_l_draw T) (hr.mono (by decide)) rfl T.g__law_draw T.k__law_draw (aa_cons (ae_var (pv 0)) (aa_cons ae_int aa_nil)))))
      (ass_cons (as_par2 (i := 3) (j := 4) (by rfl) sc_l_holds.nd rfl rfl (by decide) rfl rfl (aa_cons (ae_lc false (own := [("_law_number", 15)]) (pt := (.nm 15)) rfl sc_l_holds.nd (ai_list (ae_var (pv 2))) (blkOk_by (own := [("_law_number", 15)]) (N := ["_law_source_here", "_law_many", "_law_numbers", "_law_lines", "_law_models", "_law_words", "_law_held", "_law_turn", "_law_at", "_law_word", "_law_tags", "_law_due_here", "_law_told", "_law_line", "_law_now", "_law_number", "_law_place"]) (sc := defScope s_l_holds) (by decide +kernel)) (by decide) (fun _ _ _ _ _ => by exact (pg_name (i := 15) sc_l_holds.nd rfl (by first | exact Or.inl rfl | exact Or.inr rfl))) (fun _ _ _ _ _ => by exact ats_nil) (fun _ _ _ _ _ => by exact (ae_makeR (asp := sp_Line___init__ K) true T.m_Line (R_Line_init1 T) (hr.mono (by decide)) rfl T.g_Line (aa_cons (ae_var (pv 15)) aa_nil)))) (aa_cons (ae_lc false (own := [("_law_number", 15)]) (pt := (.nm 15)) rfl sc_l_holds.nd (ai_list (ae_var (pv 2))) (blkOk_by (own := [("_law_number", 15)]) (N := ["_law_source_here", "_law_many", "_law_numbers", "_law_lines", "_law_models", "_law_words", "_law_held", "_law_turn", "_law_at", "_law_word", "_law_tags", "_law_due_here", "_law_told", "_law_line", "_law_now", "_law_number", "_law_place"]) (sc := defScope s_l_holds) (by decide +kernel)) (by decide) (fun _ _ _ _ _ => by exact (pg_name (i := 15) sc_l_holds.nd rfl (by first | exact Or.inl rfl | exact Or.inr rfl))) (fun _ _ _ _ _ => by exact ats_nil) (fun _ _ _ _ _ => by exact (ae_callR (asp := sp_l_new K) (R_l_new T) (hr.mono (by decide)) rfl T.g__law_new T.k__law_new (aa_cons (ae_var (pv 15)) aa_nil)))) aa_nil)) (by rfl))
      (ass_cons (as_set (i := 5) sc_l_holds.nd rfl (by first | exact Or.inl rfl | exact Or.inr rfl) (ae_lst false (aa_cons ae_str (aa_cons ae_str (aa_cons ae_str (aa_cons ae_str (aa_cons ae_str (aa_cons ae_str (aa_cons ae_str (aa_cons ae_str (aa_cons ae_str (aa_cons ae_str aa_nil))))))))))))
      (ass_cons (as_set (i := 6) sc_l_holds.nd rfl (by first | exact Or.inl rfl | exact Or.inr rfl) (ae_lst true aa_nil))
      (ass_cons (as_for (p := (.nm 7)) PassesOwn.never rfl (ai_range1 rfl T.n_range (aa_cons (ae_add false ae_int (ae_callR (R_l_draw T) (hr.mono (by decide)) rfl T.g__law_draw T.k__law_draw (aa_cons (ae_var (pv 0)) (aa_cons ae_int aa_nil)))) aa_nil)) (pg_name (i := 7) sc_l_holds.nd rfl (by first | exact Or.inl rfl | exact Or.inr rfl)) (ass_cons (as_set (i := 8) sc_l_holds.nd rfl (by first | exact Or.inl rfl | exact Or.inr rfl) (ae_callR (R_l_draw T) (hr.mono (by decide)) rfl T.g__law_draw T.k__law_draw (aa_cons (ae_var (pv 0)) (aa_cons (ae_var (pv 1)) aa_nil))))
      (ass_cons (as_set (i := 9) sc_l_holds.nd rfl (by first | exact Or.inl rfl | exact Or.inr rfl) (ae_if (at_cmpA (cmp_eq hr.units) (ae_callR (R_l_draw T) (hr.mono (by decide)) rfl T.g__law_draw T.k__law_draw (aa_cons (ae_var (pv 0)) (aa_cons ae_int aa_nil))) ae_int (nomark _)) ae_str (ae_callR (R_l_of T) (hr.mono (by decide)) rfl T.g__law_of T.k__law_of (aa_cons (ae_var (pv 0)) (aa_cons (ae_var (pv 5)) aa_nil)))))
      (ass_cons (as_setLc false (i := 10) (own := [("_law_place", 16)]) (pt := (.nm 16)) rfl sc_l_holds.nd rfl rfl (sw_true rfl rfl rfl (by decide +kernel)) (ai_range1 rfl T.n_range (aa_cons (ae_add false ae_int (ae_callR (R_l_draw T) (hr.mono (by decide)) rfl T.g__law_draw T.k__law_draw (aa_cons (ae_var (pv 0)) (aa_cons ae_int aa_nil)))) aa_nil)) (blkOk_by (own := [("_law_place", 16)]) (N := ["_law_source_here", "_law_many", "_law_numbers", "_law_lines", "_law_models", "_law_words", "_law_held", "_law_turn", "_law_at", "_law_word", "_law_tags", "_law_due_here", "_law_told", "_law_line", "_law_now", "_law_number", "_law_place"]) (sc := defScope s_l_holds) (by decide +kernel)) (by decide) (fun _ _ _ _ _ => by exact (pg_name (i := 16) sc_l_holds.nd rfl (by first | exact Or.inl rfl | exact Or.inr rfl))) (fun _ _ _ _ _ => by exact ats_nil) (fun _ _ _ _ _ => by exact (ae_callR (asp := sp_l_of K) (R_l_of T) (hr.mono (by decide)) rfl T.g__law_of T.k__law_of (aa_cons (ae_var (pv 0)) (aa_cons (ae_lst false (aa_cons ae_str (aa_cons ae_str (aa_cons ae_str (aa_cons ae_str aa_nil))))) aa_nil)))))
      (ass_cons (as_set (i := 11) sc_l_holds.nd rfl (by first | exact Or.inl rfl | exact Or.inr rfl) (ae_callR (R_l_due T) (hr.mono (by decide)) rfl T.g__law_due T.k__law_due (aa_cons (ae_subs (ae_var (pv 4)) (ae_var (pv 8)) (fun _ _ => rfl)) (aa_cons (ae_var (pv 9)) (aa_cons (ae_var (pv 10)) (aa_cons ae_str aa_nil))))))
      (ass_cons (as_set (i := 12) sc_l_holds.nd rfl (by first | exact Or.inl rfl | exact Or.inr rfl) (ae_callR (R_l_call T) (hr.mono (by decide)) rfl T.g__law_call T.k__law_call (aa_cons (ae_subs (ae_var (pv 3)) (ae_var (pv 8)) (fun _ _ => rfl)) (aa_cons (ae_var (pv 9)) (aa_cons (ae_var (pv 10)) (aa_cons ae_str aa_nil))))))
      (ass_cons (as_if (at_not (at_truth (ae_callR (R_l_same T) (hr.mono (by decide)) rfl T.g__law_same T.k__law_same (aa_cons (ae_var (pv 12)) (aa_cons (ae_var (pv 11)) aa_nil))))) (ass_one (as_ret ae_bl)) ass_nil)
      (ass_cons (as_if (at_cmpA (cmp_eq hr.units) (ae_var (pv 9)) ae_str (nomark _)) (ass_one (as_expr (ae_bm PySem.F.slot_list_append PySem.F.type_list_append ma_append (ae_var (pv 6)) (aa_cons (ae_tup (aa_cons (ae_subs (ae_var (pv 12)) ae_int (fun _ _ => rfl)) (aa_cons (ae_callTy (ca_list false) (by rfl) T.n_list (by decide +kernel) (aa_cons (ae_subs (ae_var (pv 11)) ae_int (fun _ _ => rfl)) aa_nil)) aa_nil))) aa_nil)))) ass_nil)
      (ass_cons (as_if (at_not (at_truth (ae_callR (R_l_kept T) (hr.mono (by decide)) rfl T.g__law_kept T.k__law_kept (aa_cons (ae_subs (ae_var (pv 3)) (ae_var (pv 8)) (fun _ _ => rfl)) (aa_cons (ae_var (pv 0)) (aa_cons (ae_var (pv 6)) aa_nil)))))) (ass_one (as_ret ae_bl)) ass_nil)
      (ass_one (as_for (p := (.tp [(.nm 13), (.nm 14)])) PassesOwn.never rfl (ai_zip (by rfl) T.n_zip (aa_cons (ae_var (pv 3)) (aa_cons (ae_var (pv 4)) aa_nil))) (pg_tup (n := 2) rfl (pgs_cons (pg_name (i := 13) sc_l_holds.nd rfl (by first | exact Or.inl rfl | exact Or.inr rfl)) (pgs_cons (pg_name (i := 14) sc_l_holds.nd rfl (by first | exact Or.inl rfl | exact Or.inr rfl)) pgs_nil))) (ass_one (as_if (at_not (at_truth (ae_callR (R_l_stands T) (hr.mono (by decide)) rfl T.g__law_stands T.k__law_stands (aa_cons (ae_var (pv 13)) (aa_cons (ae_var (pv 14)) (aa_cons (ae_subs (ae_var (pv 10)) ae_int (fun _ _ => rfl)) aa_nil)))))) (ass_one (as_ret ae_bl)) ass_nil)))))))))))))
      (ass_one (as_ret (ae_callB (ca_all rfl) (by rfl) T.n_all (by decide +kernel) (aa_cons (ae_lc false (own := [("_law_told", 12), ("_law_due_here", 11)]) (pt := (.tp [(.nm 12), (.nm 11)])) rfl sc_l_holds.nd (ai_list (ae_var (pv 6))) (blkOk_by (own := [("_law_told", 12), ("_law_due_here", 11)]) (N := ["_law_source_here", "_law_many", "_law_numbers", "_law_lines", "_law_models", "_law_words", "_law_held", "_law_turn", "_law_at", "_law_word", "_law_tags", "_law_due_here", "_law_told", "_law_line", "_law_now", "_law_number", "_law_place"]) (sc := defScope s_l_holds) (by decide +kernel)) (by decide) (fun _ _ _ _ _ => by exact (pg_tup (n := 2) rfl (pgs_cons (pg_name (i := 12) sc_l_holds.nd rfl (by first | exact Or.inl rfl | exact Or.inr rfl)) (pgs_cons (pg_name (i := 11) sc_l_holds.nd rfl (by first | exact Or.inl rfl | exact Or.inr rfl)) pgs_nil)))) (fun _ _ _ _ _ => by exact ats_nil) (fun _ _ _ _ _ => by exact (ae_callR (asp := sp_l_same 4) (R_l_same T) (hr.mono (by decide)) rfl T.g__law_same T.k__law_same (aa_cons (ae_var (pv 12)) (aa_cons (ae_var (pv 11)) aa_nil))))) aa_nil)))))))))), ?_⟩
  simp only [↓RD, RU, aStart, wipeA, putFA, toP, toPs, scDs, valD_nil, valD_cons, putM_eq, mergeD_eq, keysOk, aHandle, endsAA, putAA, starSp, put_same, put_put, inV_nil, inV_str, cxK, atI_0, atI_1, atI_2, atI_3, ixN_30, ixN_31, ixN_32, List.map, List.replicate, List.length_cons, List.length_nil, List.nil_append, List.cons_append, List.append_nil, Nat.reduceSub, Nat.reduceAdd, List.getElem?_cons_zero, List.getElem?_cons_succ, List.set_cons_zero, List.set_cons_succ, List.cons.injEq, Option.some.injEq, V.int.injEq, V.str.injEq, V.bl.injEq, D.int.injEq, D.str.injEq, D.bl.injEq, D.ref.injEq, D.tup.injEq, D.lst.injEq, D.ty.injEq, AO.lst.injEq, AO.dct.injEq, AO.ins.injEq, Prod.mk.injEq, exists_eq_left, exists_eq_left', exists_eq_right, exists_eq_right', exists_and_left, exists_and_right, true_and, and_true, and_self, if_true, if_false, Bool.false_eq_true, Bool.true_eq_false, eq_self, reduceCtorEq, false_and, and_false, and_assoc, Int.reduceToNat, Int.reducePow, Int.reduceMul, Int.reduceAdd, Int.reduceNeg, Int.reduceSub, String.reduceEq, String.reduceNe, ne_eq, not_false_eq_true, not_true_eq_false, decide_false, decide_true, Bool.not_false, Bool.not_true, Bool.or_false, Bool.false_or, Bool.or_true, Bool.true_or, Bool.and_true, Bool.true_and, Bool.and_self, Bool.and_false, Bool.false_and, exists_eq', exists_eq, exists_const, false_or, or_false, or_self, List.all_cons, List.all_nil, List.any_cons, List.any_nil, Nat.reduceLeDiff, exists_false, List.map_nil, List.map_cons, Option.map_some, Option.isSome_some, Option.isSome_none, Option.getD_some, Option.getD_none, implies_true, List.foldl_cons, List.foldl_nil, forall_const, ofS_eq, Int.reduceLT, Int.reduceLE, Nat.reduceLT]
  refine ⟨b, _, n, l, rfl, hb, hB, by decide, by decide, by omega, fun r1 l1 r10 r11 hB1 => ?_⟩
  simp only [↓RD, RU, aStart, wipeA, putFA, toP, toPs, scDs, valD_nil, valD_cons, putM_eq, mergeD_eq, keysOk, aHandle, endsAA, putAA, starSp, put_same, put_put, inV_nil, inV_str, cxK, atI_0, atI_1, atI_2, atI_3, ixN_30, ixN_31, ixN_32, List.map, List.replicate, List.length_cons, List.length_nil, List.nil_append, List.cons_append, List.append_nil, Nat.reduceSub, Nat.reduceAdd, List.getElem?_cons_zero, List.getElem?_cons_succ, List.set_cons_zero, List.set_cons_succ, List.cons.injEq, Option.some.injEq, V.int.injEq, V.str.injEq, V.bl.injEq, D.int.injEq, D.str.injEq, D.bl.injEq, D.ref.injEq, D.tup.injEq, D.lst.injEq, D.ty.injEq, AO.lst.injEq, AO.dct.injEq, AO.ins.injEq, Prod.mk.injEq, exists_eq_left, exists_eq_left', exists_eq_right, exists_eq_right', exists_and_left, exists_and_right, true_and, and_true, and_self, if_true, if_false, Bool.false_eq_true, Bool.true_eq_false, eq_self, reduceCtorEq, false_and, and_false, and_assoc, Int.reduceToNat, Int.reducePow, Int.reduceMul, Int.reduceAdd, Int.reduceNeg, Int.reduceSub, String.reduceEq, String.reduceNe, ne_eq, not_false_eq_true, not_true_eq_false, decide_false, decide_true, Bool.not_false, Bool.not_true, Bool.or_false, Bool.false_or, Bool.or_true, Bool.true_or, Bool.and_true, Bool.true_and, Bool.and_self, Bool.and_false, Bool.false_and, exists_eq', exists_eq, exists_const, false_or, or_false, or_self, List.all_cons, List.all_nil, List.any_cons, List.any_nil, Nat.reduceLeDiff, exists_false, List.map_nil, List.map_cons, Option.map_some, Option.isSome_some, Option.isSome_none, Option.getD_some, Option.getD_none, implies_true, List.foldl_cons, List.foldl_nil, forall_const, ofS_eq, Int.reduceLT, Int.reduceLE, Nat.reduceLT]
  obtain ⟨M, rfl, hM⟩ : ∃ M : Nat, r1 = (M : Int) ∧ M < 3 := ⟨r1.toNat, by omega, by omega⟩
  refine ⟨by omega, by omega, ?_⟩
  have eM : ((2 : Int) + (M : Int)).toNat = M + 2 := by omega
  rw [eM]
  refine Av.comp_inv (fun i acc A' => ∃ (ns : List Int) (l2 : List D), acc = ns.map D.int ∧ ns.length = i ∧ BagL l2 (n + 1 + i) ∧ A' = put A b (.lst l2)) ⟨[], l1, rfl, rfl, hB1, rfl⟩ (fun _ _ _ _ _ => trivial) (fun i y acc A' R hy hP hR => ?_) (fun acc A' hP => ?_)
  · obtain ⟨ns, l2, rfl, hl, hB2, rfl⟩ := hP
    obtain ⟨hi, rfl⟩ := rngL_get hy
    simp only [↓RD, RU, aStart, wipeA, putFA, toP, toPs, scDs, valD_nil, valD_cons, putM_eq, mergeD_eq, keysOk, aHandle, endsAA, putAA, starSp, put_same, put_put, inV_nil, inV_str, cxK, atI_0, atI_1, atI_2, atI_3, ixN_30, ixN_31, ixN_32, List.map, List.replicate, List.length_cons, List.length_nil, List.nil_append, List.cons_append, List.append_nil, Nat.reduceSub, Nat.reduceAdd, List.getElem?_cons_zero, List.getElem?_cons_succ, List.set_cons_zero, List.set_cons_succ, List.cons.injEq, Option.some.injEq, V.int.injEq, V.str.injEq, V.bl.injEq, D.int.injEq, D.str.injEq, D.bl.injEq, D.ref.injEq, D.tup.injEq, D.lst.injEq, D.ty.injEq, AO.lst.injEq, AO.dct.injEq, AO.ins.injEq, Prod.mk.injEq, exists_eq_left, exists_eq_left', exists_eq_right, exists_eq_right', exists_and_left, exists_and_right, true_and, and_true, and_self, if_true, if_false, Bool.false_eq_true, Bool.true_eq_false, eq_self, reduceCtorEq, false_and, and_false, and_assoc, Int.reduceToNat, Int.reducePow, Int.reduceMul, Int.reduceAdd, Int.reduceNeg, Int.reduceSub, String.reduceEq, String.reduceNe, ne_eq, not_false_eq_true, not_true_eq_false, decide_false, decide_true, Bool.not_false, Bool.not_true, Bool.or_false, Bool.false_or, Bool.or_true, Bool.true_or, Bool.and_true, Bool.true_and, Bool.and_self, Bool.and_false, Bool.false_and, exists_eq', exists_eq, exists_const, false_or, or_false, or_self, List.all_cons, List.all_nil, List.any_cons, List.any_nil, Nat.reduceLeDiff, exists_false, List.map_nil, List.map_cons, Option.map_some, Option.isSome_some, Option.isSome_none, Option.getD_some, Option.getD_none, implies_true, List.foldl_cons, List.foldl_nil, forall_const, ofS_eq, Int.reduceLT, Int.reduceLE, Nat.reduceLT]
    refine ⟨b, _, n + 1 + i, l2, rfl, put_same, hB2, by decide, by decide, by omega, fun r2 l3 r20 r21 hB3 => ?_⟩
    simp only [↓RD, RU, aStart, wipeA, putFA, toP, toPs, scDs, valD_nil, valD_cons, putM_eq, mergeD_eq, keysOk, aHandle, endsAA, putAA, starSp, put_same, put_put, inV_nil, inV_str, cxK, atI_0, atI_1, atI_2, atI_3, ixN_30, ixN_31, ixN_32, List.map, List.replicate, List.length_cons, List.length_nil, List.nil_append, List.cons_append, List.append_nil, Nat.reduceSub, Nat.reduceAdd, List.getElem?_cons_zero, List.getElem?_cons_succ, List.set_cons_zero, List.set_cons_succ, List.cons.injEq, Option.some.injEq, V.int.injEq, V.str.injEq, V.bl.injEq, D.int.injEq, D.str.injEq, D.bl.injEq, D.ref.injEq, D.tup.injEq, D.lst.injEq, D.ty.injEq, AO.lst.injEq, AO.dct.injEq, AO.ins.injEq, Prod.mk.injEq, exists_eq_left, exists_eq_left', exists_eq_right, exists_eq_right', exists_and_left, exists_and_right, true_and, and_true, and_self, if_true, if_false, Bool.false_eq_true, Bool.true_eq_false, eq_self, reduceCtorEq, false_and, and_false, and_assoc, Int.reduceToNat, Int.reducePow, Int.reduceMul, Int.reduceAdd, Int.reduceNeg, Int.reduceSub, String.reduceEq, String.reduceNe, ne_eq, not_false_eq_true, not_true_eq_false, decide_false, decide_true, Bool.not_false, Bool.not_true, Bool.or_false, Bool.false_or, Bool.or_true, Bool.true_or, Bool.and_true, Bool.true_and, Bool.and_self, Bool.and_false, Bool.false_and, exists_eq', exists_eq, exists_const, false_or, or_false, or_self, List.all_cons, List.all_nil, List.any_cons, List.any_nil, Nat.reduceLeDiff, exists_false, List.map_nil, List.map_cons, Option.map_some, Option.isSome_some, Option.isSome_none, Option.getD_some, Option.getD_none, implies_true, List.foldl_cons, List.foldl_nil, forall_const, ofS_eq, Int.reduceLT, Int.reduceLE, Nat.reduceLT]
    refine ⟨Nat.lt_of_lt_of_le (show (ns.map D.int).length < 100 by rw [List.length_map]; omega) (by decide), hR _ _ ⟨ns ++ [r2], l3, by rw [List.map_append]; rfl, by simp [hl], hB3, rfl⟩⟩
  obtain ⟨ns, l2, rfl, hl, hB2, rfl⟩ := hP
  rw [rngL_len] at hl hB2
  simp only [↓RD, RU, aStart, wipeA, putFA, toP, toPs, scDs, valD_nil, valD_cons, putM_eq, mergeD_eq, keysOk, aHandle, endsAA, putAA, starSp, put_same, put_put, inV_nil, inV_str, cxK, atI_0, atI_1, atI_2, atI_3, ixN_30, ixN_31, ixN_32, List.map, List.replicate, List.length_cons, List.length_nil, List.nil_append, List.cons_append, List.append_nil, Nat.reduceSub, Nat.reduceAdd, List.getElem?_cons_zero, List.getElem?_cons_succ, List.set_cons_zero, List.set_cons_succ, List.cons.injEq, Option.some.injEq, V.int.injEq, V.str.injEq, V.bl.injEq, D.int.injEq, D.str.injEq, D.bl.injEq, D.ref.injEq, D.tup.injEq, D.lst.injEq, D.ty.injEq, AO.lst.injEq, AO.dct.injEq, AO.ins.injEq, Prod.mk.injEq, exists_eq_left, exists_eq_left', exists_eq_right, exists_eq_right', exists_and_left, exists_and_right, true_and, and_true, and_self, if_true, if_false, Bool.false_eq_true, Bool.true_eq_false, eq_self, reduceCtorEq, false_and, and_false, and_assoc, Int.reduceToNat, Int.reducePow, Int.reduceMul, Int.reduceAdd, Int.reduceNeg, Int.reduceSub, String.reduceEq, String.reduceNe, ne_eq, not_false_eq_true, not_true_eq_false, decide_false, decide_true, Bool.not_false, Bool.not_true, Bool.or_false, Bool.false_or, Bool.or_true, Bool.true_or, Bool.and_true, Bool.true_and, Bool.and_self, Bool.and_false, Bool.false_and, exists_eq', exists_eq, exists_const, false_or, or_false, or_self, List.all_cons, List.all_nil, List.any_cons, List.any_nil, Nat.reduceLeDiff, exists_false, List.map_nil, List.map_cons, Option.map_some, Option.isSome_some, Option.isSome_none, Option.getD_some, Option.getD_none, implies_true, List.foldl_cons, List.foldl_nil, forall_const, ofS_eq, Int.reduceLT, Int.reduceLE, Nat.reduceLT]
  have W0 : Ws K A (put A b (.lst l2)) b l2 0 0 (fun _ => b) (fun _ => b) (fun _ => b) (fun _ => newS 0) (fun _ => newS 0) (fun _ => .non) :=
    ⟨put_same, (fun _ z => absurd z (by omega)), (fun _ z => absurd z (by omega)), (fun c o h n => by rw [put_ne n]; exact h), (fun _ z => absurd z (by omega)), (fun _ z => absurd z (by omega)), (fun _ z => absurd z (by omega)), (fun _ _ z => absurd z (by omega)), (fun _ _ z => absurd z (by omega)), (fun _ _ z => absurd z (by omega)), (fun _ z => absurd z (by omega))⟩
  refine Av.comp_inv (fun i acc A' => ∃ (a q : Nat → Addr) (S : Nat → LS), acc = rf a i ∧ (∀ j, j < i → S j = newS ((ns[j]?).getD 0)) ∧ Ws K A A' b l2 i 0 a q (fun _ => b) S (fun _ => newS 0) (fun _ => .non)) ⟨_, _, _, rfl, (fun j z => absurd z (by omega)), W0⟩ (fun i acc A' _ _ => rfl) (fun i y acc A' R hy hP hR => ?_) (fun acc A' hP => ?_)
  · obtain ⟨a, q, S, rfl, hS, W⟩ := hP
    obtain ⟨v, hv, rfl⟩ : ∃ v, ns[i]? = some v ∧ y = .int v := by
      rw [List.getElem?_map] at hy
      cases e : ns[i]? with
      | none => rw [e] at hy; cases hy
      | some t => rw [e] at hy; exact ⟨t, rfl, (Option.some.inj hy).symm⟩
    simp only [↓RD, RU, aStart, wipeA, putFA, toP, toPs, scDs, valD_nil, valD_cons, putM_eq, mergeD_eq, keysOk, aHandle, endsAA, putAA, starSp, put_same, put_put, inV_nil, inV_str, cxK, atI_0, atI_1, atI_2, atI_3, ixN_30, ixN_31, ixN_32, List.map, List.replicate, List.length_cons, List.length_nil, List.nil_append, List.cons_append, List.append_nil, Nat.reduceSub, Nat.reduceAdd, List.getElem?_cons_zero, List.getElem?_cons_succ, List.set_cons_zero, List.set_cons_succ, List.cons.injEq, Option.some.injEq, V.int.injEq, V.str.injEq, V.bl.injEq, D.int.injEq, D.str.injEq, D.bl.injEq, D.ref.injEq, D.tup.injEq, D.lst.injEq, D.ty.injEq, AO.lst.injEq, AO.dct.injEq, AO.ins.injEq, Prod.mk.injEq, exists_eq_left, exists_eq_left', exists_eq_right, exists_eq_right', exists_and_left, exists_and_right, true_and, and_true, and_self, if_true, if_false, Bool.false_eq_true, Bool.true_eq_false, eq_self, reduceCtorEq, false_and, and_false, and_assoc, Int.reduceToNat, Int.reducePow, Int.reduceMul, Int.reduceAdd, Int.reduceNeg, Int.reduceSub, String.reduceEq, String.reduceNe, ne_eq, not_false_eq_true, not_true_eq_false, decide_false, decide_true, Bool.not_false, Bool.not_true, Bool.or_false, Bool.false_or, Bool.or_true, Bool.true_or, Bool.and_true, Bool.true_and, Bool.and_self, Bool.and_false, Bool.false_and, exists_eq', exists_eq, exists_const, false_or, or_false, or_self, List.all_cons, List.all_nil, List.any_cons, List.any_nil, Nat.reduceLeDiff, exists_false, List.map_nil, List.map_cons, Option.map_some, Option.isSome_some, Option.isSome_none, Option.getD_some, Option.getD_none, implies_true, List.foldl_cons, List.foldl_nil, forall_const, ofS_eq, Int.reduceLT, Int.reduceLE, Nat.reduceLT]
    intro x hx
    refine ⟨x, v, rfl, put_same, fun q0 hq0 => ⟨rfl, ?_⟩⟩
    obtain ⟨hqx, hq0⟩ := put_none hq0
    have hi : i < ns.length := (List.getElem?_eq_some_iff.mp hv).1
    have e1 : ∀ o, setL K (put A' x o) x q0 (newS v) = setL K A' x q0 (newS v) := fun o => by unfold setL; rw [put_put]
    rw [e1]
    refine ⟨Nat.lt_of_lt_of_le (show (rf a i).length < 100 by rw [rf, List.length_map, List.length_range]; omega) (by decide), hR _ _ ⟨up a i x, up q i q0, up S i (newS v), rf_up.symm, fun j hj => ?_, W.addLine hx hq0 hqx.symm⟩⟩
    by_cases h : j = i
    · subst h; rw [up_same, hv]; rfl
    · rw [up_ne h]; exact hS j (by omega)
  obtain ⟨a, q, S, rfl, hS, W⟩ := hP
  rw [List.length_map, hl] at W hS ⊢
  simp only [↓RD, RU, aStart, wipeA, putFA, toP, toPs, scDs, valD_nil, valD_cons, putM_eq, mergeD_eq, keysOk, aHandle, endsAA, putAA, starSp, put_same, put_put, inV_nil, inV_str, cxK, atI_0, atI_1, atI_2, atI_3, ixN_30, ixN_31, ixN_32, List.map, List.replicate, List.length_cons, List.length_nil, List.nil_append, List.cons_append, List.append_nil, Nat.reduceSub, Nat.reduceAdd, List.getElem?_cons_zero, List.getElem?_cons_succ, List.set_cons_zero, List.set_cons_succ, List.cons.injEq, Option.some.injEq, V.int.injEq, V.str.injEq, V.bl.injEq, D.int.injEq, D.str.injEq, D.bl.injEq, D.ref.injEq, D.tup.injEq, D.lst.injEq, D.ty.injEq, AO.lst.injEq, AO.dct.injEq, AO.ins.injEq, Prod.mk.injEq, exists_eq_left, exists_eq_left', exists_eq_right, exists_eq_right', exists_and_left, exists_and_right, true_and, and_true, and_self, if_true, if_false, Bool.false_eq_true, Bool.true_eq_false, eq_self, reduceCtorEq, false_and, and_false, and_assoc, Int.reduceToNat, Int.reducePow, Int.reduceMul, Int.reduceAdd, Int.reduceNeg, Int.reduceSub, String.reduceEq, String.reduceNe, ne_eq, not_false_eq_true, not_true_eq_false, decide_false, decide_true, Bool.not_false, Bool.not_true, Bool.or_false, Bool.false_or, Bool.or_true, Bool.true_or, Bool.and_true, Bool.true_and, Bool.and_self, Bool.and_false, Bool.false_and, exists_eq', exists_eq, exists_const, false_or, or_false, or_self, List.all_cons, List.all_nil, List.any_cons, List.any_nil, Nat.reduceLeDiff, exists_false, List.map_nil, List.map_cons, Option.map_some, Option.isSome_some, Option.isSome_none, Option.getD_some, Option.getD_none, implies_true, List.foldl_cons, List.foldl_nil, forall_const, ofS_eq, Int.reduceLT, Int.reduceLE, Nat.reduceLT]
  refine Av.comp_inv (fun i acc A' => ∃ (d : Nat → Addr) (T : Nat → LS) (g : Nat → D), acc = rf d i ∧ (∀ j, j < i → T j = newS ((ns[j]?).getD 0)) ∧ (∀ j, j < i → g j = .non) ∧ Ws K A A' b l2 (M + 2) i a q d S T g) ⟨_, _, _, rfl, (fun j z => absurd z (by omega)), (fun j z => absurd z (by omega)), W⟩ (fun i acc A' _ _ => rfl) (fun i y acc A' R hy hP hR => ?_) (fun acc A' hP => ?_)
  · obtain ⟨d, T', g, rfl, hT, hg, W⟩ := hP
    obtain ⟨v, hv, rfl⟩ : ∃ v, ns[i]? = some v ∧ y = .int v := by
      rw [List.getElem?_map] at hy
      cases e : ns[i]? with
      | none => rw [e] at hy; cases hy
      | some t => rw [e] at hy; exact ⟨t, rfl, (Option.some.inj hy).symm⟩
    have hi : i < ns.length := (List.getElem?_eq_some_iff.mp hv).1
    simp only [↓RD, RU, aStart, wipeA, putFA, toP, toPs, scDs, valD_nil, valD_cons, putM_eq, mergeD_eq, keysOk, aHandle, endsAA, putAA, starSp, put_same, put_put, inV_nil, inV_str, cxK, atI_0, atI_1, atI_2, atI_3, ixN_30, ixN_31, ixN_32, List.map, List.replicate, List.length_cons, List.length_nil, List.nil_append, List.cons_append, List.append_nil, Nat.reduceSub, Nat.reduceAdd, List.getElem?_cons_zero, List.getElem?_cons_succ, List.set_cons_zero, List.set_cons_succ, List.cons.injEq, Option.some.injEq, V.int.injEq, V.str.injEq, V.bl.injEq, D.int.injEq, D.str.injEq, D.bl.injEq, D.ref.injEq, D.tup.injEq, D.lst.injEq, D.ty.injEq, AO.lst.injEq, AO.dct.injEq, AO.ins.injEq, Prod.mk.injEq, exists_eq_left, exists_eq_left', exists_eq_right, exists_eq_right', exists_and_left, exists_and_right, true_and, and_true, and_self, if_true, if_false, Bool.false_eq_true, Bool.true_eq_false, eq_self, reduceCtorEq, false_and, and_false, and_assoc, Int.reduceToNat, Int.reducePow, Int.reduceMul, Int.reduceAdd, Int.reduceNeg, Int.reduceSub, String.reduceEq, String.reduceNe, ne_eq, not_false_eq_true, not_true_eq_false, decide_false, decide_true, Bool.not_false, Bool.not_true, Bool.or_false, Bool.false_or, Bool.or_true, Bool.true_or, Bool.and_true, Bool.true_and, Bool.and_self, Bool.and_false, Bool.false_and, exists_eq', exists_eq, exists_const, false_or, or_false, or_self, List.all_cons, List.all_nil, List.any_cons, List.any_nil, Nat.reduceLeDiff, exists_false, List.map_nil, List.map_cons, Option.map_some, Option.isSome_some, Option.isSome_none, Option.getD_some, Option.getD_none, implies_true, List.foldl_cons, List.foldl_nil, forall_const, ofS_eq, Int.reduceLT, Int.reduceLE, Nat.reduceLT]
    refine ⟨v, rfl, fun p hp => ?_⟩
    refine ⟨Nat.lt_of_lt_of_le (show (rf d i).length < 100 by rw [rf, List.length_map, List.length_range]; omega) (by decide), hR _ _ ⟨up d i p, up T' i (newS v), up g i .non, rf_up.symm, fun j hj => ?_, fun j hj => ?_, W.addBook hp⟩⟩
    · by_cases h : j = i
      · subst h; rw [up_same, hv]; rfl
      · rw [up_ne h]; exact hT j (by omega)
    · by_cases h : j = i
      · subst h; rw [up_same]
      · rw [up_ne h]; exact hg j (by omega)
  obtain ⟨d, T', g, rfl, hT, hg, W⟩ := hP
  rw [List.length_map, hl] at W hT hg ⊢
  simp only [↓RD, RU, aStart, wipeA, putFA, toP, toPs, scDs, valD_nil, valD_cons, putM_eq, mergeD_eq, keysOk, aHandle, endsAA, putAA, starSp, put_same, put_put, inV_nil, inV_str, cxK, atI_0, atI_1, atI_2, atI_3, ixN_30, ixN_31, ixN_32, List.map, List.replicate, List.length_cons, List.length_nil, List.nil_append, List.cons_append, List.append_nil, Nat.reduceSub, Nat.reduceAdd, List.getElem?_cons_zero, List.getElem?_cons_succ, List.set_cons_zero, List.set_cons_succ, List.cons.injEq, Option.some.injEq, V.int.injEq, V.str.injEq, V.bl.injEq, D.int.injEq, D.str.injEq, D.bl.injEq, D.ref.injEq, D.tup.injEq, D.lst.injEq, D.ty.injEq, AO.lst.injEq, AO.dct.injEq, AO.ins.injEq, Prod.mk.injEq, exists_eq_left, exists_eq_left', exists_eq_right, exists_eq_right', exists_and_left, exists_and_right, true_and, and_true, and_self, if_true, if_false, Bool.false_eq_true, Bool.true_eq_false, eq_self, reduceCtorEq, false_and, and_false, and_assoc, Int.reduceToNat, Int.reducePow, Int.reduceMul, Int.reduceAdd, Int.reduceNeg, Int.reduceSub, String.reduceEq, String.reduceNe, ne_eq, not_false_eq_true, not_true_eq_false, decide_false, decide_true, Bool.not_false, Bool.not_true, Bool.or_false, Bool.false_or, Bool.or_true, Bool.true_or, Bool.and_true, Bool.true_and, Bool.and_self, Bool.and_false, Bool.false_and, exists_eq', exists_eq, exists_const, false_or, or_false, or_self, List.all_cons, List.all_nil, List.any_cons, List.any_nil, Nat.reduceLeDiff, exists_false, List.map_nil, List.map_cons, Option.map_some, Option.isSome_some, Option.isSome_none, Option.getD_some, Option.getD_none, implies_true, List.foldl_cons, List.foldl_nil, forall_const, ofS_eq, Int.reduceLT, Int.reduceLE, Nat.reduceLT]
  intro h hh
  have Wh := W.new (o := .lst []) hh
  have hhb : h ≠ b := (ne_n W.B hh).symm
  have hhq : ∀ i, i < M + 2 → q i ≠ h := fun i hi => ne_n (W.L i hi).qu hh
  have hh0 : A h = none := W.free hh
  have hhs : put A' h (.lst []) h = some (.lst []) := put_same
  generalize put A' h (.lst []) = A1 at Wh hhs ⊢
  refine ⟨b, _, n + 1 + (M + 2), l2, rfl, Wh.B, hB2, by decide, by decide, by omega, fun r3 l3 r30 r31 hB3 => ?_⟩
  have W3 := Wh.bag (l' := l3)
  have hh3 : put A1 b (.lst l3) h = some (.lst []) := by rw [put_ne hhb]; exact hhs
  generalize put A1 b (.lst l3) = A3 at W3 hh3 ⊢
  simp only [↓RD, RU, aStart, wipeA, putFA, toP, toPs, scDs, valD_nil, valD_cons, putM_eq, mergeD_eq, keysOk, aHandle, endsAA, putAA, starSp, put_same, put_put, inV_nil, inV_str, cxK, atI_0, atI_1, atI_2, atI_3, ixN_30, ixN_31, ixN_32, List.map, List.replicate, List.length_cons, List.length_nil, List.nil_append, List.cons_append, List.append_nil, Nat.reduceSub, Nat.reduceAdd, List.getElem?_cons_zero, List.getElem?_cons_succ, List.set_cons_zero, List.set_cons_succ, List.cons.injEq, Option.some.injEq, V.int.injEq, V.str.injEq, V.bl.injEq, D.int.injEq, D.str.injEq, D.bl.injEq, D.ref.injEq, D.tup.injEq, D.lst.injEq, D.ty.injEq, AO.lst.injEq, AO.dct.injEq, AO.ins.injEq, Prod.mk.injEq, exists_eq_left, exists_eq_left', exists_eq_right, exists_eq_right', exists_and_left, exists_and_right, true_and, and_true, and_self, if_true, if_false, Bool.false_eq_true, Bool.true_eq_false, eq_self, reduceCtorEq, false_and, and_false, and_assoc, Int.reduceToNat, Int.reducePow, Int.reduceMul, Int.reduceAdd, Int.reduceNeg, Int.reduceSub, String.reduceEq, String.reduceNe, ne_eq, not_false_eq_true, not_true_eq_false, decide_false, decide_true, Bool.not_false, Bool.not_true, Bool.or_false, Bool.false_or, Bool.or_true, Bool.true_or, Bool.and_true, Bool.true_and, Bool.and_self, Bool.and_false, Bool.false_and, exists_eq', exists_eq, exists_const, false_or, or_false, or_self, List.all_cons, List.all_nil, List.any_cons, List.any_nil, Nat.reduceLeDiff, exists_false, List.map_nil, List.map_cons, Option.map_some, Option.isSome_some, Option.isSome_none, Option.getD_some, Option.getD_none, implies_true, List.foldl_cons, List.foldl_nil, forall_const, ofS_eq, Int.reduceLT, Int.reduceLE, Nat.reduceLT]
  refine ⟨by omega, by omega, ?_⟩
  have LI0 : LInv 0 (M + 2) S g := fun j hj => by
    rw [hS j hj, hg j hj]
    exact ⟨⟨.inl rfl, fun z => by cases z⟩, Nat.zero_le _, (fun z => by cases z), rfl⟩
  have W4 : Ws K A A3 b l3 (M + 2) (M + 2) a q d S S g := ⟨W3.B, W3.L, fun i hi => by rw [hS i hi, ← hT i hi]; exact W3.N i hi, W3.fr, W3.fa, W3.fq, W3.fd, W3.na, W3.nq, W3.nd, W3.nb⟩
  clear W3 W Wh hS hT hg hh hhs W0
  refine loop_for (fun i δ A' => (∃ v7 v8 v9 v10 v11 v12 v13 v14 v15 v16, δ = [some (D.ref b), some (D.int (2 + (M : Int))), some (D.lst (List.map D.int ns)), some (D.lst (rf a (M + 2))), some (D.lst (rf d (M + 2))), some (D.lst [D.str "ask", D.str "ask", D.str "begin", D.str "finish", D.str "read", D.str "head", D.str "body", D.str "drain", D.str "read", D.str "ask"]), some (D.ref h), v7, v8, v9, v10, v11, v12, v13, v14, v15, v16]) ∧ ∃ l4 hs q S g, Ws K A A' b l4 (M + 2) (M + 2) a q d S S g ∧ A' h = some (.lst hs) ∧ (∀ j, j < M + 2 → q j ≠ h) ∧ BagL l4 (n + 20 + 8 * i) ∧ LInv i (M + 2) S g ∧ hs.length ≤ 2 * i ∧ HeldL hs) ⟨⟨_, _, _, _, _, _, _, _, _, _, rfl⟩, l3, [], q, S, g, W4, hh3, hhq, bag_up hB3 (by omega), LI0, Nat.le_refl _, fun x hx => by cases hx⟩ (fun _ _ _ _ _ => trivial) (fun i y δ A5 R hy hP hR => ?_) (fun δ A5 hP => ?_)
  · clear W4 hh3 hhq LI0 hB3
    obtain ⟨⟨v7, v8, v9, v10, v11, v12, v13, v14, v15, v16, rfl⟩, l4, hs, q, S, g, W, hh, hhq, hB4, LI, hsl, hH⟩ := hP
    obtain ⟨hi, rfl⟩ := rngL_get hy
    have hi72 : i < 72 := by omega
    simp only [↓RD, RU, aStart, wipeA, putFA, toP, toPs, scDs, valD_nil, valD_cons, putM_eq, mergeD_eq, keysOk, aHandle, endsAA, putAA, starSp, put_same, put_put, inV_nil, inV_str, cxK, atI_0, atI_1, atI_2, atI_3, ixN_30, ixN_31, ixN_32, List.map, List.replicate, List.length_cons, List.length_nil, List.nil_append, List.cons_append, List.append_nil, Nat.reduceSub, Nat.reduceAdd, List.getElem?_cons_zero, List.getElem?_cons_succ, List.set_cons_zero, List.set_cons_succ, List.cons.injEq, Option.some.injEq, V.int.injEq, V.str.injEq, V.bl.injEq, D.int.injEq, D.str.injEq, D.bl.injEq, D.ref.injEq, D.tup.injEq, D.lst.injEq, D.ty.injEq, AO.lst.injEq, AO.dct.injEq, AO.ins.injEq, Prod.mk.injEq, exists_eq_left, exists_eq_left', exists_eq_right, exists_eq_right', exists_and_left, exists_and_right, true_and, and_true, and_self, if_true, if_false, Bool.false_eq_true, Bool.true_eq_false, eq_self, reduceCtorEq, false_and, and_false, and_assoc, Int.reduceToNat, Int.reducePow, Int.reduceMul, Int.reduceAdd, Int.reduceNeg, Int.reduceSub, String.reduceEq, String.reduceNe, ne_eq, not_false_eq_true, not_true_eq_false, decide_false, decide_true, Bool.not_false, Bool.not_true, Bool.or_false, Bool.false_or, Bool.or_true, Bool.true_or, Bool.and_true, Bool.true_and, Bool.and_self, Bool.and_false, Bool.false_and, exists_eq', exists_eq, exists_const, false_or, or_false, or_self, List.all_cons, List.all_nil, List.any_cons, List.any_nil, Nat.reduceLeDiff, exists_false, List.map_nil, List.map_cons, Option.map_some, Option.isSome_some, Option.isSome_none, Option.getD_some, Option.getD_none, implies_true, List.foldl_cons, List.foldl_nil, forall_const, ofS_eq, Int.reduceLT, Int.reduceLE, Nat.reduceLT]
    refine ⟨b, _, n + 20 + 8 * i, l4, rfl, W.B, hB4, by omega, by omega, by omega, fun r4 l5 r40 r41 hB5 => ?_⟩
    have W := W.bag (l' := l5)
    have hh : put A5 b (.lst l5) h = some (.lst hs) := by rw [put_ne hhb]; exact hh
    generalize put A5 b (.lst l5) = A6 at W hh ⊢
    obtain ⟨k0, rfl, hk0⟩ : ∃ k0 : Nat, r4 = (k0 : Int) ∧ k0 < M + 2 := ⟨r4.toNat, by omega, by omega⟩
    simp only [↓RD, RU, aStart, wipeA, putFA, toP, toPs, scDs, valD_nil, valD_cons, putM_eq, mergeD_eq, keysOk, aHandle, endsAA, putAA, starSp, put_same, put_put, inV_nil, inV_str, cxK, atI_0, atI_1, atI_2, atI_3, ixN_30, ixN_31, ixN_32, List.map, List.replicate, List.length_cons, List.length_nil, List.nil_append, List.cons_append, List.append_nil, Nat.reduceSub, Nat.reduceAdd, List.getElem?_cons_zero, List.getElem?_cons_succ, List.set_cons_zero, List.set_cons_succ, List.cons.injEq, Option.some.injEq, V.int.injEq, V.str.injEq, V.bl.injEq, D.int.injEq, D.str.injEq, D.bl.injEq, D.ref.injEq, D.tup.injEq, D.lst.injEq, D.ty.injEq, AO.lst.injEq, AO.dct.injEq, AO.ins.injEq, Prod.mk.injEq, exists_eq_left, exists_eq_left', exists_eq_right, exists_eq_right', exists_and_left, exists_and_right, true_and, and_true, and_self, if_true, if_false, Bool.false_eq_true, Bool.true_eq_false, eq_self, reduceCtorEq, false_and, and_false, and_assoc, Int.reduceToNat, Int.reducePow, Int.reduceMul, Int.reduceAdd, Int.reduceNeg, Int.reduceSub, String.reduceEq, String.reduceNe, ne_eq, not_false_eq_true, not_true_eq_false, decide_false, decide_true, Bool.not_false, Bool.not_true, Bool.or_false, Bool.false_or, Bool.or_true, Bool.true_or, Bool.and_true, Bool.true_and, Bool.and_self, Bool.and_false, Bool.false_and, exists_eq', exists_eq, exists_const, false_or, or_false, or_self, List.all_cons, List.all_nil, List.any_cons, List.any_nil, Nat.reduceLeDiff, exists_false, List.map_nil, List.map_cons, Option.map_some, Option.isSome_some, Option.isSome_none, Option.getD_some, Option.getD_none, implies_true, List.foldl_cons, List.foldl_nil, forall_const, ofS_eq, Int.reduceLT, Int.reduceLE, Nat.reduceLT]
    refine ⟨b, _, n + 20 + 8 * i + 1, l5, rfl, W.B, hB5, by omega, by omega, by omega, fun r5 l6 r50 r51 hB6 => ?_⟩
    have W := W.bag (l' := l6)
    have hh : put A6 b (.lst l6) h = some (.lst hs) := by rw [put_ne hhb]; exact hh
    generalize put A6 b (.lst l6) = A7 at W hh ⊢
    simp only [↓RD, RU, aStart, wipeA, putFA, toP, toPs, scDs, valD_nil, valD_cons, putM_eq, mergeD_eq, keysOk, aHandle, endsAA, putAA, starSp, put_same, put_put, inV_nil, inV_str, cxK, atI_0, atI_1, atI_2, atI_3, ixN_30, ixN_31, ixN_32, List.map, List.replicate, List.length_cons, List.length_nil, List.nil_append, List.cons_append, List.append_nil, Nat.reduceSub, Nat.reduceAdd, List.getElem?_cons_zero, List.getElem?_cons_succ, List.set_cons_zero, List.set_cons_succ, List.cons.injEq, Option.some.injEq, V.int.injEq, V.str.injEq, V.bl.injEq, D.int.injEq, D.str.injEq, D.bl.injEq, D.ref.injEq, D.tup.injEq, D.lst.injEq, D.ty.injEq, AO.lst.injEq, AO.dct.injEq, AO.ins.injEq, Prod.mk.injEq, exists_eq_left, exists_eq_left', exists_eq_right, exists_eq_right', exists_and_left, exists_and_right, true_and, and_true, and_self, if_true, if_false, Bool.false_eq_true, Bool.true_eq_false, eq_self, reduceCtorEq, false_and, and_false, and_assoc, Int.reduceToNat, Int.reducePow, Int.reduceMul, Int.reduceAdd, Int.reduceNeg, Int.reduceSub, String.reduceEq, String.reduceNe, ne_eq, not_false_eq_true, not_true_eq_false, decide_false, decide_true, Bool.not_false, Bool.not_true, Bool.or_false, Bool.false_or, Bool.or_true, Bool.true_or, Bool.and_true, Bool.true_and, Bool.and_self, Bool.and_false, Bool.false_and, exists_eq', exists_eq, exists_const, false_or, or_false, or_self, List.all_cons, List.all_nil, List.any_cons, List.any_nil, Nat.reduceLeDiff, exists_false, List.map_nil, List.map_cons, Option.map_some, Option.isSome_some, Option.isSome_none, Option.getD_some, Option.getD_none, implies_true, List.foldl_cons, List.foldl_nil, forall_const, ofS_eq, Int.reduceLT, Int.reduceLE, Nat.reduceLT]
    apply hcut2 (P := fun (w : Str) A8 => W8 w ∧ ∃ l7, Ws K A A8 b l7 (M + 2) (M + 2) a q d S S g ∧ A8 h = some (.lst hs) ∧ BagL l7 (n + 20 + 8 * i + 3))
    · intro hR
      refine ite_dec (fun z => ?_) (fun z => ?_)
      rotate_left
      · refine ⟨b, n + 20 + 8 * i + 2, l6, _, rfl, W.B, hB6, by omega, by simp, by simp, fun v l7 hv hB7 => ?_⟩
        have W := W.bag (l' := l7)
        have hh : put A7 b (.lst l7) h = some (.lst hs) := by rw [put_ne hhb]; exact hh
        generalize put A7 b (.lst l7) = A8 at W hh ⊢
        obtain ⟨w', rfl, hw⟩ : ∃ w', v = .str w' ∧ W8 w' := by
          simp only [List.mem_cons, List.not_mem_nil, or_false] at hv
          rcases hv with rfl | rfl | rfl | rfl | rfl | rfl | rfl | rfl | rfl | rfl <;> exact ⟨_, rfl, by simp [W8]⟩
        simp only [↓RD, RU, aStart, wipeA, putFA, toP, toPs, scDs, valD_nil, valD_cons, putM_eq, mergeD_eq, keysOk, aHandle, endsAA, putAA, starSp, put_same, put_put, inV_nil, inV_str, cxK, atI_0, atI_1, atI_2, atI_3, ixN_30, ixN_31, ixN_32, List.map, List.replicate, List.length_cons, List.length_nil, List.nil_append, List.cons_append, List.append_nil, Nat.reduceSub, Nat.reduceAdd, List.getElem?_cons_zero, List.getElem?_cons_succ, List.set_cons_zero, List.set_cons_succ, List.cons.injEq, Option.some.injEq, V.int.injEq, V.str.injEq, V.bl.injEq, D.int.injEq, D.str.injEq, D.bl.injEq, D.ref.injEq, D.tup.injEq, D.lst.injEq, D.ty.injEq, AO.lst.injEq, AO.dct.injEq, AO.ins.injEq, Prod.mk.injEq, exists_eq_left, exists_eq_left', exists_eq_right, exists_eq_right', exists_and_left, exists_and_right, true_and, and_true, and_self, if_true, if_false, Bool.false_eq_true, Bool.true_eq_false, eq_self, reduceCtorEq, false_and, and_false, and_assoc, Int.reduceToNat, Int.reducePow, Int.reduceMul, Int.reduceAdd, Int.reduceNeg, Int.reduceSub, String.reduceEq, String.reduceNe, ne_eq, not_false_eq_true, not_true_eq_false, decide_false, decide_true, Bool.not_false, Bool.not_true, Bool.or_false, Bool.false_or, Bool.or_true, Bool.true_or, Bool.and_true, Bool.true_and, Bool.and_self, Bool.and_false, Bool.false_and, exists_eq', exists_eq, exists_const, false_or, or_false, or_self, List.all_cons, List.all_nil, List.any_cons, List.any_nil, Nat.reduceLeDiff, exists_false, List.map_nil, List.map_cons, Option.map_some, Option.isSome_some, Option.isSome_none, Option.getD_some, Option.getD_none, implies_true, List.foldl_cons, List.foldl_nil, forall_const, ofS_eq, Int.reduceLT, Int.reduceLE, Nat.reduceLT]
        exact hR w' A8 ⟨hw, l7, W, hh, hB7⟩
      · exact hR "close" A7 ⟨by simp [W8], l6, W, hh, bag_up hB6 (by omega)⟩
    clear W hh hB4 hB5 hB6
    rintro w' A8 ⟨hw, l7, W, hh, hB7⟩
    refine ⟨b, _, n + 20 + 8 * i + 3, l7, rfl, W.B, hB7, by omega, by omega, by omega, fun r6 l8 r60 r61 hB8 => ?_⟩
    have W := W.bag (l' := l8)
    have hh : put A8 b (.lst l8) h = some (.lst hs) := by rw [put_ne hhb]; exact hh
    generalize put A8 b (.lst l8) = A9 at W hh ⊢
    simp only [↓RD, RU, aStart, wipeA, putFA, toP, toPs, scDs, valD_nil, valD_cons, putM_eq, mergeD_eq, keysOk, aHandle, endsAA, putAA, starSp, put_same, put_put, inV_nil, inV_str, cxK, atI_0, atI_1, atI_2, atI_3, ixN_30, ixN_31, ixN_32, List.map, List.replicate, List.length_cons, List.length_nil, List.nil_append, List.cons_append, List.append_nil, Nat.reduceSub, Nat.reduceAdd, List.getElem?_cons_zero, List.getElem?_cons_succ, List.set_cons_zero, List.set_cons_succ, List.cons.injEq, Option.some.injEq, V.int.injEq, V.str.injEq, V.bl.injEq, D.int.injEq, D.str.injEq, D.bl.injEq, D.ref.injEq, D.tup.injEq, D.lst.injEq, D.ty.injEq, AO.lst.injEq, AO.dct.injEq, AO.ins.injEq, Prod.mk.injEq, exists_eq_left, exists_eq_left', exists_eq_right, exists_eq_right', exists_and_left, exists_and_right, true_and, and_true, and_self, if_true, if_false, Bool.false_eq_true, Bool.true_eq_false, eq_self, reduceCtorEq, false_and, and_false, and_assoc, Int.reduceToNat, Int.reducePow, Int.reduceMul, Int.reduceAdd, Int.reduceNeg, Int.reduceSub, String.reduceEq, String.reduceNe, ne_eq, not_false_eq_true, not_true_eq_false, decide_false, decide_true, Bool.not_false, Bool.not_true, Bool.or_false, Bool.false_or, Bool.or_true, Bool.true_or, Bool.and_true, Bool.true_and, Bool.and_self, Bool.and_false, Bool.false_and, exists_eq', exists_eq, exists_const, false_or, or_false, or_self, List.all_cons, List.all_nil, List.any_cons, List.any_nil, Nat.reduceLeDiff, exists_false, List.map_nil, List.map_cons, Option.map_some, Option.isSome_some, Option.isSome_none, Option.getD_some, Option.getD_none, implies_true, List.foldl_cons, List.foldl_nil, forall_const, ofS_eq, Int.reduceLT, Int.reduceLE, Nat.reduceLT]
    refine ⟨by omega, by omega, ?_⟩
    refine Av.comp_inv (fun j acc A' => ∃ (ts : List Str) (l9 : List D), acc = ts.map D.str ∧ ts.length = j ∧ BagL l9 (n + 20 + 8 * i + 4 + j) ∧ Ws K A A' b l9 (M + 2) (M + 2) a q d S S g ∧ A' h = some (.lst hs)) ⟨[], l8, rfl, rfl, hB8, W, hh⟩ (fun _ _ _ _ _ => trivial) (fun j y acc A' R hy hP hR => ?_) (fun acc A' hP => ?_)
    · obtain ⟨ts, l9, rfl, hl, hB9, W, hh⟩ := hP
      obtain ⟨hj, rfl⟩ := rngL_get hy
      simp only [↓RD, RU, aStart, wipeA, putFA, toP, toPs, scDs, valD_nil, valD_cons, putM_eq, mergeD_eq, keysOk, aHandle, endsAA, putAA, starSp, put_same, put_put, inV_nil, inV_str, cxK, atI_0, atI_1, atI_2, atI_3, ixN_30, ixN_31, ixN_32, List.map, List.replicate, List.length_cons, List.length_nil, List.nil_append, List.cons_append, List.append_nil, Nat.reduceSub, Nat.reduceAdd, List.getElem?_cons_zero, List.getElem?_cons_succ, List.set_cons_zero, List.set_cons_succ, List.cons.injEq, Option.some.injEq, V.int.injEq, V.str.injEq, V.bl.injEq, D.int.injEq, D.str.injEq, D.bl.injEq, D.ref.injEq, D.tup.injEq, D.lst.injEq, D.ty.injEq, AO.lst.injEq, AO.dct.injEq, AO.ins.injEq, Prod.mk.injEq, exists_eq_left, exists_eq_left', exists_eq_right, exists_eq_right', exists_and_left, exists_and_right, true_and, and_true, and_self, if_true, if_false, Bool.false_eq_true, Bool.true_eq_false, eq_self, reduceCtorEq, false_and, and_false, and_assoc, Int.reduceToNat, Int.reducePow, Int.reduceMul, Int.reduceAdd, Int.reduceNeg, Int.reduceSub, String.reduceEq, String.reduceNe, ne_eq, not_false_eq_true, not_true_eq_false, decide_false, decide_true, Bool.not_false, Bool.not_true, Bool.or_false, Bool.false_or, Bool.or_true, Bool.true_or, Bool.and_true, Bool.true_and, Bool.and_self, Bool.and_false, Bool.false_and, exists_eq', exists_eq, exists_const, false_or, or_false, or_self, List.all_cons, List.all_nil, List.any_cons, List.any_nil, Nat.reduceLeDiff, exists_false, List.map_nil, List.map_cons, Option.map_some, Option.isSome_some, Option.isSome_none, Option.getD_some, Option.getD_none, implies_true, List.foldl_cons, List.foldl_nil, forall_const, ofS_eq, Int.reduceLT, Int.reduceLE, Nat.reduceLT]
      refine ⟨b, n + 20 + 8 * i + 4 + j, l9, _, rfl, W.B, hB9, by omega, by simp, by simp, fun v l10 hv hB10 => ?_⟩
      have W := W.bag (l' := l10)
      have hh : put A' b (.lst l10) h = some (.lst hs) := by rw [put_ne hhb]; exact hh
      generalize put A' b (.lst l10) = A10 at W hh ⊢
      obtain ⟨t, rfl⟩ : ∃ t, v = .str t := by
        simp only [List.mem_cons, List.not_mem_nil, or_false] at hv
        rcases hv with rfl | rfl | rfl | rfl <;> exact ⟨_, rfl⟩
      simp only [↓RD, RU, aStart, wipeA, putFA, toP, toPs, scDs, valD_nil, valD_cons, putM_eq, mergeD_eq, keysOk, aHandle, endsAA, putAA, starSp, put_same, put_put, inV_nil, inV_str, cxK, atI_0, atI_1, atI_2, atI_3, ixN_30, ixN_31, ixN_32, List.map, List.replicate, List.length_cons, List.length_nil, List.nil_append, List.cons_append, List.append_nil, Nat.reduceSub, Nat.reduceAdd, List.getElem?_cons_zero, List.getElem?_cons_succ, List.set_cons_zero, List.set_cons_succ, List.cons.injEq, Option.some.injEq, V.int.injEq, V.str.injEq, V.bl.injEq, D.int.injEq, D.str.injEq, D.bl.injEq, D.ref.injEq, D.tup.injEq, D.lst.injEq, D.ty.injEq, AO.lst.injEq, AO.dct.injEq, AO.ins.injEq, Prod.mk.injEq, exists_eq_left, exists_eq_left', exists_eq_right, exists_eq_right', exists_and_left, exists_and_right, true_and, and_true, and_self, if_true, if_false, Bool.false_eq_true, Bool.true_eq_false, eq_self, reduceCtorEq, false_and, and_false, and_assoc, Int.reduceToNat, Int.reducePow, Int.reduceMul, Int.reduceAdd, Int.reduceNeg, Int.reduceSub, String.reduceEq, String.reduceNe, ne_eq, not_false_eq_true, not_true_eq_false, decide_false, decide_true, Bool.not_false, Bool.not_true, Bool.or_false, Bool.false_or, Bool.or_true, Bool.true_or, Bool.and_true, Bool.true_and, Bool.and_self, Bool.and_false, Bool.false_and, exists_eq', exists_eq, exists_const, false_or, or_false, or_self, List.all_cons, List.all_nil, List.any_cons, List.any_nil, Nat.reduceLeDiff, exists_false, List.map_nil, List.map_cons, Option.map_some, Option.isSome_some, Option.isSome_none, Option.getD_some, Option.getD_none, implies_true, List.foldl_cons, List.foldl_nil, forall_const, ofS_eq, Int.reduceLT, Int.reduceLE, Nat.reduceLT]
      refine ⟨Nat.lt_of_lt_of_le (show (ts.map D.str).length < 100 by rw [List.length_map]; omega) (by decide), hR _ _ ⟨ts ++ [t], l10, by rw [List.map_append]; rfl, by simp [hl], hB10, W, hh⟩⟩
    clear W hh hB7 hB8
    obtain ⟨ts, l9, rfl, hl, hB9, W, hh⟩ := hP
    rw [rngL_len] at hl hB9
    obtain ⟨t0, ts', rfl⟩ : ∃ t0 ts', ts = t0 :: ts' := by
      cases ts with
      | nil => exfalso; simp at hl; omega
      | cons t0 ts' => exact ⟨t0, ts', rfl⟩
    have hts : (t0 :: ts').length ≤ 2 := by omega
    obtain ⟨gG, gL, gg, gc⟩ := LI k0 hk0
    simp only [↓RD, RU, aStart, wipeA, putFA, toP, toPs, scDs, valD_nil, valD_cons, putM_eq, mergeD_eq, keysOk, aHandle, endsAA, putAA, starSp, put_same, put_put, inV_nil, inV_str, cxK, atI_0, atI_1, atI_2, atI_3, ixN_30, ixN_31, ixN_32, List.map, List.replicate, List.length_cons, List.length_nil, List.nil_append, List.cons_append, List.append_nil, Nat.reduceSub, Nat.reduceAdd, List.getElem?_cons_zero, List.getElem?_cons_succ, List.set_cons_zero, List.set_cons_succ, List.cons.injEq, Option.some.injEq, V.int.injEq, V.str.injEq, V.bl.injEq, D.int.injEq, D.str.injEq, D.bl.injEq, D.ref.injEq, D.tup.injEq, D.lst.injEq, D.ty.injEq, AO.lst.injEq, AO.dct.injEq, AO.ins.injEq, Prod.mk.injEq, exists_eq_left, exists_eq_left', exists_eq_right, exists_eq_right', exists_and_left, exists_and_right, true_and, and_true, and_self, if_true, if_false, Bool.false_eq_true, Bool.true_eq_false, eq_self, reduceCtorEq, false_and, and_false, and_assoc, Int.reduceToNat, Int.reducePow, Int.reduceMul, Int.reduceAdd, Int.reduceNeg, Int.reduceSub, String.reduceEq, String.reduceNe, ne_eq, not_false_eq_true, not_true_eq_false, decide_false, decide_true, Bool.not_false, Bool.not_true, Bool.or_false, Bool.false_or, Bool.or_true, Bool.true_or, Bool.and_true, Bool.true_and, Bool.and_self, Bool.and_false, Bool.false_and, exists_eq', exists_eq, exists_const, false_or, or_false, or_self, List.all_cons, List.all_nil, List.any_cons, List.any_nil, Nat.reduceLeDiff, exists_false, List.map_nil, List.map_cons, Option.map_some, Option.isSome_some, Option.isSome_none, Option.getD_some, Option.getD_none, implies_true, List.foldl_cons, List.foldl_nil, forall_const, ofS_eq, Int.reduceLT, Int.reduceLE, Nat.reduceLT, rf_at hk0]
    refine ⟨d k0, S k0, g k0, w', t0 :: ts', _, rfl, W.N k0 hk0, hw, gG, gg, (fun _ => by simp), by omega, fun g' hg' => ?_⟩
    have LI' := LI.step hk0 hw hts (why := .str "why") rfl hg'
    have hdh := ne_k hh (W.N k0 hk0) (by simp)
    have W := W.book (T' := stepS w' (t0 :: ts') (.str "why") (S k0)) (g' := g') hk0
    have hh : put A' (d k0) (.dct (nowD (stepS w' (t0 :: ts') (.str "why") (S k0)) g')) h = some (.lst hs) := by rw [put_ne hdh]; exact hh
    generalize put A' (d k0) _ = A10 at W hh ⊢
    simp only [↓RD, RU, aStart, wipeA, putFA, toP, toPs, scDs, valD_nil, valD_cons, putM_eq, mergeD_eq, keysOk, aHandle, endsAA, putAA, starSp, put_same, put_put, inV_nil, inV_str, cxK, atI_0, atI_1, atI_2, atI_3, ixN_30, ixN_31, ixN_32, List.map, List.replicate, List.length_cons, List.length_nil, List.nil_append, List.cons_append, List.append_nil, Nat.reduceSub, Nat.reduceAdd, List.getElem?_cons_zero, List.getElem?_cons_succ, List.set_cons_zero, List.set_cons_succ, List.cons.injEq, Option.some.injEq, V.int.injEq, V.str.injEq, V.bl.injEq, D.int.injEq, D.str.injEq, D.bl.injEq, D.ref.injEq, D.tup.injEq, D.lst.injEq, D.ty.injEq, AO.lst.injEq, AO.dct.injEq, AO.ins.injEq, Prod.mk.injEq, exists_eq_left, exists_eq_left', exists_eq_right, exists_eq_right', exists_and_left, exists_and_right, true_and, and_true, and_self, if_true, if_false, Bool.false_eq_true, Bool.true_eq_false, eq_self, reduceCtorEq, false_and, and_false, and_assoc, Int.reduceToNat, Int.reducePow, Int.reduceMul, Int.reduceAdd, Int.reduceNeg, Int.reduceSub, String.reduceEq, String.reduceNe, ne_eq, not_false_eq_true, not_true_eq_false, decide_false, decide_true, Bool.not_false, Bool.not_true, Bool.or_false, Bool.false_or, Bool.or_true, Bool.true_or, Bool.and_true, Bool.true_and, Bool.and_self, Bool.and_false, Bool.false_and, exists_eq', exists_eq, exists_const, false_or, or_false, or_self, List.all_cons, List.all_nil, List.any_cons, List.any_nil, Nat.reduceLeDiff, exists_false, List.map_nil, List.map_cons, Option.map_some, Option.isSome_some, Option.isSome_none, Option.getD_some, Option.getD_none, implies_true, List.foldl_cons, List.foldl_nil, forall_const, ofS_eq, Int.reduceLT, Int.reduceLE, Nat.reduceLT, rf_at hk0]
    refine ⟨a k0, q k0, S k0, w', t0 :: ts', _, rfl, W.L k0 hk0, hw, gG, (fun _ => by omega), (fun _ => by simp), by omega, fun q' hq' => ?_⟩
    have hq'h : q' ≠ h := by
      rcases hq' with rfl | z
      · exact hhq k0 hk0
      · exact (ne_n hh z).symm
    have hhq' : ∀ j, j < M + 2 → up q k0 q' j ≠ h := fun j hj => by
      by_cases e : j = k0
      · subst e; rw [up_same]; exact hq'h
      · rw [up_ne e]; exact hhq j hj
    have hqk : (S k0).q.length ≤ 1000 := by omega
    apply hcut (P := fun A12 => ∃ hs', A12 h = some (.lst hs') ∧ hs'.length ≤ 2 * i + 1 ∧ HeldL hs' ∧ Ws K A A12 b l9 (M + 2) (M + 2) a (up q k0 q') d (up S k0 (stepS w' (t0 :: ts') (.str "why") (S k0))) (up S k0 (stepS w' (t0 :: ts') (.str "why") (S k0))) (up g k0 g'))
    · intro hR
      have W' := W.line (S' := stepS w' (t0 :: ts') (.str "why") (S k0)) hk0 hq'
      have hh : setL K A10 (a k0) q' (stepS w' (t0 :: ts') (.str "why") (S k0)) h = some (.lst hs) := by rw [setL_ne (ne_k hh (W.L k0 hk0).ob (by simp)) hq'h.symm]; exact hh
      generalize setL K A10 (a k0) q' _ = A11 at W' hh ⊢
      simp only [↓RD, RU, aStart, wipeA, putFA, toP, toPs, scDs, valD_nil, valD_cons, putM_eq, mergeD_eq, keysOk, aHandle, endsAA, putAA, starSp, put_same, put_put, inV_nil, inV_str, cxK, atI_0, atI_1, atI_2, atI_3, ixN_30, ixN_31, ixN_32, List.map, List.replicate, List.length_cons, List.length_nil, List.nil_append, List.cons_append, List.append_nil, Nat.reduceSub, Nat.reduceAdd, List.getElem?_cons_zero, List.getElem?_cons_succ, List.set_cons_zero, List.set_cons_succ, List.cons.injEq, Option.some.injEq, V.int.injEq, V.str.injEq, V.bl.injEq, D.int.injEq, D.str.injEq, D.bl.injEq, D.ref.injEq, D.tup.injEq, D.lst.injEq, D.ty.injEq, AO.lst.injEq, AO.dct.injEq, AO.ins.injEq, Prod.mk.injEq, exists_eq_left, exists_eq_left', exists_eq_right, exists_eq_right', exists_and_left, exists_and_right, true_and, and_true, and_self, if_true, if_false, Bool.false_eq_true, Bool.true_eq_false, eq_self, reduceCtorEq, false_and, and_false, and_assoc, Int.reduceToNat, Int.reducePow, Int.reduceMul, Int.reduceAdd, Int.reduceNeg, Int.reduceSub, String.reduceEq, String.reduceNe, ne_eq, not_false_eq_true, not_true_eq_false, decide_false, decide_true, Bool.not_false, Bool.not_true, Bool.or_false, Bool.false_or, Bool.or_true, Bool.true_or, Bool.and_true, Bool.true_and, Bool.and_self, Bool.and_false, Bool.false_and, exists_eq', exists_eq, exists_const, false_or, or_false, or_self, List.all_cons, List.all_nil, List.any_cons, List.any_nil, Nat.reduceLeDiff, exists_false, List.map_nil, List.map_cons, Option.map_some, Option.isSome_some, Option.isSome_none, Option.getD_some, Option.getD_none, implies_true, List.foldl_cons, List.foldl_nil, forall_const, ofS_eq, Int.reduceLT, Int.reduceLE, Nat.reduceLT]
      refine e_same (K := K) (dpt_stepR (by omega)) ?_
      simp only [↓RD, RU, aStart, wipeA, putFA, toP, toPs, scDs, valD_nil, valD_cons, putM_eq, mergeD_eq, keysOk, aHandle, endsAA, putAA, starSp, put_same, put_put, inV_nil, inV_str, cxK, atI_0, atI_1, atI_2, atI_3, ixN_30, ixN_31, ixN_32, List.map, List.replicate, List.length_cons, List.length_nil, List.nil_append, List.cons_append, List.append_nil, Nat.reduceSub, Nat.reduceAdd, List.getElem?_cons_zero, List.getElem?_cons_succ, List.set_cons_zero, List.set_cons_succ, List.cons.injEq, Option.some.injEq, V.int.injEq, V.str.injEq, V.bl.injEq, D.int.injEq, D.str.injEq, D.bl.injEq, D.ref.injEq, D.tup.injEq, D.lst.injEq, D.ty.injEq, AO.lst.injEq, AO.dct.injEq, AO.ins.injEq, Prod.mk.injEq, exists_eq_left, exists_eq_left', exists_eq_right, exists_eq_right', exists_and_left, exists_and_right, true_and, and_true, and_self, if_true, if_false, Bool.false_eq_true, Bool.true_eq_false, eq_self, reduceCtorEq, false_and, and_false, and_assoc, Int.reduceToNat, Int.reducePow, Int.reduceMul, Int.reduceAdd, Int.reduceNeg, Int.reduceSub, String.reduceEq, String.reduceNe, ne_eq, not_false_eq_true, not_true_eq_false, decide_false, decide_true, Bool.not_false, Bool.not_true, Bool.or_false, Bool.false_or, Bool.or_true, Bool.true_or, Bool.and_true, Bool.true_and, Bool.and_self, Bool.and_false, Bool.false_and, exists_eq', exists_eq, exists_const, false_or, or_false, or_self, List.all_cons, List.all_nil, List.any_cons, List.any_nil, Nat.reduceLeDiff, exists_false, List.map_nil, List.map_cons, Option.map_some, Option.isSome_some, Option.isSome_none, Option.getD_some, Option.getD_none, implies_true, List.foldl_cons, List.foldl_nil, forall_const, ofS_eq, Int.reduceLT, Int.reduceLE, Nat.reduceLT, rf_at hk0]
      refine ite_dec (fun z => ?_) (fun z => ?_)
      rotate_left
      · exact hR A11 ⟨hs, hh, by omega, hH, W'⟩
      · have e : stepR w' (S k0) = .tup [.str "told", .lst ((S k0).q.map D.str)] := by rw [z]; rfl
        have W12 := W'.other (c := h) (o := .lst (hs ++ [.tup [.lst ((S k0).q.map D.str), .lst ((S k0).q.map D.str)]])) hh0 hhb.symm (fun j hj => ⟨(ne_k hh (W'.L j hj).ob (by simp)).symm, hhq' j hj⟩) (fun j hj => (ne_k hh (W'.N j hj) (by simp)).symm)
        have := hR _ ⟨_, put_same, by simp; omega, hH.add hqk, W12⟩
        rw [e] at this ⊢
        simp only [↓RD, RU, aStart, wipeA, putFA, toP, toPs, scDs, valD_nil, valD_cons, putM_eq, mergeD_eq, keysOk, aHandle, endsAA, putAA, starSp, put_same, put_put, inV_nil, inV_str, cxK, atI_0, atI_1, atI_2, atI_3, ixN_30, ixN_31, ixN_32, List.map, List.replicate, List.length_cons, List.length_nil, List.nil_append, List.cons_append, List.append_nil, Nat.reduceSub, Nat.reduceAdd, List.getElem?_cons_zero, List.getElem?_cons_succ, List.set_cons_zero, List.set_cons_succ, List.cons.injEq, Option.some.injEq, V.int.injEq, V.str.injEq, V.bl.injEq, D.int.injEq, D.str.injEq, D.bl.injEq, D.ref.injEq, D.tup.injEq, D.lst.injEq, D.ty.injEq, AO.lst.injEq, AO.dct.injEq, AO.ins.injEq, Prod.mk.injEq, exists_eq_left, exists_eq_left', exists_eq_right, exists_eq_right', exists_and_left, exists_and_right, true_and, and_true, and_self, if_true, if_false, Bool.false_eq_true, Bool.true_eq_false, eq_self, reduceCtorEq, false_and, and_false, and_assoc, Int.reduceToNat, Int.reducePow, Int.reduceMul, Int.reduceAdd, Int.reduceNeg, Int.reduceSub, String.reduceEq, String.reduceNe, ne_eq, not_false_eq_true, not_true_eq_false, decide_false, decide_true, Bool.not_false, Bool.not_true, Bool.or_false, Bool.false_or, Bool.or_true, Bool.true_or, Bool.and_true, Bool.true_and, Bool.and_self, Bool.and_false, Bool.false_and, exists_eq', exists_eq, exists_const, false_or, or_false, or_self, List.all_cons, List.all_nil, List.any_cons, List.any_nil, Nat.reduceLeDiff, exists_false, List.map_nil, List.map_cons, Option.map_some, Option.isSome_some, Option.isSome_none, Option.getD_some, Option.getD_none, implies_true, List.foldl_cons, List.foldl_nil, forall_const, ofS_eq, Int.reduceLT, Int.reduceLE, Nat.reduceLT, hh, rf_at hk0]
        refine ⟨?_, this⟩
        exact Nat.lt_of_le_of_lt hsl (Nat.lt_of_lt_of_le (show 2 * i < 1000 by omega) (by decide))
    clear W hh hH hsl
    rintro A12 ⟨hs', hh, hsl, hH, W⟩
    have SL : (up S k0 (stepS w' (t0 :: ts') (.str "why") (S k0)) k0).q.length ≤ 300 := by rw [up_same]; exact Nat.le_trans len_step (by omega)
    refine ⟨a k0, up q k0 q' k0, b, h, up S k0 (stepS w' (t0 :: ts') (.str "why") (S k0)) k0, _, l9, hs', rfl, W.L k0 hk0, W.B, hB9, by omega, hh, hhb, by omega, by omega, fun l10 ys hB10 hys => ?_⟩
    generalize up S k0 (stepS w' (t0 :: ts') (.str "why") (S k0)) = S2 at W LI' SL hys ⊢
    generalize up g k0 g' = g2 at W LI' ⊢
    generalize up q k0 q' = q2 at W hhq' ⊢
    have W := W.bag (l' := l10)
    have W := W.other (c := h) (o := .lst (hs' ++ [.tup [.lst (ys.map D.str), .lst (ys.map D.str)]])) hh0 hhb.symm (fun j hj => ⟨?_, hhq' j hj⟩) (fun j hj => ?_)
    rotate_left
    · exact (ne_k (by rw [put_ne hhb]; exact hh) (W.L j hj).ob (by simp)).symm
    · exact (ne_k (by rw [put_ne hhb]; exact hh) (W.N j hj) (by simp)).symm
    have hh : put (put A12 b (.lst l10)) h (.lst (hs' ++ [.tup [.lst (ys.map D.str), .lst (ys.map D.str)]])) h = some (.lst (hs' ++ [.tup [.lst (ys.map D.str), .lst (ys.map D.str)]])) := put_same
    have hH := hH.add (ys := ys) (by omega)
    generalize put (put A12 b (.lst l10)) h _ = A13 at W hh ⊢
    simp only [↓RD, RU, aStart, wipeA, putFA, toP, toPs, scDs, valD_nil, valD_cons, putM_eq, mergeD_eq, keysOk, aHandle, endsAA, putAA, starSp, put_same, put_put, inV_nil, inV_str, cxK, atI_0, atI_1, atI_2, atI_3, ixN_30, ixN_31, ixN_32, List.map, List.replicate, List.length_cons, List.length_nil, List.nil_append, List.cons_append, List.append_nil, Nat.reduceSub, Nat.reduceAdd, List.getElem?_cons_zero, List.getElem?_cons_succ, List.set_cons_zero, List.set_cons_succ, List.cons.injEq, Option.some.injEq, V.int.injEq, V.str.injEq, V.bl.injEq, D.int.injEq, D.str.injEq, D.bl.injEq, D.ref.injEq, D.tup.injEq, D.lst.injEq, D.ty.injEq, AO.lst.injEq, AO.dct.injEq, AO.ins.injEq, Prod.mk.injEq, exists_eq_left, exists_eq_left', exists_eq_right, exists_eq_right', exists_and_left, exists_and_right, true_and, and_true, and_self, if_true, if_false, Bool.false_eq_true, Bool.true_eq_false, eq_self, reduceCtorEq, false_and, and_false, and_assoc, Int.reduceToNat, Int.reducePow, Int.reduceMul, Int.reduceAdd, Int.reduceNeg, Int.reduceSub, String.reduceEq, String.reduceNe, ne_eq, not_false_eq_true, not_true_eq_false, decide_false, decide_true, Bool.not_false, Bool.not_true, Bool.or_false, Bool.false_or, Bool.or_true, Bool.true_or, Bool.and_true, Bool.true_and, Bool.and_self, Bool.and_false, Bool.false_and, exists_eq', exists_eq, exists_const, false_or, or_false, or_self, List.all_cons, List.all_nil, List.any_cons, List.any_nil, Nat.reduceLeDiff, exists_false, List.map_nil, List.map_cons, Option.map_some, Option.isSome_some, Option.isSome_none, Option.getD_some, Option.getD_none, implies_true, List.foldl_cons, List.foldl_nil, forall_const, ofS_eq, Int.reduceLT, Int.reduceLE, Nat.reduceLT]
    refine loop_for (fun j δ A' => A' = A13 ∧ ∃ v13 v14, δ = [some (D.ref b), some (D.int (2 + (M : Int))), some (D.lst (List.map D.int ns)), some (D.lst (rf a (M + 2))), some (D.lst (rf d (M + 2))), some (D.lst [D.str "ask", D.str "ask", D.str "begin", D.str "finish", D.str "read", D.str "head", D.str "body", D.str "drain", D.str "read", D.str "ask"]), some (D.ref h), some (D.int (0 + (i : Int))), some (D.int (k0 : Int)), some (D.str w'), some (D.lst (D.str t0 :: List.map D.str ts')), some (stepR w' (S k0)), some (stepR w' (S k0)), v13, v14, v15, v16]) ⟨rfl, _, _, rfl⟩ (fun _ _ _ _ _ => ⟨rfl, rfl⟩) (fun j y δ A' R' hy hP hR2 => ?_) (fun δ A' hP => ?_)
    · obtain ⟨rfl, v13, v14, rfl⟩ := hP
      obtain ⟨hj, rfl⟩ := zip_rf hy
      obtain ⟨jG, jL, jg, jc⟩ := LI' j hj
      have at0 : ∀ xs : List D, atI (D.str t0 :: xs) 0 = some (D.str t0) := fun xs => by unfold atI ixN; rw [if_pos (by omega), if_pos (by simp)]; rfl
      simp only [↓RD, RU, aStart, wipeA, putFA, toP, toPs, scDs, valD_nil, valD_cons, putM_eq, mergeD_eq, keysOk, aHandle, endsAA, putAA, starSp, put_same, put_put, inV_nil, inV_str, cxK, atI_0, atI_1, atI_2, atI_3, ixN_30, ixN_31, ixN_32, List.map, List.replicate, List.length_cons, List.length_nil, List.nil_append, List.cons_append, List.append_nil, Nat.reduceSub, Nat.reduceAdd, List.getElem?_cons_zero, List.getElem?_cons_succ, List.set_cons_zero, List.set_cons_succ, List.cons.injEq, Option.some.injEq, V.int.injEq, V.str.injEq, V.bl.injEq, D.int.injEq, D.str.injEq, D.bl.injEq, D.ref.injEq, D.tup.injEq, D.lst.injEq, D.ty.injEq, AO.lst.injEq, AO.dct.injEq, AO.ins.injEq, Prod.mk.injEq, exists_eq_left, exists_eq_left', exists_eq_right, exists_eq_right', exists_and_left, exists_and_right, true_and, and_true, and_self, if_true, if_false, Bool.false_eq_true, Bool.true_eq_false, eq_self, reduceCtorEq, false_and, and_false, and_assoc, Int.reduceToNat, Int.reducePow, Int.reduceMul, Int.reduceAdd, Int.reduceNeg, Int.reduceSub, String.reduceEq, String.reduceNe, ne_eq, not_false_eq_true, not_true_eq_false, decide_false, decide_true, Bool.not_false, Bool.not_true, Bool.or_false, Bool.false_or, Bool.or_true, Bool.true_or, Bool.and_true, Bool.true_and, Bool.and_self, Bool.and_false, Bool.false_and, exists_eq', exists_eq, exists_const, false_or, or_false, or_self, List.all_cons, List.all_nil, List.any_cons, List.any_nil, Nat.reduceLeDiff, exists_false, List.map_nil, List.map_cons, Option.map_some, Option.isSome_some, Option.isSome_none, Option.getD_some, Option.getD_none, implies_true, List.foldl_cons, List.foldl_nil, forall_const, ofS_eq, Int.reduceLT, Int.reduceLE, Nat.reduceLT, at0]
      refine ⟨a j, q2 j, d j, S2 j, g2 j, t0, rfl, W.L j hj, W.N j hj, jc, by omega, ?_⟩
      simp only [↓RD, RU, aStart, wipeA, putFA, toP, toPs, scDs, valD_nil, valD_cons, putM_eq, mergeD_eq, keysOk, aHandle, endsAA, putAA, starSp, put_same, put_put, inV_nil, inV_str, cxK, atI_0, atI_1, atI_2, atI_3, ixN_30, ixN_31, ixN_32, List.map, List.replicate, List.length_cons, List.length_nil, List.nil_append, List.cons_append, List.append_nil, Nat.reduceSub, Nat.reduceAdd, List.getElem?_cons_zero, List.getElem?_cons_succ, List.set_cons_zero, List.set_cons_succ, List.cons.injEq, Option.some.injEq, V.int.injEq, V.str.injEq, V.bl.injEq, D.int.injEq, D.str.injEq, D.bl.injEq, D.ref.injEq, D.tup.injEq, D.lst.injEq, D.ty.injEq, AO.lst.injEq, AO.dct.injEq, AO.ins.injEq, Prod.mk.injEq, exists_eq_left, exists_eq_left', exists_eq_right, exists_eq_right', exists_and_left, exists_and_right, true_and, and_true, and_self, if_true, if_false, Bool.false_eq_true, Bool.true_eq_false, eq_self, reduceCtorEq, false_and, and_false, and_assoc, Int.reduceToNat, Int.reducePow, Int.reduceMul, Int.reduceAdd, Int.reduceNeg, Int.reduceSub, String.reduceEq, String.reduceNe, ne_eq, not_false_eq_true, not_true_eq_false, decide_false, decide_true, Bool.not_false, Bool.not_true, Bool.or_false, Bool.false_or, Bool.or_true, Bool.true_or, Bool.and_true, Bool.true_and, Bool.and_self, Bool.and_false, Bool.false_and, exists_eq', exists_eq, exists_const, false_or, or_false, or_self, List.all_cons, List.all_nil, List.any_cons, List.any_nil, Nat.reduceLeDiff, exists_false, List.map_nil, List.map_cons, Option.map_some, Option.isSome_some, Option.isSome_none, Option.getD_some, Option.getD_none, implies_true, List.foldl_cons, List.foldl_nil, forall_const, ofS_eq, Int.reduceLT, Int.reduceLE, Nat.reduceLT]
      exact hR2 _ _ ⟨rfl, _, _, rfl⟩
    · obtain ⟨rfl, v13, v14, rfl⟩ := hP
      exact hR _ _ ⟨⟨_, _, _, _, _, _, _, _, _, _, rfl⟩, l10, _, q2, S2, g2, W, hh, hhq', bag_up hB10 (by omega), LI', by simp; omega, hH⟩
  · obtain ⟨⟨v7, v8, v9, v10, v11, v12, v13, v14, v15, v16, rfl⟩, l4, hs, q, S, g, W, hh, hhq, hB4, LI, hsl, hH⟩ := hP
    rw [rngL_len] at hsl hB4
    simp only [↓RD, RU, aStart, wipeA, putFA, toP, toPs, scDs, valD_nil, valD_cons, putM_eq, mergeD_eq, keysOk, aHandle, endsAA, putAA, starSp, put_same, put_put, inV_nil, inV_str, cxK, atI_0, atI_1, atI_2, atI_3, ixN_30, ixN_31, ixN_32, List.map, List.replicate, List.length_cons, List.length_nil, List.nil_append, List.cons_append, List.append_nil, Nat.reduceSub, Nat.reduceAdd, List.getElem?_cons_zero, List.getElem?_cons_succ, List.set_cons_zero, List.set_cons_succ, List.cons.injEq, Option.some.injEq, V.int.injEq, V.str.injEq, V.bl.injEq, D.int.injEq, D.str.injEq, D.bl.injEq, D.ref.injEq, D.tup.injEq, D.lst.injEq, D.ty.injEq, AO.lst.injEq, AO.dct.injEq, AO.ins.injEq, Prod.mk.injEq, exists_eq_left, exists_eq_left', exists_eq_right, exists_eq_right', exists_and_left, exists_and_right, true_and, and_true, and_self, if_true, if_false, Bool.false_eq_true, Bool.true_eq_false, eq_self, reduceCtorEq, false_and, and_false, and_assoc, Int.reduceToNat, Int.reducePow, Int.reduceMul, Int.reduceAdd, Int.reduceNeg, Int.reduceSub, String.reduceEq, String.reduceNe, ne_eq, not_false_eq_true, not_true_eq_false, decide_false, decide_true, Bool.not_false, Bool.not_true, Bool.or_false, Bool.false_or, Bool.or_true, Bool.true_or, Bool.and_true, Bool.true_and, Bool.and_self, Bool.and_false, Bool.false_and, exists_eq', exists_eq, exists_const, false_or, or_false, or_self, List.all_cons, List.all_nil, List.any_cons, List.any_nil, Nat.reduceLeDiff, exists_false, List.map_nil, List.map_cons, Option.map_some, Option.isSome_some, Option.isSome_none, Option.getD_some, Option.getD_none, implies_true, List.foldl_cons, List.foldl_nil, forall_const, ofS_eq, Int.reduceLT, Int.reduceLE, Nat.reduceLT, hh]
    refine Av.comp_map (fun _ => .bl true) (by show asL A5 (D.ref h) = some hs; simp [asL, hh]) hs [] ?_ (fun x hx R hR => ?_) ?_
    · simp only [List.length_nil]; exact Nat.le_trans (show 0 + hs.length ≤ 1000 by omega) (by decide)
    · obtain ⟨ys, rfl, hy⟩ := hH x hx
      simp only [↓RD, RU, aStart, wipeA, putFA, toP, toPs, scDs, valD_nil, valD_cons, putM_eq, mergeD_eq, keysOk, aHandle, endsAA, putAA, starSp, put_same, put_put, inV_nil, inV_str, cxK, atI_0, atI_1, atI_2, atI_3, ixN_30, ixN_31, ixN_32, List.map, List.replicate, List.length_cons, List.length_nil, List.nil_append, List.cons_append, List.append_nil, Nat.reduceSub, Nat.reduceAdd, List.getElem?_cons_zero, List.getElem?_cons_succ, List.set_cons_zero, List.set_cons_succ, List.cons.injEq, Option.some.injEq, V.int.injEq, V.str.injEq, V.bl.injEq, D.int.injEq, D.str.injEq, D.bl.injEq, D.ref.injEq, D.tup.injEq, D.lst.injEq, D.ty.injEq, AO.lst.injEq, AO.dct.injEq, AO.ins.injEq, Prod.mk.injEq, exists_eq_left, exists_eq_left', exists_eq_right, exists_eq_right', exists_and_left, exists_and_right, true_and, and_true, and_self, if_true, if_false, Bool.false_eq_true, Bool.true_eq_false, eq_self, reduceCtorEq, false_and, and_false, and_assoc, Int.reduceToNat, Int.reducePow, Int.reduceMul, Int.reduceAdd, Int.reduceNeg, Int.reduceSub, String.reduceEq, String.reduceNe, ne_eq, not_false_eq_true, not_true_eq_false, decide_false, decide_true, Bool.not_false, Bool.not_true, Bool.or_false, Bool.false_or, Bool.or_true, Bool.true_or, Bool.and_true, Bool.true_and, Bool.and_self, Bool.and_false, Bool.false_and, exists_eq', exists_eq, exists_const, false_or, or_false, or_self, List.all_cons, List.all_nil, List.any_cons, List.any_nil, Nat.reduceLeDiff, exists_false, List.map_nil, List.map_cons, Option.map_some, Option.isSome_some, Option.isSome_none, Option.getD_some, Option.getD_none, implies_true, List.foldl_cons, List.foldl_nil, forall_const, ofS_eq, Int.reduceLT, Int.reduceLE, Nat.reduceLT]
      refine e_same (K := K) (dpt_strs 3 (by omega)) ?_
      exact hR
    rw [List.nil_append]
    simp only [↓RD, RU, aStart, wipeA, putFA, toP, toPs, scDs, valD_nil, valD_cons, putM_eq, mergeD_eq, keysOk, aHandle, endsAA, putAA, starSp, put_same, put_put, inV_nil, inV_str, cxK, atI_0, atI_1, atI_2, atI_3, ixN_30, ixN_31, ixN_32, List.map, List.replicate, List.length_cons, List.length_nil, List.nil_append, List.cons_append, List.append_nil, Nat.reduceSub, Nat.reduceAdd, List.getElem?_cons_zero, List.getElem?_cons_succ, List.set_cons_zero, List.set_cons_succ, List.cons.injEq, Option.some.injEq, V.int.injEq, V.str.injEq, V.bl.injEq, D.int.injEq, D.str.injEq, D.bl.injEq, D.ref.injEq, D.tup.injEq, D.lst.injEq, D.ty.injEq, AO.lst.injEq, AO.dct.injEq, AO.ins.injEq, Prod.mk.injEq, exists_eq_left, exists_eq_left', exists_eq_right, exists_eq_right', exists_and_left, exists_and_right, true_and, and_true, and_self, if_true, if_false, Bool.false_eq_true, Bool.true_eq_false, eq_self, reduceCtorEq, false_and, and_false, and_assoc, Int.reduceToNat, Int.reducePow, Int.reduceMul, Int.reduceAdd, Int.reduceNeg, Int.reduceSub, String.reduceEq, String.reduceNe, ne_eq, not_false_eq_true, not_true_eq_false, decide_false, decide_true, Bool.not_false, Bool.not_true, Bool.or_false, Bool.false_or, Bool.or_true, Bool.true_or, Bool.and_true, Bool.true_and, Bool.and_self, Bool.and_false, Bool.false_and, exists_eq', exists_eq, exists_const, false_or, or_false, or_self, List.all_cons, List.all_nil, List.any_cons, List.any_nil, Nat.reduceLeDiff, exists_false, List.map_nil, List.map_cons, Option.map_some, Option.isSome_some, Option.isSome_none, Option.getD_some, Option.getD_none, implies_true, List.foldl_cons, List.foldl_nil, forall_const, ofS_eq, Int.reduceLT, Int.reduceLE, Nat.reduceLT, bls_map]
    rw [show (List.map (fun _ => true) hs).all id = true by simp]
    exact fin_sub W.back (k l4 (bag_up hB4 (by omega)))
end V35

set_option Elab.async false
set_option linter.all false
set_option maxRecDepth 100000
set_option maxHeartbeats 0
namespace V35
open PySem PySem.Spec PyProof.Rows L2 My Av
def spa_law (_ : PySem.W.Frag) : ASp := fun ds A Q _ => ∃ ns : List Int, ds = [.rol (ns.map D.int)] ∧ ns.length ≤ 63 ∧ ∀ A', Q (.bl true) A'
theorem B_law {w : World} {K : PySem.W.Frag} {mg : Str → Option Value} {base : Heap} (T : Tx K mg) : Av.BodyR Pg w K mg base D_law.qual D_law.body D_law.scope (He.ga K "law") ["_law_script", "_law_place"] 18 (spa_law K) := by
  intro cdv A0 outer s H0 E0 ds A Q E hr h
  obtain ⟨ns, rfl, hl, k⟩ := h
  refine ⟨_, (ass_cons (as_for (p := (.nm 1)) PassesOwn.never rfl (ai_range1 rfl T.n_range (aa_cons (ae_callB (ca_max rfl) (by rfl) T.n_max (by decide +kernel) (aa_cons ae_int (aa_cons (ae_callB (ca_min rfl) (by rfl) T.n_min (by decide +kernel) (aa_cons ae_int (aa_cons (ae_callB ca_len (by rfl) T.n_len (by decide +kernel) (aa_cons (ae_var (pv 0)) aa_nil)) aa_nil))) aa_nil))) aa_nil)) (pg_name (i := 1) sc_law.nd rfl (by first | exact Or.inl rfl | exact Or.inr rfl)) (ass_one (as_if (at_not (at_truth (ae_callR (R_l_holds T) (hr.mono (by decide)) rfl T.g__law_holds T.k__law_holds (aa_cons (ae_callR (R_l_source T) (hr.mono (by decide)) rfl T.g__law_source T.k__law_source (aa_cons (ae_var (pv 0)) (aa_cons (ae_var (pv 1)) aa_nil))) aa_nil)))) (ass_one (as_ret ae_bl)) ass_nil)))
      (ass_one (as_ret ae_bl))), ?_⟩
  simp only [↓RD, RU, aStart, wipeA, putFA, toP, toPs, scDs, valD_nil, valD_cons, putM_eq, mergeD_eq, keysOk, aHandle, endsAA, putAA, starSp, put_same, put_put, inV_nil, inV_str, cxK, atI_0, atI_1, atI_2, atI_3, ixN_30, ixN_31, ixN_32, List.map, List.replicate, List.length_cons, List.length_nil, List.nil_append, List.cons_append, List.append_nil, Nat.reduceSub, Nat.reduceAdd, List.getElem?_cons_zero, List.getElem?_cons_succ, List.set_cons_zero, List.set_cons_succ, List.cons.injEq, Option.some.injEq, V.int.injEq, V.str.injEq, V.bl.injEq, D.int.injEq, D.str.injEq, D.bl.injEq, D.ref.injEq, D.tup.injEq, D.lst.injEq, D.ty.injEq, AO.lst.injEq, AO.dct.injEq, AO.ins.injEq, Prod.mk.injEq, exists_eq_left, exists_eq_left', exists_eq_right, exists_eq_right', exists_and_left, exists_and_right, true_and, and_true, and_self, if_true, if_false, Bool.false_eq_true, Bool.true_eq_false, eq_self, reduceCtorEq, false_and, and_false, and_assoc, Int.reduceToNat, Int.reducePow, Int.reduceMul, Int.reduceAdd, Int.reduceNeg, Int.reduceSub, String.reduceEq, String.reduceNe, ne_eq, not_false_eq_true, not_true_eq_false, decide_false, decide_true, Bool.not_false, Bool.not_true, Bool.or_false, Bool.false_or, Bool.or_true, Bool.true_or, Bool.and_true, Bool.true_and, Bool.and_self, Bool.and_false, Bool.false_and, exists_eq', exists_eq, exists_const, false_or, or_false, or_self, List.all_cons, List.all_nil, List.any_cons, List.any_nil, Nat.reduceLeDiff, exists_false, List.map_nil, List.map_cons, Option.map_some, Option.isSome_some, Option.isSome_none, Option.getD_some, Option.getD_none, implies_true, List.foldl_cons, List.foldl_nil, forall_const, ofS_eq, Int.reduceLT, Int.reduceLE, Nat.reduceLT]
  have hN : ∃ N : Nat, N ≤ 4 ∧ (if (if ((List.map D.int ns).length : Int) < 4 then ((List.map D.int ns).length : Int) else 4) > 1 then if ((List.map D.int ns).length : Int) < 4 then ((List.map D.int ns).length : Int) else 4 else 1) = (N : Int) := by
    refine ⟨max 1 (min 4 ns.length), by omega, ?_⟩
    rw [List.length_map]
    split <;> split <;> omega
  obtain ⟨N, hN6, eN⟩ := hN
  rw [eN]
  refine ⟨by omega, by omega, ?_⟩
  refine loop_for (fun i δ A' => ∃ v1, δ = [some (.rol (ns.map D.int)), v1]) ⟨_, rfl⟩ (fun _ _ _ _ _ => trivial) (fun i y δ A' R hy hP hR => ?_) (fun δ A' hP => ?_)
  · obtain ⟨v1, rfl⟩ := hP
    obtain ⟨hi, rfl⟩ := rngL_get hy
    rw [show (0 : Int) + (i : Int) = (i : Int) by omega]
    simp only [↓RD, RU, aStart, wipeA, putFA, toP, toPs, scDs, valD_nil, valD_cons, putM_eq, mergeD_eq, keysOk, aHandle, endsAA, putAA, starSp, put_same, put_put, inV_nil, inV_str, cxK, atI_0, atI_1, atI_2, atI_3, ixN_30, ixN_31, ixN_32, List.map, List.replicate, List.length_cons, List.length_nil, List.nil_append, List.cons_append, List.append_nil, Nat.reduceSub, Nat.reduceAdd, List.getElem?_cons_zero, List.getElem?_cons_succ, List.set_cons_zero, List.set_cons_succ, List.cons.injEq, Option.some.injEq, V.int.injEq, V.str.injEq, V.bl.injEq, D.int.injEq, D.str.injEq, D.bl.injEq, D.ref.injEq, D.tup.injEq, D.lst.injEq, D.ty.injEq, AO.lst.injEq, AO.dct.injEq, AO.ins.injEq, Prod.mk.injEq, exists_eq_left, exists_eq_left', exists_eq_right, exists_eq_right', exists_and_left, exists_and_right, true_and, and_true, and_self, if_true, if_false, Bool.false_eq_true, Bool.true_eq_false, eq_self, reduceCtorEq, false_and, and_false, and_assoc, Int.reduceToNat, Int.reducePow, Int.reduceMul, Int.reduceAdd, Int.reduceNeg, Int.reduceSub, String.reduceEq, String.reduceNe, ne_eq, not_false_eq_true, not_true_eq_false, decide_false, decide_true, Bool.not_false, Bool.not_true, Bool.or_false, Bool.false_or, Bool.or_true, Bool.true_or, Bool.and_true, Bool.true_and, Bool.and_self, Bool.and_false, Bool.false_and, exists_eq', exists_eq, exists_const, false_or, or_false, or_self, List.all_cons, List.all_nil, List.any_cons, List.any_nil, Nat.reduceLeDiff, exists_false, List.map_nil, List.map_cons, Option.map_some, Option.isSome_some, Option.isSome_none, Option.getD_some, Option.getD_none, implies_true, List.foldl_cons, List.foldl_nil, forall_const, ofS_eq, Int.reduceLT, Int.reduceLE, Nat.reduceLT]
    refine ⟨ns, i, rfl, by omega, hl, fun l p hB hp => ?_⟩
    simp only [↓RD, RU, aStart, wipeA, putFA, toP, toPs, scDs, valD_nil, valD_cons, putM_eq, mergeD_eq, keysOk, aHandle, endsAA, putAA, starSp, put_same, put_put, inV_nil, inV_str, cxK, atI_0, atI_1, atI_2, atI_3, ixN_30, ixN_31, ixN_32, List.map, List.replicate, List.length_cons, List.length_nil, List.nil_append, List.cons_append, List.append_nil, Nat.reduceSub, Nat.reduceAdd, List.getElem?_cons_zero, List.getElem?_cons_succ, List.set_cons_zero, List.set_cons_succ, List.cons.injEq, Option.some.injEq, V.int.injEq, V.str.injEq, V.bl.injEq, D.int.injEq, D.str.injEq, D.bl.injEq, D.ref.injEq, D.tup.injEq, D.lst.injEq, D.ty.injEq, AO.lst.injEq, AO.dct.injEq, AO.ins.injEq, Prod.mk.injEq, exists_eq_left, exists_eq_left', exists_eq_right, exists_eq_right', exists_and_left, exists_and_right, true_and, and_true, and_self, if_true, if_false, Bool.false_eq_true, Bool.true_eq_false, eq_self, reduceCtorEq, false_and, and_false, and_assoc, Int.reduceToNat, Int.reducePow, Int.reduceMul, Int.reduceAdd, Int.reduceNeg, Int.reduceSub, String.reduceEq, String.reduceNe, ne_eq, not_false_eq_true, not_true_eq_false, decide_false, decide_true, Bool.not_false, Bool.not_true, Bool.or_false, Bool.false_or, Bool.or_true, Bool.true_or, Bool.and_true, Bool.true_and, Bool.and_self, Bool.and_false, Bool.false_and, exists_eq', exists_eq, exists_const, false_or, or_false, or_self, List.all_cons, List.all_nil, List.any_cons, List.any_nil, Nat.reduceLeDiff, exists_false, List.map_nil, List.map_cons, Option.map_some, Option.isSome_some, Option.isSome_none, Option.getD_some, Option.getD_none, implies_true, List.foldl_cons, List.foldl_nil, forall_const, ofS_eq, Int.reduceLT, Int.reduceLE, Nat.reduceLT]
    refine ⟨p, 0, l, rfl, put_same, hB, by omega, fun l'' hB'' => ?_⟩
    simp only [↓RD, RU, aStart, wipeA, putFA, toP, toPs, scDs, valD_nil, valD_cons, putM_eq, mergeD_eq, keysOk, aHandle, endsAA, putAA, starSp, put_same, put_put, inV_nil, inV_str, cxK, atI_0, atI_1, atI_2, atI_3, ixN_30, ixN_31, ixN_32, List.map, List.replicate, List.length_cons, List.length_nil, List.nil_append, List.cons_append, List.append_nil, Nat.reduceSub, Nat.reduceAdd, List.getElem?_cons_zero, List.getElem?_cons_succ, List.set_cons_zero, List.set_cons_succ, List.cons.injEq, Option.some.injEq, V.int.injEq, V.str.injEq, V.bl.injEq, D.int.injEq, D.str.injEq, D.bl.injEq, D.ref.injEq, D.tup.injEq, D.lst.injEq, D.ty.injEq, AO.lst.injEq, AO.dct.injEq, AO.ins.injEq, Prod.mk.injEq, exists_eq_left, exists_eq_left', exists_eq_right, exists_eq_right', exists_and_left, exists_and_right, true_and, and_true, and_self, if_true, if_false, Bool.false_eq_true, Bool.true_eq_false, eq_self, reduceCtorEq, false_and, and_false, and_assoc, Int.reduceToNat, Int.reducePow, Int.reduceMul, Int.reduceAdd, Int.reduceNeg, Int.reduceSub, String.reduceEq, String.reduceNe, ne_eq, not_false_eq_true, not_true_eq_false, decide_false, decide_true, Bool.not_false, Bool.not_true, Bool.or_false, Bool.false_or, Bool.or_true, Bool.true_or, Bool.and_true, Bool.true_and, Bool.and_self, Bool.and_false, Bool.false_and, exists_eq', exists_eq, exists_const, false_or, or_false, or_self, List.all_cons, List.all_nil, List.any_cons, List.any_nil, Nat.reduceLeDiff, exists_false, List.map_nil, List.map_cons, Option.map_some, Option.isSome_some, Option.isSome_none, Option.getD_some, Option.getD_none, implies_true, List.foldl_cons, List.foldl_nil, forall_const, ofS_eq, Int.reduceLT, Int.reduceLE, Nat.reduceLT]
    exact hR _ _ ⟨_, rfl⟩
  · obtain ⟨v1, rfl⟩ := hP
    simp only [↓RD, RU, aStart, wipeA, putFA, toP, toPs, scDs, valD_nil, valD_cons, putM_eq, mergeD_eq, keysOk, aHandle, endsAA, putAA, starSp, put_same, put_put, inV_nil, inV_str, cxK, atI_0, atI_1, atI_2, atI_3, ixN_30, ixN_31, ixN_32, List.map, List.replicate, List.length_cons, List.length_nil, List.nil_append, List.cons_append, List.append_nil, Nat.reduceSub, Nat.reduceAdd, List.getElem?_cons_zero, List.getElem?_cons_succ, List.set_cons_zero, List.set_cons_succ, List.cons.injEq, Option.some.injEq, V.int.injEq, V.str.injEq, V.bl.injEq, D.int.injEq, D.str.injEq, D.bl.injEq, D.ref.injEq, D.tup.injEq, D.lst.injEq, D.ty.injEq, AO.lst.injEq, AO.dct.injEq, AO.ins.injEq, Prod.mk.injEq, exists_eq_left, exists_eq_left', exists_eq_right, exists_eq_right', exists_and_left, exists_and_right, true_and, and_true, and_self, if_true, if_false, Bool.false_eq_true, Bool.true_eq_false, eq_self, reduceCtorEq, false_and, and_false, and_assoc, Int.reduceToNat, Int.reducePow, Int.reduceMul, Int.reduceAdd, Int.reduceNeg, Int.reduceSub, String.reduceEq, String.reduceNe, ne_eq, not_false_eq_true, not_true_eq_false, decide_false, decide_true, Bool.not_false, Bool.not_true, Bool.or_false, Bool.false_or, Bool.or_true, Bool.true_or, Bool.and_true, Bool.true_and, Bool.and_self, Bool.and_false, Bool.false_and, exists_eq', exists_eq, exists_const, false_or, or_false, or_self, List.all_cons, List.all_nil, List.any_cons, List.any_nil, Nat.reduceLeDiff, exists_false, List.map_nil, List.map_cons, Option.map_some, Option.isSome_some, Option.isSome_none, Option.getD_some, Option.getD_none, implies_true, List.foldl_cons, List.foldl_nil, forall_const, ofS_eq, Int.reduceLT, Int.reduceLE, Nat.reduceLT]
    exact fin_id (k _)
def sp_law (K : PySem.W.Frag) : Sp := fun vs H Q _ => ∃ (a : Addr) (ns : List Int), vs = [.ref a] ∧ SqL K H a (ns.map V.int) ∧ ns.length ≤ 63 ∧ ∀ H', Q (.bl true) H'
theorem ok_law {w : World} {K : PySem.W.Frag} {mg : Str → Option Value} {base : Heap} {fd : FuncData} (F : L2.FunD K D_law.name D_law.qual D_law.params D_law.body D_law.scope (D_law.dvs K) (D_law.kws K) (He.ga K "law") fd) (T : Tx K mg) : FnOk Pg w K mg base CX0 19 (He.ga K "law") fd ["_law_script"] (sp_law K) := by
  refine FunD.ok F sc_law (fun vs H Q E h => by obtain ⟨a, ns, rfl, _⟩ := h; rfl) (fun cdv A outer s H vs Q E hr h => ?_)
  obtain ⟨a, ns, rfl, hS, hl, k⟩ := h
  obtain ⟨t, ht, hq⟩ := bodyR (dd := []) (B_law T) cdv A outer s H [.ref a] Q E hr (law_lift (asp := spa_law K) hS (fun A Q' h => ⟨ns, rfl, hl, h⟩) k)
  exact ⟨t, ht.nox, hq⟩
abbrev Rw : PySem.W.OpenRow := PySem.W.OpenLaw.row PySem.Challenge.rw_owedanswers_k35_lines_beside_each_other
abbrev hk : PySem.W.Hook := My.hookX 5 fl fa fn fx
def ob (s : PySem.W.SharedT) : He.AlD := My.obsXG 5 fl fa fn fx (HandSHeadRun.getT s)
theorem ob_eq (s : PySem.W.SharedT) : ob s = hk.obs s.abs := My.obsXG_eq (HandSHeadRun.getT_eq s)
def names : List PySem.Str := (["OwedError", "Amid", "Closed", "Starved", "LINE_WORDS", "is_out", "is_in", "mark_of", "is_amid", "row_fault", "mark_after", "Line", "_law_source", "_law_draw", "_law_of", "_law_same", "_law_fault", "_law_mark", "_law_new", "_law_due", "_law_ask", "_law_do", "_law_call", "_law_stands", "_law_kept", "_law_holds"] : List PySem.Str)
theorem run (w : World) : HandSHeadRun.RunEq Rw (PySem.W.view Rw.prog [30]) hk ob 3000 names w := by
  intro os
  kernel_rfl
theorem facts {w : World} {K : PySem.W.Frag} {h : Heap} {mg : Str → Option Value} {f : Addr} (X : K.In h) (G : h.Ns mainGlobals mg) (hfa : mg ("law" : Str) = some (.ref f)) (c : My.SaysX fl fa fn fx K) :
    ∃ fd : FuncData, (∀ (s : Shared) (v : Value), BindsTo s fd ⟨[v], []⟩ [("_law_script", v)]) ∧ ∀ base : Heap, K.In base → base.Ns mainGlobals mg → FnOk Pg w K mg base CX0 19 f fd ["_law_script"] (sp_law K) := by
  have T : Tx K mg := ⟨⟨h, X, G⟩, c⟩
  obtain ⟨fd, F⟩ := T.d_law
  have e := hfa.symm.trans T.g_law
  cases e
  have b := FunD.bindsA (ps := ["_law_script"]) F fun _ _ _ _ _ _ us hl => match us, hl with | [_], _ => rfl
  exact ⟨fd, fun s v => b s [v] rfl, fun base _ _ => ok_law F T⟩
end V35
open PySem PySem.W PySem.Calls PyProof.Rows
theorem PySem.Challenge.cw_owedanswers_k35_lines_beside_each_other_holds : PySem.Challenge.rw_owedanswers_k35_lines_beside_each_other.Holds := by
  w_on; o_law
  refine HandSHeadRun.head_any (r := OpenLaw.row PySem.Challenge.rw_owedanswers_k35_lines_beside_each_other) (q := view (OpenLaw.row PySem.Challenge.rw_owedanswers_k35_lines_beside_each_other).prog [30]) (H := V35.hk) (ob := V35.ob) (M := 3000) (loose := V35.names) (d := HandSHeadRun.topDef (OpenLaw.row PySem.Challenge.rw_owedanswers_k35_lines_beside_each_other).prog 30) (kwd := []) V35.ob_eq
    (by kernel_rfl) (fun s => by kernel_rfl) V35.run (by kernel_rfl) (by kernel_rfl) (by kernel_rfl) (by rfl) (by first | assumption | decide +kernel) (by decide +kernel) ⟨rfl, rfl, rfl, rfl, rfl, by decide +kernel⟩ ?hw ?hc
  case hw => w_witness2
  case hc =>
    refine L2.walk_ofE (l := PySem.Challenge.rw_owedanswers_k35_lines_beside_each_other) (n := 63) (k := 19) (x := "_law_script") (CX := L2.CX0) rfl (by decide) (by kernel_rfl) ⟨rfl, by decide, by decide⟩ ?F (fun _ _ _ _ z => z)
    intro w mg fa h Y G hmg0
    obtain ⟨K, KX, c⟩ := Y
    have hmg : mg ("law" : PySem.Str) = some (.ref fa) := by
      have e : (HandSHeadRun.topDef (OpenLaw.row PySem.Challenge.rw_owedanswers_k35_lines_beside_each_other).prog 30).name = ("law" : PySem.Str) := by kernel_rfl
      rw [← e]
      exact hmg0
    obtain ⟨fd, hb, hF⟩ := V35.facts (w := w) KX G hmg c
    exact ⟨K, fd, V35.sp_law K, KX, hb, fun H a ns hl hO hS => ⟨a, ns, rfl, hS, hl, fun _ => rfl⟩, hF⟩

