import PyProof.Rows.All
import Wide.All
import OpenK.AllK
import Wide.FinOn
import KE.KStateDown
import HandS.ForMost
import HandS.ForExc
import HandS.More
import HandS.Defaults
import HandS.Star
import HandS.Property
import HandS.Flow
import HandS.Style
import HandS.Wide
import HandS.IsInst
import HandS.Conv
import HandS.Zip
import HandS.TupAny
import HandS.FStr
import HandS.HeadNt
import HandS.HeadEnd
import HandS.Head2
import HandS.Walk
import KE.KExcSuper
import HandS.TryMany
import HandS.ExcOwn
import HandS.Small
import PySem.Challenge.RW_owedanswers_k31_lines_step_by_step
set_option Elab.async false
set_option linter.all false
set_option maxRecDepth 100000
set_option maxHeartbeats 4000000
/-! own library, part 1: the head's facts, calls by positional promises -/
namespace My
open PySem PySem.Spec PyProof.Rows L2
/-! ### the hook: facts as Bools over what the top left -/
abbrev FaB : Type := PySem.W.Frag → Bool
def obsM (fa : List FaB) (fn : List He5.DefA) (K : PySem.W.Frag) : He.AlD := ((fa.all fun f => f K) && fn.all fun d => d.ok K, fn.map fun d => He5.fnA K (d.at_ K))
def SaysM (fa : List FaB) (fn : List He5.DefA) (K : PySem.W.Frag) : Prop := obsM fa fn K = He5.valA fn
def obsMG (n : Nat) (fa : List FaB) (fn : List He5.DefA) (g : Addr → Option Obj) : He.AlD := obsM fa fn (He.frG g (He5.asA g n))
def hookM (n : Nat) (fa : List FaB) (fn : List He5.DefA) : PySem.W.Hook where
  α := He.AlD
  obs := fun s => obsMG n fa fn s.heap.get?
  val := fun _ => He5.valA fn
  says := fun _ h => ∃ K : PySem.W.Frag, K.In h ∧ SaysM fa fn K
  of := fun _ _ e => ⟨_, He.frG_in, e⟩
  keeps := fun _ _ _ ⟨K, hK, c⟩ k => ⟨K, PySem.W.Frag.In.keeps hK k, c⟩
theorem obsMG_eq {n : Nat} {fa : List FaB} {fn : List He5.DefA} {g : Addr → Option Obj} {s : Shared} (h : ∀ a, g a = s.heap.get? a) : obsMG n fa fn g = (hookM n fa fn).obs s := by
  have e : g = s.heap.get? := funext h
  rw [e] <;> rfl
section
variable {fa : List FaB} {fn : List He5.DefA} {K : PySem.W.Frag}
theorem SaysM.fact (c : SaysM fa fn K) (i : Nat) {f : FaB} (h : fa[i]? = some f := by rfl) : f K = true := by
  have c1 := (He.ba (show ((fa.all fun f => f K) && fn.all fun d => d.ok K) = true from congrArg (fun z : He.AlD => z.1) c)).1
  exact List.all_eq_true.mp c1 f (List.mem_of_getElem? h)
theorem SaysM.def_ (c : SaysM fa fn K) (i : Nat) {d : He5.DefA} (h : fn[i]? = some d := by rfl) : ∃ fd, L2.FunD K d.name d.qual d.params d.body d.scope (d.dvs K) (d.kws K) (d.at_ K) fd := by
  have c2 := (He.ba (show ((fa.all fun f => f K) && fn.all fun d => d.ok K) = true from congrArg (fun z : He.AlD => z.1) c)).2
  have e : fn.map (fun d => He5.fnA K (d.at_ K)) = fn.map He5.DefA.val := congrArg (fun z : He.AlD => z.2) c
  have e2 : (fn.map fun d => He5.fnA K (d.at_ K))[i]? = (fn.map He5.DefA.val)[i]? := by rw [e]
  rw [List.getElem?_map, List.getElem?_map, h] at e2
  exact He5.DefA.funD (Option.some.inj e2) (List.all_eq_true.mp c2 d (List.mem_of_getElem? h))
end
/-! ### a property -/
def prpA (C f : Str) (K : PySem.W.Frag) : Addr := match PySem.W.findIn K (.ref (He.ga K C)) f with
  | some (some (.ref p)) => p
  | _ => 0
def prpG (C f : Str) (K : PySem.W.Frag) : Addr := match PySem.W.recIn K (prpA C f K) "property" with
  | some (.ref g :: _) => g
  | _ => 0
def prpB (C f : Str) : FaB := fun K => He.eqO (PySem.W.findIn K (.ref (He.ga K C)) f) (some (some (.ref (prpA C f K)))) && (He.eqO (PySem.W.specialIn K (.ref (prpA C f K)) "__get__") (some (some (.builtin "property.__get__"))) &&
  (decide (PySem.W.takesIn K (.ref (prpA C f K)) = some true) && (match PySem.W.recIn K (prpA C f K) "property" with
    | some (.ref _ :: _) => true
    | _ => false)))
theorem prpB_ok {C f : Str} {K : PySem.W.Frag} (h : prpB C f K = true) : PropOf K (He.ga K C) f (prpA C f K) (prpG C f K) := by
  obtain ⟨h1, h⟩ := He.ba h
  obtain ⟨h2, h⟩ := He.ba h
  obtain ⟨h3, h4⟩ := He.ba h
  refine ⟨He.eqO_ok h1, He.eqO_ok h2, of_decide_eq_true h3, ?_⟩
  unfold prpG
  cases e : PySem.W.recIn K (prpA C f K) "property" with
  | none => rw [e] at h4; cases h4
  | some l =>
    rw [e] at h4
    cases l with
    | nil => cases h4
    | cons v r =>
      cases v with
      | ref g => exact ⟨r, rfl⟩
      | _ => cases h4
def gloF (x : Str) : PySem.W.Frag → Addr := fun K => He.ga K x
def mthF (C m : Str) : PySem.W.Frag → Addr := fun K => He.ma K (He.ga K C) m
/-! ### a def by a positional promise -/
section
variable {P : Program} {w : World} {K : PySem.W.Frag} {mg : Str → Option Value} {base : Heap} {x qual : Str} {params : Arguments} {body : List Stmt} {scope : Scope} {dvs : List V} {kws : List (Str × V)} {f : Addr} {fd : FuncData}
/-- a def without defaults -/
theorem FunD.R {N ps : List Str} {k : Nat} {sp : Sp} (F : FunD K x qual params body scope [] kws f fd) (S : FnScope N ps scope) (len : ∀ vs H Q E, sp vs H Q E → vs.length = ps.length)
    (hb : ∀ (kV doc pm : Value) (an : Option Addr) (cdv ct : Value) (us : List Value), us.length = ps.length → bindArgs (PySem.W.fnOf x qual params body scope .none kV doc pm an cdv ct) ⟨us, []⟩ = pure (ps.zip us))
    (hbody : ∀ (cdv : Value) (A : Around) (outer : List Env) (s : Shared) (H : Hp) (vs : List V) (Q : VK) (E : XK), Room k (A.deeper (envOfC qual scope s.heap.objs.size f cdv)) → sp vs H Q E →
      ∃ t, PSs (cxOf CX0 P w K mg base N qual scope f cdv A outer s H E).nox body t ∧ t { nx := fun _ H' => Q .non H', rt := Q } (start N vs) H) : FnR P w K mg base CX0 (k + 1) f sp := by
  have G : FnOk P w K mg base CX0 (k + 1) f fd ps sp := FunD.ok F S len fun cdv A outer s H vs Q E hr hsp => by
    obtain ⟨t, h, q⟩ := hbody cdv A outer s H vs Q E hr hsp
    exact ⟨t, h.nox, q⟩
  refine (FnOk.raw G (FunD.bindsN F hb) .nil).imp fun vs H Q E h => ?_
  rw [List.append_nil]
  exact h
end
section
variable {X : Cx} {CX : CXT} {k : Nat} {f C : Addr} {sp : Sp} {E : XK} {x m : Str} {e o : Expr} {es : List Expr} {ta : TE} {t : TA} {p pos apos : Pos}
/-- f(e, ..) by a positional promise -/
def tCallR (sp : Sp) (E : XK) (t : TA) : TE := fun σ H Q => t σ H fun vs H1 => sp vs H1 Q E
theorem pe_callR (F : FnR X.prog X.w X.K X.mg X.base CX k f sp) (hr : Room k X.A) (hg : Gl X x) (hm : X.mg x = some (.ref f)) (hk : PySem.W.keepIn X.K (.ref f) = true) (hx : Passes CX X E) (ha : PA X (e :: es) t)
    (hdb : (x == ("__debug__" : Str)) = false := by decide) (he : starEach (e :: es) X.env = (false, eval e X.env) :: starEach es X.env := by rfl) (hpl : (backTo pos (starEach es X.env)).any (·.1) = false := by rfl) :
    PE X (.Call (.Name x p) (e :: es) [] pos) (tCallR sp E t) := by
  refine ⟨fun pins s σ H Q I h => ?_⟩
  refine wpAny_Call_Name_kw (ld_glob I hg hm ?_ hdb)
  refine PySem.W.callWith_K (h₀ := X.base) I.ok.mod.kin hk (thn (ha.run pos pins s σ H _ I h) fun us s1 ⟨vs, H1, I1, r, q⟩ => ⟨I1.kIn, ?_⟩) he hpl
  exact wpAny_call (run_fnR F hr hx I1 r q)
theorem pe_callR0 (F : FnR X.prog X.w X.K X.mg X.base CX k f sp) (hr : Room k X.A) (hg : Gl X x) (hm : X.mg x = some (.ref f)) (hk : PySem.W.keepIn X.K (.ref f) = true) (hx : Passes CX X E)
    (hdb : (x == ("__debug__" : Str)) = false := by decide) : PE X (.Call (.Name x p) [] [] pos) (tCallR sp E tNil) := by
  refine ⟨fun pins s σ H Q I h => ?_⟩
  refine wpAny_Call_Name_kw (ld_glob I hg hm ?_ hdb)
  exact PySem.W.callWith_K0 I.kIn hk (wpAny_call (run_fnR (us := []) F hr hx I .nil h))
theorem pe_makeR0 (M : Mk X.K C f) (F : FnR X.prog X.w X.K X.mg X.base CX k f sp) (hr : Room (k + 1) X.A) (hg : Gl X x) (hm : X.mg x = some (.ref C)) (hx : Passes CX X E)
    (hdb : (x == ("__debug__" : Str)) = false := by decide) : PE X (.Call (.Name x p) [] [] pos) (StX.tMakeR C sp E tNil) := by
  refine ⟨fun pins s σ H Q I h => ?_⟩
  refine wpAny_Call_Name_kw (ld_glob I hg hm ?_ hdb)
  exact PySem.W.callWith_K0 I.kIn M.kp (StX.run_makeR (us := []) M F hr hx I .nil h)
theorem pe_methR0 {pl : Sem Bool} (he : PE X o ta) (c : Cls X.K C) (hm : Meth X.K C m f) (F : FnR X.prog X.w X.K X.mg X.base CX k f sp) (hr : Room k X.A) (hx : Passes CX X E)
    (ht : eval (.Call (.Attribute o m apos) [] [] pos) X.env = (do
      let ov ← eval o X.env
      standAt apos.atName
      let (f, first) ← holding [ov] (getMethod ov m pl)
      callWith pos f first (backTo pos (starEach [] X.env)) (backToKw pos (keywordEach [] X.env))) := by rfl) :
    PE X (.Call (.Attribute o m apos) [] [] pos) (tMethR C m sp E ta tNil) := by
  refine ⟨fun pins s σ H Q I h => ?_⟩
  refine PySem.W.methodCall_KW (pl := pl) (thn (he.run pins s σ H _ I h) fun u s1 ⟨x, H1, I1, rx, a, dx, fs, ex, ea, l, q⟩ => ?_) ht
  subst ex
  obtain rfl : u = Value.ref a := rx
  refine getmeth_ok I1 ea c hm l ?_
  exact PySem.W.callWith_K0 (first := [.ref a]) I1.kIn hm.kp (wpAny_call (run_fnR (us := [.ref a]) (vs := [.ref a]) F hr hx I1 (.cons rfl .nil) q))
/-- e.f, a property, by a positional promise -/
def tPropR (C : Addr) (sp : Sp) (E : XK) (ta : TE) : TE := fun σ H Q => ta σ H fun x H1 => ∃ a dx fs, x = .ref a ∧ H1 a = some (.ins C dx fs) ∧ sp [.ref a] H1 Q E
theorem pe_propR {pr g : Addr} {fl : Str} (he : PE X e ta) (c : Cls X.K C) (hp : PropOf X.K C fl pr g) (F : FnR X.prog X.w X.K X.mg X.base CX k g sp) (hr : Room (k + 1) X.A) (hx : Passes CX X.nox E)
    (hab : attributeBase e fl X.env (eval e X.env) = eval e X.env) : PE X (.Attribute e fl pos) (tPropR C sp E ta) := by
  refine ⟨fun pins s σ H Q I h => ?_⟩
  refine attr_of hab (thn (he.run pins s σ H _ I h) fun u s1 ⟨x, H1, I1, rx, a, dx, fs, ex, ea, q⟩ => ?_)
  subst ex
  obtain rfl : u = Value.ref a := rx
  obtain ⟨mA, O, _, _, _, _⟩ := ins_get I1.hok ea
  obtain ⟨od, J, _⟩ := O.look
  obtain ⟨rest, hrec⟩ := hp.rec_
  have I2 := I1.tok (s1.toks + 1)
  have hc : (PySem.W.clsIn X.K C).isSome = true := by
    obtain ⟨cd, hc, _⟩ := PySem.W.any_some c.hd
    rw [hc]
    rfl
  refine PySem.W.get_bind I1.kIn J (PySem.W.plainGet_of (c.get fl)).1 (PySem.W.findObj_data hc hp.at_ hp.get hp.tak) (PySem.W.plainGet_of (c.get fl)).2 (wpAny_call (PySem.W.prop_get (s := { s1 with toks := s1.toks + 1 }) I1.kIn hrec ?_))
  refine codeAny_mono (F X.A.in1 X.stack { s1 with toks := s1.toks + 1 } H1 [.ref a] [.ref a] Q E hr.in1 I2.env0.in1 (.cons rfl .nil) q) fun r s' hq => ?_
  cases r with
  | error er => exact False.elim (hx pins σ H1 { s1 with toks := s1.toks + 1 } er s' (I2.wish _) hq)
  | ok fl =>
    cases fl with
    | ret u =>
      obtain ⟨v, H', I3, rv, q3⟩ := I2.after hq
      show wpAny _ _ (handedOut u) _ _ _
      rw [PySem.W.handedOut_of (handed_of rv)]
      exact wpAny_pure ⟨v, H', I3, rv, q3⟩
    | next => exact False.elim hq
    | brk => exact False.elim hq
    | cont => exact False.elim hq
end
end My

set_option Elab.async false
set_option linter.all false
set_option maxRecDepth 100000
set_option maxHeartbeats 4000000
/-! own library, part 2 -/
namespace My
open PySem PySem.Spec PyProof.Rows L2
/-! ### list.extend of a tuple -/
theorem extend_tuple_any (l : Addr) (items : Array Value) (n : Nat) (b : Addr) (items2 : Array Value) (n2 : Nat) (dd : Option Addr) (sl : Array (Option Value)) (hs0 : ¬(!items.isEmpty && Builtin.List.listTooLong (items.size + items2.size)) = true) (hs1 : items.size ≤ sizeLine) (hs2 : items.size + items2.size ≤ sizeLine + 1) :
    Meets (Builtin.«list.extend» ⟨[.ref l, .ref b], []⟩) (fun _ R s => s.heap.get? l = some { cls := .type "list", dict := none, data := .seq items n, slots := #[] } ∧ s.heap.get? b = some { cls := .type "tuple", dict := dd, data := .seq items2 n2, slots := sl } ∧ R (.ok (.ret Value.none)) { s with heap := s.heap.update l (Obj.mapSeq fun x => x ++ items2), toks := s.toks }) :=
  .of_wp fun prog w A R s h => by
    obtain ⟨hp, g, d, tk, os⟩ := s; obtain ⟨hl, hb, h⟩ := h; have f1 := AutoSeq1.idx_int; have f2 := AutoSeq1.sub_tuple_tuple; have f3 := AutoSeq1.sub_list_list; have f4 := AutoSeq1.sub_tuple_list; have f5 := AutoSeq1.sub_list_tuple;
    have hz' : (items ++ items2).size ≤ sizeLine + 1 := by rw [Array.size_append]; exact hs2
    wp_walk using (wpAny_updateSeq hl rfl (hz := hs1) (_hz' := hz')), AutoSeq1.wpAny_loadPart' hl, AutoSeq1.wpAny_loadPart' hb; exact ⟨_, rfl, h⟩
section
variable {X : Cx}
def rExtendT (K : PySem.W.Frag) : V → List V → Hp → VK → Prop := fun x vs H Q => ∃ l b xs zs, x = .ref l ∧ vs = [.ref b] ∧ H l = some (.lst xs) ∧ SqT K H b zs ∧ xs.length + zs.length ≤ sizeLine ∧ Q .non (upd H l (.lst (xs ++ zs)))
theorem mt_extendT : MtM X "list.extend" (rExtendT X.K) := by
  intro pins s σ H x vs v us Q I rx rv h
  obtain ⟨l, b, xs, zs, rfl, rfl, hH, hB, hz, q⟩ := h
  cases rx
  obtain ⟨u, rfl, ru⟩ := rv.one
  cases ru
  obtain ⟨z, its, n, r, hl, e⟩ := I.lstM hH
  obtain ⟨its2, r2, ⟨o, e2, hc, n2, hd⟩, z2⟩ := I.tuple hB
  obtain ⟨oc, od, dt, osl⟩ := o
  have hc' : oc = .type "tuple" := hc
  have hd' : dt = .seq its2.toArray n2 := hd
  subst hc' hd'
  have hl2 := r2.length
  have hsz : its.toArray.size + its2.toArray.size ≤ sizeLine := by rw [List.size_toArray, List.size_toArray]; omega
  have hlong : ¬ (!its.toArray.isEmpty && Builtin.List.listTooLong (its.toArray.size + its2.toArray.size)) = true := by
    rw [notLongL hsz, Bool.and_false]
    exact Bool.false_ne_true
  refine call_meets F.slot_list_extend ⟨_, e, rfl⟩ F.entry_list_extend (F.args_list_extend_2 _ _)
    (extend_tuple_any l its.toArray n b its2.toArray n2 od osl hlong (by rw [List.size_toArray]; omega) (by omega)) ⟨e, e2, ?_⟩
  refine ⟨.non, _, I.lset (its' := its ++ its2) hH e (by simp) (r.append r2) ?_, rfl, q⟩
  rw [List.length_append]
  omega
/-! ### ** of wider ints -/
def CPowW (i j : Int) : Prop := 0 ≤ j ∧ j ≤ 64 ∧ i.natAbs < 2 ^ 4096
theorem op_powW : OpR X (binaryOp .Pow) (rI CPowW fun i j => .int (i ^ j.toNat)) := opI fun i j _ _ _ _ _ hc q => by
  obtain ⟨h0, h1, h2⟩ := hc
  refine pow_int h0 ?_ q
  have h3 : Builtin.Int.intBits i ≤ 4096 := by
    unfold Builtin.Int.intBits
    split
    · exact Nat.zero_le _
    · have := PySem.Flt.log2_lt_of (show 0 < 4096 by decide) h2
      omega
  have h4 : (Builtin.Int.intBits i : Int) * j ≤ 4096 * 64 := Int.mul_le_mul (by omega) h1 h0 (by decide)
  exact Int.le_trans h4 (by decide)
/-- a text constant, an int constant of the module -/
theorem pe_gs {x z : Str} {pos : Pos} (hg : Gl X x) (h : ∃ t, X.mg x = some (.str z t)) (hd : (x == ("__debug__" : Str)) = false := by decide) : PE X (.Name x pos) (tC (.str z)) := by
  obtain ⟨t, h⟩ := h
  exact pe_glob (v := .str z) hg h ⟨t, rfl⟩ hd
theorem pe_gi {x : Str} {i : Int} {pos : Pos} (hg : Gl X x) (h : ∃ t, X.mg x = some (.int i t)) (hd : (x == ("__debug__" : Str)) = false := by decide) : PE X (.Name x pos) (tC (.int i)) := by
  obtain ⟨t, h⟩ := h
  exact pe_glob (v := .int i) hg h ⟨t, rfl⟩ hd
end
/-! ### a def with one default, called without it; a def with a star -/
section
variable {P : Program} {w : World} {K : PySem.W.Frag} {mg : Str → Option Value} {base : Heap} {x qual : Str} {params : Arguments} {body : List Stmt} {scope : Scope} {dvs : List V} {kws : List (Str × V)} {f : Addr} {fd : FuncData}
/-- the promise says the whole list of parameters; the call has n of them -/
theorem FunD.Rd {N ps : List Str} {k : Nat} {sp : Sp} (n j : Nat) (F : FunD K x qual params body scope dvs kws f fd) (S : FnScope N ps scope) (len : ∀ vs H Q E, sp vs H Q E → vs.length = ps.length) (hd : dvs ≠ []) (hn : n + (dvs.length - j) = ps.length)
    (hb : ∀ (T : Addr) (kV doc pm : Value) (an : Option Addr) (cdv ct : Value) (us its : List Value), us.length = n → its.length = dvs.length →
      ∃ k, bindArgs (PySem.W.fnOf x qual params body scope (.ref T) kV doc pm an cdv ct) ⟨us, []⟩ = seqItems? (.ref T) >>= k ∧ k (some its.toArray) = pure (ps.zip (us ++ its.drop j)))
    (hbody : ∀ (cdv : Value) (A : Around) (outer : List Env) (s : Shared) (H : Hp) (vs : List V) (Q : VK) (E : XK), Room k (A.deeper (envOfC qual scope s.heap.objs.size f cdv)) → sp vs H Q E →
      ∃ t, PSs (cxOf CX0 P w K mg base N qual scope f cdv A outer s H E).nox body t ∧ t { nx := fun _ H' => Q .non H', rt := Q } (start N vs) H) :
    FnR P w K mg base CX0 (k + 1) f (fun vs H Q E => sp (vs ++ dvs.drop j) H Q E) := by
  have G : FnOk P w K mg base CX0 (k + 1) f fd ps sp := FunD.ok F S len fun cdv A outer s H vs Q E hr hsp => by
    obtain ⟨t, h, q⟩ := hbody cdv A outer s H vs Q E hr hsp
    exact ⟨t, h.nox, q⟩
  obtain ⟨ds, hv, hB⟩ := FunD.binds1 F n j hd hn hb
  exact FnOk.raw G hB hv
/-- def f(a, .., *v) -/
theorem FunD.Rs {N ps : List Str} {pv : Str} {k : Nat} {sp : Sp} (F : FunD K x qual params body scope [] kws f fd) (S : FnScope N (ps ++ [pv]) scope)
    (hb : ∀ (kV doc pm : Value) (an : Option Addr) (cdv ct : Value) (us rest : List Value), us.length = ps.length → bindArgs (PySem.W.fnOf x qual params body scope .none kV doc pm an cdv ct) ⟨us ++ rest, []⟩ = (newTuple rest >>= fun t => pure (ps.zip us ++ [(pv, t)])))
    (hbody : ∀ (cdv : Value) (A : Around) (outer : List Env) (s : Shared) (H : Hp) (vs : List V) (Q : VK) (E : XK), Room k (A.deeper (envOfC qual scope s.heap.objs.size f cdv)) → sp vs H Q E →
      ∃ t, PSs (cxOf CX0 P w K mg base N qual scope f cdv A outer s H E).nox body t ∧ t { nx := fun _ H' => Q .non H', rt := Q } (start N vs) H) :
    FnR P w K mg base CX0 (k + 1) f (fun vs H Q E => ∃ ws rest, vs = ws ++ rest ∧ ws.length = ps.length ∧ rest.length ≤ sizeLine ∧ ∀ p, H p = Option.none → sp (ws ++ [V.ref p]) (upd H p (.tup rest)) Q E) := by
  obtain ⟨oc, od, dV, kV, doc, pm, an, cdv, ct, osl, rfl, lk, hcd, hD, _⟩ := F.ex
  rcases hD with ⟨_, rfl⟩ | ⟨e, _⟩
  · refine StX.fn_star lk hcd S StX.cxUp_none (hb kV doc pm an cdv ct) fun A outer s H vs Q E hr hsp => ?_
    obtain ⟨t, h, q⟩ := hbody cdv A outer s H vs Q E hr hsp
    exact ⟨t, h.nox, q⟩
  · exact absurd rfl e
end
/-! ### heaps -/
theorem upd_other {H : Hp} {a b : Addr} {o : HO} (h : b ≠ a) : upd H a o b = H b := upd_ne h
theorem Same.upd_new {H H' : Hp} {p : Addr} {o : HO} (s : Same H H') (h : H' p = Option.none) : Same H (upd H' p o) := fun b u e => by
  rw [upd_ne (ne_of_none (s _ _ e) h)]
  exact s _ _ e
theorem Same.new {H : Hp} {p : Addr} {o : HO} (h : H p = Option.none) : Same H (upd H p o) := Same.upd_new (Same.refl H) h
/-- all but what stands at b is kept -/
def Kp (b : Addr) (H H' : Hp) : Prop := ∀ a o, a ≠ b → H a = some o → H' a = some o
theorem Kp.refl {b : Addr} (H : Hp) : Kp b H H := fun _ _ _ h => h
theorem Kp.trans {b : Addr} {H H1 H2 : Hp} (x : Kp b H H1) (y : Kp b H1 H2) : Kp b H H2 := fun a o n h => y a o n (x a o n h)
theorem Kp.of {b : Addr} {H H' : Hp} (s : Same H H') : Kp b H H' := fun a o _ h => s a o h
theorem Kp.put {b : Addr} {H : Hp} {o : HO} : Kp b H (upd H b o) := fun a u n h => by rw [upd_ne n]; exact h
theorem cxK {CX : CXT} {P : Program} {w : World} {K : PySem.W.Frag} {mg : Str → Option Value} {base : Heap} {N : List Str} {qual : Str} {scope : Scope} {f : Addr} {cd : Value} {A : Around} {outer : List Env} {s : Shared} {H : Hp} {E : XK} : (cxOf CX P w K mg base N qual scope f cd A outer s H E).K = K := rfl
/-! ### tests that are known -/
theorem ite_dec {c : Prop} [Decidable c] {A B : Prop} (h1 : c → A) (h2 : ¬ c → B) : if decide c = true then A else B := by
  by_cases h : c
  · rw [if_pos (decide_eq_true h)]; exact h1 h
  · rw [if_neg (by rw [decide_eq_false h]; exact Bool.false_ne_true)]; exact h2 h
theorem ite_b {b : Bool} {A B : Prop} (h1 : b = true → A) (h2 : b = false → B) : if b = true then A else B := by
  cases b with
  | true => exact iteT (h1 rfl)
  | false => exact iteF (h2 rfl)
end My

set_option Elab.async false
set_option linter.all false
set_option maxRecDepth 100000
set_option maxHeartbeats 4000000
/-! own library, part 3: rules whose readings are functional in the tracked heap -/
namespace My
open PySem PySem.Spec PyProof.Rows L2
section
variable {X : Cx}
theorem OpR.imp {f : Value → Value → Sem Value} {r r' : R2} (h : OpR X f r) (i : ∀ x y H Q, r' x y H Q → r x y H Q) : OpR X f r' := fun pins s σ H x y v u Q I a b c => h pins s σ H x y v u Q I a b (i _ _ _ _ c)
theorem CallR.imp {f : Value} {r r' : List V → Hp → VK → Prop} (h : CallR X f r) (i : ∀ x H Q, r' x H Q → r x H Q) : CallR X f r' := fun pins s σ H xs us Q I a c => h pins s σ H xs us Q I a (i _ _ _ c)
theorem MtR.imp {id : String} {r r' : V → List V → Hp → VK → Prop} (h : MtR X id r) (i : ∀ x y H Q, r' x y H Q → r x y H Q) : MtR X id r' := fun pins s σ H x xs v us Q I a b c => h pins s σ H x xs v us Q I a b (i _ _ _ _ c)
theorem IxR.imp {r r' : R2} (h : IxR X r) (i : ∀ x y H Q, r' x y H Q → r x y H Q) : IxR X r' := fun a b pins s σ H x y v u Q I p q c => h a b pins s σ H x y v u Q I p q (i _ _ _ _ c)
theorem SlR.imp {r r' : V → Option Int → Option Int → Hp → VK → Prop} (h : SlR X r) (i : ∀ x y z H Q, r' x y z H Q → r x y z H Q) : SlR X r' := fun pins s σ H x v vl vu lo hi sl Q I a b c d e => h pins s σ H x v vl vu lo hi sl Q I a b c d (i _ _ _ _ _ e)
theorem PE.imp {e : Expr} {t t' : TE} (h : PE X e t) (i : ∀ σ H Q, t' σ H Q → t σ H Q) : PE X e t' := ⟨fun pins s σ H Q I q => h.run pins s σ H Q I (i _ _ _ q)⟩
theorem PT.imp {e : Expr} {t t' : TT} (h : PT X e t) (i : ∀ σ H Q, t' σ H Q → t σ H Q) : PT X e t' := ⟨fun pins s σ H Q I q => h.run pins s σ H Q I (i _ _ _ q)⟩
theorem PS.imp {st : Stmt} {t t' : TS} (h : PS X st t) (i : ∀ D σ H, t' D σ H → t D σ H) : PS X st t' := ⟨fun pins s σ H D I q => h.run pins s σ H D I (i _ _ _ q)⟩
/-! ### lists and tuples that are tracked -/
def mIxL : R2 := fun x y H Q => ∃ p xs i v, x = .ref p ∧ y = .int i ∧ H p = some (.lst xs) ∧ atI xs i = some v ∧ Q v H
def mIxT : R2 := fun x y H Q => ∃ p xs i v, x = .ref p ∧ y = .int i ∧ H p = some (.tup xs) ∧ atI xs i = some v ∧ Q v H
theorem ixL : IxR X mIxL := IxR.imp ix_list fun x y H Q ⟨p, xs, i, v, a, b, c, d, e⟩ => ⟨p, xs, i, v, a, b, SqL.of c, d, e⟩
theorem ixT : IxR X mIxT := IxR.imp ix_tup fun x y H Q ⟨p, xs, i, v, a, b, c, d, e⟩ => ⟨p, xs, i, v, a, b, SqT.of c, d, e⟩
def mLenL : List V → Hp → VK → Prop := fun xs H Q => ∃ p ys, xs = [.ref p] ∧ H p = some (.lst ys) ∧ Q (.int (ys.length : Int)) H
def mLenT : List V → Hp → VK → Prop := fun xs H Q => ∃ p ys, xs = [.ref p] ∧ H p = some (.tup ys) ∧ Q (.int (ys.length : Int)) H
def mLenS : List V → Hp → VK → Prop := fun xs H Q => ∃ z : Str, xs = [.str z] ∧ z.length ≤ sizeLine ∧ Q (.int (z.length : Int)) H
def mLenD : List V → Hp → VK → Prop := fun xs H Q => ∃ p ys, xs = [.ref p] ∧ H p = some (.dK ys) ∧ Q (.int (ys.length : Int)) H
def mLenK (K : PySem.W.Frag) : List V → Hp → VK → Prop := fun xs H Q => ∃ p ys, xs = [.ref p] ∧ SqL K H p ys ∧ Q (.int (ys.length : Int)) H
theorem lenL : CallR X (.builtin "len") mLenL := CallR.imp call_len_seq fun x H Q ⟨p, ys, a, b, c⟩ => ⟨p, ys, a, .inl (SqL.of b), c⟩
theorem lenT : CallR X (.builtin "len") mLenT := CallR.imp call_len_seq fun x H Q ⟨p, ys, a, b, c⟩ => ⟨p, ys, a, .inr (SqT.of b), c⟩
theorem lenK : CallR X (.builtin "len") (mLenK X.K) := CallR.imp call_len_seq fun x H Q ⟨p, ys, a, b, c⟩ => ⟨p, ys, a, .inl b, c⟩
theorem lenS : CallR X (.builtin "len") mLenS := call_len_str
theorem lenD : CallR X (.builtin "len") mLenD := CallR.imp call_lenD fun x H Q ⟨p, ys, a, b, c⟩ => ⟨p, ys, a, b, c⟩
def mList : List V → Hp → VK → Prop := fun xs H Q => ∃ p ys, xs = [.ref p] ∧ H p = some (.lst ys) ∧ ∀ l, H l = none → Q (.ref l) (upd H l (.lst ys))
theorem listL : CallR X (.type "list") mList := CallR.imp call_list_of fun x H Q ⟨p, ys, a, b, c⟩ => ⟨p, ys, a, .inl (SqL.of b), c⟩
def mTupL : List V → Hp → VK → Prop := fun xs H Q => ∃ p ys, xs = [.ref p] ∧ H p = some (.lst ys) ∧ ∀ l, H l = none → Q (.ref l) (upd H l (.tup ys))
theorem tupL : CallR X (.type "tuple") mTupL := CallR.imp call_tuple_of fun x H Q ⟨p, ys, a, b, c⟩ => ⟨p, ys, a, .inl ⟨SqL.of b, c⟩⟩
def mSlL : V → Option Int → Option Int → Hp → VK → Prop := fun x lo hi H Q => ∃ a xs, x = .ref a ∧ H a = some (.lst xs) ∧ ∀ p, H p = none → Q (.ref p) (upd H p (.lst (cutV xs lo hi)))
theorem slL : SlR X mSlL := SlR.imp sl_list fun x lo hi H Q ⟨a, xs, e, h, q⟩ => ⟨a, xs, e, SqL.of h, q⟩
/-- ints -/
def mInt : List V → Hp → VK → Prop := fun xs H Q => ∃ i, xs = [.int i] ∧ Q (.int i) H
theorem int1 : CallR X (.type "int") mInt := CallR.imp call_int1 fun x H Q ⟨i, a, b⟩ => .inl ⟨i, a, b⟩
def mAbs : List V → Hp → VK → Prop := fun xs H Q => ∃ i, xs = [.int i] ∧ Q (.int (if i < 0 then -i else i)) H
theorem abs1 : CallR X (.builtin "abs") mAbs := call_abs
def mMax : List V → Hp → VK → Prop := fun xs H Q => ∃ i j, xs = [.int i, .int j] ∧ Q (.int (if j > i then j else i)) H
def mMin : List V → Hp → VK → Prop := fun xs H Q => ∃ i j, xs = [.int i, .int j] ∧ Q (.int (if j < i then j else i)) H
theorem max2 (hc : X.calm = true) : CallR X (.builtin "max") mMax := call_max2 hc
theorem min2 (hc : X.calm = true) : CallR X (.builtin "min") mMin := call_min2 hc
def mStr : List V → Hp → VK → Prop := fun xs H Q => ∃ i : Int, xs = [.int i] ∧ i.natAbs.log2 < 1920 ∧ Q (.str (toString i)) H
theorem str1 : CallR X (.type "str") mStr := call_str_int
def mAddS : R2 := fun x y H Q => ∃ i j : Str, x = .str i ∧ y = .str j ∧ i.length + j.length ≤ sizeLine ∧ Q (.str (i ++ j)) H
theorem addS : OpR X (binaryOp .Add) mAddS := op_add_str
def mIsN : R2 := fun x y H Q => y = .non ∧ Q (.bl (decide (x = .non))) H
def mNotN : R2 := fun x y H Q => y = .non ∧ Q (.bl (!decide (x = .non))) H
theorem isN : OpR X (compareOp .Is) mIsN := op_isN
theorem notN : OpR X (compareOp .IsNot) mNotN := op_notN
end
/-! ### kinds of what is tracked, for conditional rewriting -/
def isLst : Option HO → Bool
  | some (.lst _) => true
  | _ => false
def isDk : Option HO → Bool
  | some (.dK _) => true
  | _ => false
def dkOf : Option HO → List (Key × V)
  | some (.dK kvs) => kvs
  | _ => []
theorem isLst_lst {xs : List V} : isLst (some (.lst xs)) = true := rfl
theorem isDk_dk {xs : List (Key × V)} : isDk (some (.dK xs)) = true := rfl
theorem dkOf_dk {xs : List (Key × V)} : dkOf (some (.dK xs)) = xs := rfl
theorem isLst_ex {o : Option HO} (h : isLst o = true) : ∃ xs, o = some (.lst xs) := by
  cases o with
  | none => cases h
  | some u => cases u with
    | lst xs => exact ⟨xs, rfl⟩
    | _ => cases h
theorem isDk_ex {o : Option HO} (h : isDk o = true) : ∃ xs, o = some (.dK xs) := by
  cases o with
  | none => cases h
  | some u => cases u with
    | dK xs => exact ⟨xs, rfl⟩
    | _ => cases h
theorem tyV_list {K : PySem.W.Frag} {H : Hp} {p : Addr} (h : isLst (H p) = true) : tyV K "list" (.ref p) H = True := by
  obtain ⟨xs, e⟩ := isLst_ex h
  exact eq_true (Or.inl ⟨rfl, xs, SqL.of e⟩)
theorem IsD_dk {H : Hp} {p : Addr} (h : isDk (H p) = true) : IsD H p = True := by
  obtain ⟨xs, e⟩ := isDk_ex h
  exact eq_true (Or.inl ⟨xs, .inl e⟩)
theorem DGet_dk {H : Hp} {p : Addr} {k : Str} {r : Option V} (h : isDk (H p) = true) : DGet H p (.str k) r = (r = valV (dkOf (H p)) (Sum.inr k : Key)) := by
  obtain ⟨xs, e⟩ := isDk_ex h
  rw [e]
  apply propext
  constructor
  · rintro (⟨kvs, k', hr, hk, er⟩ | ⟨_, _, _, _, hk, _⟩)
    · have ek : k' = Sum.inr k := by
        cases k' with
        | inl i => cases hk
        | inr z =>
          have : V.str k = V.str z := hk
          injection this with q
          rw [q]
      have eq : kvs = xs := by
        rcases hr with hr | ⟨o, hr⟩
        · rw [e] at hr
          injection hr with hr
          injection hr with hr
          exact hr.symm
        · rw [e] at hr
          injection hr with hr
          cases hr
      rw [er, ek, eq]
      rfl
    · cases hk
  · intro er
    rw [er]
    exact DGet.k (k := Sum.inr k) e
theorem DPut_dk {H H' : Hp} {p : Addr} {k : Str} {v : V} (h : isDk (H p) = true) : DPut H p (.str k) v H' = ((dkOf (H p)).length < sizeLine ∧ H' = upd H p (.dK (putK (dkOf (H p)) (Sum.inr k : Key) v))) := by
  obtain ⟨xs, e⟩ := isDk_ex h
  rw [e]
  apply propext
  constructor
  · rintro (⟨kvs, k', hr, hk, hl, er⟩ | ⟨_, _, _, _, hk, _⟩)
    · have ek : k' = Sum.inr k := by
        cases k' with
        | inl i => cases hk
        | inr z =>
          have : V.str k = V.str z := hk
          injection this with q
          rw [q]
      rw [e] at hr
      injection hr with hr
      injection hr with hr
      subst hr ek
      exact ⟨hl, er⟩
    · cases hk
  · rintro ⟨hl, er⟩
    rw [er]
    exact DPut.k (k := Sum.inr k) e hl
/-! ### items by written places -/
section
variable {α : Type} {a b c d : α} {l : List α}
theorem atI_0 : atI (a :: l) 0 = some a := by
  unfold atI ixN
  simp
theorem atI_1 : atI (a :: b :: l) 1 = some b := by
  unfold atI ixN
  rw [if_pos (by decide), if_pos (by simp only [List.length_cons]; omega)]
  rfl
theorem atI_2 : atI (a :: b :: c :: l) 2 = some c := by
  unfold atI ixN
  rw [if_pos (by decide), if_pos (by simp only [List.length_cons]; omega)]
  rfl
theorem atI_3 : atI (a :: b :: c :: d :: l) 3 = some d := by
  unfold atI ixN
  rw [if_pos (by decide), if_pos (by simp only [List.length_cons]; omega)]
  rfl
theorem ixN_30 : ixN 3 0 = some 0 := rfl
theorem ixN_31 : ixN 3 1 = some 1 := rfl
theorem ixN_32 : ixN 3 2 = some 2 := rfl
end
end My

set_option Elab.async false
set_option linter.all false
set_option maxRecDepth 100000
set_option maxHeartbeats 4000000
/-! own library, part 4: kinds, nested data, walks -/
namespace My
open PySem PySem.Spec PyProof.Rows L2
/-! ### isinstance, by the tracked heap -/
def kdO : Option HO → String
  | some (.lst _) => "list"
  | some (.tup _) => "tuple"
  | some (.dK _) => "dict"
  | _ => "?"
def kdV (H : Hp) : V → String
  | .non => "NoneType"
  | .bl _ => "bool"
  | .int _ => "int"
  | .str _ => "str"
  | .ref a => kdO (H a)
  | _ => "?"
theorem kdO_q {o : Option HO} (h : kdO o ≠ "?") : (∃ xs, o = some (.lst xs) ∧ kdO o = "list") ∨ (∃ xs, o = some (.tup xs) ∧ kdO o = "tuple") ∨ ∃ xs, o = some (.dK xs) ∧ kdO o = "dict" := by
  cases o with
  | none => exact absurd rfl h
  | some u => cases u with
    | lst xs => exact .inl ⟨xs, rfl, rfl⟩
    | tup xs => exact .inr (.inl ⟨xs, rfl, rfl⟩)
    | dK xs => exact .inr (.inr ⟨xs, rfl, rfl⟩)
    | _ => exact absurd rfl h
theorem kdV_ty {K : PySem.W.Frag} {H : Hp} {x : V} (h : kdV H x ≠ "?") : TyX K H x (.type (kdV H x)) := by
  cases x with
  | non => exact .base .non
  | bl b => exact .base (.bl b)
  | int i => exact .base (.int i)
  | str z => exact .base (.str z)
  | byt b => exact absurd rfl h
  | flt b => exact absurd rfl h
  | ty n => exact absurd rfl h
  | ref a =>
    rcases kdO_q (o := H a) h with ⟨xs, e, e2⟩ | ⟨xs, e, e2⟩ | ⟨xs, e, e2⟩
    · show TyX K H (.ref a) (.type (kdO (H a)))
      rw [e2]; exact .base (.lst e)
    · show TyX K H (.ref a) (.type (kdO (H a)))
      rw [e2]; exact .base (.tup e)
    · show TyX K H (.ref a) (.type (kdO (H a)))
      rw [e2]; exact .base (.dK e)
def mIsi : List V → Hp → VK → Prop := fun xs H Q => ∃ (x : V) (n : String), xs = [x, .ty n] ∧ kdV H x ≠ "?" ∧ ∃ b, kitB (kdV H x) n = some b ∧ Q (.bl b) H
def mIsi2 : List V → Hp → VK → Prop := fun xs H Q => ∃ (x : V) (tp : Addr) (m n : String), xs = [x, .ref tp] ∧ H tp = some (.tup [.ty m, .ty n]) ∧ kdV H x ≠ "?" ∧ ∃ b c, kitB (kdV H x) m = some b ∧ kitB (kdV H x) n = some c ∧ Q (.bl (b || c)) H
section
variable {X : Cx}
theorem isi1 : CallR X (.builtin "isinstance") mIsi := CallR.imp call_isi fun xs H Q ⟨x, n, e, h, b, hb, q⟩ => ⟨x, .ty n, _, _, b, e, .ty n, kdV_ty h, kit_ty hb, q⟩
theorem isi2 : CallR X (.builtin "isinstance") mIsi2 := CallR.imp call_isiT fun xs H Q ⟨x, tp, m, n, e, ht, h, b, c, hb, hc, q⟩ => by
  refine ⟨x, tp, _, _, [.type m, .type n], b || c, e, ht, .cons (.ty m) (.cons (.ty n) .nil), kdV_ty h, ?_, q⟩
  refine kitAny_cons (kit_ty hb) (fun e => ?_) (fun e => by rw [e]; rfl)
  refine kitAny_cons (kit_ty hc) (fun e2 => ?_) (fun e2 => by rw [e2, Bool.or_true])
  rw [e, e2]
  exact kitAny_nil
end
theorem kdV_non {H : Hp} : kdV H .non = "NoneType" := rfl
theorem kdV_bl {H : Hp} {b : Bool} : kdV H (.bl b) = "bool" := rfl
theorem kdV_int {H : Hp} {i : Int} : kdV H (.int i) = "int" := rfl
theorem kdV_str {H : Hp} {z : Str} : kdV H (.str z) = "str" := rfl
theorem kdV_ref {H : Hp} {a : Addr} : kdV H (.ref a) = kdO (H a) := rfl
theorem kdO_lst {xs : List V} : kdO (some (.lst xs)) = "list" := rfl
theorem kdO_tup {xs : List V} : kdO (some (.tup xs)) = "tuple" := rfl
theorem kdO_dK {xs : List (Key × V)} : kdO (some (.dK xs)) = "dict" := rfl
theorem kit_NoneType_bool : kitB "NoneType" "bool" = some false := by decide +kernel
theorem kit_NoneType_int : kitB "NoneType" "int" = some false := by decide +kernel
theorem kit_NoneType_str : kitB "NoneType" "str" = some false := by decide +kernel
theorem kit_NoneType_list : kitB "NoneType" "list" = some false := by decide +kernel
theorem kit_NoneType_tuple : kitB "NoneType" "tuple" = some false := by decide +kernel
theorem kit_NoneType_dict : kitB "NoneType" "dict" = some false := by decide +kernel
theorem kit_bool_bool : kitB "bool" "bool" = some true := by decide +kernel
theorem kit_bool_int : kitB "bool" "int" = some true := by decide +kernel
theorem kit_bool_str : kitB "bool" "str" = some false := by decide +kernel
theorem kit_bool_list : kitB "bool" "list" = some false := by decide +kernel
theorem kit_bool_tuple : kitB "bool" "tuple" = some false := by decide +kernel
theorem kit_bool_dict : kitB "bool" "dict" = some false := by decide +kernel
theorem kit_int_bool : kitB "int" "bool" = some false := by decide +kernel
theorem kit_int_int : kitB "int" "int" = some true := by decide +kernel
theorem kit_int_str : kitB "int" "str" = some false := by decide +kernel
theorem kit_int_list : kitB "int" "list" = some false := by decide +kernel
theorem kit_int_tuple : kitB "int" "tuple" = some false := by decide +kernel
theorem kit_int_dict : kitB "int" "dict" = some false := by decide +kernel
theorem kit_str_bool : kitB "str" "bool" = some false := by decide +kernel
theorem kit_str_int : kitB "str" "int" = some false := by decide +kernel
theorem kit_str_str : kitB "str" "str" = some true := by decide +kernel
theorem kit_str_list : kitB "str" "list" = some false := by decide +kernel
theorem kit_str_tuple : kitB "str" "tuple" = some false := by decide +kernel
theorem kit_str_dict : kitB "str" "dict" = some false := by decide +kernel
theorem kit_list_bool : kitB "list" "bool" = some false := by decide +kernel
theorem kit_list_int : kitB "list" "int" = some false := by decide +kernel
theorem kit_list_str : kitB "list" "str" = some false := by decide +kernel
theorem kit_list_list : kitB "list" "list" = some true := by decide +kernel
theorem kit_list_tuple : kitB "list" "tuple" = some false := by decide +kernel
theorem kit_list_dict : kitB "list" "dict" = some false := by decide +kernel
theorem kit_tuple_bool : kitB "tuple" "bool" = some false := by decide +kernel
theorem kit_tuple_int : kitB "tuple" "int" = some false := by decide +kernel
theorem kit_tuple_str : kitB "tuple" "str" = some false := by decide +kernel
theorem kit_tuple_list : kitB "tuple" "list" = some false := by decide +kernel
theorem kit_tuple_tuple : kitB "tuple" "tuple" = some true := by decide +kernel
theorem kit_tuple_dict : kitB "tuple" "dict" = some false := by decide +kernel
theorem kit_dict_bool : kitB "dict" "bool" = some false := by decide +kernel
theorem kit_dict_int : kitB "dict" "int" = some false := by decide +kernel
theorem kit_dict_str : kitB "dict" "str" = some false := by decide +kernel
theorem kit_dict_list : kitB "dict" "list" = some false := by decide +kernel
theorem kit_dict_tuple : kitB "dict" "tuple" = some false := by decide +kernel
theorem kit_dict_dict : kitB "dict" "dict" = some true := by decide +kernel
/-! ### all of a tracked list of truth values -/
def mAll : List V → Hp → VK → Prop := fun vs H Q => ∃ (a : Addr) (xs : List V) (bs : List Bool), vs = [.ref a] ∧ H a = some (.lst xs) ∧ xs = bs.map V.bl ∧ Q (.bl (bs.all id)) H
def mAny : List V → Hp → VK → Prop := fun vs H Q => ∃ (a : Addr) (xs : List V) (bs : List Bool), vs = [.ref a] ∧ H a = some (.lst xs) ∧ xs = bs.map V.bl ∧ Q (.bl (bs.any id)) H
theorem all1 {X : Cx} (hc : X.calm = true) : CallR X (.builtin "all") mAll := CallR.imp (cr_all hc) fun vs H Q ⟨a, xs, bs, e, h, ex, q⟩ => ⟨a, bs, e, by rw [← ex]; exact SqL.of h, q⟩
theorem any1 {X : Cx} (hc : X.calm = true) : CallR X (.builtin "any") mAny := CallR.imp (cr_any hc) fun vs H Q ⟨a, xs, bs, e, h, ex, q⟩ => ⟨a, bs, e, by rw [← ex]; exact SqL.of h, q⟩
/-! ### data at any depth, tracked -/
mutual
inductive Da (H : Hp) : V → PyData → Prop
  | non : Da H .non .none
  | bl (b : Bool) : Da H (.bl b) (.bool b)
  | int (i : Int) : Da H (.int i) (.int i)
  | str (x : Str) : Da H (.str x) (.str x)
  | lst {a : Addr} {xs : List V} {ds : List PyData} : H a = some (.lst xs) → DaAll H xs ds → Da H (.ref a) (.list ds)
  | tup {a : Addr} {xs : List V} {ds : List PyData} : H a = some (.tup xs) → DaAll H xs ds → Da H (.ref a) (.tuple ds)
inductive DaAll (H : Hp) : List V → List PyData → Prop
  | nil : DaAll H [] []
  | cons {v : V} {vs : List V} {d : PyData} {ds : List PyData} : Da H v d → DaAll H vs ds → DaAll H (v :: vs) (d :: ds)
end
mutual
theorem Da.same {H H' : Hp} (s : Same H H') : ∀ (d : PyData) (v : V), Da H v d → Da H' v d
  | .none, _, h => by cases h; exact .non
  | .bool b, _, h => by cases h; exact .bl b
  | .int i, _, h => by cases h; exact .int i
  | .str x, _, h => by cases h; exact .str x
  | .list ds, _, h => by
    cases h with
    | lst e k => exact .lst (s _ _ e) (DaAll.same s ds _ k)
  | .tuple ds, _, h => by
    cases h with
    | tup e k => exact .tup (s _ _ e) (DaAll.same s ds _ k)
  | .dict _, _, h => by cases h
theorem DaAll.same {H H' : Hp} (s : Same H H') : ∀ (ds : List PyData) (vs : List V), DaAll H vs ds → DaAll H' vs ds
  | [], _, h => by cases h; exact .nil
  | d :: ds, _, h => by
    cases h with
    | cons a b => exact .cons (Da.same s d _ a) (DaAll.same s ds _ b)
end
mutual
theorem Da.dp {K : PySem.W.Frag} {H : Hp} : ∀ (d : PyData) (v : V), Da H v d → Dp K H v d
  | .none, _, h => by cases h; exact .non
  | .bool b, _, h => by cases h; exact .bl b
  | .int i, _, h => by cases h; exact .int i
  | .str x, _, h => by cases h; exact .str x
  | .list ds, _, h => by
    cases h with
    | lst e k => exact .lst (SqL.of e) (DaAll.dp ds _ k)
  | .tuple ds, _, h => by
    cases h with
    | tup e k => exact .tup (SqT.of e) (DaAll.dp ds _ k)
  | .dict _, _, h => by cases h
theorem DaAll.dp {K : PySem.W.Frag} {H : Hp} : ∀ (ds : List PyData) (vs : List V), DaAll H vs ds → DpAll K H vs ds
  | [], _, h => by cases h; exact .nil
  | d :: ds, _, h => by
    cases h with
    | cons a b => exact .cons (Da.dp d _ a) (DaAll.dp ds _ b)
end
theorem DaAll.length {H : Hp} : ∀ {vs : List V} {ds : List PyData}, DaAll H vs ds → vs.length = ds.length
  | _, _, .nil => rfl
  | _, _, .cons _ k => by rw [List.length_cons, List.length_cons, DaAll.length k]
theorem DaAll.get {H : Hp} : ∀ {vs : List V} {ds : List PyData} {i : Nat} {v : V}, DaAll H vs ds → vs[i]? = some v → ∃ d, ds[i]? = some d ∧ Da H v d
  | _, _, i, _, .nil, h => by cases i <;> cases h
  | _, _, 0, _, .cons a _, h => by injection h with h; subst h; exact ⟨_, rfl, a⟩
  | _, _, i + 1, v, .cons _ k, h => DaAll.get (i := i) k h
theorem DaAll.strs {H : Hp} : ∀ (q : List Str), DaAll H (q.map V.str) (q.map PyData.str)
  | [] => .nil
  | x :: q => .cons (.str x) (DaAll.strs q)
theorem DaAll.ints {H : Hp} : ∀ (q : List Int), DaAll H (q.map V.int) (q.map PyData.int)
  | [] => .nil
  | x :: q => .cons (.int x) (DaAll.ints q)
theorem walk_zipT {K : PySem.W.Frag} {a b : Addr} {xs ys : List V} {n : Nat} (hn : n = min xs.length ys.length) : Walk (RZ.ItzT K a b) n (fun H => SqT K H a xs ∧ SqT K H b ys) (YPair (fun i => xs[i]?) (fun i => ys[i]?)) := by
  subst hn
  refine ⟨fun i _ hi q => ?_, fun _ q => ⟨xs, ys, q.1, q.2, by omega⟩, fun i H v H' _ q y => ?_⟩
  · have z1 : i < xs.length := by omega
    have z2 : i < ys.length := by omega
    exact ⟨xs, ys, xs[i], ys[i], q.1, q.2, by simp [z1], by simp [z2]⟩
  · obtain ⟨T, x, z, y1, y2, y3, y4, y5⟩ := y
    exact ⟨T, x, z, y1, y2, y3, y4 xs q.1, y5 ys q.2⟩
/-! ### a, b = a tracked tuple -/
def gTupH (n : Nat) (t : TGs) : TG := fun v σ H Q => ∃ a xs, v = .ref a ∧ H a = some (.tup xs) ∧ xs.length = n ∧ t xs σ H Q
theorem PG.imp {X : Cx} {tg : Expr} {g g' : TG} (h : PG X tg g) (i : ∀ v σ H Q, g' v σ H Q → g v σ H Q) : PG X tg g' := ⟨fun pins s σ H v u Q I r q => h.run pins s σ H v u Q I r (i _ _ _ _ q)⟩
theorem pg_tupH {X : Cx} {es : List Expr} {k n : Nat} {pos : Pos} {t : TGs} (hc : X.calm = true) (h : PGs X es t) (hn : (assignEach es X.env).length = n := by rfl) (hst : (assignEach es X.env).findIdx? (·.1) = none := by rfl) : PG X (.Tuple es k pos) (gTupH n t) := PG.imp (pg_tup hc h hn hst) fun v σ H Q ⟨a, xs, e, he, hl, q⟩ => ⟨a, xs, e, SqT.of he, hl, q⟩
/-! ### loops as one word -/
def Loop (J : It) (g : TG) (tb : TS) (D : Ends) (σ : L2.St) (H : Hp) : Prop := ∃ W : Nat → Nat → L2.St → Hp → Prop, (∃ m, W 0 m σ H) ∧ ∀ i m σ H, W i m σ H → (J.stop i H ∧ D.nx σ H) ∨
  (J.go i H ∧ ∃ N : L2.St → Hp → Prop, (∀ σ' H', N σ' H' → ∃ m', m' < m ∧ W (i + 1) m' σ' H') ∧ ∀ x H', J.yld i H x H' → g x σ H' fun σ2 H2 => tb { D with nx := N, ct := N, bk := D.nx } σ2 H2)
theorem tFor_eq {wi : TI} {g : TG} {tb : TS} {D : Ends} {σ : L2.St} {H : Hp} : tFor wi g tb D σ H = wi σ H fun J H1 => Loop J g tb D σ H1 := rfl
theorem loop_it {J : It} {n : Nat} {G : Hp → Prop} {Y : Nat → Hp → V → Hp → Prop} (w : Walk J n G Y) {g : TG} {tb : TS} {D : Ends} {σ : L2.St} {H : Hp} (Pv : Nat → L2.St → Hp → Prop) (h0 : Pv 0 σ H) (hG : ∀ i σ H, i ≤ n → Pv i σ H → G H)
    (hs : ∀ i x σ H H', i < n → Pv i σ H → Y i H x H' → g x σ H' fun σ2 H2 => tb { D with nx := Pv (i + 1), ct := Pv (i + 1), bk := D.nx } σ2 H2) (hd : ∀ σ H, Pv n σ H → D.nx σ H) : Loop J g tb D σ H := for_it w Pv h0 hG hs hd
def LoopC (J : It) (g : TG) (tt : TT) (te : TE) (vs : List Nat) (σ : L2.St) (H1 : Hp) (D : Addr) (Qd : Hp → Prop) : Prop := ∃ W : Nat → Nat → Hp → Prop, (∃ m, W 0 m (upd H1 D (.lst []))) ∧ ∀ i m H, W i m H → (J.stop i H ∧ Qd H) ∨
  (J.go i H ∧ ∃ Nx : Hp → Prop, (∀ H', Nx H' → ∃ m', m' < m ∧ W (i + 1) m' H') ∧ ∀ x H', J.yld i H x H' → g x (wipe σ vs) H' fun σ2 H2 => wipe σ2 vs = wipe σ vs ∧ tt σ2 H2 fun b H3 =>
    if b = true then te σ2 H3 fun y H4 => ∃ acc, H4 D = some (.lst acc) ∧ acc.length < sizeLine ∧ Nx (upd H4 D (.lst (acc ++ [y]))) else Nx H3)
theorem tLc_eq {wi : TI} {g : TG} {tt : TT} {te : TE} {vs : List Nat} {σ : L2.St} {H : Hp} {Q : VK} : tLc wi g tt te vs σ H Q = wi σ H fun J H1 => ∀ D, H1 D = none → LoopC J g tt te vs σ H1 D (fun H' => Q (.ref D) H') := rfl
theorem loopC_it {J : It} {n : Nat} {G : Hp → Prop} {Y : Nat → Hp → V → Hp → Prop} (w : Walk J n G Y) {g : TG} {tt : TT} {te : TE} {vs : List Nat} {σ : L2.St} {H1 : Hp} {D : Addr} {Qd : Hp → Prop} (Pv : Nat → Hp → Prop) (h0 : Pv 0 (upd H1 D (.lst []))) (hG : ∀ i H, i ≤ n → Pv i H → G H)
    (hs : ∀ i x H H', i < n → Pv i H → Y i H x H' → g x (wipe σ vs) H' fun σ2 H2 => wipe σ2 vs = wipe σ vs ∧ tt σ2 H2 fun b H3 =>
      if b = true then te σ2 H3 fun y H4 => ∃ acc, H4 D = some (.lst acc) ∧ acc.length < sizeLine ∧ Pv (i + 1) (upd H4 D (.lst (acc ++ [y]))) else Pv (i + 1) H3) (hd : ∀ H, Pv n H → Qd H) : LoopC J g tt te vs σ H1 D Qd := lc_it w Pv h0 hG hs hd
/-! ### heaps that grow -/
theorem ne_new {H : Hp} {a p : Addr} {o : HO} (h : H a = some o) (hp : H p = none) : a ≠ p := ne_of_none h hp
end My

set_option Elab.async false
set_option linter.all false
set_option maxRecDepth 100000
set_option maxHeartbeats 4000000
/-! own library, part 5: an own error class E(OwedError) with  def __init__(self, f): super().__init__('..'); self.f = f -/
namespace PySem
namespace OwX
open PySem.W PySem.Calls PyProof.Rows PySem.HandSPX
def iB (msg fl : Str) (j : Nat) (p0 p1 p2 p3 p4 p5 q1 q2 q3 q4 : Pos) : List Stmt :=
  [.Expr (.Call (.Attribute (.Call (.Name "super" p0) [] [] p1) "__init__" p2) [.Constant (.str msg) j p3] [] p4) p5, .Assign [.Attribute (.Name "self" q1) fl q2] (.Name fl q3) q4]
/-- what the written part says of the class at C, of its __init__ at fI (its cell at cc, its code at cda) -/
structure OwTxt (prog : Program) (K : Frag) (mg : Str → Option Value) (C fI cc cda : Addr) (cn fl : Str) : Prop where
  gC : mg cn = some (.ref C)
  cls : ∃ nm q N bs bm sn sub ab col dd k0 k1 k2 k3 k5, K.lookup C = some (excClassObj nm q C N bs bm true sn sub ab col dd k0 k1 k2 k3 k5 "ValueError.__new__") ∧ refsVE bm = true
  sa : findIn K (.ref C) "__setattr__" = some (some (.builtin "object.__setattr__"))
  ga : findIn K (.ref C) "__getattribute__" = some (some (.builtin "BaseException.__getattribute__"))
  gg : findIn K (.ref C) "__getattr__" = some none
  noN : findIn K (.ref C) fl = some none
  iC : findIn K (.ref C) "__init__" = some (some (.ref fI))
  tC : typeIn K (.ref fI) = some (.type "function")
  kC : keepIn K (.ref C) = true
  exC : subIn K (.ref C) (.type "BaseException") = some true
  tyC : typeIn K (.ref C) = some (.type "type")
  hdC : hasDictIn K C = true
  self : mroIn K C (.ref C) = some true
  ve : subIn K (.ref C) (.type "ValueError") = some true
  sup : ks_superIn K C C "__init__" = some (some (.builtin "ValueError.__init__"))
  opq : nsIn K cStatics "thirdparty.any" = some none
  nsup : nsIn K mainGlobals "super" = some none
  cell : ∃ cl cld csl, K.lookup cc = some ⟨cl, cld, .cell (some (.ref C)), csl⟩
  code : ∃ ccl cdd vs ccs file tf, K.lookup cda = some ⟨ccl, cdd, .fields vs, ccs⟩ ∧ vs[2]? = some (.str file tf) ∧ ((prog.main.file : Str) == file) = true
  top : (prog.main.scope.names.lookup ("super" : Str)).isSome = false
  fn : ∃ (qual : Str) (params : Arguments) (body : List Stmt) (scope : Scope) (oc : Value) (od : Option Addr) (doc pm : Value) (an : Option Addr) (ct : Value) (osl : Array (Option Value)) (ar : Arg),
    K.lookup fI = some ⟨oc, od, .func (ksFn "__init__" qual params body scope .none .none doc pm an (.ref cda) ct cc), osl⟩ ∧ codeIn K (.ref cda) qual = true ∧ (params.posonlyargs ++ params.args).head? = some ar ∧ ar.arg = "self" ∧
    (∀ a b : Value, bindArgs (ksFn "__init__" qual params body scope .none .none doc pm an (.ref cda) ct cc) ⟨[a, b], []⟩ = pure [(("self" : Str), a), (fl, b)]) ∧
    (∃ msg j p0 p1 p2 p3 p4 p5 q1 q2 q3 q4, body = iB msg fl j p0 p1 p2 p3 p4 p5 q1 q2 q3 q4 ∧ (∃ pl : Env → Sem Bool, ∀ env : Env, eval (.Call (.Attribute (.Call (.Name "super" p0) [] [] p1) "__init__" p2) [.Constant (.str msg) j p3] [] p4) env = (do
        let ov ← attributeBase (.Call (.Name "super" p0) [] [] p1) "__init__" env (eval (.Call (.Name "super" p0) [] [] p1) env)
        standAt p2.atName
        let (f, first) ← holding [ov] (getMethod ov "__init__" (pl env))
        callWith p4 f first (backTo p4 (starEach [.Constant (.str msg) j p3] env)) [])) ∧
      (∀ env : Env, swapsWith (.Call (.Attribute (.Call (.Name "super" p0) [] [] p1) "__init__" p2) [.Constant (.str msg) j p3] [] p4) none p5.line env = pure false) ∧ (∀ env : Env, swapsWith (.Name fl q3) (some (.Attribute (.Name "self" q1) fl q2)) q4.line env = pure false)) ∧
    scope.kind = .function ∧ scope.isCoroutine = false ∧ scope.isGenerator = false ∧ (∀ y ∈ scope.names, y.2 ≠ .cell) ∧ scope.names.lookup ("self" : Str) = some .local ∧ scope.names.lookup fl = some .local ∧
    scope.names.lookup ("super" : Str) = some .globalImplicit ∧ scope.names.lookup ("__class__" : Str) = some .free ∧ ¬ fl = "self" ∧ (fl == ("__debug__" : Str)) = false
/-- what __init__ leaves of a fresh exception at x -/
structure InitEnd (fl : Str) (h h' : Heap) (x C dx t1 : Addr) (v : Value) : Prop where
  keep : ∀ b o, b ≠ x → h.get? b = some o → h'.get? b = some o
  obj : h'.get? x = some { cls := .ref C, dict := some dx, data := .fields #[.ref t1, .none, .none, .none, .bool false, .none] }
  dbig : h.objs.size ≤ dx
  dne : dx ≠ x
  ns : h'.Ns1 dx (fun y => if y = fl then some v else none)
section
variable {prog : Program} {w : World} {A : Around} {E : Value → Shared → Prop} {R : Result → Shared → Prop} {s : Shared} {K : Frag} {mg : Str → Option Value} {C fI cc cda : Addr} {cn fl : Str}
theorem ow_init (T : OwTxt prog K mg C fI cc cda cn fl) {x t0 : Addr} {v : Value} (X : K.In s.heap) (hg : s.heap.Ns mainGlobals mg) (hbl : ∃ mb, s.heap.Ns builtinsNs mb ∧ ∀ y : Str, y ≠ "__name__" → mb y = bootBuiltins y) (hlim : s.heap.NoLimit)
    (hx : s.heap.get? x = some (excO C t0)) (nKx : K.lookup x = none) (hroom : A.depth < recursionLimit)
    (hq : ∀ h' tk dx t1, InitEnd fl s.heap h' x C dx t1 v → R (.ok (.ret .none)) { s with heap := h', toks := tk }) :
    codeAny (model prog w) A (.call (.ref fI) ⟨[.ref x, v], []⟩) R s := by
  obtain ⟨qual, params, body, scope, oc, od, doc, pm, an, ct, osl, ar, hfn, hcd, hhd, har, hbi, ⟨msg, j, p0, p1, p2, p3, p4, p5, q1, q2, q3, q4, rfl, ⟨pl, hev⟩, hsw1, hsw2⟩, hk, hco, hgen, hce, ks, kf, ksu, kcl, nfs, ndb⟩ := T.fn
  obtain ⟨cl, cld, csl, hcell⟩ := T.cell
  obtain ⟨ccl, cdd, vs, ccs, file, tf, hcode, hvs, hfile⟩ := T.code
  obtain ⟨nm, q, N, bs, bm, sn, sub, ab, col, dd, k0, k1, k2, k3, k5, hC, hbm⟩ := T.cls
  obtain ⟨mb, hb, hbb⟩ := hbl
  have hcl : clsIn K C = some { name := nm, bases := bs, mro := .ref C :: bm, ns := N, qualname := q, hasDict := true, slotNames := sn, subclasses := sub, abstract := ab, collection := col, hasDel := false } := by unfold clsIn; rw [hC] <;> rfl
  refine ks_codeAny_call_defAt (binds := [("self", .ref x), (fl, v)]) hroom (X _ _ hfn) rfl hlim (codeRec_of X hcd) rfl (BindsTo.of_eq (hbi _ _)) hce ?_ (fun h1 hns hk1 => ?_) hco hgen hk
  · intro y hy
    rcases List.mem_cons.mp hy with rfl | hy
    · exact ks
    · rcases List.mem_cons.mp hy with rfl | hy
      · exact kf
      · cases hy
  have X1 : K.In h1 := X.keeps hk1
  have hg1 := hg.keeps hk1
  have hb1 := hb.keeps hk1
  have hx1 := hk1 _ _ hx
  have hself : (([("self", Value.ref x), (fl, v)] : List (Str × Value)).reverse.lookup ("self" : Str)) = some (.ref x) := by
    have e : (("self" : Str) == fl) = false := by simpa using fun z => nfs z.symm
    simp [List.lookup, e]
  have hfld : (([("self", Value.ref x), (fl, v)] : List (Str × Value)).reverse.lookup fl) = some v := by simp [List.lookup]
  have hkM : (scope.kind == ScopeKind.module) = false := by rw [hk]; rfl
  refine ks_wpAt_execs_cons (ks_wpAt_Expr_any (ks_wpAt_MethodCall (pl := pl _) ?_ (hev _)) (by show (scope.kind == ScopeKind.module && scope.more.any fun (n, _) => n == ("interactive" : Str)) = false; rw [hkM]; rfl) (hsw1 _))
  refine ks_wpAt_super_base ksu kcl (by decide) rfl (X1 _ _ hfn) rfl hhd rfl (X1 _ _ hcode) rfl hvs hfile T.top ?_
  refine ks_loadName_global hk ksu (loadGlobal_builtin hg1 (mg_none_of X hg T.nsup) hb1 ((hbb _ (by decide +kernel)).trans (by decide +kernel : bootBuiltins "super" = some (.type "super"))) ⟨rfl, ?_⟩)
  refine wpAny_loadName_free hk kcl rfl ⟨_, X1 _ _ hcell, rfl⟩ ?_
  rw [har]
  refine wpAny_loadName_local hk ks hns hself ?_
  obtain ⟨oD, hD1, hD2⟩ : ∃ oD, h1.get? C = some oD ∧ oD.data = .cls _ := ⟨_, X1 _ _ hC, rfl⟩
  refine ks_wpAny_isType_cls hD1 hD2 ⟨rfl, ?_⟩
  refine ks_wpAny_call_super hD1 hD2 hx1 rfl (fun c e => by cases e) (looks_mroIn X1 T.self) (fun h2 hso k2 => ?_)
  have X2 : K.In h2 := X1.keeps k2
  have hx2 := k2 _ _ hx1
  have J2 : InstAt h2 x (excO C t0) C none := ⟨hx2, rfl, rfl, trivial⟩
  refine kxs_getMethod kxs_ValueError (l₀ := .ref C :: bm) hso (looks_opaque X2 T.opq) ?_ rfl X2 ?_ (J2.type.andThen (looks_subIn X2 T.ve)) (ks_ne X2 J2 hcl) (by decide) ?_
  · exact fun A Q E s k q => wpAny_bind ((looks_clsIn X2 hcl) A _ E s k (wpAny_pure q))
  · have z := T.sup
    unfold ks_superIn at z
    rw [hcl] at z
    exact z
  have k3 : ∀ b o, h2.get? b = some o → (h2.push (kxs_mw "ValueError.__init__" x)).get? b = some o := fun b o e => Heap.get?_push_of_some _ e
  have hu3 : (h2.push (kxs_mw "ValueError.__init__" x)).get? h2.objs.size = some (kxs_mw "ValueError.__init__" x) := Heap.get?_push_at rfl rfl
  have hx3 := k3 _ _ hx2
  have hC3 := X2.keeps k3 _ _ hC
  refine kxs_callWith (i := "ValueError.__init__") (x := x) rfl (evalArgs_plain ?_)
  refine Calls.spliced_cons (Calls.Constant_str (k := j) (pos := p3) (Calls.spliced_nil ⟨hu3, ?_⟩))
  refine wpAny_call (codeAny_of_tree ?_)
  show wpAny _ _ (callAny (.ref h2.objs.size) _) _ _ _
  simp only [callAny]
  refine wpAny_bind (wpAny_load hu3 ?_)
  simp only [kxs_mw, show (Value.type "method-wrapper" == Value.type "method" || Value.type "method-wrapper" == Value.type "builtin_function_or_method" || Value.type "method-wrapper" == Value.type "method-wrapper") = true by decide, if_true]
  refine KFB.if_so (by decide) ?_
  refine wpAny_bind (check_bound_init F.excBase_ValueError.toExcCallFacts hC3 hx3 rfl ?_)
  refine wpAny_bind (wpAny_pure (wpAny_pure ?_))
  refine ⟨plainId_quiet F.excBase_ValueError.init.plain _, codeAny_builtin F.excBase_ValueError.initEntry ?_⟩
  refine exc_init_tree (cls := .ref C) (t0 := t0) (dv := none) (c2 := .none) (c3 := .none) (b4 := .bool false) hx3 (by show 1 ≤ sizeLine; decide) (fun h4 k4 hx4 ht4 => ?_)
  have hLx : s.heap.objs.size ≠ x := Nat.ne_of_gt (Heap.lt_size hx)
  have k14 : ∀ b o, b ≠ x → h1.get? b = some o → h4.get? b = some o := fun b o hb e => k4 b o hb (k3 b o (k2 b o e))
  have hns4 : h4.Ns s.heap.objs.size (fun y => ([("self", Value.ref x), (fl, v)] : List (Str × Value)).reverse.lookup y) := by
    obtain ⟨oL, es, ep, hL, r⟩ := hns
    exact ⟨oL, es, ep, k14 _ _ hLx hL, r⟩
  have X4 : K.In h4 := fun a o e => k14 a o (fun z => by rw [z, nKx] at e; cases e) (X1 a o e)
  refine wpAt_of_wpAny (wpAny_execs_cons (plainObj_wpAny_Assign_Attribute ?_ (hsw2 _)))
  refine wpAny_Name (wpAny_loadName_local hk kf hns4 hfld ?_) ndb
  refine wpAny_Name (wpAny_loadName_local hk ks hns4 hself ?_) (by decide)
  refine set_plain X4 (ox := excO C _) (od := none) ⟨hx4, rfl, rfl, trivial⟩ T.sa ?_
  refine exc_osa X4 hx4 hcl (show refsVE (.ref C :: bm) = true from hbm) rfl T.noN (fun h5 tk5 dx k5 dn dne hx5 hn5 => ?_)
  refine wpAny_execs_nil (hq h5 tk5 dx _ ⟨fun b o hb e => k5 b o hb (k14 b o hb (hk1 b o e)), hx5, Nat.le_of_lt (Nat.lt_of_lt_of_le hns4.lt dn), dne, hn5⟩)
/-- a made error -/
structure OwnMade (fl : Str) (h h' : Heap) (e C d : Addr) (v : Value) : Prop where
  keep : ∀ b o, h.get? b = some o → h'.get? b = some o
  new : h.objs.size ≤ e
  obj : ∃ oe vs, h'.get? e = some oe ∧ oe.cls = .ref C ∧ oe.dict = some d ∧ oe.data = .fields vs ∧ vs[1]? = some .none
  dbig : h.objs.size ≤ d
  dne : d ≠ e
  ns : h'.Ns1 d (fun y => if y = fl then some v else none)
theorem ow_made (T : OwTxt prog K mg C fI cc cda cn fl) {v : Value} (X : K.In s.heap) (hg : s.heap.Ns mainGlobals mg) (hbl : ∃ mb, s.heap.Ns builtinsNs mb ∧ ∀ y : Str, y ≠ "__name__" → mb y = bootBuiltins y) (hlim : s.heap.NoLimit) (hroom : A.depth + 1 < recursionLimit)
    (hq : ∀ h' tk e d, OwnMade fl s.heap h' e C d v → R (.ok (.ret (.ref e))) { s with heap := h', toks := tk }) :
    codeAny (model prog w) A (.call (.ref C) ⟨[v], []⟩) R s := by
  obtain ⟨nm, q, N, bs, bm, sn, sub, ab, col, dd, k0, k1, k2, k3, k5, hC, hbm⟩ := T.cls
  obtain ⟨hp, g, dr, tk, os⟩ := s
  have k : ∀ b o, hp.get? b = some o → ((hp.push (kdv_tup [v])).push (excO C hp.objs.size)).get? b = some o := fun b o e => Heap.get?_push_of_some _ (Heap.get?_push_of_some _ e)
  have hget : ((hp.push (kdv_tup [v])).push (excO C hp.objs.size)).get? (hp.objs.size + 1) = some (excO C hp.objs.size) := by heap_get
  have hnx : K.lookup (hp.objs.size + 1) = none := by
    cases e : K.lookup (hp.objs.size + 1) with
    | none => rfl
    | some o =>
      have z : hp.get? (hp.objs.size + 1) = some o := X _ _ e
      exact absurd (Nat.lt_of_succ_lt (Heap.lt_size z)) (Nat.lt_irrefl _)
  refine call_own F.excBase_ValueError (fun X => refsVE_contains X bm hbm) (X _ _ hC) (looks_findIn X T.iC) (fun self => bind_fn X self T.tC) (show 1 ≤ sizeLine by decide) ?_
  refine ow_init (s := ⟨(hp.push (kdv_tup [v])).push (excO C hp.objs.size), g, dr, tk, os⟩) T (X.keeps k) (hg.keeps k) ?_ (hlim.keeps k) hget hnx ?_ fun h' tk' dx t1 ⟨k', hx, dn, dne, hns⟩ => ?_
  · obtain ⟨mb, h1, h2⟩ := hbl
    exact ⟨mb, h1.keeps k, h2⟩
  · show A.depth + 1 < recursionLimit
    exact hroom
  · have old : ∀ b o, hp.get? b = some o → h'.get? b = some o := fun b o e => k' b o (Nat.ne_of_lt (Nat.lt_succ_of_lt (Heap.lt_size e))) (k b o e)
    have z : hp.objs.size + 1 + 1 ≤ dx := by
      first
        | (simpa only [Heap.size_push] using dn)
        | exact dn
        | (have q := dn; rw [Heap.size_push, Heap.size_push] at q; exact q)
    exact ⟨rfl, hq h' tk' (hp.objs.size + 1) dx ⟨old, Nat.le_succ _, ⟨_, _, hx, rfl, rfl, rfl, rfl⟩, Nat.le_trans (Nat.le_trans (Nat.le_succ _) (Nat.le_succ _)) z, dne, hns⟩⟩
end
end OwX
end PySem
namespace My
open PySem PySem.Spec PyProof.Rows L2
theorem relO_one {fl : Str} {v : V} {v' : Value} (r : RelV v v') (f : Str) : RelO (List.lookup f [(fl, v)]) (if f = fl then some v' else none) := by
  by_cases hw : f = fl
  · subst hw
    rw [if_pos rfl]
    have q : List.lookup f [(f, v)] = some v := by simp [List.lookup]
    rw [q]
    exact r
  · rw [if_neg hw]
    have qw : (f == fl) = false := by simpa using hw
    have q2 : List.lookup f [(fl, v)] = none := by simp [List.lookup, qw]
    rw [q2]
    trivial
section
variable {X : Cx} {C fI cc cda : Addr} {cn fl : Str}
/-- E(e) -/
def tMkOw (C : Addr) (fl : Str) (ta : TA) : L2.St → Hp → XK → Prop := fun σ H Q => ta σ H fun vs H1 => ∃ v, vs = [v] ∧ ∀ d, H1 d = none → Q (.ref C) (some d) (upd H1 d (.xd [(fl, v)]))
theorem pmk_ow {a : Expr} {ta : TA} {p pos : Pos} {k : Nat} (T : PySem.OwX.OwTxt X.prog X.K X.mg C fI cc cda cn fl) (hr : Room k X.A) (ha : PA X [a] ta) (hg : Gl X cn) (hdb : (cn == ("__debug__" : Str)) = false := by decide)
    (he : starEach (a :: []) X.env = (false, eval a X.env) :: starEach [] X.env := by rfl) (hpl : (backTo pos (starEach [] X.env)).any (·.1) = false := by rfl) :
    PMk X (.Call (.Name cn p) [a] [] pos) (tMkOw C fl ta) := by
  intro pins s σ H Q I h
  refine wpAny_Call_Name_kw (ld_glob I hg T.gC ?_ hdb)
  refine PySem.W.callWith_K (h₀ := X.base) I.ok.mod.kin T.kC (thn (ha.run pos pins s σ H _ I h) fun us s1 hh => ?_) he hpl
  obtain ⟨vs, H1, I1, r1, v, ev, q1⟩ := hh
  subst ev
  refine ⟨I1.kIn, ?_⟩
  cases r1 with
  | cons rv rn =>
    rename_i v' us'
    cases rn
    show wpAny _ _ (call (.ref C) [v']) _ _ _
    have hlim := I1.nolimit
    have hgl := I1.ok.mod.glob.keeps I1.bk
    have hbl : ∃ mb, s1.heap.Ns builtinsNs mb ∧ ∀ y : Str, y ≠ "__name__" → mb y = bootBuiltins y := by
      obtain ⟨mb, z1, z2⟩ := I1.ok.mod.blt
      exact ⟨mb, z1.keeps I1.bk, z2⟩
    obtain ⟨hp, g, dr, tk, os⟩ := s1
    refine wpAny_call (PySem.OwX.ow_made T I1.kIn hgl hbl hlim (by have := hr.dp; omega) fun h' tk' e d M => ?_)
    show MkP X pins σ Q (.ref e) ⟨h', g, dr, tk', os⟩
    obtain ⟨oe, fv, hoe, hc, hd, hdat, h1⟩ := M.obj
    have hns := M.ns
    obtain ⟨G', g1, g2⟩ := restrict h' fun b => decide (b ≠ e)
    have gk : ∀ b, b ≠ e → G'.get? b = h'.get? b := fun b hb => g1 b (decide_eq_true hb)
    have ge : G'.get? e = none := g2 e (by simp)
    have old : ∀ b o, hp.get? b = some o → G'.get? b = some o := fun b o q => (gk b (Nat.ne_of_lt (Nat.lt_of_lt_of_le (Heap.lt_size q) M.new))).trans (M.keep b o q)
    have ob : ObjOk X.prog X.w (upd H1 d (.xd [(fl, v)])) G' d (.xd [(fl, v)]) := ⟨_, hns.at (fun o q => (gk d M.dne).trans q), fun f => relO_one rv f⟩
    have J : Inv X pins σ (upd H1 d (.xd [(fl, v)])) ⟨G', g, dr, tk', os⟩ := I1.laid (t' := tk') old M.dbig ob
    refine ⟨e, oe, fv, ⟨G', g, dr, tk', os⟩, _, .ref C, some d, rfl, J, fun b o q => ?_, ge, hoe, ⟨hc, hd⟩, hdat, h1, ?_, rfl, I1.bare, raises_own T.exC T.tyC, q1 d (I1.hok.fresh M.dbig)⟩
    · by_cases hb : b = e
      · have q' : G'.get? b = some o := q
        rw [hb, ge] at q'; cases q'
      · exact (gk b hb).symm.trans q
    · rw [upd_ne (Ne.symm M.dne)]
      exact I1.hok.fresh M.new
/-- raise E(e) -/
def tRaiseOw (C : Addr) (fl : Str) (W : WX) (ta : TA) : TS := fun _ σ H => tMkOw C fl ta σ H fun cls d H' => W cls d σ H'
theorem ps_raiseOw {a : Expr} {ta : TA} {W : WX} {p pos pos2 : Pos} {k : Nat} (hc : X.calm = true) (T : PySem.OwX.OwTxt X.prog X.K X.mg C fI cc cda cn fl) (hr : Room k X.A) (tk : Takes X W) (ha : PA X [a] ta) (hg : Gl X cn) (hdb : (cn == ("__debug__" : Str)) = false := by decide)
    (he : starEach (a :: []) X.env = (false, eval a X.env) :: starEach [] X.env := by rfl) (hpl : (backTo pos (starEach [] X.env)).any (·.1) = false := by rfl) :
    PS X (.Raise (some (.Call (.Name cn p) [a] [] pos)) none pos2) (tRaiseOw C fl W ta) := ps_raise hc tk (pmk_ow T hr ha hg hdb he hpl)
/-- e.f, e the exception that the suite holds (at a; its class cls, its dict d) -/
def tFldOw (C : Addr) (fl : Str) (a : Addr) (cls : Value) (d : Option Addr) (te : TE) : TE := fun σ H Q => te σ H fun x H1 => x = .ref a ∧ cls = .ref C ∧ ∃ (dd : Addr) (v : V), d = some dd ∧ H1 dd = some (.xd [(fl, v)]) ∧ Q v H1
theorem pe_fldOw {a : Addr} {oe : Obj} {cls : Value} {d : Option Addr} {pn : List (Addr × Obj)} {e : Expr} {te : TE} {pos : Pos} (T : PySem.OwX.OwTxt X.prog X.K X.mg C fI cc cda cn fl) (hz : Zc cls d oe) (hf : ∃ vs, oe.data = .fields vs) (he : PE (X.suite a ((a, oe) :: pn)) e te)
    (hb : attributeBase e fl X.env (eval e X.env) = eval e X.env) :
    PE (X.suite a ((a, oe) :: pn)) (.Attribute e fl pos) (tFldOw C fl a cls d te) := by
  refine ⟨fun pins s σ H Q I h => ?_⟩
  refine attr_of hb (thn (he.run pins s σ H _ I h) fun u s1 hh => ?_)
  obtain ⟨x, H1, I1, rx, ex, ec, dd, v, ed, ea, q⟩ := hh
  subst ex
  obtain rfl : u = Value.ref a := rx
  subst ec
  subst ed
  obtain ⟨ha, _⟩ := I1.pin (a, oe) (List.mem_append_left _ List.mem_cons_self)
  obtain ⟨vs, hd⟩ := hf
  have hx : ObjOk X.prog X.w H1 s1.heap dd (.xd [(fl, v)]) := I1.hok dd _ ea
  obtain ⟨mA, hns, hr⟩ := hx
  obtain ⟨od, ho, hl⟩ := lookIn_ns hns
  have l : List.lookup fl [(fl, v)] = some v := by simp [List.lookup]
  obtain ⟨u, hu, ru⟩ := RelO.some_of (v := v) (o := mA fl) (by rw [← l]; exact hr fl)
  have J : PySem.W.InstAt s1.heap a oe C (some od) := ⟨ha, hz.1, by unfold PySem.W.notCls; rw [hd] <;> rfl, by rw [hz.2]; exact ho⟩
  exact HandSPX.exc_get I1.kIn J T.ga T.gg T.exC (PySem.W.findObj_own T.hdC T.noN rfl (by rw [hl, hu])) (handed_of ru) ⟨v, H1, I1.tok _, ru, q⟩
end
end My

set_option Elab.async false
set_option linter.all false
set_option maxRecDepth 100000
set_option maxHeartbeats 4000000
/-! own library, part 6: the head with own errors; calls that may raise; try with several clauses -/
namespace My
open PySem PySem.Spec PyProof.Rows L2
/-! ### the hook, with __init__ of own errors (their closure is the cell of the class) -/
/-- an own error: class, field, the def -/
structure DefX where
  cls : Str
  fld : Str
  qual : Str
  params : Arguments
  body : List Stmt
  scope : Scope
def fnXo (K : PySem.W.Frag) (a : Addr) : He.FnW := match K.lookup a with
  | some ⟨_, _, .func fd, _⟩ => some (fd.name, fd.qualname, fd.params, fd.body, fd.scope, fd.globals, [], fd.builtins)
  | _ => none
def DefX.val (d : DefX) : He.FnW := some ("__init__", d.qual, d.params, .stmts d.body, d.scope, mainGlobals, [], builtinsNs)
def exI (cn : Str) (K : PySem.W.Frag) : Addr := He.ma K (He.ga K cn) "__init__"
def exC (cn : Str) (K : PySem.W.Frag) : Addr := match K.lookup (exI cn K) with
  | some ⟨_, _, .func fd, _⟩ => (match fd.closure with
    | [(_, c)] => c
    | _ => 0)
  | _ => 0
def exD (cn : Str) (K : PySem.W.Frag) : Addr := match K.lookup (exI cn K) with
  | some ⟨_, _, .func fd, _⟩ => (match fd.code with
    | .ref c => c
    | _ => 0)
  | _ => 0
def isNo : Value → Bool
  | .none => true
  | _ => false
def clsB (K : PySem.W.Frag) (C : Addr) : Bool := match K.lookup C with
  | some ⟨.type t, _, .cls ⟨_, _, .ref c :: bm, _, _, true, _, _, _, _, false⟩, ⟨[_, _, _, _, some (.builtin b), _]⟩⟩ => t == "type" && (decide (c = C) && (PySem.HandSPX.refsVE bm && b == "ValueError.__new__"))
  | _ => false
def fnB (K : PySem.W.Frag) (cn q : Str) : Bool := match K.lookup (exI cn K) with
  | some ⟨_, _, .func fd, _⟩ => PySem.W.codeIn K fd.code q && (decide (fd.code = .ref (exD cn K)) && (decide (fd.closure = [(("__class__" : Str), exC cn K)]) && (isNo fd.defaults && isNo fd.kwdefaults)))
  | _ => false
def cellB (K : PySem.W.Frag) (cn : Str) : Bool := match K.lookup (exC cn K) with
  | some ⟨_, _, .cell (some v), _⟩ => decide (v = .ref (He.ga K cn))
  | _ => false
def codeB (file : Str) (K : PySem.W.Frag) (cn : Str) : Bool := match K.lookup (exD cn K) with
  | some ⟨_, _, .fields vs, _⟩ => (match (vs[2]? : Option Value) with
    | some (.str f _) => file == f
    | _ => false)
  | _ => false
/-- all that is asked of the error cn with field fl -/
def owL (file cn fl q : Str) (K : PySem.W.Frag) : List Bool := [
  He.eqO (PySem.W.nsIn K mainGlobals cn) (some (some (.ref (He.ga K cn)))),
  clsB K (He.ga K cn),
  He.eqO (PySem.W.findIn K (.ref (He.ga K cn)) "__setattr__") (some (some (.builtin "object.__setattr__"))),
  He.eqO (PySem.W.findIn K (.ref (He.ga K cn)) "__getattribute__") (some (some (.builtin "BaseException.__getattribute__"))),
  He.eqO (PySem.W.findIn K (.ref (He.ga K cn)) "__getattr__") (some none),
  He.eqO (PySem.W.findIn K (.ref (He.ga K cn)) fl) (some none),
  He.eqO (PySem.W.findIn K (.ref (He.ga K cn)) "__init__") (some (some (.ref (exI cn K)))),
  decide (PySem.W.typeIn K (.ref (exI cn K)) = some (.type "function")),
  PySem.W.keepIn K (.ref (He.ga K cn)),
  decide (PySem.W.subIn K (.ref (He.ga K cn)) (.type "BaseException") = some true),
  decide (PySem.W.typeIn K (.ref (He.ga K cn)) = some (.type "type")),
  PySem.W.hasDictIn K (He.ga K cn),
  decide (PySem.W.mroIn K (He.ga K cn) (.ref (He.ga K cn)) = some true),
  decide (PySem.W.subIn K (.ref (He.ga K cn)) (.type "ValueError") = some true),
  He.eqO (PySem.W.ks_superIn K (He.ga K cn) (He.ga K cn) "__init__") (some (some (.builtin "ValueError.__init__"))),
  He.eqO (PySem.W.nsIn K cStatics "thirdparty.any") (some none),
  He.eqO (PySem.W.nsIn K mainGlobals "super") (some none),
  cellB K cn,
  codeB file K cn,
  fnB K cn q]
def DefX.ok (file : Str) (K : PySem.W.Frag) (d : DefX) : Bool := (owL file d.cls d.fld d.qual K).all id
def obsX (file : Str) (fa : List FaB) (fn : List He5.DefA) (fx : List DefX) (K : PySem.W.Frag) : He.AlD :=
  ((fa.all fun f => f K) && (fn.all (fun d => d.ok K) && fx.all fun d => d.ok file K), fn.map (fun d => He5.fnA K (d.at_ K)) ++ fx.map fun d => fnXo K (exI d.cls K))
def valX (fn : List He5.DefA) (fx : List DefX) : He.AlD := (true, fn.map He5.DefA.val ++ fx.map DefX.val)
def SaysX (file : Str) (fa : List FaB) (fn : List He5.DefA) (fx : List DefX) (K : PySem.W.Frag) : Prop := obsX file fa fn fx K = valX fn fx
def obsXG (n : Nat) (file : Str) (fa : List FaB) (fn : List He5.DefA) (fx : List DefX) (g : Addr → Option Obj) : He.AlD := obsX file fa fn fx (He.frG g (He5.asA g n))
def hookX (n : Nat) (file : Str) (fa : List FaB) (fn : List He5.DefA) (fx : List DefX) : PySem.W.Hook where
  α := He.AlD
  obs := fun s => obsXG n file fa fn fx s.heap.get?
  val := fun _ => valX fn fx
  says := fun _ h => ∃ K : PySem.W.Frag, K.In h ∧ SaysX file fa fn fx K
  of := fun _ _ e => ⟨_, He.frG_in, e⟩
  keeps := fun _ _ _ ⟨K, hK, c⟩ k => ⟨K, PySem.W.Frag.In.keeps hK k, c⟩
theorem obsXG_eq {n : Nat} {file : Str} {fa : List FaB} {fn : List He5.DefA} {fx : List DefX} {g : Addr → Option Obj} {s : Shared} (h : ∀ a, g a = s.heap.get? a) : obsXG n file fa fn fx g = (hookX n file fa fn fx).obs s := by
  have e : g = s.heap.get? := funext h
  rw [e] <;> rfl
section
variable {file : Str} {fa : List FaB} {fn : List He5.DefA} {fx : List DefX} {K : PySem.W.Frag}
theorem SaysX.b (c : SaysX file fa fn fx K) : ((fa.all fun f => f K) && (fn.all (fun d => d.ok K) && fx.all fun d => d.ok file K)) = true := congrArg (fun z : He.AlD => z.1) c
theorem SaysX.fact (c : SaysX file fa fn fx K) (i : Nat) {f : FaB} (h : fa[i]? = some f := by rfl) : f K = true := List.all_eq_true.mp (He.ba c.b).1 f (List.mem_of_getElem? h)
theorem SaysX.fn_ (c : SaysX file fa fn fx K) : fn.map (fun d => He5.fnA K (d.at_ K)) = fn.map He5.DefA.val ∧ fx.map (fun d => fnXo K (exI d.cls K)) = fx.map DefX.val := by
  have e : fn.map (fun d => He5.fnA K (d.at_ K)) ++ fx.map (fun d => fnXo K (exI d.cls K)) = fn.map He5.DefA.val ++ fx.map DefX.val := congrArg (fun z : He.AlD => z.2) c
  exact List.append_inj e (by simp)
theorem SaysX.def_ (c : SaysX file fa fn fx K) (i : Nat) {d : He5.DefA} (h : fn[i]? = some d := by rfl) : ∃ fd, L2.FunD K d.name d.qual d.params d.body d.scope (d.dvs K) (d.kws K) (d.at_ K) fd := by
  have e2 : (fn.map fun d => He5.fnA K (d.at_ K))[i]? = (fn.map He5.DefA.val)[i]? := by rw [c.fn_.1]
  rw [List.getElem?_map, List.getElem?_map, h] at e2
  exact He5.DefA.funD (Option.some.inj e2) (List.all_eq_true.mp (He.ba (He.ba c.b).2).1 d (List.mem_of_getElem? h))
/-- what the text itself says of such an __init__ -/
structure OwSt (fl : Str) (qual : Str) (params : Arguments) (body : List Stmt) (scope : Scope) : Prop where
  ar : ∃ ar : Arg, (params.posonlyargs ++ params.args).head? = some ar ∧ ar.arg = "self"
  bind : ∀ (doc pm : Value) (an : Option Addr) (cda : Addr) (ct : Value) (cc : Addr) (a b : Value), bindArgs (PySem.W.ksFn "__init__" qual params body scope .none .none doc pm an (.ref cda) ct cc) ⟨[a, b], []⟩ = pure [(("self" : Str), a), (fl, b)]
  body : ∃ msg j p0 p1 p2 p3 p4 p5 q1 q2 q3 q4, body = PySem.OwX.iB msg fl j p0 p1 p2 p3 p4 p5 q1 q2 q3 q4 ∧ (∃ pl : Env → Sem Bool, ∀ env : Env, eval (.Call (.Attribute (.Call (.Name "super" p0) [] [] p1) "__init__" p2) [.Constant (.str msg) j p3] [] p4) env = (do
        let ov ← attributeBase (.Call (.Name "super" p0) [] [] p1) "__init__" env (eval (.Call (.Name "super" p0) [] [] p1) env)
        standAt p2.atName
        let (f, first) ← holding [ov] (getMethod ov "__init__" (pl env))
        callWith p4 f first (backTo p4 (starEach [.Constant (.str msg) j p3] env)) [])) ∧
      (∀ env : Env, swapsWith (.Call (.Attribute (.Call (.Name "super" p0) [] [] p1) "__init__" p2) [.Constant (.str msg) j p3] [] p4) none p5.line env = pure false) ∧ (∀ env : Env, swapsWith (.Name fl q3) (some (.Attribute (.Name "self" q1) fl q2)) q4.line env = pure false)
  sc : scope.kind = .function ∧ scope.isCoroutine = false ∧ scope.isGenerator = false ∧ (∀ y ∈ scope.names, y.2 ≠ .cell) ∧ scope.names.lookup ("self" : Str) = some .local ∧ scope.names.lookup fl = some .local ∧
    scope.names.lookup ("super" : Str) = some .globalImplicit ∧ scope.names.lookup ("__class__" : Str) = some .free ∧ ¬ fl = "self" ∧ (fl == ("__debug__" : Str)) = false
theorem isNo_ok {v : Value} (h : isNo v = true) : v = .none := by
  cases v with
  | none => rfl
  | _ => cases h
theorem clsB_ok {C : Addr} (h : clsB K C = true) : ∃ nm q N bs bm sn sub ab col dd k0 k1 k2 k3 k5, K.lookup C = some (excClassObj nm q C N bs bm true sn sub ab col dd k0 k1 k2 k3 k5 "ValueError.__new__") ∧ PySem.HandSPX.refsVE bm = true := by
  unfold clsB at h
  split at h
  · rename_i e
    obtain ⟨h1, h⟩ := He.ba h
    obtain ⟨h2, h⟩ := He.ba h
    obtain ⟨h3, h4⟩ := He.ba h
    obtain rfl := of_decide_eq_true h2
    obtain rfl := eq_of_beq h1
    obtain rfl := eq_of_beq h4
    exact ⟨_, _, _, _, _, _, _, _, _, _, _, _, _, _, _, e, h3⟩
  · cases h
theorem SaysX.ow {mg : Str → Option Value} {h : Heap} {P : Program} (c : SaysX file fa fn fx K) (X : K.In h) (G : h.Ns mainGlobals mg) (i : Nat) {d : DefX} (hi : fx[i]? = some d) (st : OwSt d.fld d.qual d.params d.body d.scope) (hfile : ((P.main.file : Str) == file) = true) (htop : (P.main.scope.names.lookup ("super" : Str)).isSome = false) :
    PySem.OwX.OwTxt P K mg (He.ga K d.cls) (exI d.cls K) (exC d.cls K) (exD d.cls K) d.cls d.fld := by
  have hf : fnXo K (exI d.cls K) = d.val := by
    have e2 : (fx.map fun d => fnXo K (exI d.cls K))[i]? = (fx.map DefX.val)[i]? := by rw [c.fn_.2]
    rw [List.getElem?_map, List.getElem?_map, hi] at e2
    exact Option.some.inj e2
  have hb : ∀ b ∈ owL file d.cls d.fld d.qual K, b = true := fun b hb => List.all_eq_true.mp (List.all_eq_true.mp (He.ba (He.ba c.b).2).2 d (List.mem_of_getElem? hi)) b hb
  unfold owL at hb
  simp only [List.forall_mem_cons] at hb
  obtain ⟨b1, b2, b3, b4, b5, b6, b7, b8, b9, b10, b11, b12, b13, b14, b15, b16, b17, b18, b19, b20, _⟩ := hb
  refine ⟨PySem.W.mg_of X G (He.eqO_ok b1), clsB_ok b2, He.eqO_ok b3, He.eqO_ok b4, He.eqO_ok b5, He.eqO_ok b6, He.eqO_ok b7, of_decide_eq_true b8, b9, of_decide_eq_true b10, of_decide_eq_true b11, b12, of_decide_eq_true b13, of_decide_eq_true b14, He.eqO_ok b15, He.eqO_ok b16, He.eqO_ok b17, ?_, ?_, htop, ?_⟩
  · unfold cellB at b18
    split at b18
    · rename_i e
      rw [of_decide_eq_true b18] at e
      exact ⟨_, _, _, e⟩
    · cases b18
  · unfold codeB at b19
    split at b19
    · rename_i e
      split at b19
      · rename_i e2
        obtain rfl := eq_of_beq b19
        exact ⟨_, _, _, _, _, _, e, e2, hfile⟩
      · cases b19
    · cases b19
  · unfold fnB at b20
    unfold fnXo at hf
    split at b20
    · rename_i oc od fd osl e
      rw [e] at hf
      obtain ⟨n1, n2, n3, n4, n5, n6, n7, n8, n9, n10, n11, n12, n13, n14, n15⟩ := fd
      obtain ⟨c1, b20⟩ := He.ba b20
      obtain ⟨c2, b20⟩ := He.ba b20
      obtain ⟨c3, b20⟩ := He.ba b20
      obtain ⟨c4, c5⟩ := He.ba b20
      have g2 : n13 = .ref (exD d.cls K) := of_decide_eq_true c2
      have g3 : n7 = [(("__class__" : Str), exC d.cls K)] := of_decide_eq_true c3
      have g4 : n8 = .none := isNo_ok c4
      have g5 : n9 = .none := isNo_ok c5
      have e2 : (some (n1, n2, n3, n4, n5, n6, ([] : List (Str × Addr)), n15) : He.FnW) = some (("__init__" : Str), d.qual, d.params, FuncBody.stmts d.body, d.scope, mainGlobals, [], builtinsNs) := hf
      simp only [Option.some.injEq, Prod.mk.injEq] at e2
      obtain ⟨h1, h2, h3, h4, h5, h6, -, h8⟩ := e2
      subst h1 h2 h3 h4 h5 h6 h8 g4 g5
      rw [g2, g3] at e
      obtain ⟨ar, a1, a2⟩ := st.ar
      refine ⟨_, _, _, _, _, _, _, _, _, _, _, ar, e, by rw [← g2]; exact c1, a1, a2, fun a b => st.bind _ _ _ _ _ _ a b, st.body, st.sc⟩
    · cases b20
end
end My

set_option Elab.async false
set_option linter.all false
set_option maxRecDepth 100000
set_option maxHeartbeats 4000000
/-! own library, part 7: calls that may raise, defs that may raise, try with several clauses (each with or without a name) -/
namespace My
open PySem PySem.Spec PyProof.Rows L2
/-! ### calls, the wish may look at the slots -/
section
variable {X : Cx} {CX : CXT} {k : Nat} {f C : Addr} {sp : Sp} {E : L2.St → XK} {x m : Str} {e o : Expr} {es : List Expr} {ta : TE} {t : TA} {p pos apos : Pos}
theorem run_fnX {pins : List (Addr × Obj)} {σ : L2.St} {H : Hp} {s : Shared} {Q : VK} {us : List Value} {vs : List V} (F : FnR X.prog X.w X.K X.mg X.base CX k f sp) (hr : Room k X.A) (hx : PassesAt CX X σ (E σ)) (I : Inv X pins σ H s) (r : Vals vs us) (h : sp vs H Q (E σ)) :
    codeAny (model X.prog X.w) X.A (.call (.ref f) ⟨us, []⟩) (fun r s' => match r with | .ok (.ret v) => EP X pins σ Q v s' | .ok _ => False | .error e => X.xe e s') s := by
  refine codeAny_mono (F X.A X.stack s H us vs Q (E σ) hr I.env0 r h) fun r s' hq => ?_
  cases r with
  | error e => exact hx pins H s e s' I hq
  | ok fl =>
    cases fl with
    | ret u => exact I.after hq
    | next => exact False.elim hq
    | brk => exact False.elim hq
    | cont => exact False.elim hq
def tCallX (sp : Sp) (E : L2.St → XK) (t : TA) : TE := fun σ H Q => t σ H fun vs H1 => sp vs H1 Q (E σ)
theorem pe_callX (F : FnR X.prog X.w X.K X.mg X.base CX k f sp) (hr : Room k X.A) (hg : Gl X x) (hm : X.mg x = some (.ref f)) (hk : PySem.W.keepIn X.K (.ref f) = true) (hx : ∀ σ, PassesAt CX X σ (E σ)) (ha : PA X (e :: es) t)
    (hdb : (x == ("__debug__" : Str)) = false := by decide) (he : starEach (e :: es) X.env = (false, eval e X.env) :: starEach es X.env := by rfl) (hpl : (backTo pos (starEach es X.env)).any (·.1) = false := by rfl) :
    PE X (.Call (.Name x p) (e :: es) [] pos) (tCallX sp E t) := by
  refine ⟨fun pins s σ H Q I h => ?_⟩
  refine wpAny_Call_Name_kw (ld_glob I hg hm ?_ hdb)
  refine PySem.W.callWith_K (h₀ := X.base) I.ok.mod.kin hk (thn (ha.run pos pins s σ H _ I h) fun us s1 ⟨vs, H1, I1, r, q⟩ => ⟨I1.kIn, ?_⟩) he hpl
  exact wpAny_call (run_fnX F hr (hx σ) I1 r q)
theorem pe_callX0 (F : FnR X.prog X.w X.K X.mg X.base CX k f sp) (hr : Room k X.A) (hg : Gl X x) (hm : X.mg x = some (.ref f)) (hk : PySem.W.keepIn X.K (.ref f) = true) (hx : ∀ σ, PassesAt CX X σ (E σ))
    (hdb : (x == ("__debug__" : Str)) = false := by decide) : PE X (.Call (.Name x p) [] [] pos) (tCallX sp E tNil) := by
  refine ⟨fun pins s σ H Q I h => ?_⟩
  refine wpAny_Call_Name_kw (ld_glob I hg hm ?_ hdb)
  exact PySem.W.callWith_K0 I.kIn hk (wpAny_call (run_fnX (us := []) F hr (hx σ) I .nil h))
/-- o.m(e, ..) -/
def tMethX (C : Addr) (m : Str) (sp : Sp) (E : L2.St → XK) (ta : TE) (t : TA) : TE := fun σ H Q => ta σ H fun x H1 => ∃ a dx fs, x = .ref a ∧ H1 a = some (.ins C dx fs) ∧ fs.lookup m = none ∧ t σ H1 fun vs H2 => sp (x :: vs) H2 Q (E σ)
theorem pe_methX {pl : Sem Bool} (he : PE X o ta) (c : Cls X.K C) (hm : Meth X.K C m f) (F : FnR X.prog X.w X.K X.mg X.base CX k f sp) (hr : Room k X.A) (hx : ∀ σ, PassesAt CX X σ (E σ)) (ha : PA X (e :: es) t)
    (hst : starEach (e :: es) X.env = (false, eval e X.env) :: starEach es X.env := by rfl) (hpl : (backTo pos (starEach es X.env)).any (·.1) = false := by rfl)
    (ht : eval (.Call (.Attribute o m apos) (e :: es) [] pos) X.env = (do
      let ov ← eval o X.env
      standAt apos.atName
      let (f, first) ← holding [ov] (getMethod ov m pl)
      callWith pos f first (backTo pos (starEach (e :: es) X.env)) (backToKw pos (keywordEach [] X.env))) := by rfl) :
    PE X (.Call (.Attribute o m apos) (e :: es) [] pos) (tMethX C m sp E ta t) := by
  refine ⟨fun pins s σ H Q I h => ?_⟩
  refine PySem.W.methodCall_KW (pl := pl) (thn (he.run pins s σ H _ I h) fun u s1 ⟨x, H1, I1, rx, a, dx, fs, ex, ea, l, q⟩ => ?_) ht
  subst ex
  obtain rfl : u = Value.ref a := rx
  refine getmeth_ok I1 ea c hm l ?_
  refine PySem.W.callWith_K (first := [.ref a]) (h₀ := X.base) I.ok.mod.kin hm.kp (thn (ha.run pos pins s1 σ H1 _ I1 q) fun us s2 ⟨vs, H2, I2, r, q2⟩ => ⟨I2.kIn, ?_⟩) hst hpl
  exact wpAny_call (run_fnX (us := .ref a :: us) (vs := .ref a :: vs) F hr (hx σ) I2 (.cons rfl r) q2)
theorem pe_methX0 {pl : Sem Bool} (he : PE X o ta) (c : Cls X.K C) (hm : Meth X.K C m f) (F : FnR X.prog X.w X.K X.mg X.base CX k f sp) (hr : Room k X.A) (hx : ∀ σ, PassesAt CX X σ (E σ))
    (ht : eval (.Call (.Attribute o m apos) [] [] pos) X.env = (do
      let ov ← eval o X.env
      standAt apos.atName
      let (f, first) ← holding [ov] (getMethod ov m pl)
      callWith pos f first (backTo pos (starEach [] X.env)) (backToKw pos (keywordEach [] X.env))) := by rfl) :
    PE X (.Call (.Attribute o m apos) [] [] pos) (tMethX C m sp E ta tNil) := by
  refine ⟨fun pins s σ H Q I h => ?_⟩
  refine PySem.W.methodCall_KW (pl := pl) (thn (he.run pins s σ H _ I h) fun u s1 ⟨x, H1, I1, rx, a, dx, fs, ex, ea, l, q⟩ => ?_) ht
  subst ex
  obtain rfl : u = Value.ref a := rx
  refine getmeth_ok I1 ea c hm l ?_
  exact PySem.W.callWith_K0 (first := [.ref a]) I1.kIn hm.kp (wpAny_call (run_fnX (us := [.ref a]) (vs := [.ref a]) F hr (hx σ) I1 (.cons rfl .nil) q))
end
/-! ### defs that may raise -/
section
variable {P : Program} {w : World} {K : PySem.W.Frag} {mg : Str → Option Value} {base : Heap} {x qual : Str} {params : Arguments} {body : List Stmt} {scope : Scope} {dvs : List V} {kws : List (Str × V)} {f : Addr} {fd : FuncData}
theorem FunD.RX {N ps : List Str} {k : Nat} {sp : Sp} (F : FunD K x qual params body scope [] kws f fd) (S : FnScope N ps scope) (len : ∀ vs H Q E, sp vs H Q E → vs.length = ps.length)
    (hb : ∀ (kV doc pm : Value) (an : Option Addr) (cdv ct : Value) (us : List Value), us.length = ps.length → bindArgs (PySem.W.fnOf x qual params body scope .none kV doc pm an cdv ct) ⟨us, []⟩ = pure (ps.zip us))
    (hbody : ∀ (cdv : Value) (A : Around) (outer : List Env) (s : Shared) (H : Hp) (vs : List V) (Q : VK) (E : XK), Room k (A.deeper (envOfC qual scope s.heap.objs.size f cdv)) → sp vs H Q E →
      ∃ t, PSs (cxOf (L2.CX P w) P w K mg base N qual scope f cdv A outer s H E) body t ∧ t { nx := fun _ H' => Q .non H', rt := Q } (start N vs) H) : FnR P w K mg base (L2.CX P w) (k + 1) f sp := by
  have G : FnOk P w K mg base (L2.CX P w) (k + 1) f fd ps sp := FunD.ok F S len hbody
  refine (FnOk.raw G (FunD.bindsN F hb) .nil).imp fun vs H Q E h => ?_
  rw [List.append_nil]
  exact h
theorem FunD.RdX {N ps : List Str} {k : Nat} {sp : Sp} (n j : Nat) (F : FunD K x qual params body scope dvs kws f fd) (S : FnScope N ps scope) (len : ∀ vs H Q E, sp vs H Q E → vs.length = ps.length) (hd : dvs ≠ []) (hn : n + (dvs.length - j) = ps.length)
    (hb : ∀ (T : Addr) (kV doc pm : Value) (an : Option Addr) (cdv ct : Value) (us its : List Value), us.length = n → its.length = dvs.length →
      ∃ k, bindArgs (PySem.W.fnOf x qual params body scope (.ref T) kV doc pm an cdv ct) ⟨us, []⟩ = seqItems? (.ref T) >>= k ∧ k (some its.toArray) = pure (ps.zip (us ++ its.drop j)))
    (hbody : ∀ (cdv : Value) (A : Around) (outer : List Env) (s : Shared) (H : Hp) (vs : List V) (Q : VK) (E : XK), Room k (A.deeper (envOfC qual scope s.heap.objs.size f cdv)) → sp vs H Q E →
      ∃ t, PSs (cxOf (L2.CX P w) P w K mg base N qual scope f cdv A outer s H E) body t ∧ t { nx := fun _ H' => Q .non H', rt := Q } (start N vs) H) :
    FnR P w K mg base (L2.CX P w) (k + 1) f (fun vs H Q E => sp (vs ++ dvs.drop j) H Q E) := by
  have G : FnOk P w K mg base (L2.CX P w) (k + 1) f fd ps sp := FunD.ok F S len hbody
  obtain ⟨ds, hv, hB⟩ := FunD.binds1 F n j hd hn hb
  exact FnOk.raw G hB hv
/-- def f(a, .., *v) -/
theorem FunD.RsX {N ps : List Str} {pv : Str} {k : Nat} {sp : Sp} (F : FunD K x qual params body scope [] kws f fd) (S : FnScope N (ps ++ [pv]) scope)
    (hb : ∀ (kV doc pm : Value) (an : Option Addr) (cdv ct : Value) (us rest : List Value), us.length = ps.length → bindArgs (PySem.W.fnOf x qual params body scope .none kV doc pm an cdv ct) ⟨us ++ rest, []⟩ = (newTuple rest >>= fun t => pure (ps.zip us ++ [(pv, t)])))
    (hbody : ∀ (cdv : Value) (A : Around) (outer : List Env) (s : Shared) (H : Hp) (vs : List V) (Q : VK) (E : XK), Room k (A.deeper (envOfC qual scope s.heap.objs.size f cdv)) → sp vs H Q E →
      ∃ t, PSs (cxOf (L2.CX P w) P w K mg base N qual scope f cdv A outer s H E) body t ∧ t { nx := fun _ H' => Q .non H', rt := Q } (start N vs) H) :
    FnR P w K mg base (L2.CX P w) (k + 1) f (fun vs H Q E => ∃ ws rest, vs = ws ++ rest ∧ ws.length = ps.length ∧ rest.length ≤ sizeLine ∧ ∀ p, H p = Option.none → sp (ws ++ [V.ref p]) (upd H p (.tup rest)) Q E) := by
  obtain ⟨oc, od, dV, kV, doc, pm, an, cdv, ct, osl, rfl, lk, hcd, hD, _⟩ := F.ex
  rcases hD with ⟨_, rfl⟩ | ⟨e, _⟩
  · exact StX.fn_star lk hcd S StX.cxUp (hb kV doc pm an cdv ct) fun A outer s H vs Q E hr hsp => hbody cdv A outer s H vs Q E hr hsp
  · exact absurd rfl e
/-- what raises nothing may stand where something may -/
theorem FnR.up {CX : CXT} {k : Nat} {sp : Sp} (F : FnR P w K mg base CX0 k f sp) : FnR P w K mg base CX k f sp := fun A outer s H us vs Q E hr e0 r hs => codeAny_mono (F A outer s H us vs Q E hr e0 r hs) fun r s' hq => by
  cases r with
  | error e => exact False.elim hq
  | ok fl => cases fl <;> exact hq
end
/-! ### try -/
/-- what an error wishes of a clause:  (slot of its name or none, class, suite) -/
abbrev Cl : Type := Option Nat × Value × (Addr → Value → Option Addr → TS)
def endsA : Option Nat → Ends → Ends
  | none, D => D
  | some i, D => { nx := fun σ' H' => D.nx (σ'.set i none) H', rt := D.rt, bk := fun σ' H' => D.bk (σ'.set i none) H', ct := fun σ' H' => D.ct (σ'.set i none) H' }
def putA : Option Nat → Addr → L2.St → L2.St
  | none, _, σ => σ
  | some i, a, σ => σ.set i (some (.ref a))
def wCls (K : PySem.W.Frag) (Wout : WX) (D : Ends) : List Cl → WX
  | [] => Wout
  | (n, c, ts) :: r => fun cls d σ H => ∃ b, PySem.W.exmOne K cls c = some b ∧ (b = true → ∀ a, H a = none → ts a cls d (endsA n D) (putA n a σ) H) ∧ (b = false → wCls K Wout D r cls d σ H)
abbrev SuiteOk (X : Cx) (body : List Stmt) (ts : Addr → Value → Option Addr → TS) : Prop :=
  ∀ (a : Addr) (oe : Obj) (cls : Value) (d : Option Addr) (pn : List (Addr × Obj)), Zc cls d oe → (∃ vs, oe.data = .fields vs) → PSs (X.suite a ((a, oe) :: pn)) body (ts a cls d)
inductive ClsOk (X : Cx) : List ExceptHandler → List Cl → Prop
  | nil : ClsOk X [] []
  | bare {x : Str} {c : Value} {ts : Addr → Value → Option Addr → TS} {b₀ : Stmt} {suite : List Stmt} {np pos' : Pos} {hds : List ExceptHandler} {l : List Cl} (hc : Names X x c) (hsu : SuiteOk X (b₀ :: suite) ts) (r : ClsOk X hds l) :
      ClsOk X (.ExceptHandler (some (.Name x np)) none (b₀ :: suite) pos' :: hds) ((none, c, ts) :: l)
  | as {x n : Str} {i : Nat} {c : Value} {ts : Addr → Value → Option Addr → TS} {b₀ : Stmt} {suite : List Stmt} {np pos' : Pos} {hds : List ExceptHandler} {l : List Cl} (hc : Names X x c) (hi : X.N[i]? = some n) (hln : X.env.kindOf n = some .local) (hsu : SuiteOk X (b₀ :: suite) ts) (r : ClsOk X hds l) :
      ClsOk X (.ExceptHandler (some (.Name x np)) (some n) (b₀ :: suite) pos' :: hds) ((some i, c, ts) :: l)
section
variable {X : Cx} {pins : List (Addr × Obj)} {σ : L2.St} {H : Hp} {D : Ends}
/-- a suite's end is an end of the try -/
theorem SP.back {q : Addr × Obj} {a : Addr} {f : Flow} {s : Shared} (ok : X.Ok) (h : SP (X.suite a (q :: (X.pn ++ pins))) [] D f s) : SP X pins D f s := by
  cases f with
  | next => obtain ⟨σ', H', S, z⟩ := h; exact ⟨_, _, S.unsuite ok, z⟩
  | brk => obtain ⟨σ', H', S, z⟩ := h; exact ⟨_, _, S.unsuite ok, z⟩
  | cont => obtain ⟨σ', H', S, z⟩ := h; exact ⟨_, _, S.unsuite ok, z⟩
  | ret u => obtain ⟨v, σ', H', S, r, z⟩ := h; exact ⟨_, _, _, S.unsuite ok, r, z⟩
theorem SP.gone {i : Nat} {n : Str} {f : Flow} {s : Shared} {pos : Pos} {M : Model} {A : Around} {E : Value → Shared → Prop} (hN : X.N.Nodup) (hi : X.N[i]? = some n) (hl : X.env.kindOf n = some .local) (h : SP X pins (endsA (some i) D) f s) :
    wpAny M A (do bindName X.env n .none; unbindBehindTheSuite X.env n pos) (fun _ s' => SP X pins D f s') E s := by
  cases f with
  | next => obtain ⟨σ', H', S, z⟩ := h; exact gone_ok S hN hi hl fun s7 J => ⟨_, _, J, z⟩
  | brk => obtain ⟨σ', H', S, z⟩ := h; exact gone_ok S hN hi hl fun s7 J => ⟨_, _, J, z⟩
  | cont => obtain ⟨σ', H', S, z⟩ := h; exact gone_ok S hN hi hl fun s7 J => ⟨_, _, J, z⟩
  | ret u => obtain ⟨v, σ', H', S, r, z⟩ := h; exact gone_ok S hN hi hl fun s7 J => ⟨_, _, _, J, r, z⟩
theorem SP.ofTry {f : Flow} {s : Shared} {xe : Value → Shared → Prop} (ok : X.Ok) (h : SP (X.tr (X.pn ++ pins) xe) [] D f s) : SP X pins D f s := by
  cases f with
  | next => obtain ⟨σ', H', S, z⟩ := h; exact ⟨_, _, S.ofTry ok, z⟩
  | brk => obtain ⟨σ', H', S, z⟩ := h; exact ⟨_, _, S.ofTry ok, z⟩
  | cont => obtain ⟨σ', H', S, z⟩ := h; exact ⟨_, _, S.ofTry ok, z⟩
  | ret u => obtain ⟨v, σ', H', S, r, z⟩ := h; exact ⟨_, _, _, S.ofTry ok, r, z⟩
variable {hds : List ExceptHandler} {l : List Cl} {Wout : WX} {a : Addr} {B : Heap} {sI s' : Shared} {cls : Value} {d : Option Addr}
/-- an exception on the ground, before the clauses -/
theorem clauses (hs : X.stack = X.env :: X.outer) (hf : X.env.frame = some X.env.locals) (hN : X.N.Nodup) (tk : Takes X Wout) (J : Inv X pins σ H sI) (nb : ∀ b o, sI.heap.get? b = some o → b ∉ frs X.stack → B.get? b = some o) (up : sI.heap.UpToSlots s'.heap)
    (fl : HandSPX.FlyingZ B (X.env :: X.outer) a (Zc cls d) s'.heap) (na : H a = none) (os : s'.os = sI.os) (ag : AllBare s'.gens) (hk : ClsOk X hds l) : wCls X.K Wout D l cls d σ H → wpAny (model X.prog X.w) X.A (handleBy (.ref a) X.env hds) (SP X pins D) X.xe s' := by
  have ok := J.ok
  have at_ : ∀ {h : Heap}, HandSPX.FlyingZ B (X.env :: X.outer) a (Zc cls d) h → s'.heap.UpToSlots h → ∃ oe, Zc cls d oe ∧ (∃ vs, oe.data = .fields vs) ∧ h.get? a = some oe ∧ Inv X pins σ H { s' with heap := h } ∧ Inv (X.suite a ((a, oe) :: (X.pn ++ pins))) [] σ H { s' with heap := h } := fun {h} f4 u4 => by
    obtain ⟨oe, vs, he, hz, hd⟩ := f4.there
    have nfr : a ∉ frs (X.env :: X.outer) := fun hm => by
      obtain ⟨_, o', e', hnf⟩ := (f4.2.2.1).mem hm
      rw [he] at e'; cases e'
      exact hnf _ hd
    have nL : a ≠ X.env.locals := fun z => nfr (List.mem_filterMap.mpr ⟨X.env, List.mem_cons_self, by rw [hf, z]⟩)
    have nF : a ∉ X.fs := fun hm => by
      obtain ⟨e, he, q⟩ := List.mem_filterMap.mp hm
      exact nfr (List.mem_filterMap.mpr ⟨e, List.mem_cons_of_mem _ he, q⟩)
    have J4 : Inv X pins σ H { s' with heap := h } := J.landed nb f4.1 (up.trans u4) os ag
    exact ⟨oe, hz, ⟨_, hd⟩, he, J4, J4.suite he hd na nL nF⟩
  obtain ⟨oe0, hz0, hd0, he0, J0, S0⟩ := at_ fl (Heap.UpToSlots.refl _)
  have test : ∀ {x : Str} {np : Pos} {c : Value} {b : Bool} {Q : Bool → Shared → Prop} {E : Value → Shared → Prop}, Names X x c → PySem.W.exmOne X.K cls c = some b → Q b s' → wpAny (model X.prog X.w) (X.A.mark (some (.ref a))) (eval (.Name x np) X.env) (fun c s₁ => wpAny (model X.prog X.w) (X.A.mark (some (.ref a))) (excMatches (.ref a) c) Q E s₁) E s' := fun {x np c b Q E} hc hb1 q => by
    have LT : PySem.W.Looks (model X.prog X.w) s'.heap (typeOf (.ref a)) cls := fun A Q E s k q => wpAny_typeOf_ref (k _ _ he0) (by rw [hz0.1]; exact q)
    have LM := PySem.W.exm_one (M := model X.prog X.w) J0.kIn LT hb1
    obtain ⟨hg, hdbg, hm | ⟨hm, hv, hnn⟩⟩ := hc
    · exact ld_glob (X := X.suite a ((a, oe0) :: (X.pn ++ pins))) S0 hg hm (LM.here q) hdbg
    · exact ld_blt (X := X.suite a ((a, oe0) :: (X.pn ++ pins))) S0 hg hm hv (LM.here q) hnn hdbg
  induction hk with
  | nil =>
    intro w
    refine wpAny_handleBy_nil ?_
    obtain ⟨k1, k2, k3, oe, vs, T, oT, ts', he, hz, hd, h1, hr⟩ := id fl
    unfold PySem.passOn
    refine wpAny_bind (wpAny_field he hd h1 ?_)
    rw [if_neg (show ¬ ((Value.ref T == Value.none) = true) from by simp)]
    have fin : wpAny (model X.prog X.w) X.A (setFlight (.ref a) X.env.frame) (fun _ s4 => wpAny (model X.prog X.w) X.A (throw (.ref a) : Sem Flow) (SP X pins D) X.xe s4) X.xe s' := by
      rw [hf]
      refine HandSPX.setFlight_upZ fl fun h4 hh4 up4 => wpAny_throw (tk _ _ ?_)
      exact ⟨a, B, sI, pins, σ, H, cls, d, rfl, J, nb, up.trans up4, .inr (.inr (by rw [hs]; exact hh4)), na, os, ag, w⟩
    first
      | exact wpAny_bind (wpAny_pure (wpAny_bind fin))
      | exact wpAny_bind fin
  | bare hc hsu r ih =>
    intro w
    obtain ⟨b, hb1, hyes, hno⟩ := w
    refine wpAny_handleBy_cons (codeAny_handlers_test (test hc hb1 ?_)) (by intro q; cases q)
    cases b with
    | true =>
      refine codeAny_handlers_suite (HandSPX.lands_againZ fl fun h4 fl4 up4 => ?_)
      obtain ⟨oe, hz, hd, he, J4, S4⟩ := at_ fl4 up4
      exact wpAny_mono ((hsu a oe cls d (X.pn ++ pins) hz hd).run [] _ _ H _ S4 (hyes rfl a na)) (fun f s6 hsp => SP.back ok hsp) (fun _ _ z => False.elim z)
    | false => exact ih (hno rfl)
  | as hc hi hln hsu r ih =>
    intro w
    obtain ⟨b, hb1, hyes, hno⟩ := w
    refine wpAny_handleBy_cons (codeAny_handlers_test (test hc hb1 ?_)) (by intro q; cases q)
    cases b with
    | true =>
      refine codeAny_handlers_suite_as (HandSPX.lands_againZ fl fun h4 fl4 up4 => ?_)
      obtain ⟨oe, hz, hd, he, J4, S4⟩ := at_ fl4 up4
      refine store_ok (X := X.suite a ((a, oe) :: (X.pn ++ pins))) (v := .ref a) S4 hN hi (.inl hln) rfl (fun s5 S5 => ?_) (.inr hln)
      exact wpAny_mono ((hsu a oe cls d (X.pn ++ pins) hz hd).run [] s5 _ H _ S5 (hyes rfl a na)) (fun f s6 hsp => SP.gone hN hi hln (SP.back ok hsp)) (fun _ _ z => False.elim z)
    | false => exact ih (hno rfl)
end
section
variable {X : Cx} {body : List Stmt} {h₀ : ExceptHandler} {hds : List ExceptHandler} {l : List Cl} {pos : Pos} {tb : WX → TS} {Wout : WX}
theorem ps_tryC (hs : X.stack = X.env :: X.outer) (hf : X.env.frame = some X.env.locals) (hN : X.N.Nodup) (tk : Takes X Wout)
    (hb : ∀ (W : WX) (pn : List (Addr × Obj)) (xe : Value → Shared → Prop), Takes (X.tr pn xe) W → PassesOwn (model X.prog X.w) X.A X.env xe → PSs (X.tr pn xe) body (tb W))
    (hh : ClsOk X (h₀ :: hds) l) : PS X (.Try body (h₀ :: hds) [] [] pos) (fun D σ H => tb (wCls X.K Wout D l) D σ H) := by
  refine ⟨fun pins s σ H D I h => ?_⟩
  have ok := I.ok
  have hfr : X.A.frames = some (X.env :: X.outer) := by rw [ok.frames, hs]
  refine wpAny_Try_except ?_
  refine wpAny_mono ((hb (wCls X.K Wout D l) (X.pn ++ pins) (fun e s₁ => wpAny (model X.prog X.w) X.A (noteFrame e X.env) (fun _ s₂ => wpAny (model X.prog X.w) X.A (setFlight e none) (fun _ s₃ =>
    wpAny (model X.prog X.w) X.A (handleBy e X.env (h₀ :: hds)) (SP X pins D) X.xe s₃) X.xe s₂) X.xe s₁) (fun u s' xx => ?_) PassesOwn.looking).run [] s σ H D (I.toTry _) h) (fun f s1 hsp => ?_) (fun e s1 he => he)
  · obtain ⟨a, B, sI, pins', σ', H', cls, d, rfl, J', nb, up, sky, na, os, ag, w⟩ := xx
    have sky' : Sky B (X.env :: X.outer) a (Zc cls d) X.env.locals s'.heap := by rw [← hs]; exact sky
    show wpAny (model X.prog X.w) X.A (noteFrame (.ref a) X.env) _ _ _
    exact Sky.land Zc.steady hfr hf sky' fun h3 fl3 up3 => clauses (s' := { s' with heap := h3 }) hs hf hN tk (J'.ofTry ok) nb (up.trans up3) fl3 na os ag hh w
  · have z := SP.ofTry ok hsp
    cases f with
    | next =>
      obtain ⟨σ', H', J', q⟩ := z
      exact wpAny_execs_nil ⟨σ', H', J', q⟩
    | brk => exact z
    | cont => exact z
    | ret u => exact z
end
end My

set_option Elab.async false
set_option linter.all false
set_option maxRecDepth 100000
set_option maxHeartbeats 4000000
/-! own library, part 8: own __len__, __contains__, __getitem__, __setitem__; more values -/
namespace My
open PySem PySem.Spec PyProof.Rows L2
section
variable {X : Cx} {k : Nat} {f C : Addr} {sp : Sp} {E : XK}
/-- a method by a special name -/
structure Spc (K : PySem.W.Frag) (C : Addr) (m : Str) (f : Addr) : Prop where
  at_ : PySem.W.findIn K (.ref C) m = some (some (.ref f))
  fi : PySem.W.isFn K (.ref f) = true
theorem inst_at {pins : List (Addr × Obj)} {σ : L2.St} {H : Hp} {s : Shared} {a dx : Addr} {fs : List (Str × V)} (I : Inv X pins σ H s) (ea : H a = some (.ins C dx fs)) : ∃ ox od, PySem.W.InstAt s.heap a ox C od := by
  obtain ⟨mA, O, _, _, _, _⟩ := ins_get I.hok ea
  obtain ⟨od, J, _⟩ := O.look
  exact ⟨_, _, J⟩
/-- len(o) -/
def mLenO (C : Addr) (sp : Sp) : List V → Hp → VK → Prop := fun xs H Q => ∃ a dx fs, xs = [.ref a] ∧ H a = some (.ins C dx fs) ∧ sp [.ref a] H (fun v H' => ∃ n : Int, v = .int n ∧ 0 ≤ n ∧ n < 2 ^ 63 ∧ Q v H') (fun _ _ _ => False)
theorem lenO (F : FnR X.prog X.w X.K X.mg X.base CX0 k f sp) (hr : Room (k + 1) X.A) (S : Spc X.K C "__len__" f) : CallR X (.builtin "len") (mLenO C sp) := by
  intro pins s σ H xs us Q I rv h
  obtain ⟨a, dx, fs, rfl, ea, hsp⟩ := h
  obtain ⟨u, rfl, ru⟩ := rv.one
  cases ru
  obtain ⟨ox, od, J⟩ := inst_at I ea
  refine Calls.call_function_entry kind_len plain_len entry_len (args_len1 _) ?_
  unfold Builtin.«len»
  refine wpAny_bind (m := oneArg "len" _) (wpAny_pure ?_)
  refine wpAny_bind (m := callSpecial? (.ref a) (Str.ofString "__len__")) (PySem.W.special_fn I.kIn J S.at_ (beq_iff_eq.mp S.fi) (wpAny_call ?_))
  refine codeAny_mono (F X.A.in1 X.stack s H [.ref a] [.ref a] _ _ hr.in1 I.env0.in1 (.cons rfl .nil) hsp) fun r s' hq => ?_
  cases r with
  | error er => exact False.elim hq
  | ok fl =>
    cases fl with
    | ret u =>
      obtain ⟨v, H', I3, rv3, n, rfl, h0, h1, q3⟩ := I.after hq
      obtain ⟨t, rfl⟩ := rv3
      refine wpAny_bind (wpAny_holding (wpAny_pure ?_))
      refine wpAny_bind (wpAny_letGo ?_)
      show wpAny _ _ (if n < 0 then _ else _) _ _ _
      rw [if_neg (by omega)]
      show wpAny _ _ (if n ≥ 2 ^ 63 then _ else _) _ _ _
      rw [if_neg (by omega)]
      exact wpAny_bind (wpAny_mkInt (wpAny_pure ⟨_, rfl, ⟨.int n, H', I3.tok _, ⟨_, rfl⟩, q3⟩⟩))
    | next => exact False.elim hq
    | brk => exact False.elim hq
    | cont => exact False.elim hq
/-- x in o, x not in o -/
def rInO (C : Addr) (sp : Sp) : R2 := fun x y H Q => ∃ a dx fs, y = .ref a ∧ H a = some (.ins C dx fs) ∧ sp [.ref a, x] H (fun v H' => ∃ b : Bool, v = .bl b ∧ Q (.bl b) H') (fun _ _ _ => False)
def rNotInO (C : Addr) (sp : Sp) : R2 := fun x y H Q => ∃ a dx fs, y = .ref a ∧ H a = some (.ins C dx fs) ∧ sp [.ref a, x] H (fun v H' => ∃ b : Bool, v = .bl b ∧ Q (.bl (!b)) H') (fun _ _ _ => False)
theorem run_con {pins : List (Addr × Obj)} {σ : L2.St} {H : Hp} {s : Shared} {a dx : Addr} {fs : List (Str × V)} {x : V} {v : Value} {R : Bool → Hp → Prop} {Q : Bool → Shared → Prop} (F : FnR X.prog X.w X.K X.mg X.base CX0 k f sp) (hr : Room k X.A) (S : Spc X.K C "__contains__" f) (I : Inv X pins σ H s) (ea : H a = some (.ins C dx fs)) (rx : RelV x v)
    (h : sp [.ref a, x] H (fun v H' => ∃ b : Bool, v = .bl b ∧ R b H') (fun _ _ _ => False)) (hq : ∀ b s' H', Inv X pins σ H' s' → R b H' → Q b s') : wpAny (model X.prog X.w) X.A (contains (.ref a) v) Q X.xe s := by
  obtain ⟨ox, od, J⟩ := inst_at I ea
  unfold contains
  refine wpAny_holding (wpAny_bind (wpAny_bind (J.type.here ((PySem.W.looks_findIn I.kIn S.at_).here ?_))))
  rw [if_neg (by simp)]
  refine wpAny_bind (PySem.W.unlessNone_K I.kIn J S.at_ S.fi (wpAny_call ?_))
  refine codeAny_mono (F X.A X.stack s H [.ref a, v] [.ref a, x] _ _ hr I.env0 (.cons rfl (.cons rx .nil)) h) fun r s' hz => ?_
  cases r with
  | error er => exact False.elim hz
  | ok fl =>
    cases fl with
    | ret u =>
      obtain ⟨y, H', I3, ry, b, rfl, q3⟩ := I.after hz
      obtain rfl : u = Value.bool b := ry
      exact wpAny_truthy_bool (hq b _ H' I3 q3)
    | next => exact False.elim hz
    | brk => exact False.elim hz
    | cont => exact False.elim hz
theorem op_inO (F : FnR X.prog X.w X.K X.mg X.base CX0 k f sp) (hr : Room k X.A) (S : Spc X.K C "__contains__" f) : OpR X (compareOp .In) (rInO C sp) := by
  intro pins s σ H x y v u Q I rx ry h
  obtain ⟨a, dx, fs, rfl, ea, hsp⟩ := h
  cases ry
  exact wpAny_bind (run_con F hr S I ea rx hsp fun b s' H' I' q => wpAny_pure ⟨.bl b, H', I', rfl, q⟩)
theorem op_notInO (F : FnR X.prog X.w X.K X.mg X.base CX0 k f sp) (hr : Room k X.A) (S : Spc X.K C "__contains__" f) : OpR X (compareOp .NotIn) (rNotInO C sp) := by
  intro pins s σ H x y v u Q I rx ry h
  obtain ⟨a, dx, fs, rfl, ea, hsp⟩ := h
  cases ry
  exact wpAny_bind (run_con F hr S I ea rx hsp fun b s' H' I' q => wpAny_pure ⟨.bl (!b), H', I', rfl, q⟩)
end
end My

set_option Elab.async false
set_option linter.all false
set_option maxRecDepth 100000
set_option maxHeartbeats 4000000
/-! own library, part 9: items and lengths of a list or a text -/
namespace My
open PySem PySem.Spec PyProof.Rows L2
section
variable {X : Cx}
/-- x[i], x a tracked list or a text -/
def mIxA : R2 := fun x y H Q => mIxL x y H Q ∨ rIxS x y H Q
theorem ixA : IxR X mIxA := IxR.or ixL ix_str
def mLenA : List V → Hp → VK → Prop := fun xs H Q => mLenL xs H Q ∨ mLenS xs H Q
theorem lenA : CallR X (.builtin "len") mLenA := CallR.or lenL lenS
end
end My
namespace My
open PySem PySem.Spec PyProof.Rows L2
section
variable {X : Cx}
/-- x in (e, ..): the tuple isn't tracked -/
def tInT (neg : Bool) (ta : TE) (t : TA) : TE := fun σ H Q => ta σ H fun x H1 => t σ H1 fun xs H2 => xs.length ≤ sizeLine ∧ flatV x = true ∧ xs.all flatV = true ∧ Q (.bl (if neg then !inV x xs else inV x xs)) H2
theorem pe_inT {a : Expr} {es : List Expr} {x1 : Nat} {ta : TE} {t : TA} {p2 pos : Pos} (ha : PE X a ta) (h : PA X es t) (hm : behindInMarks .In (.Tuple es x1 p2) = false := by rfl) : PE X (.Compare a [.In] [.Tuple es x1 p2] pos) (tInT false ta t) := by
  refine ⟨fun pins s σ H Q I hq => ?_⟩
  refine wpAny_Compare1 (thn (ha.run pins s σ H _ I hq) fun v s1 ⟨x, H1, I1, rx, q1⟩ => ?_) hm
  refine wpAny_Tuple_spliced (thn (h.run p2 pins s1 σ H1 _ I1 q1) fun us s2 ⟨xs, H2, I2, r, z, fx, fs, q⟩ => ⟨by rw [← r.length]; exact z, ?_⟩)
  refine SeqAt.in_tupleAt (items := us.toArray) (eqU x) ⟨_, Heap.get?_push_size _ rfl, rfl, _, rfl⟩ (fun w hw => mem_eqAt rx fx r fs w (by simpa using hw)) ⟨.bl _, H2, I2.kept (t' := s2.toks) (fun b u e => Heap.get?_push_of_some _ e), rfl, ?_⟩
  rw [show us.toArray.any (eqU x) = us.any (eqU x) by simp, any_eqU r fs]
  exact q
theorem pe_notInT {a : Expr} {es : List Expr} {x1 : Nat} {ta : TE} {t : TA} {p2 pos : Pos} (ha : PE X a ta) (h : PA X es t) (hm : behindInMarks .NotIn (.Tuple es x1 p2) = false := by rfl) : PE X (.Compare a [.NotIn] [.Tuple es x1 p2] pos) (tInT true ta t) := by
  refine ⟨fun pins s σ H Q I hq => ?_⟩
  refine wpAny_Compare1 (thn (ha.run pins s σ H _ I hq) fun v s1 ⟨x, H1, I1, rx, q1⟩ => ?_) hm
  refine wpAny_Tuple_spliced (thn (h.run p2 pins s1 σ H1 _ I1 q1) fun us s2 ⟨xs, H2, I2, r, z, fx, fs, q⟩ => ⟨by rw [← r.length]; exact z, ?_⟩)
  refine SeqAt.notIn_tupleAt (items := us.toArray) (eqU x) ⟨_, Heap.get?_push_size _ rfl, rfl, _, rfl⟩ (fun w hw => mem_eqAt rx fx r fs w (by simpa using hw)) ⟨.bl _, H2, I2.kept (t' := s2.toks) (fun b u e => Heap.get?_push_of_some _ e), rfl, ?_⟩
  rw [show us.toArray.any (eqU x) = us.any (eqU x) by simp, any_eqU r fs]
  exact q
end
theorem ofS_eq (a b : String) : (Str.ofString a = Str.ofString b) = (a = b) := by
  apply propext
  constructor
  · intro h
    rw [Str.ofString_eq_toList, Str.ofString_eq_toList] at h
    injection h with h
    have h1 : a.toList.map Char.toNat = b.toList.map Char.toNat := by
      have := congrArg Array.toList h
      simpa using this
    have inj : ∀ x y : List Char, x.map Char.toNat = y.map Char.toNat → x = y := by
      intro x
      induction x with
      | nil => intro y h; cases y with
        | nil => rfl
        | cons c y => cases h
      | cons c x ih => intro y h; cases y with
        | nil => cases h
        | cons d y =>
          rw [List.map_cons, List.map_cons] at h
          injection h with h2 h3
          rw [Char.toNat_inj.mp h2, ih y h3]
    exact String.toList_inj.mp (inj _ _ h1)
  · intro h; rw [h]
theorem inV_nil (x : V) : inV x [] = false := rfl
theorem inV_str (x y : Str) (r : List V) : inV (.str x) (.str y :: r) = (decide (x = y) || inV (.str x) r) := by
  unfold inV
  rw [List.any_cons]
  congr 1
  by_cases h : x = y
  · subst h; simp [eqV]
  · have h2 : ¬ y = x := fun e => h e.symm
    simp [h, h2, eqV]
theorem flatV_str (x : Str) : flatV (.str x) = true := rfl
theorem flatV_int (x : Int) : flatV (.int x) = true := rfl
theorem flatV_non : flatV .non = true := rfl
def mIntB : List V → Hp → VK → Prop := fun xs H Q => ∃ k, xs = [.bl k] ∧ Q (.int (if k then 1 else 0)) H
theorem intB {X : Cx} : CallR X (.type "int") mIntB := CallR.imp call_int1 fun x H Q ⟨i, a, b⟩ => .inr ⟨i, a, b⟩
end My
namespace My
open PySem PySem.Spec PyProof.Rows L2
section
variable {X : Cx}
theorem pt_inT {a : Expr} {es : List Expr} {x1 : Nat} {ta : TE} {t : TA} {p2 pos : Pos} (ha : PE X a ta) (h : PA X es t) (hm : behindInMarks .In (.Tuple es x1 p2) = false := by rfl) : PT X (.Compare a [.In] [.Tuple es x1 p2] pos) (tTest (tInT false ta t)) := by
  refine ⟨fun pins s σ H Q I hq => ?_⟩
  refine wpAny_isTrue_Compare1 (thn (ha.run pins s σ H _ I hq) fun v s1 ⟨x, H1, I1, rx, q1⟩ => ?_) hm
  refine wpAny_Tuple_spliced (thn (h.run p2 pins s1 σ H1 _ I1 q1) fun us s2 ⟨xs, H2, I2, r, z, fx, fs, q⟩ => ⟨by rw [← r.length]; exact z, ?_⟩)
  refine SeqAt.in_tupleAt (items := us.toArray) (eqU x) ⟨_, Heap.get?_push_size _ rfl, rfl, _, rfl⟩ (fun w hw => mem_eqAt rx fx r fs w (by simpa using hw)) ?_
  rw [show us.toArray.any (eqU x) = us.any (eqU x) by simp, any_eqU r fs]
  obtain ⟨k, e, q⟩ := q
  have e2 : (xs.any fun y => eqV y x) = k := by injection e
  rw [e2]
  exact wpAny_truthy_bool ⟨H2, I2.kept (t' := s2.toks) (fun b u e => Heap.get?_push_of_some _ e), q⟩
theorem pt_notInT {a : Expr} {es : List Expr} {x1 : Nat} {ta : TE} {t : TA} {p2 pos : Pos} (ha : PE X a ta) (h : PA X es t) (hm : behindInMarks .NotIn (.Tuple es x1 p2) = false := by rfl) : PT X (.Compare a [.NotIn] [.Tuple es x1 p2] pos) (tTest (tInT true ta t)) := by
  refine ⟨fun pins s σ H Q I hq => ?_⟩
  refine wpAny_isTrue_Compare1 (thn (ha.run pins s σ H _ I hq) fun v s1 ⟨x, H1, I1, rx, q1⟩ => ?_) hm
  refine wpAny_Tuple_spliced (thn (h.run p2 pins s1 σ H1 _ I1 q1) fun us s2 ⟨xs, H2, I2, r, z, fx, fs, q⟩ => ⟨by rw [← r.length]; exact z, ?_⟩)
  refine SeqAt.notIn_tupleAt (items := us.toArray) (eqU x) ⟨_, Heap.get?_push_size _ rfl, rfl, _, rfl⟩ (fun w hw => mem_eqAt rx fx r fs w (by simpa using hw)) ?_
  rw [show us.toArray.any (eqU x) = us.any (eqU x) by simp, any_eqU r fs]
  obtain ⟨k, e, q⟩ := q
  have e2 : (!(xs.any fun y => eqV y x)) = k := by injection e
  rw [e2]
  exact wpAny_truthy_bool ⟨H2, I2.kept (t' := s2.toks) (fun b u e => Heap.get?_push_of_some _ e), q⟩
/-! ### {k: v, ..} with distinct keys -/
theorem exk_nil {P : List (Key × V) → Prop} : (∃ kvs : List (Key × V), ([] : List (V × V)) = kvs.map (fun kv => (kV kv.1, kv.2)) ∧ P kvs) = P [] := by
  apply propext
  constructor
  · rintro ⟨kvs, e, h⟩
    cases kvs with
    | nil => exact h
    | cons _ _ => cases e
  · intro h; exact ⟨[], rfl, h⟩
theorem exk_str {P : List (Key × V) → Prop} {x : Str} {v : V} {ps : List (V × V)} : (∃ kvs : List (Key × V), ((.str x, v) :: ps) = kvs.map (fun kv => (kV kv.1, kv.2)) ∧ P kvs) = (∃ kvs : List (Key × V), ps = kvs.map (fun kv => (kV kv.1, kv.2)) ∧ P ((.inr x, v) :: kvs)) := by
  apply propext
  constructor
  · rintro ⟨kvs, e, h⟩
    cases kvs with
    | nil => cases e
    | cons kv r =>
      obtain ⟨k, u⟩ := kv
      rw [List.map_cons] at e
      injection e with e1 e2
      injection e1 with e3 e4
      cases k with
      | inl i => cases e3
      | inr z =>
        have : V.str x = V.str z := e3
        injection this with q
        subst q e4
        exact ⟨r, e2, h⟩
  · rintro ⟨kvs, e, h⟩
    exact ⟨(.inr x, v) :: kvs, by rw [List.map_cons, ← e]; rfl, h⟩
theorem putK_new {kvs : List (Key × V)} {k : Key} {v : V} (h : k ∉ kvs.map (·.1)) : putK kvs k v = kvs ++ [(k, v)] := by
  unfold putK
  rw [if_neg]
  intro z
  obtain ⟨kv, h1, h2⟩ := List.any_eq_true.mp z
  exact h (List.mem_map.mpr ⟨kv, h1, of_decide_eq_true h2⟩)
theorem mergeK_new : ∀ (more kvs : List (Key × V)), ((kvs ++ more).map (·.1)).Nodup → mergeK kvs more = kvs ++ more
  | [], kvs, _ => by simp [mergeK]
  | (k, v) :: r, kvs, h => by
    have hn : k ∉ kvs.map (·.1) := by
      rw [List.map_append, List.map_cons] at h
      intro z
      exact (List.nodup_append.mp h).2.2 _ z _ List.mem_cons_self rfl
    show mergeK (putK kvs k v) r = _
    rw [putK_new hn, mergeK_new r (kvs ++ [(k, v)]) (by simpa using h)]
    simp
theorem mergeK_lit {kvs : List (Key × V)} (h : (kvs.map (·.1)).Nodup) : mergeK [] kvs = kvs := by
  have := mergeK_new kvs [] (by simpa using h)
  simpa using this
end
end My
namespace My
open PySem PySem.Spec PyProof.Rows L2
theorem leS0 : (0 ≤ sizeLine) = True := eq_true (by decide)
theorem leS1 : (1 ≤ sizeLine) = True := eq_true (by decide)
theorem leS2 : (2 ≤ sizeLine) = True := eq_true (by decide)
theorem leS3 : (3 ≤ sizeLine) = True := eq_true (by decide)
theorem leS4 : (4 ≤ sizeLine) = True := eq_true (by decide)
theorem leS5 : (5 ≤ sizeLine) = True := eq_true (by decide)
theorem leS6 : (6 ≤ sizeLine) = True := eq_true (by decide)
theorem leS7 : (7 ≤ sizeLine) = True := eq_true (by decide)
theorem leS8 : (8 ≤ sizeLine) = True := eq_true (by decide)
theorem leS9 : (9 ≤ sizeLine) = True := eq_true (by decide)
theorem leS10 : (10 ≤ sizeLine) = True := eq_true (by decide)
theorem leS11 : (11 ≤ sizeLine) = True := eq_true (by decide)
theorem leS12 : (12 ≤ sizeLine) = True := eq_true (by decide)
/-- a list of two lists, picked twice -/
theorem pick22 {H : Hp} {a b c d : V} {s r : Bool} {Q : VK} (k : ∀ H', Same H H' → Q (if s = true then (if r = true then d else c) else (if r = true then b else a)) H') : ∀ p, H p = none → ∀ p1, upd H p (.lst [a, b]) p1 = none → ∀ p2, upd (upd H p (.lst [a, b])) p1 (.lst [c, d]) p2 = none →
    ∃ x, atI [V.ref p, V.ref p1] (if s = true then 1 else 0) = some x ∧ ∃ p3, x = V.ref p3 ∧ ∃ y, upd (upd (upd H p (.lst [a, b])) p1 (.lst [c, d])) p2 (.lst [V.ref p, V.ref p1]) p3 = some (.lst y) ∧ ∃ z, atI y (if r = true then 1 else 0) = some z ∧ Q z (upd (upd (upd H p (.lst [a, b])) p1 (.lst [c, d])) p2 (.lst [V.ref p, V.ref p1])) := by
  intro p hp p1 hp1 p2 hp2
  have e1 : p ≠ p1 := fun e => by rw [← e, upd_same] at hp1; cases hp1
  have e2 : p1 ≠ p2 := fun e => by rw [← e, upd_same] at hp2; cases hp2
  have e3 : p ≠ p2 := fun e => by rw [← e, upd_ne e1, upd_same] at hp2; cases hp2
  have K := k _ (Same.upd_new (Same.upd_new (Same.new hp) hp1) hp2 (o := .lst [V.ref p, V.ref p1]))
  cases s
  · refine ⟨.ref p, rfl, p, rfl, [a, b], by rw [upd_ne e3, upd_ne e1, upd_same], ?_⟩
    cases r
    · exact ⟨a, rfl, K⟩
    · exact ⟨b, rfl, K⟩
  · refine ⟨.ref p1, rfl, p1, rfl, [c, d], by rw [upd_ne e2, upd_same], ?_⟩
    cases r
    · exact ⟨c, rfl, K⟩
    · exact ⟨d, rfl, K⟩
end My
namespace My
open PySem PySem.Spec PyProof.Rows L2
theorem none_of {H H2 : Hp} {p : Addr} (s : Same H H2) (h : H2 p = none) : H p = none := by
  cases q : H p with
  | none => rfl
  | some o => rw [s _ _ q] at h; cases h
theorem Kp.upd {d : Addr} {H G : Hp} {o : HO} (k : Kp d H G) : Kp d H (L2.upd G d o) := fun b u n h => by rw [upd_ne n]; exact k b u n h
theorem Kp.new {d p : Addr} {H G : Hp} {o : HO} (k : Kp d H G) (hp : G p = none) : Kp d H (L2.upd G p o) := fun b u n h => Same.new hp _ _ (k b u n h)
theorem cut1 (a : V) (l : List V) : cutV (a :: l) (some 1) none = l := by
  have e1 : HT.sIx (l.length + 1) 0 (some 1) = 1 := by
    simp only [HT.sIx]
    split <;> omega
  have e2 : HT.sIx (l.length + 1) (l.length + 1) none = l.length + 1 := rfl
  unfold cutV
  rw [List.length_cons, e1, e2]
  simp
end My
namespace My
open PySem PySem.Spec PyProof.Rows L2
def mBoolB : List V → Hp → VK → Prop := fun xs H Q => ∃ k, xs = [.bl k] ∧ Q (.bl k) H
theorem boolB {X : Cx} : CallR X (.type "bool") mBoolB := CallR.imp call_bool1 fun x H Q ⟨i, a, b⟩ => .inr ⟨i, a, b⟩
end My
namespace My
open PySem PySem.Spec PyProof.Rows L2
/-- a == [], a a tracked list -/
def rEqNil (neg : Bool) : R2 := fun x y H Q => ∃ a b xs, x = .ref a ∧ y = .ref b ∧ H a = some (.lst xs) ∧ H b = some (.lst []) ∧ Q (.bl (if neg then !xs.isEmpty else xs.isEmpty)) H
theorem rc_nil {X : Cx} {pins : List (Addr × Obj)} {σ : L2.St} {H : Hp} {s : Shared} {a b : Addr} {xs : List V} (hu : X.A.units + 64 < cLine) (I : L2.Inv X pins σ H s) (ha : H a = some (.lst xs)) (hb : H b = some (.lst [])) : SeqAt.RcAt X.A s (.ref a) (.ref b) xs.isEmpty := by
  obtain ⟨us, r1, p1, _⟩ := I.list (SqL.of ha)
  obtain ⟨ws, r2, p2, _⟩ := I.list (SqL.of hb)
  cases r2
  cases r1 with
  | nil => exact SeqAt.RcAt.lists (e := fun _ => true) p1.isList p2.isList rfl (by omega) (fun j h1 h2 => absurd h1 (by simp))
  | cons rv rr => exact SeqAt.RcAt.lists_lengths p1.isList p2.isList (by simp) (by omega)
theorem op_eqNil {X : Cx} (hu : X.A.units + 64 < cLine) : OpR X (compareOp .Eq) (rEqNil false) := by
  intro pins s σ H x y v u Q I rx ry h
  obtain ⟨a, b, xs, rfl, rfl, ha, hb, q⟩ := h
  cases rx
  cases ry
  exact rc_nil hu I ha hb _ _ _ _ ⟨.bl _, H, I, rfl, q⟩
end My
namespace My
open PySem PySem.Spec PyProof.Rows L2
theorem none_kp {d p : Addr} {H G : Hp} {u : HO} (k : Kp d H G) (hd : G d = some u) (hp : G p = none) : H p = none := by
  cases e : H p with
  | none => rfl
  | some o =>
    by_cases h : p = d
    · rw [h, hd] at hp; cases hp
    · rw [k _ _ h e] at hp; cases hp
/-- data that lies in what is new in H' (over H) -/
def DaF (H H' : Hp) (v : V) (d : PyData) : Prop := ∀ H'', (∀ c o, H c = none → H' c = some o → H'' c = some o) → Da H'' v d
theorem DaF.here {H H' : Hp} {v : V} {d : PyData} (h : DaF H H' v d) : Da H' v d := h H' fun _ _ _ e => e
/-- a join behind the first statement -/
theorem seq_cut {s1 s2 : TS} {D : Ends} {σ : L2.St} {H : Hp} (P : L2.St → Hp → Prop) (h1 : ∀ R : L2.St → Hp → Prop, (∀ σ' H', P σ' H' → R σ' H') → s1 { D with nx := R } σ H) (h2 : ∀ σ' H', P σ' H' → s2 D σ' H') : tSeq s1 s2 D σ H := h1 _ h2
end My

set_option Elab.async false
set_option linter.all false
set_option maxRecDepth 100000
set_option maxHeartbeats 4000000
namespace K31
open PySem PySem.Spec PyProof.Rows L2 My
def top (i : Nat) : Stmt := PySem.Challenge.pw_owedanswers_k31_lines_step_by_step.main.body.getD i (.Pass ⟨0, 0, 0, 0⟩)
abbrev s_is_out : Stmt := top 7
abbrev s_is_in : Stmt := top 8
abbrev s_mark_of : Stmt := top 9
abbrev s_is_amid : Stmt := top 10
abbrev s_row_fault : Stmt := top 11
abbrev s_mark_after : Stmt := top 12
abbrev s_Line___init__ : Stmt := inClass (top 14) 0
abbrev s_Line___len__ : Stmt := inClass (top 14) 1
abbrev s_Line___contains__ : Stmt := inClass (top 14) 2
abbrev s_Line_mark : Stmt := inClass (top 14) 3
abbrev s_Line_is_open : Stmt := inClass (top 14) 4
abbrev s_Line_is_clean : Stmt := inClass (top 14) 5
abbrev s_Line_owed : Stmt := inClass (top 14) 6
abbrev s_Line_need : Stmt := inClass (top 14) 7
abbrev s_Line_ask : Stmt := inClass (top 14) 8
abbrev s_Line_begin : Stmt := inClass (top 14) 9
abbrev s_Line_finish : Stmt := inClass (top 14) 10
abbrev s_Line_read : Stmt := inClass (top 14) 11
abbrev s_Line_head : Stmt := inClass (top 14) 12
abbrev s_Line_body : Stmt := inClass (top 14) 13
abbrev s_Line_drain : Stmt := inClass (top 14) 14
abbrev s_Line_close : Stmt := inClass (top 14) 15
abbrev s_Line_tags : Stmt := inClass (top 14) 16
abbrev s_l_source : Stmt := top 16
abbrev s_l_draw : Stmt := top 17
abbrev s_l_of : Stmt := top 18
abbrev s_l_same : Stmt := top 19
abbrev s_l_fault : Stmt := top 20
abbrev s_l_mark : Stmt := top 21
abbrev s_l_new : Stmt := top 22
abbrev s_l_due : Stmt := top 23
abbrev s_l_ask : Stmt := top 24
abbrev s_l_do : Stmt := top 25
abbrev s_l_call : Stmt := top 26
abbrev s_l_stands : Stmt := top 27
abbrev s_l_tag : Stmt := top 28
abbrev s_l_holds : Stmt := top 29
abbrev s_law : Stmt := top 30
theorem sc_is_out : FnScope ["mark"] ["mark"] (defScope s_is_out) := ⟨rfl, rfl, rfl, by decide +kernel, rfl, by decide +kernel, by decide +kernel⟩
theorem sc_is_in : FnScope ["mark"] ["mark"] (defScope s_is_in) := ⟨rfl, rfl, rfl, by decide +kernel, rfl, by decide +kernel, by decide +kernel⟩
theorem sc_mark_of : FnScope ["sending", "reading"] ["sending", "reading"] (defScope s_mark_of) := ⟨rfl, rfl, rfl, by decide +kernel, rfl, by decide +kernel, by decide +kernel⟩
theorem sc_is_amid : FnScope ["word", "mark"] ["word", "mark"] (defScope s_is_amid) := ⟨rfl, rfl, rfl, by decide +kernel, rfl, by decide +kernel, by decide +kernel⟩
theorem sc_row_fault : FnScope ["word", "mark", "owed"] ["word", "mark", "owed"] (defScope s_row_fault) := ⟨rfl, rfl, rfl, by decide +kernel, rfl, by decide +kernel, by decide +kernel⟩
theorem sc_mark_after : FnScope ["word", "mark"] ["word", "mark"] (defScope s_mark_after) := ⟨rfl, rfl, rfl, by decide +kernel, rfl, by decide +kernel, by decide +kernel⟩
theorem sc_Line___init__ : FnScope ["self", "number"] ["self", "number"] (defScope s_Line___init__) := ⟨rfl, rfl, rfl, by decide +kernel, rfl, by decide +kernel, by decide +kernel⟩
theorem sc_Line___len__ : FnScope ["self"] ["self"] (defScope s_Line___len__) := ⟨rfl, rfl, rfl, by decide +kernel, rfl, by decide +kernel, by decide +kernel⟩
theorem sc_Line___contains__ : FnScope ["self", "tag"] ["self", "tag"] (defScope s_Line___contains__) := ⟨rfl, rfl, rfl, by decide +kernel, rfl, by decide +kernel, by decide +kernel⟩
theorem sc_Line_mark : FnScope ["self"] ["self"] (defScope s_Line_mark) := ⟨rfl, rfl, rfl, by decide +kernel, rfl, by decide +kernel, by decide +kernel⟩
theorem sc_Line_is_open : FnScope ["self"] ["self"] (defScope s_Line_is_open) := ⟨rfl, rfl, rfl, by decide +kernel, rfl, by decide +kernel, by decide +kernel⟩
theorem sc_Line_is_clean : FnScope ["self"] ["self"] (defScope s_Line_is_clean) := ⟨rfl, rfl, rfl, by decide +kernel, rfl, by decide +kernel, by decide +kernel⟩
theorem sc_Line_owed : FnScope ["self"] ["self"] (defScope s_Line_owed) := ⟨rfl, rfl, rfl, by decide +kernel, rfl, by decide +kernel, by decide +kernel⟩
theorem sc_Line_need : FnScope ["self", "word", "owed", "fault"] ["self", "word", "owed"] (defScope s_Line_need) := ⟨rfl, rfl, rfl, by decide +kernel, rfl, by decide +kernel, by decide +kernel⟩
theorem sc_Line_ask : FnScope ["self", "tags"] ["self", "tags"] (defScope s_Line_ask) := ⟨rfl, rfl, rfl, by decide +kernel, rfl, by decide +kernel, by decide +kernel⟩
theorem sc_Line_begin : FnScope ["self", "tag"] ["self", "tag"] (defScope s_Line_begin) := ⟨rfl, rfl, rfl, by decide +kernel, rfl, by decide +kernel, by decide +kernel⟩
theorem sc_Line_finish : FnScope ["self"] ["self"] (defScope s_Line_finish) := ⟨rfl, rfl, rfl, by decide +kernel, rfl, by decide +kernel, by decide +kernel⟩
theorem sc_Line_read : FnScope ["self"] ["self"] (defScope s_Line_read) := ⟨rfl, rfl, rfl, by decide +kernel, rfl, by decide +kernel, by decide +kernel⟩
theorem sc_Line_head : FnScope ["self"] ["self"] (defScope s_Line_head) := ⟨rfl, rfl, rfl, by decide +kernel, rfl, by decide +kernel, by decide +kernel⟩
theorem sc_Line_body : FnScope ["self"] ["self"] (defScope s_Line_body) := ⟨rfl, rfl, rfl, by decide +kernel, rfl, by decide +kernel, by decide +kernel⟩
theorem sc_Line_drain : FnScope ["self", "tags"] ["self"] (defScope s_Line_drain) := ⟨rfl, rfl, rfl, by decide +kernel, rfl, by decide +kernel, by decide +kernel⟩
theorem sc_Line_close : FnScope ["self", "cause"] ["self", "cause"] (defScope s_Line_close) := ⟨rfl, rfl, rfl, by decide +kernel, rfl, by decide +kernel, by decide +kernel⟩
theorem sc_Line_tags : FnScope ["self"] ["self"] (defScope s_Line_tags) := ⟨rfl, rfl, rfl, by decide +kernel, rfl, by decide +kernel, by decide +kernel⟩
theorem sc_l_source : FnScope ["_law_script", "_law_place", "_law_cell", "_law_large"] ["_law_script", "_law_place"] (defScope s_l_source) := ⟨rfl, rfl, rfl, by decide +kernel, rfl, by decide +kernel, by decide +kernel⟩
theorem sc_l_draw : FnScope ["_law_source_here", "_law_many", "_law_digit", "_law_turn", "_law_mixed"] ["_law_source_here", "_law_many"] (defScope s_l_draw) := ⟨rfl, rfl, rfl, by decide +kernel, rfl, by decide +kernel, by decide +kernel⟩
theorem sc_l_of : FnScope ["_law_source_here", "_law_some"] ["_law_source_here", "_law_some"] (defScope s_l_of) := ⟨rfl, rfl, rfl, by decide +kernel, rfl, by decide +kernel, by decide +kernel⟩
theorem sc_l_same : FnScope ["_law_actual", "_law_due_here", "_law_one", "_law_two"] ["_law_actual", "_law_due_here"] (defScope s_l_same) := ⟨rfl, rfl, rfl, by decide +kernel, rfl, by decide +kernel, by decide +kernel⟩
theorem sc_l_fault : FnScope ["_law_word", "_law_mark_here", "_law_owed", "_law_sending", "_law_reading", "_law_amid"] ["_law_word", "_law_mark_here", "_law_owed"] (defScope s_l_fault) := ⟨rfl, rfl, rfl, by decide +kernel, rfl, by decide +kernel, by decide +kernel⟩
theorem sc_l_mark : FnScope ["_law_word", "_law_mark_here", "_law_sending", "_law_reading"] ["_law_word", "_law_mark_here"] (defScope s_l_mark) := ⟨rfl, rfl, rfl, by decide +kernel, rfl, by decide +kernel, by decide +kernel⟩
theorem sc_l_new : FnScope ["_law_number"] ["_law_number"] (defScope s_l_new) := ⟨rfl, rfl, rfl, by decide +kernel, rfl, by decide +kernel, by decide +kernel⟩
theorem sc_l_due : FnScope ["_law_now", "_law_word", "_law_tags", "_law_why", "_law_queue", "_law_mark_here", "_law_fault_here"] ["_law_now", "_law_word", "_law_tags", "_law_why"] (defScope s_l_due) := ⟨rfl, rfl, rfl, by decide +kernel, rfl, by decide +kernel, by decide +kernel⟩
theorem sc_l_ask : FnScope ["_law_line", "_law_tags"] ["_law_line", "_law_tags"] (defScope s_l_ask) := ⟨rfl, rfl, rfl, by decide +kernel, rfl, by decide +kernel, by decide +kernel⟩
theorem sc_l_do : FnScope ["_law_line", "_law_word", "_law_tags", "_law_why"] ["_law_line", "_law_word", "_law_tags", "_law_why"] (defScope s_l_do) := ⟨rfl, rfl, rfl, by decide +kernel, rfl, by decide +kernel, by decide +kernel⟩
theorem sc_l_call : FnScope ["_law_line", "_law_word", "_law_tags", "_law_why", "_law_told", "e"] ["_law_line", "_law_word", "_law_tags", "_law_why"] (defScope s_l_call) := ⟨rfl, rfl, rfl, by decide +kernel, rfl, by decide +kernel, by decide +kernel⟩
theorem sc_l_stands : FnScope ["_law_line", "_law_now", "_law_tag_here", "_law_queue", "_law_mark_here"] ["_law_line", "_law_now", "_law_tag_here"] (defScope s_l_stands) := ⟨rfl, rfl, rfl, by decide +kernel, rfl, by decide +kernel, by decide +kernel⟩
theorem sc_l_tag : FnScope ["_law_source_here", "_law_signs", "_law_turn"] ["_law_source_here"] (defScope s_l_tag) := ⟨rfl, rfl, rfl, by decide +kernel, rfl, by decide +kernel, by decide +kernel⟩
theorem sc_l_holds : FnScope ["_law_source_here", "_law_number", "_law_line", "_law_now", "_law_words", "_law_turn", "_law_word", "_law_tags", "_law_why", "_law_due_here", "_law_place"] ["_law_source_here"] (defScope s_l_holds) := ⟨rfl, rfl, rfl, by decide +kernel, rfl, by decide +kernel, by decide +kernel⟩
theorem sc_law : FnScope ["_law_script", "_law_place"] ["_law_script"] (defScope s_law) := ⟨rfl, rfl, rfl, by decide +kernel, rfl, by decide +kernel, by decide +kernel⟩
def fa : List My.FaB := [fun K => (He.Fa.glo "is_out").ok K,
  fun K => (He.Fa.keep "is_out").ok K,
  fun K => (He.Fa.glo "is_in").ok K,
  fun K => (He.Fa.keep "is_in").ok K,
  fun K => (He.Fa.glo "mark_of").ok K,
  fun K => (He.Fa.keep "mark_of").ok K,
  fun K => (He.Fa.glo "is_amid").ok K,
  fun K => (He.Fa.keep "is_amid").ok K,
  fun K => (He.Fa.glo "row_fault").ok K,
  fun K => (He.Fa.keep "row_fault").ok K,
  fun K => (He.Fa.glo "mark_after").ok K,
  fun K => (He.Fa.keep "mark_after").ok K,
  fun K => (He.Fa.glo "Line").ok K,
  fun K => (He.Fa.cls "Line").ok K,
  fun K => (He.Fa.noat "Line" "number").ok K,
  fun K => (He.Fa.noat "Line" "cause").ok K,
  fun K => (He.Fa.noat "Line" "state").ok K,
  fun K => (He.Fa.noat "Line" "queue").ok K,
  fun K => (He.Fa.noat "Line" "sending").ok K,
  fun K => (He.Fa.noat "Line" "is_lent").ok K,
  fun K => (He.Fa.mkr "Line").ok K,
  fun K => He.eqO (PySem.W.findIn K (.ref (He.ga K "Line")) "__len__") (some (some (.ref (He.ma K (He.ga K "Line") "__len__")))) && PySem.W.isFn K (.ref (He.ma K (He.ga K "Line") "__len__")),
  fun K => He.eqO (PySem.W.findIn K (.ref (He.ga K "Line")) "__contains__") (some (some (.ref (He.ma K (He.ga K "Line") "__contains__")))) && PySem.W.isFn K (.ref (He.ma K (He.ga K "Line") "__contains__")),
  My.prpB "Line" "mark",
  My.prpB "Line" "is_open",
  My.prpB "Line" "is_clean",
  My.prpB "Line" "owed",
  fun K => (He.Fa.meth "Line" "need").ok K,
  fun K => (He.Fa.meth "Line" "ask").ok K,
  fun K => (He.Fa.meth "Line" "begin").ok K,
  fun K => (He.Fa.meth "Line" "finish").ok K,
  fun K => (He.Fa.meth "Line" "read").ok K,
  fun K => (He.Fa.meth "Line" "head").ok K,
  fun K => (He.Fa.meth "Line" "body").ok K,
  fun K => (He.Fa.meth "Line" "drain").ok K,
  fun K => (He.Fa.meth "Line" "close").ok K,
  fun K => (He.Fa.meth "Line" "tags").ok K,
  fun K => (He.Fa.glo "_law_source").ok K,
  fun K => (He.Fa.keep "_law_source").ok K,
  fun K => (He.Fa.glo "_law_draw").ok K,
  fun K => (He.Fa.keep "_law_draw").ok K,
  fun K => (He.Fa.glo "_law_of").ok K,
  fun K => (He.Fa.keep "_law_of").ok K,
  fun K => (He.Fa.glo "_law_same").ok K,
  fun K => (He.Fa.keep "_law_same").ok K,
  fun K => (He.Fa.glo "_law_fault").ok K,
  fun K => (He.Fa.keep "_law_fault").ok K,
  fun K => (He.Fa.glo "_law_mark").ok K,
  fun K => (He.Fa.keep "_law_mark").ok K,
  fun K => (He.Fa.glo "_law_new").ok K,
  fun K => (He.Fa.keep "_law_new").ok K,
  fun K => (He.Fa.glo "_law_due").ok K,
  fun K => (He.Fa.keep "_law_due").ok K,
  fun K => (He.Fa.glo "_law_ask").ok K,
  fun K => (He.Fa.keep "_law_ask").ok K,
  fun K => (He.Fa.glo "_law_do").ok K,
  fun K => (He.Fa.keep "_law_do").ok K,
  fun K => (He.Fa.glo "_law_call").ok K,
  fun K => (He.Fa.keep "_law_call").ok K,
  fun K => (He.Fa.glo "_law_stands").ok K,
  fun K => (He.Fa.keep "_law_stands").ok K,
  fun K => (He.Fa.glo "_law_tag").ok K,
  fun K => (He.Fa.keep "_law_tag").ok K,
  fun K => (He.Fa.glo "_law_holds").ok K,
  fun K => (He.Fa.keep "_law_holds").ok K,
  fun K => (He.Fa.glo "law").ok K,
  fun K => (He.Fa.keep "law").ok K,
  fun K => (He.Fa.free "len").ok K,
  fun K => (He.Fa.free "abs").ok K,
  fun K => (He.Fa.free "int").ok K,
  fun K => (He.Fa.free "str").ok K,
  fun K => (He.Fa.free "list").ok K,
  fun K => (He.Fa.free "isinstance").ok K,
  fun K => (He.Fa.free "range").ok K,
  fun K => (He.Fa.free "max").ok K,
  fun K => (He.Fa.free "min").ok K,
  fun K => (He.Fa.free "zip").ok K,
  fun K => (He.Fa.free "all").ok K,
  fun K => (He.Fa.free "bool").ok K,
  fun K => (He.Fa.free "tuple").ok K,
  fun K => (He.Fa.glo "LINE_WORDS").ok K,
  fun K => He.tupB K "LINE_WORDS" [.str "ask", .str "begin", .str "finish", .str "read", .str "head", .str "body"],
  fun K => (He.Fa.glo "OwedError").ok K,
  fun K => (He.Fa.exm "Amid" "Amid" true).ok K,
  fun K => (He.Fa.exm "Amid" "Closed" false).ok K,
  fun K => (He.Fa.exm "Amid" "Starved" false).ok K,
  fun K => (He.Fa.exm "Amid" "OwedError" true).ok K,
  fun K => (He.Fa.exm "Closed" "Amid" false).ok K,
  fun K => (He.Fa.exm "Closed" "Closed" true).ok K,
  fun K => (He.Fa.exm "Closed" "Starved" false).ok K,
  fun K => (He.Fa.exm "Closed" "OwedError" true).ok K,
  fun K => (He.Fa.exm "Starved" "Amid" false).ok K,
  fun K => (He.Fa.exm "Starved" "Closed" false).ok K,
  fun K => (He.Fa.exm "Starved" "Starved" true).ok K,
  fun K => (He.Fa.exm "Starved" "OwedError" true).ok K]
def D_is_out : He5.DefA := ⟨My.gloF "is_out", "is_out", "is_out", defArgs s_is_out, defBody s_is_out, defScope s_is_out, [], []⟩
def D_is_in : He5.DefA := ⟨My.gloF "is_in", "is_in", "is_in", defArgs s_is_in, defBody s_is_in, defScope s_is_in, [], []⟩
def D_mark_of : He5.DefA := ⟨My.gloF "mark_of", "mark_of", "mark_of", defArgs s_mark_of, defBody s_mark_of, defScope s_mark_of, [], []⟩
def D_is_amid : He5.DefA := ⟨My.gloF "is_amid", "is_amid", "is_amid", defArgs s_is_amid, defBody s_is_amid, defScope s_is_amid, [], []⟩
def D_row_fault : He5.DefA := ⟨My.gloF "row_fault", "row_fault", "row_fault", defArgs s_row_fault, defBody s_row_fault, defScope s_row_fault, [], []⟩
def D_mark_after : He5.DefA := ⟨My.gloF "mark_after", "mark_after", "mark_after", defArgs s_mark_after, defBody s_mark_after, defScope s_mark_after, [], []⟩
def D_Line___init__ : He5.DefA := ⟨My.mthF "Line" "__init__", "__init__", "Line.__init__", defArgs s_Line___init__, defBody s_Line___init__, defScope s_Line___init__, [.int 0], []⟩
def D_Line___len__ : He5.DefA := ⟨My.mthF "Line" "__len__", "__len__", "Line.__len__", defArgs s_Line___len__, defBody s_Line___len__, defScope s_Line___len__, [], []⟩
def D_Line___contains__ : He5.DefA := ⟨My.mthF "Line" "__contains__", "__contains__", "Line.__contains__", defArgs s_Line___contains__, defBody s_Line___contains__, defScope s_Line___contains__, [], []⟩
def D_Line_mark : He5.DefA := ⟨My.prpG "Line" "mark", "mark", "Line.mark", defArgs s_Line_mark, defBody s_Line_mark, defScope s_Line_mark, [], []⟩
def D_Line_is_open : He5.DefA := ⟨My.prpG "Line" "is_open", "is_open", "Line.is_open", defArgs s_Line_is_open, defBody s_Line_is_open, defScope s_Line_is_open, [], []⟩
def D_Line_is_clean : He5.DefA := ⟨My.prpG "Line" "is_clean", "is_clean", "Line.is_clean", defArgs s_Line_is_clean, defBody s_Line_is_clean, defScope s_Line_is_clean, [], []⟩
def D_Line_owed : He5.DefA := ⟨My.prpG "Line" "owed", "owed", "Line.owed", defArgs s_Line_owed, defBody s_Line_owed, defScope s_Line_owed, [], []⟩
def D_Line_need : He5.DefA := ⟨My.mthF "Line" "need", "need", "Line.need", defArgs s_Line_need, defBody s_Line_need, defScope s_Line_need, [], []⟩
def D_Line_ask : He5.DefA := ⟨My.mthF "Line" "ask", "ask", "Line.ask", defArgs s_Line_ask, defBody s_Line_ask, defScope s_Line_ask, [], []⟩
def D_Line_begin : He5.DefA := ⟨My.mthF "Line" "begin", "begin", "Line.begin", defArgs s_Line_begin, defBody s_Line_begin, defScope s_Line_begin, [], []⟩
def D_Line_finish : He5.DefA := ⟨My.mthF "Line" "finish", "finish", "Line.finish", defArgs s_Line_finish, defBody s_Line_finish, defScope s_Line_finish, [], []⟩
def D_Line_read : He5.DefA := ⟨My.mthF "Line" "read", "read", "Line.read", defArgs s_Line_read, defBody s_Line_read, defScope s_Line_read, [], []⟩
def D_Line_head : He5.DefA := ⟨My.mthF "Line" "head", "head", "Line.head", defArgs s_Line_head, defBody s_Line_head, defScope s_Line_head, [], []⟩
def D_Line_body : He5.DefA := ⟨My.mthF "Line" "body", "body", "Line.body", defArgs s_Line_body, defBody s_Line_body, defScope s_Line_body, [], []⟩
def D_Line_drain : He5.DefA := ⟨My.mthF "Line" "drain", "drain", "Line.drain", defArgs s_Line_drain, defBody s_Line_drain, defScope s_Line_drain, [], []⟩
def D_Line_close : He5.DefA := ⟨My.mthF "Line" "close", "close", "Line.close", defArgs s_Line_close, defBody s_Line_close, defScope s_Line_close, [.non], []⟩
def D_Line_tags : He5.DefA := ⟨My.mthF "Line" "tags", "tags", "Line.tags", defArgs s_Line_tags, defBody s_Line_tags, defScope s_Line_tags, [], []⟩
def D_l_source : He5.DefA := ⟨My.gloF "_law_source", "_law_source", "_law_source", defArgs s_l_source, defBody s_l_source, defScope s_l_source, [], []⟩
def D_l_draw : He5.DefA := ⟨My.gloF "_law_draw", "_law_draw", "_law_draw", defArgs s_l_draw, defBody s_l_draw, defScope s_l_draw, [], []⟩
def D_l_of : He5.DefA := ⟨My.gloF "_law_of", "_law_of", "_law_of", defArgs s_l_of, defBody s_l_of, defScope s_l_of, [], []⟩
def D_l_same : He5.DefA := ⟨My.gloF "_law_same", "_law_same", "_law_same", defArgs s_l_same, defBody s_l_same, defScope s_l_same, [], []⟩
def D_l_fault : He5.DefA := ⟨My.gloF "_law_fault", "_law_fault", "_law_fault", defArgs s_l_fault, defBody s_l_fault, defScope s_l_fault, [], []⟩
def D_l_mark : He5.DefA := ⟨My.gloF "_law_mark", "_law_mark", "_law_mark", defArgs s_l_mark, defBody s_l_mark, defScope s_l_mark, [], []⟩
def D_l_new : He5.DefA := ⟨My.gloF "_law_new", "_law_new", "_law_new", defArgs s_l_new, defBody s_l_new, defScope s_l_new, [], []⟩
def D_l_due : He5.DefA := ⟨My.gloF "_law_due", "_law_due", "_law_due", defArgs s_l_due, defBody s_l_due, defScope s_l_due, [], []⟩
def D_l_ask : He5.DefA := ⟨My.gloF "_law_ask", "_law_ask", "_law_ask", defArgs s_l_ask, defBody s_l_ask, defScope s_l_ask, [], []⟩
def D_l_do : He5.DefA := ⟨My.gloF "_law_do", "_law_do", "_law_do", defArgs s_l_do, defBody s_l_do, defScope s_l_do, [], []⟩
def D_l_call : He5.DefA := ⟨My.gloF "_law_call", "_law_call", "_law_call", defArgs s_l_call, defBody s_l_call, defScope s_l_call, [], []⟩
def D_l_stands : He5.DefA := ⟨My.gloF "_law_stands", "_law_stands", "_law_stands", defArgs s_l_stands, defBody s_l_stands, defScope s_l_stands, [], []⟩
def D_l_tag : He5.DefA := ⟨My.gloF "_law_tag", "_law_tag", "_law_tag", defArgs s_l_tag, defBody s_l_tag, defScope s_l_tag, [], []⟩
def D_l_holds : He5.DefA := ⟨My.gloF "_law_holds", "_law_holds", "_law_holds", defArgs s_l_holds, defBody s_l_holds, defScope s_l_holds, [], []⟩
def D_law : He5.DefA := ⟨My.gloF "law", "law", "law", defArgs s_law, defBody s_law, defScope s_law, [], []⟩
def fn : List He5.DefA := [D_is_out, D_is_in, D_mark_of, D_is_amid, D_row_fault, D_mark_after, D_Line___init__, D_Line___len__, D_Line___contains__, D_Line_mark, D_Line_is_open, D_Line_is_clean, D_Line_owed, D_Line_need, D_Line_ask, D_Line_begin, D_Line_finish, D_Line_read, D_Line_head, D_Line_body, D_Line_drain, D_Line_close, D_Line_tags, D_l_source, D_l_draw, D_l_of, D_l_same, D_l_fault, D_l_mark, D_l_new, D_l_due, D_l_ask, D_l_do, D_l_call, D_l_stands, D_l_tag, D_l_holds, D_law]
abbrev Pg : Program := PySem.Challenge.rw_owedanswers_k31_lines_step_by_step.prog
abbrev fl : Str := "/claim/cut.py"
abbrev s_Amid : Stmt := inClass (top 2) 0
def X_Amid : My.DefX := ⟨"Amid", "half", "Amid.__init__", defArgs s_Amid, defBody s_Amid, defScope s_Amid⟩
abbrev s_Closed : Stmt := inClass (top 3) 0
def X_Closed : My.DefX := ⟨"Closed", "number", "Closed.__init__", defArgs s_Closed, defBody s_Closed, defScope s_Closed⟩
abbrev s_Starved : Stmt := inClass (top 4) 0
def X_Starved : My.DefX := ⟨"Starved", "number", "Starved.__init__", defArgs s_Starved, defBody s_Starved, defScope s_Starved⟩
def fx : List My.DefX := [X_Amid, X_Closed, X_Starved]
structure Tx (K : PySem.W.Frag) (mg : Str → Option Value) : Prop where
  ex : ∃ h : Heap, K.In h ∧ h.Ns mainGlobals mg
  c : My.SaysX fl fa fn fx K
section
variable {K : PySem.W.Frag} {mg : Str → Option Value}
theorem Tx.g_is_out (T : Tx K mg) : mg "is_out" = some (.ref (He.ga K "is_out")) := by obtain ⟨h, X, G⟩ := T.ex; exact He.glo_ok X G (T.c.fact 0)
theorem Tx.k_is_out (T : Tx K mg) : PySem.W.keepIn K (.ref (He.ga K "is_out")) = true := He.keep_ok (T.c.fact 1)
theorem Tx.g_is_in (T : Tx K mg) : mg "is_in" = some (.ref (He.ga K "is_in")) := by obtain ⟨h, X, G⟩ := T.ex; exact He.glo_ok X G (T.c.fact 2)
theorem Tx.k_is_in (T : Tx K mg) : PySem.W.keepIn K (.ref (He.ga K "is_in")) = true := He.keep_ok (T.c.fact 3)
theorem Tx.g_mark_of (T : Tx K mg) : mg "mark_of" = some (.ref (He.ga K "mark_of")) := by obtain ⟨h, X, G⟩ := T.ex; exact He.glo_ok X G (T.c.fact 4)
theorem Tx.k_mark_of (T : Tx K mg) : PySem.W.keepIn K (.ref (He.ga K "mark_of")) = true := He.keep_ok (T.c.fact 5)
theorem Tx.g_is_amid (T : Tx K mg) : mg "is_amid" = some (.ref (He.ga K "is_amid")) := by obtain ⟨h, X, G⟩ := T.ex; exact He.glo_ok X G (T.c.fact 6)
theorem Tx.k_is_amid (T : Tx K mg) : PySem.W.keepIn K (.ref (He.ga K "is_amid")) = true := He.keep_ok (T.c.fact 7)
theorem Tx.g_row_fault (T : Tx K mg) : mg "row_fault" = some (.ref (He.ga K "row_fault")) := by obtain ⟨h, X, G⟩ := T.ex; exact He.glo_ok X G (T.c.fact 8)
theorem Tx.k_row_fault (T : Tx K mg) : PySem.W.keepIn K (.ref (He.ga K "row_fault")) = true := He.keep_ok (T.c.fact 9)
theorem Tx.g_mark_after (T : Tx K mg) : mg "mark_after" = some (.ref (He.ga K "mark_after")) := by obtain ⟨h, X, G⟩ := T.ex; exact He.glo_ok X G (T.c.fact 10)
theorem Tx.k_mark_after (T : Tx K mg) : PySem.W.keepIn K (.ref (He.ga K "mark_after")) = true := He.keep_ok (T.c.fact 11)
theorem Tx.g_Line (T : Tx K mg) : mg "Line" = some (.ref (He.ga K "Line")) := by obtain ⟨h, X, G⟩ := T.ex; exact He.glo_ok X G (T.c.fact 12)
theorem Tx.c_Line (T : Tx K mg) : Cls K (He.ga K "Line") := He.cls_ok (T.c.fact 13)
theorem Tx.f_Line_number (T : Tx K mg) : NoAttr K (He.ga K "Line") "number" := He.noat_ok (T.c.fact 14)
theorem Tx.f_Line_cause (T : Tx K mg) : NoAttr K (He.ga K "Line") "cause" := He.noat_ok (T.c.fact 15)
theorem Tx.f_Line_state (T : Tx K mg) : NoAttr K (He.ga K "Line") "state" := He.noat_ok (T.c.fact 16)
theorem Tx.f_Line_queue (T : Tx K mg) : NoAttr K (He.ga K "Line") "queue" := He.noat_ok (T.c.fact 17)
theorem Tx.f_Line_sending (T : Tx K mg) : NoAttr K (He.ga K "Line") "sending" := He.noat_ok (T.c.fact 18)
theorem Tx.f_Line_is_lent (T : Tx K mg) : NoAttr K (He.ga K "Line") "is_lent" := He.noat_ok (T.c.fact 19)
theorem Tx.m_Line (T : Tx K mg) : Mk K (He.ga K "Line") (He.ma K (He.ga K "Line") "__init__") := He.mkr_ok (T.c.fact 20)
theorem Tx.s_Line___len__ (T : Tx K mg) : My.Spc K (He.ga K "Line") "__len__" (He.ma K (He.ga K "Line") "__len__") := ⟨He.eqO_ok (He.ba (T.c.fact 21)).1, (He.ba (T.c.fact 21)).2⟩
theorem Tx.s_Line___contains__ (T : Tx K mg) : My.Spc K (He.ga K "Line") "__contains__" (He.ma K (He.ga K "Line") "__contains__") := ⟨He.eqO_ok (He.ba (T.c.fact 22)).1, (He.ba (T.c.fact 22)).2⟩
theorem Tx.p_Line_mark (T : Tx K mg) : PropOf K (He.ga K "Line") "mark" (My.prpA "Line" "mark" K) (My.prpG "Line" "mark" K) := My.prpB_ok (T.c.fact 23)
theorem Tx.p_Line_is_open (T : Tx K mg) : PropOf K (He.ga K "Line") "is_open" (My.prpA "Line" "is_open" K) (My.prpG "Line" "is_open" K) := My.prpB_ok (T.c.fact 24)
theorem Tx.p_Line_is_clean (T : Tx K mg) : PropOf K (He.ga K "Line") "is_clean" (My.prpA "Line" "is_clean" K) (My.prpG "Line" "is_clean" K) := My.prpB_ok (T.c.fact 25)
theorem Tx.p_Line_owed (T : Tx K mg) : PropOf K (He.ga K "Line") "owed" (My.prpA "Line" "owed" K) (My.prpG "Line" "owed" K) := My.prpB_ok (T.c.fact 26)
theorem Tx.m_Line_need (T : Tx K mg) : Meth K (He.ga K "Line") "need" (He.ma K (He.ga K "Line") "need") := He.meth_ok (T.c.fact 27)
theorem Tx.m_Line_ask (T : Tx K mg) : Meth K (He.ga K "Line") "ask" (He.ma K (He.ga K "Line") "ask") := He.meth_ok (T.c.fact 28)
theorem Tx.m_Line_begin (T : Tx K mg) : Meth K (He.ga K "Line") "begin" (He.ma K (He.ga K "Line") "begin") := He.meth_ok (T.c.fact 29)
theorem Tx.m_Line_finish (T : Tx K mg) : Meth K (He.ga K "Line") "finish" (He.ma K (He.ga K "Line") "finish") := He.meth_ok (T.c.fact 30)
theorem Tx.m_Line_read (T : Tx K mg) : Meth K (He.ga K "Line") "read" (He.ma K (He.ga K "Line") "read") := He.meth_ok (T.c.fact 31)
theorem Tx.m_Line_head (T : Tx K mg) : Meth K (He.ga K "Line") "head" (He.ma K (He.ga K "Line") "head") := He.meth_ok (T.c.fact 32)
theorem Tx.m_Line_body (T : Tx K mg) : Meth K (He.ga K "Line") "body" (He.ma K (He.ga K "Line") "body") := He.meth_ok (T.c.fact 33)
theorem Tx.m_Line_drain (T : Tx K mg) : Meth K (He.ga K "Line") "drain" (He.ma K (He.ga K "Line") "drain") := He.meth_ok (T.c.fact 34)
theorem Tx.m_Line_close (T : Tx K mg) : Meth K (He.ga K "Line") "close" (He.ma K (He.ga K "Line") "close") := He.meth_ok (T.c.fact 35)
theorem Tx.m_Line_tags (T : Tx K mg) : Meth K (He.ga K "Line") "tags" (He.ma K (He.ga K "Line") "tags") := He.meth_ok (T.c.fact 36)
theorem Tx.g__law_source (T : Tx K mg) : mg "_law_source" = some (.ref (He.ga K "_law_source")) := by obtain ⟨h, X, G⟩ := T.ex; exact He.glo_ok X G (T.c.fact 37)
theorem Tx.k__law_source (T : Tx K mg) : PySem.W.keepIn K (.ref (He.ga K "_law_source")) = true := He.keep_ok (T.c.fact 38)
theorem Tx.g__law_draw (T : Tx K mg) : mg "_law_draw" = some (.ref (He.ga K "_law_draw")) := by obtain ⟨h, X, G⟩ := T.ex; exact He.glo_ok X G (T.c.fact 39)
theorem Tx.k__law_draw (T : Tx K mg) : PySem.W.keepIn K (.ref (He.ga K "_law_draw")) = true := He.keep_ok (T.c.fact 40)
theorem Tx.g__law_of (T : Tx K mg) : mg "_law_of" = some (.ref (He.ga K "_law_of")) := by obtain ⟨h, X, G⟩ := T.ex; exact He.glo_ok X G (T.c.fact 41)
theorem Tx.k__law_of (T : Tx K mg) : PySem.W.keepIn K (.ref (He.ga K "_law_of")) = true := He.keep_ok (T.c.fact 42)
theorem Tx.g__law_same (T : Tx K mg) : mg "_law_same" = some (.ref (He.ga K "_law_same")) := by obtain ⟨h, X, G⟩ := T.ex; exact He.glo_ok X G (T.c.fact 43)
theorem Tx.k__law_same (T : Tx K mg) : PySem.W.keepIn K (.ref (He.ga K "_law_same")) = true := He.keep_ok (T.c.fact 44)
theorem Tx.g__law_fault (T : Tx K mg) : mg "_law_fault" = some (.ref (He.ga K "_law_fault")) := by obtain ⟨h, X, G⟩ := T.ex; exact He.glo_ok X G (T.c.fact 45)
theorem Tx.k__law_fault (T : Tx K mg) : PySem.W.keepIn K (.ref (He.ga K "_law_fault")) = true := He.keep_ok (T.c.fact 46)
theorem Tx.g__law_mark (T : Tx K mg) : mg "_law_mark" = some (.ref (He.ga K "_law_mark")) := by obtain ⟨h, X, G⟩ := T.ex; exact He.glo_ok X G (T.c.fact 47)
theorem Tx.k__law_mark (T : Tx K mg) : PySem.W.keepIn K (.ref (He.ga K "_law_mark")) = true := He.keep_ok (T.c.fact 48)
theorem Tx.g__law_new (T : Tx K mg) : mg "_law_new" = some (.ref (He.ga K "_law_new")) := by obtain ⟨h, X, G⟩ := T.ex; exact He.glo_ok X G (T.c.fact 49)
theorem Tx.k__law_new (T : Tx K mg) : PySem.W.keepIn K (.ref (He.ga K "_law_new")) = true := He.keep_ok (T.c.fact 50)
theorem Tx.g__law_due (T : Tx K mg) : mg "_law_due" = some (.ref (He.ga K "_law_due")) := by obtain ⟨h, X, G⟩ := T.ex; exact He.glo_ok X G (T.c.fact 51)
theorem Tx.k__law_due (T : Tx K mg) : PySem.W.keepIn K (.ref (He.ga K "_law_due")) = true := He.keep_ok (T.c.fact 52)
theorem Tx.g__law_ask (T : Tx K mg) : mg "_law_ask" = some (.ref (He.ga K "_law_ask")) := by obtain ⟨h, X, G⟩ := T.ex; exact He.glo_ok X G (T.c.fact 53)
theorem Tx.k__law_ask (T : Tx K mg) : PySem.W.keepIn K (.ref (He.ga K "_law_ask")) = true := He.keep_ok (T.c.fact 54)
theorem Tx.g__law_do (T : Tx K mg) : mg "_law_do" = some (.ref (He.ga K "_law_do")) := by obtain ⟨h, X, G⟩ := T.ex; exact He.glo_ok X G (T.c.fact 55)
theorem Tx.k__law_do (T : Tx K mg) : PySem.W.keepIn K (.ref (He.ga K "_law_do")) = true := He.keep_ok (T.c.fact 56)
theorem Tx.g__law_call (T : Tx K mg) : mg "_law_call" = some (.ref (He.ga K "_law_call")) := by obtain ⟨h, X, G⟩ := T.ex; exact He.glo_ok X G (T.c.fact 57)
theorem Tx.k__law_call (T : Tx K mg) : PySem.W.keepIn K (.ref (He.ga K "_law_call")) = true := He.keep_ok (T.c.fact 58)
theorem Tx.g__law_stands (T : Tx K mg) : mg "_law_stands" = some (.ref (He.ga K "_law_stands")) := by obtain ⟨h, X, G⟩ := T.ex; exact He.glo_ok X G (T.c.fact 59)
theorem Tx.k__law_stands (T : Tx K mg) : PySem.W.keepIn K (.ref (He.ga K "_law_stands")) = true := He.keep_ok (T.c.fact 60)
theorem Tx.g__law_tag (T : Tx K mg) : mg "_law_tag" = some (.ref (He.ga K "_law_tag")) := by obtain ⟨h, X, G⟩ := T.ex; exact He.glo_ok X G (T.c.fact 61)
theorem Tx.k__law_tag (T : Tx K mg) : PySem.W.keepIn K (.ref (He.ga K "_law_tag")) = true := He.keep_ok (T.c.fact 62)
theorem Tx.g__law_holds (T : Tx K mg) : mg "_law_holds" = some (.ref (He.ga K "_law_holds")) := by obtain ⟨h, X, G⟩ := T.ex; exact He.glo_ok X G (T.c.fact 63)
theorem Tx.k__law_holds (T : Tx K mg) : PySem.W.keepIn K (.ref (He.ga K "_law_holds")) = true := He.keep_ok (T.c.fact 64)
theorem Tx.g_law (T : Tx K mg) : mg "law" = some (.ref (He.ga K "law")) := by obtain ⟨h, X, G⟩ := T.ex; exact He.glo_ok X G (T.c.fact 65)
theorem Tx.k_law (T : Tx K mg) : PySem.W.keepIn K (.ref (He.ga K "law")) = true := He.keep_ok (T.c.fact 66)
theorem Tx.n_len (T : Tx K mg) : mg "len" = none := by obtain ⟨h, X, G⟩ := T.ex; exact He.free_ok X G (T.c.fact 67)
theorem Tx.n_abs (T : Tx K mg) : mg "abs" = none := by obtain ⟨h, X, G⟩ := T.ex; exact He.free_ok X G (T.c.fact 68)
theorem Tx.n_int (T : Tx K mg) : mg "int" = none := by obtain ⟨h, X, G⟩ := T.ex; exact He.free_ok X G (T.c.fact 69)
theorem Tx.n_str (T : Tx K mg) : mg "str" = none := by obtain ⟨h, X, G⟩ := T.ex; exact He.free_ok X G (T.c.fact 70)
theorem Tx.n_list (T : Tx K mg) : mg "list" = none := by obtain ⟨h, X, G⟩ := T.ex; exact He.free_ok X G (T.c.fact 71)
theorem Tx.n_isinstance (T : Tx K mg) : mg "isinstance" = none := by obtain ⟨h, X, G⟩ := T.ex; exact He.free_ok X G (T.c.fact 72)
theorem Tx.n_range (T : Tx K mg) : mg "range" = none := by obtain ⟨h, X, G⟩ := T.ex; exact He.free_ok X G (T.c.fact 73)
theorem Tx.n_max (T : Tx K mg) : mg "max" = none := by obtain ⟨h, X, G⟩ := T.ex; exact He.free_ok X G (T.c.fact 74)
theorem Tx.n_min (T : Tx K mg) : mg "min" = none := by obtain ⟨h, X, G⟩ := T.ex; exact He.free_ok X G (T.c.fact 75)
theorem Tx.n_zip (T : Tx K mg) : mg "zip" = none := by obtain ⟨h, X, G⟩ := T.ex; exact He.free_ok X G (T.c.fact 76)
theorem Tx.n_all (T : Tx K mg) : mg "all" = none := by obtain ⟨h, X, G⟩ := T.ex; exact He.free_ok X G (T.c.fact 77)
theorem Tx.n_bool (T : Tx K mg) : mg "bool" = none := by obtain ⟨h, X, G⟩ := T.ex; exact He.free_ok X G (T.c.fact 78)
theorem Tx.n_tuple (T : Tx K mg) : mg "tuple" = none := by obtain ⟨h, X, G⟩ := T.ex; exact He.free_ok X G (T.c.fact 79)
theorem Tx.g_LINE_WORDS (T : Tx K mg) : mg "LINE_WORDS" = some (.ref (He.ga K "LINE_WORDS")) := by obtain ⟨h, X, G⟩ := T.ex; exact He.glo_ok X G (T.c.fact 80)
theorem Tx.q_LINE_WORDS (T : Tx K mg) : ∀ H : Hp, SqT K H (He.ga K "LINE_WORDS") [.str "ask", .str "begin", .str "finish", .str "read", .str "head", .str "body"] := fun H => He.tupB_ok (vs := [.str "ask", .str "begin", .str "finish", .str "read", .str "head", .str "body"]) (T.c.fact 81) H
theorem Tx.g_OwedError (T : Tx K mg) : mg "OwedError" = some (.ref (He.ga K "OwedError")) := by obtain ⟨h, X, G⟩ := T.ex; exact He.glo_ok X G (T.c.fact 82)
theorem Tx.x_Amid_Amid (T : Tx K mg) : PySem.W.exmOne K (.ref (He.ga K "Amid")) (.ref (He.ga K "Amid")) = some true := He.exm_ok (T.c.fact 83)
theorem Tx.x_Amid_Closed (T : Tx K mg) : PySem.W.exmOne K (.ref (He.ga K "Amid")) (.ref (He.ga K "Closed")) = some false := He.exm_ok (T.c.fact 84)
theorem Tx.x_Amid_Starved (T : Tx K mg) : PySem.W.exmOne K (.ref (He.ga K "Amid")) (.ref (He.ga K "Starved")) = some false := He.exm_ok (T.c.fact 85)
theorem Tx.x_Amid_OwedError (T : Tx K mg) : PySem.W.exmOne K (.ref (He.ga K "Amid")) (.ref (He.ga K "OwedError")) = some true := He.exm_ok (T.c.fact 86)
theorem Tx.x_Closed_Amid (T : Tx K mg) : PySem.W.exmOne K (.ref (He.ga K "Closed")) (.ref (He.ga K "Amid")) = some false := He.exm_ok (T.c.fact 87)
theorem Tx.x_Closed_Closed (T : Tx K mg) : PySem.W.exmOne K (.ref (He.ga K "Closed")) (.ref (He.ga K "Closed")) = some true := He.exm_ok (T.c.fact 88)
theorem Tx.x_Closed_Starved (T : Tx K mg) : PySem.W.exmOne K (.ref (He.ga K "Closed")) (.ref (He.ga K "Starved")) = some false := He.exm_ok (T.c.fact 89)
theorem Tx.x_Closed_OwedError (T : Tx K mg) : PySem.W.exmOne K (.ref (He.ga K "Closed")) (.ref (He.ga K "OwedError")) = some true := He.exm_ok (T.c.fact 90)
theorem Tx.x_Starved_Amid (T : Tx K mg) : PySem.W.exmOne K (.ref (He.ga K "Starved")) (.ref (He.ga K "Amid")) = some false := He.exm_ok (T.c.fact 91)
theorem Tx.x_Starved_Closed (T : Tx K mg) : PySem.W.exmOne K (.ref (He.ga K "Starved")) (.ref (He.ga K "Closed")) = some false := He.exm_ok (T.c.fact 92)
theorem Tx.x_Starved_Starved (T : Tx K mg) : PySem.W.exmOne K (.ref (He.ga K "Starved")) (.ref (He.ga K "Starved")) = some true := He.exm_ok (T.c.fact 93)
theorem Tx.x_Starved_OwedError (T : Tx K mg) : PySem.W.exmOne K (.ref (He.ga K "Starved")) (.ref (He.ga K "OwedError")) = some true := He.exm_ok (T.c.fact 94)
theorem Tx.d_is_out (T : Tx K mg) : ∃ fd, L2.FunD K D_is_out.name D_is_out.qual D_is_out.params D_is_out.body D_is_out.scope (D_is_out.dvs K) (D_is_out.kws K) (He.ga K "is_out") fd := T.c.def_ 0 (d := D_is_out)
theorem Tx.d_is_in (T : Tx K mg) : ∃ fd, L2.FunD K D_is_in.name D_is_in.qual D_is_in.params D_is_in.body D_is_in.scope (D_is_in.dvs K) (D_is_in.kws K) (He.ga K "is_in") fd := T.c.def_ 1 (d := D_is_in)
theorem Tx.d_mark_of (T : Tx K mg) : ∃ fd, L2.FunD K D_mark_of.name D_mark_of.qual D_mark_of.params D_mark_of.body D_mark_of.scope (D_mark_of.dvs K) (D_mark_of.kws K) (He.ga K "mark_of") fd := T.c.def_ 2 (d := D_mark_of)
theorem Tx.d_is_amid (T : Tx K mg) : ∃ fd, L2.FunD K D_is_amid.name D_is_amid.qual D_is_amid.params D_is_amid.body D_is_amid.scope (D_is_amid.dvs K) (D_is_amid.kws K) (He.ga K "is_amid") fd := T.c.def_ 3 (d := D_is_amid)
theorem Tx.d_row_fault (T : Tx K mg) : ∃ fd, L2.FunD K D_row_fault.name D_row_fault.qual D_row_fault.params D_row_fault.body D_row_fault.scope (D_row_fault.dvs K) (D_row_fault.kws K) (He.ga K "row_fault") fd := T.c.def_ 4 (d := D_row_fault)
theorem Tx.d_mark_after (T : Tx K mg) : ∃ fd, L2.FunD K D_mark_after.name D_mark_after.qual D_mark_after.params D_mark_after.body D_mark_after.scope (D_mark_after.dvs K) (D_mark_after.kws K) (He.ga K "mark_after") fd := T.c.def_ 5 (d := D_mark_after)
theorem Tx.d_Line___init__ (T : Tx K mg) : ∃ fd, L2.FunD K D_Line___init__.name D_Line___init__.qual D_Line___init__.params D_Line___init__.body D_Line___init__.scope (D_Line___init__.dvs K) (D_Line___init__.kws K) (He.ma K (He.ga K "Line") "__init__") fd := T.c.def_ 6 (d := D_Line___init__)
theorem Tx.d_Line___len__ (T : Tx K mg) : ∃ fd, L2.FunD K D_Line___len__.name D_Line___len__.qual D_Line___len__.params D_Line___len__.body D_Line___len__.scope (D_Line___len__.dvs K) (D_Line___len__.kws K) (He.ma K (He.ga K "Line") "__len__") fd := T.c.def_ 7 (d := D_Line___len__)
theorem Tx.d_Line___contains__ (T : Tx K mg) : ∃ fd, L2.FunD K D_Line___contains__.name D_Line___contains__.qual D_Line___contains__.params D_Line___contains__.body D_Line___contains__.scope (D_Line___contains__.dvs K) (D_Line___contains__.kws K) (He.ma K (He.ga K "Line") "__contains__") fd := T.c.def_ 8 (d := D_Line___contains__)
theorem Tx.d_Line_mark (T : Tx K mg) : ∃ fd, L2.FunD K D_Line_mark.name D_Line_mark.qual D_Line_mark.params D_Line_mark.body D_Line_mark.scope (D_Line_mark.dvs K) (D_Line_mark.kws K) (My.prpG "Line" "mark" K) fd := T.c.def_ 9 (d := D_Line_mark)
theorem Tx.d_Line_is_open (T : Tx K mg) : ∃ fd, L2.FunD K D_Line_is_open.name D_Line_is_open.qual D_Line_is_open.params D_Line_is_open.body D_Line_is_open.scope (D_Line_is_open.dvs K) (D_Line_is_open.kws K) (My.prpG "Line" "is_open" K) fd := T.c.def_ 10 (d := D_Line_is_open)
theorem Tx.d_Line_is_clean (T : Tx K mg) : ∃ fd, L2.FunD K D_Line_is_clean.name D_Line_is_clean.qual D_Line_is_clean.params D_Line_is_clean.body D_Line_is_clean.scope (D_Line_is_clean.dvs K) (D_Line_is_clean.kws K) (My.prpG "Line" "is_clean" K) fd := T.c.def_ 11 (d := D_Line_is_clean)
theorem Tx.d_Line_owed (T : Tx K mg) : ∃ fd, L2.FunD K D_Line_owed.name D_Line_owed.qual D_Line_owed.params D_Line_owed.body D_Line_owed.scope (D_Line_owed.dvs K) (D_Line_owed.kws K) (My.prpG "Line" "owed" K) fd := T.c.def_ 12 (d := D_Line_owed)
theorem Tx.d_Line_need (T : Tx K mg) : ∃ fd, L2.FunD K D_Line_need.name D_Line_need.qual D_Line_need.params D_Line_need.body D_Line_need.scope (D_Line_need.dvs K) (D_Line_need.kws K) (He.ma K (He.ga K "Line") "need") fd := T.c.def_ 13 (d := D_Line_need)
theorem Tx.d_Line_ask (T : Tx K mg) : ∃ fd, L2.FunD K D_Line_ask.name D_Line_ask.qual D_Line_ask.params D_Line_ask.body D_Line_ask.scope (D_Line_ask.dvs K) (D_Line_ask.kws K) (He.ma K (He.ga K "Line") "ask") fd := T.c.def_ 14 (d := D_Line_ask)
theorem Tx.d_Line_begin (T : Tx K mg) : ∃ fd, L2.FunD K D_Line_begin.name D_Line_begin.qual D_Line_begin.params D_Line_begin.body D_Line_begin.scope (D_Line_begin.dvs K) (D_Line_begin.kws K) (He.ma K (He.ga K "Line") "begin") fd := T.c.def_ 15 (d := D_Line_begin)
theorem Tx.d_Line_finish (T : Tx K mg) : ∃ fd, L2.FunD K D_Line_finish.name D_Line_finish.qual D_Line_finish.params D_Line_finish.body D_Line_finish.scope (D_Line_finish.dvs K) (D_Line_finish.kws K) (He.ma K (He.ga K "Line") "finish") fd := T.c.def_ 16 (d := D_Line_finish)
theorem Tx.d_Line_read (T : Tx K mg) : ∃ fd, L2.FunD K D_Line_read.name D_Line_read.qual D_Line_read.params D_Line_read.body D_Line_read.scope (D_Line_read.dvs K) (D_Line_read.kws K) (He.ma K (He.ga K "Line") "read") fd := T.c.def_ 17 (d := D_Line_read)
theorem Tx.d_Line_head (T : Tx K mg) : ∃ fd, L2.FunD K D_Line_head.name D_Line_head.qual D_Line_head.params D_Line_head.body D_Line_head.scope (D_Line_head.dvs K) (D_Line_head.kws K) (He.ma K (He.ga K "Line") "head") fd := T.c.def_ 18 (d := D_Line_head)
theorem Tx.d_Line_body (T : Tx K mg) : ∃ fd, L2.FunD K D_Line_body.name D_Line_body.qual D_Line_body.params D_Line_body.body D_Line_body.scope (D_Line_body.dvs K) (D_Line_body.kws K) (He.ma K (He.ga K "Line") "body") fd := T.c.def_ 19 (d := D_Line_body)
theorem Tx.d_Line_drain (T : Tx K mg) : ∃ fd, L2.FunD K D_Line_drain.name D_Line_drain.qual D_Line_drain.params D_Line_drain.body D_Line_drain.scope (D_Line_drain.dvs K) (D_Line_drain.kws K) (He.ma K (He.ga K "Line") "drain") fd := T.c.def_ 20 (d := D_Line_drain)
theorem Tx.d_Line_close (T : Tx K mg) : ∃ fd, L2.FunD K D_Line_close.name D_Line_close.qual D_Line_close.params D_Line_close.body D_Line_close.scope (D_Line_close.dvs K) (D_Line_close.kws K) (He.ma K (He.ga K "Line") "close") fd := T.c.def_ 21 (d := D_Line_close)
theorem Tx.d_Line_tags (T : Tx K mg) : ∃ fd, L2.FunD K D_Line_tags.name D_Line_tags.qual D_Line_tags.params D_Line_tags.body D_Line_tags.scope (D_Line_tags.dvs K) (D_Line_tags.kws K) (He.ma K (He.ga K "Line") "tags") fd := T.c.def_ 22 (d := D_Line_tags)
theorem Tx.d_l_source (T : Tx K mg) : ∃ fd, L2.FunD K D_l_source.name D_l_source.qual D_l_source.params D_l_source.body D_l_source.scope (D_l_source.dvs K) (D_l_source.kws K) (He.ga K "_law_source") fd := T.c.def_ 23 (d := D_l_source)
theorem Tx.d_l_draw (T : Tx K mg) : ∃ fd, L2.FunD K D_l_draw.name D_l_draw.qual D_l_draw.params D_l_draw.body D_l_draw.scope (D_l_draw.dvs K) (D_l_draw.kws K) (He.ga K "_law_draw") fd := T.c.def_ 24 (d := D_l_draw)
theorem Tx.d_l_of (T : Tx K mg) : ∃ fd, L2.FunD K D_l_of.name D_l_of.qual D_l_of.params D_l_of.body D_l_of.scope (D_l_of.dvs K) (D_l_of.kws K) (He.ga K "_law_of") fd := T.c.def_ 25 (d := D_l_of)
theorem Tx.d_l_same (T : Tx K mg) : ∃ fd, L2.FunD K D_l_same.name D_l_same.qual D_l_same.params D_l_same.body D_l_same.scope (D_l_same.dvs K) (D_l_same.kws K) (He.ga K "_law_same") fd := T.c.def_ 26 (d := D_l_same)
theorem Tx.d_l_fault (T : Tx K mg) : ∃ fd, L2.FunD K D_l_fault.name D_l_fault.qual D_l_fault.params D_l_fault.body D_l_fault.scope (D_l_fault.dvs K) (D_l_fault.kws K) (He.ga K "_law_fault") fd := T.c.def_ 27 (d := D_l_fault)
theorem Tx.d_l_mark (T : Tx K mg) : ∃ fd, L2.FunD K D_l_mark.name D_l_mark.qual D_l_mark.params D_l_mark.body D_l_mark.scope (D_l_mark.dvs K) (D_l_mark.kws K) (He.ga K "_law_mark") fd := T.c.def_ 28 (d := D_l_mark)
theorem Tx.d_l_new (T : Tx K mg) : ∃ fd, L2.FunD K D_l_new.name D_l_new.qual D_l_new.params D_l_new.body D_l_new.scope (D_l_new.dvs K) (D_l_new.kws K) (He.ga K "_law_new") fd := T.c.def_ 29 (d := D_l_new)
theorem Tx.d_l_due (T : Tx K mg) : ∃ fd, L2.FunD K D_l_due.name D_l_due.qual D_l_due.params D_l_due.body D_l_due.scope (D_l_due.dvs K) (D_l_due.kws K) (He.ga K "_law_due") fd := T.c.def_ 30 (d := D_l_due)
theorem Tx.d_l_ask (T : Tx K mg) : ∃ fd, L2.FunD K D_l_ask.name D_l_ask.qual D_l_ask.params D_l_ask.body D_l_ask.scope (D_l_ask.dvs K) (D_l_ask.kws K) (He.ga K "_law_ask") fd := T.c.def_ 31 (d := D_l_ask)
theorem Tx.d_l_do (T : Tx K mg) : ∃ fd, L2.FunD K D_l_do.name D_l_do.qual D_l_do.params D_l_do.body D_l_do.scope (D_l_do.dvs K) (D_l_do.kws K) (He.ga K "_law_do") fd := T.c.def_ 32 (d := D_l_do)
theorem Tx.d_l_call (T : Tx K mg) : ∃ fd, L2.FunD K D_l_call.name D_l_call.qual D_l_call.params D_l_call.body D_l_call.scope (D_l_call.dvs K) (D_l_call.kws K) (He.ga K "_law_call") fd := T.c.def_ 33 (d := D_l_call)
theorem Tx.d_l_stands (T : Tx K mg) : ∃ fd, L2.FunD K D_l_stands.name D_l_stands.qual D_l_stands.params D_l_stands.body D_l_stands.scope (D_l_stands.dvs K) (D_l_stands.kws K) (He.ga K "_law_stands") fd := T.c.def_ 34 (d := D_l_stands)
theorem Tx.d_l_tag (T : Tx K mg) : ∃ fd, L2.FunD K D_l_tag.name D_l_tag.qual D_l_tag.params D_l_tag.body D_l_tag.scope (D_l_tag.dvs K) (D_l_tag.kws K) (He.ga K "_law_tag") fd := T.c.def_ 35 (d := D_l_tag)
theorem Tx.d_l_holds (T : Tx K mg) : ∃ fd, L2.FunD K D_l_holds.name D_l_holds.qual D_l_holds.params D_l_holds.body D_l_holds.scope (D_l_holds.dvs K) (D_l_holds.kws K) (He.ga K "_law_holds") fd := T.c.def_ 36 (d := D_l_holds)
theorem Tx.d_law (T : Tx K mg) : ∃ fd, L2.FunD K D_law.name D_law.qual D_law.params D_law.body D_law.scope (D_law.dvs K) (D_law.kws K) (He.ga K "law") fd := T.c.def_ 37 (d := D_law)
theorem Tx.ow_Amid (T : Tx K mg) : PySem.OwX.OwTxt Pg K mg (He.ga K "Amid") (My.exI "Amid" K) (My.exC "Amid" K) (My.exD "Amid" K) "Amid" "half" := by
  obtain ⟨h, X, G⟩ := T.ex
  exact T.c.ow X G 0 (d := X_Amid) rfl ⟨⟨_, rfl, rfl⟩, fun _ _ _ _ _ _ _ _ => rfl, ⟨_, _, _, _, _, _, _, _, _, _, _, _, rfl, ⟨_, fun _ => rfl⟩, fun _ => rfl, fun _ => rfl⟩, ⟨rfl, rfl, rfl, by decide +kernel, by decide +kernel, by decide +kernel, by decide +kernel, by decide +kernel, by decide +kernel, by decide +kernel⟩⟩ (by decide +kernel) (by decide +kernel)
theorem Tx.g_Amid (T : Tx K mg) : mg "Amid" = some (.ref (He.ga K "Amid")) := T.ow_Amid.gC
theorem Tx.ow_Closed (T : Tx K mg) : PySem.OwX.OwTxt Pg K mg (He.ga K "Closed") (My.exI "Closed" K) (My.exC "Closed" K) (My.exD "Closed" K) "Closed" "number" := by
  obtain ⟨h, X, G⟩ := T.ex
  exact T.c.ow X G 1 (d := X_Closed) rfl ⟨⟨_, rfl, rfl⟩, fun _ _ _ _ _ _ _ _ => rfl, ⟨_, _, _, _, _, _, _, _, _, _, _, _, rfl, ⟨_, fun _ => rfl⟩, fun _ => rfl, fun _ => rfl⟩, ⟨rfl, rfl, rfl, by decide +kernel, by decide +kernel, by decide +kernel, by decide +kernel, by decide +kernel, by decide +kernel, by decide +kernel⟩⟩ (by decide +kernel) (by decide +kernel)
theorem Tx.g_Closed (T : Tx K mg) : mg "Closed" = some (.ref (He.ga K "Closed")) := T.ow_Closed.gC
theorem Tx.ow_Starved (T : Tx K mg) : PySem.OwX.OwTxt Pg K mg (He.ga K "Starved") (My.exI "Starved" K) (My.exC "Starved" K) (My.exD "Starved" K) "Starved" "number" := by
  obtain ⟨h, X, G⟩ := T.ex
  exact T.c.ow X G 2 (d := X_Starved) rfl ⟨⟨_, rfl, rfl⟩, fun _ _ _ _ _ _ _ _ => rfl, ⟨_, _, _, _, _, _, _, _, _, _, _, _, rfl, ⟨_, fun _ => rfl⟩, fun _ => rfl, fun _ => rfl⟩, ⟨rfl, rfl, rfl, by decide +kernel, by decide +kernel, by decide +kernel, by decide +kernel, by decide +kernel, by decide +kernel, by decide +kernel⟩⟩ (by decide +kernel) (by decide +kernel)
theorem Tx.g_Starved (T : Tx K mg) : mg "Starved" = some (.ref (He.ga K "Starved")) := T.ow_Starved.gC
end
def isOut (m : Str) : Bool := decide (m = "out") || decide (m = "both")
def isIn (m : Str) : Bool := decide (m = "in") || decide (m = "both")
def markOf (a b : Bool) : Str := if a then (if b then "both" else "out") else (if b then "in" else "whole")
def isAmid (w m : Str) : Bool := if w = "ask" ∨ w = "begin" then isOut m else if w = "finish" then !isOut m else if w = "read" ∨ w = "head" then isIn m else if w = "body" then !isIn m else false
def rowFault (w m : Str) (n : Int) : V := if m = "closed" then .str "closed" else if isAmid w m then .str "amid" else if (w = "read" ∨ w = "head") ∧ n < 1 then .str "starved" else .non
def sp_is_out (_ : PySem.W.Frag) : Sp := fun vs H Q _ => ∃ m : Str, vs = [.str m] ∧ Q (.bl (isOut m)) H
theorem R_is_out {w : World} {K : PySem.W.Frag} {mg : Str → Option Value} {base : Heap} (T : Tx K mg) : FnR Pg w K mg base CX0 1 (He.ga K "is_out") (sp_is_out K) := by
  obtain ⟨fd, F⟩ := T.d_is_out
  refine My.FunD.R F sc_is_out (fun vs H Q E h => by obtain ⟨m, rfl, k⟩ := h; rfl) (fun _ _ _ _ _ _ us hl => match us, hl with | [_], _ => rfl) (fun cdv A outer s H vs Q E hr h => ?_)
  obtain ⟨m, rfl, k⟩ := h
  refine ⟨_, (pss_one (ps_ret (pe_or (pe_cmpR op_eq (pv 0) pe_str (nomark _)) (pe_one (pe_cmpR op_eq (pv 0) pe_str (nomark _)))))), ?_⟩
  simp only [tSeq, tAsg, tRet, tRetN, tIfS, tDrop, tNext, tBreak, tCont, tVar, tC, tOp, tUn, tB, tTest, tAnd, tOr, tNot, tAndV, tOrV, tNotV, tIf, tNil, tCons, tTup, tLst, tCB, tCallR, tMethR, tPropR, StX.tMakeR, tFld, sFld, sFldAug, tPar, tPar3, gName, gNil, gCons, gTup, gSub, rI, rI0, rU, rEq, rNe, mIxL, mIxT, mLenL, mLenT, mLenS, mLenD, mLenK, mList, mTupL, mInt, mAbs, mMax, mMin, mStr, mAddS, mIsN, mNotN, rIxS, rIxL, rSetL, rAppend, rExtendT, rPopAt, rCat, rIn, tBM, tBM0, tChain, tNever, scal, L2.start, cxK, iRng1, iRng2, tDNewK, tDGet, tDGet2, sDPut, tDIn, tDNotIn, DGet_dk, DPut_dk, IsD_dk, tyV_list, isLst_lst, isDk_dk, dkOf_dk, atI_0, atI_1, atI_2, atI_3, ixN_30, ixN_31, ixN_32, List.map, List.replicate, List.length_cons, List.length_nil, List.nil_append, List.cons_append, List.append_nil, Nat.reduceSub, Nat.reduceAdd, List.getElem?_cons_zero, List.getElem?_cons_succ, List.set_cons_zero, List.set_cons_succ, List.cons.injEq, Option.some.injEq, V.int.injEq, V.str.injEq, V.bl.injEq, V.ref.injEq, HO.ins.injEq, HO.lst.injEq, HO.tup.injEq, HO.dK.injEq, exists_eq_left, exists_eq_left', exists_eq_right, exists_eq_right', exists_and_left, exists_and_right, true_and, and_true, and_self, if_true, if_false, Bool.false_eq_true, Bool.true_eq_false, eq_self, reduceCtorEq, false_and, and_false, upd_same, upd_upd, and_assoc, Int.reduceToNat, Int.reducePow, Int.reduceMul, Int.reduceAdd, Int.reduceNeg, mIsi, mIsi2, kdV_non, kdV_bl, kdV_int, kdV_str, kdV_ref, kdO_lst, kdO_tup, kdO_dK, V.ty.injEq, mAll, mAny, kit_NoneType_bool, kit_NoneType_int, kit_NoneType_str, kit_NoneType_list, kit_NoneType_tuple, kit_NoneType_dict, kit_bool_bool, kit_bool_int, kit_bool_str, kit_bool_list, kit_bool_tuple, kit_bool_dict, kit_int_bool, kit_int_int, kit_int_str, kit_int_list, kit_int_tuple, kit_int_dict, kit_str_bool, kit_str_int, kit_str_str, kit_str_list, kit_str_tuple, kit_str_dict, kit_list_bool, kit_list_int, kit_list_str, kit_list_list, kit_list_tuple, kit_list_dict, kit_tuple_bool, kit_tuple_int, kit_tuple_str, kit_tuple_list, kit_tuple_tuple, kit_tuple_dict, kit_dict_bool, kit_dict_int, kit_dict_str, kit_dict_list, kit_dict_tuple, kit_dict_dict, String.reduceEq, String.reduceNe, ne_eq, not_false_eq_true, not_true_eq_false, decide_false, decide_true, Bool.not_false, Bool.not_true, Bool.or_false, Bool.false_or, Bool.or_true, Bool.true_or, gTupH, wipe, tYes, exists_eq', exists_eq, exists_const, tFor_eq, tLc_eq, tCallX, tMethX, tRaiseOw, tMkOw, tFldOw, mIxA, mLenA, rInO, rNotInO, mLenO, rSetD, tM1, false_or, or_false, tInT, inV_nil, inV_str, flatV_str, flatV_int, flatV_non, mIntB, List.all_cons, List.all_nil, Bool.and_true, Bool.true_and, Bool.and_self, tDisp, tPairs, exk_nil, exk_str, leS0, leS1, leS2, leS3, leS4, leS5, leS6, leS7, leS8, leS9, leS10, leS11, leS12, Nat.reduceLeDiff, mBoolB, rEqNil]
  unfold isOut at k
  by_cases h : m = "out"
  · simpa [h] using k
  · simpa [h] using k
def sp_is_in (_ : PySem.W.Frag) : Sp := fun vs H Q _ => ∃ m : Str, vs = [.str m] ∧ Q (.bl (isIn m)) H
theorem R_is_in {w : World} {K : PySem.W.Frag} {mg : Str → Option Value} {base : Heap} (T : Tx K mg) : FnR Pg w K mg base CX0 1 (He.ga K "is_in") (sp_is_in K) := by
  obtain ⟨fd, F⟩ := T.d_is_in
  refine My.FunD.R F sc_is_in (fun vs H Q E h => by obtain ⟨m, rfl, k⟩ := h; rfl) (fun _ _ _ _ _ _ us hl => match us, hl with | [_], _ => rfl) (fun cdv A outer s H vs Q E hr h => ?_)
  obtain ⟨m, rfl, k⟩ := h
  refine ⟨_, (pss_one (ps_ret (pe_or (pe_cmpR op_eq (pv 0) pe_str (nomark _)) (pe_one (pe_cmpR op_eq (pv 0) pe_str (nomark _)))))), ?_⟩
  simp only [tSeq, tAsg, tRet, tRetN, tIfS, tDrop, tNext, tBreak, tCont, tVar, tC, tOp, tUn, tB, tTest, tAnd, tOr, tNot, tAndV, tOrV, tNotV, tIf, tNil, tCons, tTup, tLst, tCB, tCallR, tMethR, tPropR, StX.tMakeR, tFld, sFld, sFldAug, tPar, tPar3, gName, gNil, gCons, gTup, gSub, rI, rI0, rU, rEq, rNe, mIxL, mIxT, mLenL, mLenT, mLenS, mLenD, mLenK, mList, mTupL, mInt, mAbs, mMax, mMin, mStr, mAddS, mIsN, mNotN, rIxS, rIxL, rSetL, rAppend, rExtendT, rPopAt, rCat, rIn, tBM, tBM0, tChain, tNever, scal, L2.start, cxK, iRng1, iRng2, tDNewK, tDGet, tDGet2, sDPut, tDIn, tDNotIn, DGet_dk, DPut_dk, IsD_dk, tyV_list, isLst_lst, isDk_dk, dkOf_dk, atI_0, atI_1, atI_2, atI_3, ixN_30, ixN_31, ixN_32, List.map, List.replicate, List.length_cons, List.length_nil, List.nil_append, List.cons_append, List.append_nil, Nat.reduceSub, Nat.reduceAdd, List.getElem?_cons_zero, List.getElem?_cons_succ, List.set_cons_zero, List.set_cons_succ, List.cons.injEq, Option.some.injEq, V.int.injEq, V.str.injEq, V.bl.injEq, V.ref.injEq, HO.ins.injEq, HO.lst.injEq, HO.tup.injEq, HO.dK.injEq, exists_eq_left, exists_eq_left', exists_eq_right, exists_eq_right', exists_and_left, exists_and_right, true_and, and_true, and_self, if_true, if_false, Bool.false_eq_true, Bool.true_eq_false, eq_self, reduceCtorEq, false_and, and_false, upd_same, upd_upd, and_assoc, Int.reduceToNat, Int.reducePow, Int.reduceMul, Int.reduceAdd, Int.reduceNeg, mIsi, mIsi2, kdV_non, kdV_bl, kdV_int, kdV_str, kdV_ref, kdO_lst, kdO_tup, kdO_dK, V.ty.injEq, mAll, mAny, kit_NoneType_bool, kit_NoneType_int, kit_NoneType_str, kit_NoneType_list, kit_NoneType_tuple, kit_NoneType_dict, kit_bool_bool, kit_bool_int, kit_bool_str, kit_bool_list, kit_bool_tuple, kit_bool_dict, kit_int_bool, kit_int_int, kit_int_str, kit_int_list, kit_int_tuple, kit_int_dict, kit_str_bool, kit_str_int, kit_str_str, kit_str_list, kit_str_tuple, kit_str_dict, kit_list_bool, kit_list_int, kit_list_str, kit_list_list, kit_list_tuple, kit_list_dict, kit_tuple_bool, kit_tuple_int, kit_tuple_str, kit_tuple_list, kit_tuple_tuple, kit_tuple_dict, kit_dict_bool, kit_dict_int, kit_dict_str, kit_dict_list, kit_dict_tuple, kit_dict_dict, String.reduceEq, String.reduceNe, ne_eq, not_false_eq_true, not_true_eq_false, decide_false, decide_true, Bool.not_false, Bool.not_true, Bool.or_false, Bool.false_or, Bool.or_true, Bool.true_or, gTupH, wipe, tYes, exists_eq', exists_eq, exists_const, tFor_eq, tLc_eq, tCallX, tMethX, tRaiseOw, tMkOw, tFldOw, mIxA, mLenA, rInO, rNotInO, mLenO, rSetD, tM1, false_or, or_false, tInT, inV_nil, inV_str, flatV_str, flatV_int, flatV_non, mIntB, List.all_cons, List.all_nil, Bool.and_true, Bool.true_and, Bool.and_self, tDisp, tPairs, exk_nil, exk_str, leS0, leS1, leS2, leS3, leS4, leS5, leS6, leS7, leS8, leS9, leS10, leS11, leS12, Nat.reduceLeDiff, mBoolB, rEqNil]
  unfold isIn at k
  by_cases h : m = "in"
  · simpa [h] using k
  · simpa [h] using k
def sp_mark_of (_ : PySem.W.Frag) : Sp := fun vs H Q _ => ∃ a b : Bool, vs = [.bl a, .bl b] ∧ Q (.str (markOf a b)) H
theorem R_mark_of {w : World} {K : PySem.W.Frag} {mg : Str → Option Value} {base : Heap} (T : Tx K mg) : FnR Pg w K mg base CX0 1 (He.ga K "mark_of") (sp_mark_of K) := by
  obtain ⟨fd, F⟩ := T.d_mark_of
  refine My.FunD.R F sc_mark_of (fun vs H Q E h => by obtain ⟨a, b, rfl, k⟩ := h; rfl) (fun _ _ _ _ _ _ us hl => match us, hl with | [_, _], _ => rfl) (fun cdv A outer s H vs Q E hr h => ?_)
  obtain ⟨a, b, rfl, k⟩ := h
  refine ⟨_, (pss_cons (ps_if (PW.pt (pw_and (pt_val (pv 0)) (pw_and1 (pt_val (pv 1))))) (pss_one (ps_ret pe_str)) pss_nil)
      (pss_cons (ps_if (pt_val (pv 0)) (pss_one (ps_ret pe_str)) pss_nil)
      (pss_one (ps_ret (pe_ifExp (pt_val (pv 1)) pe_str pe_str))))), ?_⟩
  simp only [tSeq, tAsg, tRet, tRetN, tIfS, tDrop, tNext, tBreak, tCont, tVar, tC, tOp, tUn, tB, tTest, tAnd, tOr, tNot, tAndV, tOrV, tNotV, tIf, tNil, tCons, tTup, tLst, tCB, tCallR, tMethR, tPropR, StX.tMakeR, tFld, sFld, sFldAug, tPar, tPar3, gName, gNil, gCons, gTup, gSub, rI, rI0, rU, rEq, rNe, mIxL, mIxT, mLenL, mLenT, mLenS, mLenD, mLenK, mList, mTupL, mInt, mAbs, mMax, mMin, mStr, mAddS, mIsN, mNotN, rIxS, rIxL, rSetL, rAppend, rExtendT, rPopAt, rCat, rIn, tBM, tBM0, tChain, tNever, scal, L2.start, cxK, iRng1, iRng2, tDNewK, tDGet, tDGet2, sDPut, tDIn, tDNotIn, DGet_dk, DPut_dk, IsD_dk, tyV_list, isLst_lst, isDk_dk, dkOf_dk, atI_0, atI_1, atI_2, atI_3, ixN_30, ixN_31, ixN_32, List.map, List.replicate, List.length_cons, List.length_nil, List.nil_append, List.cons_append, List.append_nil, Nat.reduceSub, Nat.reduceAdd, List.getElem?_cons_zero, List.getElem?_cons_succ, List.set_cons_zero, List.set_cons_succ, List.cons.injEq, Option.some.injEq, V.int.injEq, V.str.injEq, V.bl.injEq, V.ref.injEq, HO.ins.injEq, HO.lst.injEq, HO.tup.injEq, HO.dK.injEq, exists_eq_left, exists_eq_left', exists_eq_right, exists_eq_right', exists_and_left, exists_and_right, true_and, and_true, and_self, if_true, if_false, Bool.false_eq_true, Bool.true_eq_false, eq_self, reduceCtorEq, false_and, and_false, upd_same, upd_upd, and_assoc, Int.reduceToNat, Int.reducePow, Int.reduceMul, Int.reduceAdd, Int.reduceNeg, mIsi, mIsi2, kdV_non, kdV_bl, kdV_int, kdV_str, kdV_ref, kdO_lst, kdO_tup, kdO_dK, V.ty.injEq, mAll, mAny, kit_NoneType_bool, kit_NoneType_int, kit_NoneType_str, kit_NoneType_list, kit_NoneType_tuple, kit_NoneType_dict, kit_bool_bool, kit_bool_int, kit_bool_str, kit_bool_list, kit_bool_tuple, kit_bool_dict, kit_int_bool, kit_int_int, kit_int_str, kit_int_list, kit_int_tuple, kit_int_dict, kit_str_bool, kit_str_int, kit_str_str, kit_str_list, kit_str_tuple, kit_str_dict, kit_list_bool, kit_list_int, kit_list_str, kit_list_list, kit_list_tuple, kit_list_dict, kit_tuple_bool, kit_tuple_int, kit_tuple_str, kit_tuple_list, kit_tuple_tuple, kit_tuple_dict, kit_dict_bool, kit_dict_int, kit_dict_str, kit_dict_list, kit_dict_tuple, kit_dict_dict, String.reduceEq, String.reduceNe, ne_eq, not_false_eq_true, not_true_eq_false, decide_false, decide_true, Bool.not_false, Bool.not_true, Bool.or_false, Bool.false_or, Bool.or_true, Bool.true_or, gTupH, wipe, tYes, exists_eq', exists_eq, exists_const, tFor_eq, tLc_eq, tCallX, tMethX, tRaiseOw, tMkOw, tFldOw, mIxA, mLenA, rInO, rNotInO, mLenO, rSetD, tM1, false_or, or_false, tInT, inV_nil, inV_str, flatV_str, flatV_int, flatV_non, mIntB, List.all_cons, List.all_nil, Bool.and_true, Bool.true_and, Bool.and_self, tDisp, tPairs, exk_nil, exk_str, leS0, leS1, leS2, leS3, leS4, leS5, leS6, leS7, leS8, leS9, leS10, leS11, leS12, Nat.reduceLeDiff, mBoolB, rEqNil]
  unfold markOf at k
  cases a <;> cases b <;> exact k
def sp_is_amid (_ : PySem.W.Frag) : Sp := fun vs H Q _ => ∃ w m : Str, vs = [.str w, .str m] ∧ Q (.bl (isAmid w m)) H
theorem R_is_amid {w : World} {K : PySem.W.Frag} {mg : Str → Option Value} {base : Heap} (T : Tx K mg) : FnR Pg w K mg base CX0 3 (He.ga K "is_amid") (sp_is_amid K) := by
  obtain ⟨fd, F⟩ := T.d_is_amid
  refine My.FunD.R F sc_is_amid (fun vs H Q E h => by obtain ⟨w', m, rfl, k⟩ := h; rfl) (fun _ _ _ _ _ _ us hl => match us, hl with | [_, _], _ => rfl) (fun cdv A outer s H vs Q E hr h => ?_)
  obtain ⟨w', m, rfl, k⟩ := h
  refine ⟨_, (pss_cons (ps_if (PW.pt (pw_or (pt_cmpR op_eq (pv 0) pe_str (nomark _)) (pw_or1 (pt_cmpR op_eq (pv 0) pe_str (nomark _))))) (pss_one (ps_ret (pe_callR (R_is_out T) (hr.mono (by decide)) rfl T.g_is_out T.k_is_out pass0 (pa_cons (pv 1) pa_nil)))) pss_nil)
      (pss_cons (ps_if (pt_cmpR op_eq (pv 0) pe_str (nomark _)) (pss_one (ps_ret (pe_not (pe_callR (R_is_out T) (hr.mono (by decide)) rfl T.g_is_out T.k_is_out pass0 (pa_cons (pv 1) pa_nil))))) pss_nil)
      (pss_cons (ps_if (PW.pt (pw_or (pt_cmpR op_eq (pv 0) pe_str (nomark _)) (pw_or1 (pt_cmpR op_eq (pv 0) pe_str (nomark _))))) (pss_one (ps_ret (pe_callR (R_is_in T) (hr.mono (by decide)) rfl T.g_is_in T.k_is_in pass0 (pa_cons (pv 1) pa_nil)))) pss_nil)
      (pss_cons (ps_if (pt_cmpR op_eq (pv 0) pe_str (nomark _)) (pss_one (ps_ret (pe_not (pe_callR (R_is_in T) (hr.mono (by decide)) rfl T.g_is_in T.k_is_in pass0 (pa_cons (pv 1) pa_nil))))) pss_nil)
      (pss_one (ps_ret pe_bl)))))), ?_⟩
  simp only [tSeq, tAsg, tRet, tRetN, tIfS, tDrop, tNext, tBreak, tCont, tVar, tC, tOp, tUn, tB, tTest, tAnd, tOr, tNot, tAndV, tOrV, tNotV, tIf, tNil, tCons, tTup, tLst, tCB, tCallR, tMethR, tPropR, StX.tMakeR, tFld, sFld, sFldAug, tPar, tPar3, gName, gNil, gCons, gTup, gSub, rI, rI0, rU, rEq, rNe, mIxL, mIxT, mLenL, mLenT, mLenS, mLenD, mLenK, mList, mTupL, mInt, mAbs, mMax, mMin, mStr, mAddS, mIsN, mNotN, rIxS, rIxL, rSetL, rAppend, rExtendT, rPopAt, rCat, rIn, tBM, tBM0, tChain, tNever, scal, L2.start, cxK, iRng1, iRng2, tDNewK, tDGet, tDGet2, sDPut, tDIn, tDNotIn, DGet_dk, DPut_dk, IsD_dk, tyV_list, isLst_lst, isDk_dk, dkOf_dk, atI_0, atI_1, atI_2, atI_3, ixN_30, ixN_31, ixN_32, List.map, List.replicate, List.length_cons, List.length_nil, List.nil_append, List.cons_append, List.append_nil, Nat.reduceSub, Nat.reduceAdd, List.getElem?_cons_zero, List.getElem?_cons_succ, List.set_cons_zero, List.set_cons_succ, List.cons.injEq, Option.some.injEq, V.int.injEq, V.str.injEq, V.bl.injEq, V.ref.injEq, HO.ins.injEq, HO.lst.injEq, HO.tup.injEq, HO.dK.injEq, exists_eq_left, exists_eq_left', exists_eq_right, exists_eq_right', exists_and_left, exists_and_right, true_and, and_true, and_self, if_true, if_false, Bool.false_eq_true, Bool.true_eq_false, eq_self, reduceCtorEq, false_and, and_false, upd_same, upd_upd, and_assoc, Int.reduceToNat, Int.reducePow, Int.reduceMul, Int.reduceAdd, Int.reduceNeg, mIsi, mIsi2, kdV_non, kdV_bl, kdV_int, kdV_str, kdV_ref, kdO_lst, kdO_tup, kdO_dK, V.ty.injEq, mAll, mAny, kit_NoneType_bool, kit_NoneType_int, kit_NoneType_str, kit_NoneType_list, kit_NoneType_tuple, kit_NoneType_dict, kit_bool_bool, kit_bool_int, kit_bool_str, kit_bool_list, kit_bool_tuple, kit_bool_dict, kit_int_bool, kit_int_int, kit_int_str, kit_int_list, kit_int_tuple, kit_int_dict, kit_str_bool, kit_str_int, kit_str_str, kit_str_list, kit_str_tuple, kit_str_dict, kit_list_bool, kit_list_int, kit_list_str, kit_list_list, kit_list_tuple, kit_list_dict, kit_tuple_bool, kit_tuple_int, kit_tuple_str, kit_tuple_list, kit_tuple_tuple, kit_tuple_dict, kit_dict_bool, kit_dict_int, kit_dict_str, kit_dict_list, kit_dict_tuple, kit_dict_dict, String.reduceEq, String.reduceNe, ne_eq, not_false_eq_true, not_true_eq_false, decide_false, decide_true, Bool.not_false, Bool.not_true, Bool.or_false, Bool.false_or, Bool.or_true, Bool.true_or, gTupH, wipe, tYes, exists_eq', exists_eq, exists_const, tFor_eq, tLc_eq, tCallX, tMethX, tRaiseOw, tMkOw, tFldOw, mIxA, mLenA, rInO, rNotInO, mLenO, rSetD, tM1, false_or, or_false, tInT, inV_nil, inV_str, flatV_str, flatV_int, flatV_non, mIntB, List.all_cons, List.all_nil, Bool.and_true, Bool.true_and, Bool.and_self, tDisp, tPairs, exk_nil, exk_str, leS0, leS1, leS2, leS3, leS4, leS5, leS6, leS7, leS8, leS9, leS10, leS11, leS12, Nat.reduceLeDiff, mBoolB, rEqNil, sp_is_out, sp_is_in]
  unfold isAmid at k
  simp only [decide_eq_true_eq]
  repeat' split
  all_goals simp_all
def LW : List V := [.str "ask", .str "begin", .str "finish", .str "read", .str "head", .str "body"]
def sp_row_fault (_ : PySem.W.Frag) : Sp := fun vs H Q _ => ∃ (w m : Str) (n : Int), vs = [.str w, .str m, .int n] ∧ inV (.str w) LW = true ∧ Q (rowFault w m n) H
theorem R_row_fault {w : World} {K : PySem.W.Frag} {mg : Str → Option Value} {base : Heap} (T : Tx K mg) : FnR Pg w K mg base CX0 5 (He.ga K "row_fault") (sp_row_fault K) := by
  obtain ⟨fd, F⟩ := T.d_row_fault
  refine My.FunD.R F sc_row_fault (fun vs H Q E h => by obtain ⟨w', m, n, rfl, hw, k⟩ := h; rfl) (fun _ _ _ _ _ _ us hl => match us, hl with | [_, _, _], _ => rfl) (fun cdv A outer s H vs Q E hr h => ?_)
  obtain ⟨w', m, n, rfl, hw, k⟩ := h
  refine ⟨_, (pss_cons (ps_if (pt_cmpR op_notIn_seq (pv 0) (pe_glob (v := .ref (He.ga _ "LINE_WORDS")) rfl T.g_LINE_WORDS rfl) rfl) (pss_one (ps_ret pe_non)) pss_nil)
      (pss_cons (ps_if (pt_cmpR op_eq (pv 1) pe_str (nomark _)) (pss_one (ps_ret pe_str)) pss_nil)
      (pss_cons (ps_if (pt_val (pe_callR (R_is_amid T) (hr.mono (by decide)) rfl T.g_is_amid T.k_is_amid pass0 (pa_cons (pv 0) (pa_cons (pv 1) pa_nil)))) (pss_one (ps_ret pe_str)) pss_nil)
      (pss_cons (ps_if (PW.pt (pw_and (PW.pt (pw_or (pt_cmpR op_eq (pv 0) pe_str (nomark _)) (pw_or1 (pt_cmpR op_eq (pv 0) pe_str (nomark _))))) (pw_and1 (pt_cmpR op_lt (pv 2) pe_int (nomark _))))) (pss_one (ps_ret pe_str)) pss_nil)
      (pss_one (ps_ret pe_non)))))), ?_⟩
  simp only [tSeq, tAsg, tRet, tRetN, tIfS, tDrop, tNext, tBreak, tCont, tVar, tC, tOp, tUn, tB, tTest, tAnd, tOr, tNot, tAndV, tOrV, tNotV, tIf, tNil, tCons, tTup, tLst, tCB, tCallR, tMethR, tPropR, StX.tMakeR, tFld, sFld, sFldAug, tPar, tPar3, gName, gNil, gCons, gTup, gSub, rI, rI0, rU, rEq, rNe, mIxL, mIxT, mLenL, mLenT, mLenS, mLenD, mLenK, mList, mTupL, mInt, mAbs, mMax, mMin, mStr, mAddS, mIsN, mNotN, rIxS, rIxL, rSetL, rAppend, rExtendT, rPopAt, rCat, rIn, tBM, tBM0, tChain, tNever, scal, L2.start, cxK, iRng1, iRng2, tDNewK, tDGet, tDGet2, sDPut, tDIn, tDNotIn, DGet_dk, DPut_dk, IsD_dk, tyV_list, isLst_lst, isDk_dk, dkOf_dk, atI_0, atI_1, atI_2, atI_3, ixN_30, ixN_31, ixN_32, List.map, List.replicate, List.length_cons, List.length_nil, List.nil_append, List.cons_append, List.append_nil, Nat.reduceSub, Nat.reduceAdd, List.getElem?_cons_zero, List.getElem?_cons_succ, List.set_cons_zero, List.set_cons_succ, List.cons.injEq, Option.some.injEq, V.int.injEq, V.str.injEq, V.bl.injEq, V.ref.injEq, HO.ins.injEq, HO.lst.injEq, HO.tup.injEq, HO.dK.injEq, exists_eq_left, exists_eq_left', exists_eq_right, exists_eq_right', exists_and_left, exists_and_right, true_and, and_true, and_self, if_true, if_false, Bool.false_eq_true, Bool.true_eq_false, eq_self, reduceCtorEq, false_and, and_false, upd_same, upd_upd, and_assoc, Int.reduceToNat, Int.reducePow, Int.reduceMul, Int.reduceAdd, Int.reduceNeg, mIsi, mIsi2, kdV_non, kdV_bl, kdV_int, kdV_str, kdV_ref, kdO_lst, kdO_tup, kdO_dK, V.ty.injEq, mAll, mAny, kit_NoneType_bool, kit_NoneType_int, kit_NoneType_str, kit_NoneType_list, kit_NoneType_tuple, kit_NoneType_dict, kit_bool_bool, kit_bool_int, kit_bool_str, kit_bool_list, kit_bool_tuple, kit_bool_dict, kit_int_bool, kit_int_int, kit_int_str, kit_int_list, kit_int_tuple, kit_int_dict, kit_str_bool, kit_str_int, kit_str_str, kit_str_list, kit_str_tuple, kit_str_dict, kit_list_bool, kit_list_int, kit_list_str, kit_list_list, kit_list_tuple, kit_list_dict, kit_tuple_bool, kit_tuple_int, kit_tuple_str, kit_tuple_list, kit_tuple_tuple, kit_tuple_dict, kit_dict_bool, kit_dict_int, kit_dict_str, kit_dict_list, kit_dict_tuple, kit_dict_dict, String.reduceEq, String.reduceNe, ne_eq, not_false_eq_true, not_true_eq_false, decide_false, decide_true, Bool.not_false, Bool.not_true, Bool.or_false, Bool.false_or, Bool.or_true, Bool.true_or, gTupH, wipe, tYes, exists_eq', exists_eq, exists_const, tFor_eq, tLc_eq, tCallX, tMethX, tRaiseOw, tMkOw, tFldOw, mIxA, mLenA, rInO, rNotInO, mLenO, rSetD, tM1, false_or, or_false, tInT, inV_nil, inV_str, flatV_str, flatV_int, flatV_non, mIntB, List.all_cons, List.all_nil, Bool.and_true, Bool.true_and, Bool.and_self, tDisp, tPairs, exk_nil, exk_str, leS0, leS1, leS2, leS3, leS4, leS5, leS6, leS7, leS8, leS9, leS10, leS11, leS12, Nat.reduceLeDiff, mBoolB, rEqNil]
  refine ⟨LW, .inr (T.q_LINE_WORDS H), rfl, ?_⟩
  rw [hw]
  simp only [tSeq, tAsg, tRet, tRetN, tIfS, tDrop, tNext, tBreak, tCont, tVar, tC, tOp, tUn, tB, tTest, tAnd, tOr, tNot, tAndV, tOrV, tNotV, tIf, tNil, tCons, tTup, tLst, tCB, tCallR, tMethR, tPropR, StX.tMakeR, tFld, sFld, sFldAug, tPar, tPar3, gName, gNil, gCons, gTup, gSub, rI, rI0, rU, rEq, rNe, mIxL, mIxT, mLenL, mLenT, mLenS, mLenD, mLenK, mList, mTupL, mInt, mAbs, mMax, mMin, mStr, mAddS, mIsN, mNotN, rIxS, rIxL, rSetL, rAppend, rExtendT, rPopAt, rCat, rIn, tBM, tBM0, tChain, tNever, scal, L2.start, cxK, iRng1, iRng2, tDNewK, tDGet, tDGet2, sDPut, tDIn, tDNotIn, DGet_dk, DPut_dk, IsD_dk, tyV_list, isLst_lst, isDk_dk, dkOf_dk, atI_0, atI_1, atI_2, atI_3, ixN_30, ixN_31, ixN_32, List.map, List.replicate, List.length_cons, List.length_nil, List.nil_append, List.cons_append, List.append_nil, Nat.reduceSub, Nat.reduceAdd, List.getElem?_cons_zero, List.getElem?_cons_succ, List.set_cons_zero, List.set_cons_succ, List.cons.injEq, Option.some.injEq, V.int.injEq, V.str.injEq, V.bl.injEq, V.ref.injEq, HO.ins.injEq, HO.lst.injEq, HO.tup.injEq, HO.dK.injEq, exists_eq_left, exists_eq_left', exists_eq_right, exists_eq_right', exists_and_left, exists_and_right, true_and, and_true, and_self, if_true, if_false, Bool.false_eq_true, Bool.true_eq_false, eq_self, reduceCtorEq, false_and, and_false, upd_same, upd_upd, and_assoc, Int.reduceToNat, Int.reducePow, Int.reduceMul, Int.reduceAdd, Int.reduceNeg, mIsi, mIsi2, kdV_non, kdV_bl, kdV_int, kdV_str, kdV_ref, kdO_lst, kdO_tup, kdO_dK, V.ty.injEq, mAll, mAny, kit_NoneType_bool, kit_NoneType_int, kit_NoneType_str, kit_NoneType_list, kit_NoneType_tuple, kit_NoneType_dict, kit_bool_bool, kit_bool_int, kit_bool_str, kit_bool_list, kit_bool_tuple, kit_bool_dict, kit_int_bool, kit_int_int, kit_int_str, kit_int_list, kit_int_tuple, kit_int_dict, kit_str_bool, kit_str_int, kit_str_str, kit_str_list, kit_str_tuple, kit_str_dict, kit_list_bool, kit_list_int, kit_list_str, kit_list_list, kit_list_tuple, kit_list_dict, kit_tuple_bool, kit_tuple_int, kit_tuple_str, kit_tuple_list, kit_tuple_tuple, kit_tuple_dict, kit_dict_bool, kit_dict_int, kit_dict_str, kit_dict_list, kit_dict_tuple, kit_dict_dict, String.reduceEq, String.reduceNe, ne_eq, not_false_eq_true, not_true_eq_false, decide_false, decide_true, Bool.not_false, Bool.not_true, Bool.or_false, Bool.false_or, Bool.or_true, Bool.true_or, gTupH, wipe, tYes, exists_eq', exists_eq, exists_const, tFor_eq, tLc_eq, tCallX, tMethX, tRaiseOw, tMkOw, tFldOw, mIxA, mLenA, rInO, rNotInO, mLenO, rSetD, tM1, false_or, or_false, tInT, inV_nil, inV_str, flatV_str, flatV_int, flatV_non, mIntB, List.all_cons, List.all_nil, Bool.and_true, Bool.true_and, Bool.and_self, tDisp, tPairs, exk_nil, exk_str, leS0, leS1, leS2, leS3, leS4, leS5, leS6, leS7, leS8, leS9, leS10, leS11, leS12, Nat.reduceLeDiff, mBoolB, rEqNil, sp_is_amid]
  unfold rowFault at k
  simp only [decide_eq_true_eq, Bool.not_true]
  by_cases h1 : m = "closed"
  · simpa [h1] using k
  by_cases h2 : isAmid w' m = true
  · simpa [h1, h2] using k
  by_cases h3 : w' = "read" <;> by_cases h4 : w' = "head" <;> by_cases h5 : n < 1 <;> simp_all
  all_goals (intro z; omega)
def markAfter (w m : Str) : Str := if m = "closed" ∨ w = "close" then "closed" else if w = "begin" then markOf true (isIn m) else if w = "finish" then markOf false (isIn m) else if w = "head" then markOf (isOut m) true else if w = "body" ∨ w = "drain" then markOf (isOut m) false else m
def sp_mark_after (_ : PySem.W.Frag) : Sp := fun vs H Q _ => ∃ (w m : Str), vs = [.str w, .str m] ∧ Q (.str (markAfter w m)) H
theorem R_mark_after {w : World} {K : PySem.W.Frag} {mg : Str → Option Value} {base : Heap} (T : Tx K mg) : FnR Pg w K mg base CX0 3 (He.ga K "mark_after") (sp_mark_after K) := by
  obtain ⟨fd, F⟩ := T.d_mark_after
  refine My.FunD.R F sc_mark_after (fun vs H Q E h => by obtain ⟨w', m, rfl, k⟩ := h; rfl) (fun _ _ _ _ _ _ us hl => match us, hl with | [_, _], _ => rfl) (fun cdv A outer s H vs Q E hr h => ?_)
  obtain ⟨w', m, rfl, k⟩ := h
  refine ⟨_, (pss_cons (ps_if (PW.pt (pw_or (pt_cmpR op_eq (pv 1) pe_str (nomark _)) (pw_or1 (pt_cmpR op_eq (pv 0) pe_str (nomark _))))) (pss_one (ps_ret pe_str)) pss_nil)
      (pss_cons (ps_if (pt_cmpR op_eq (pv 0) pe_str (nomark _)) (pss_one (ps_ret (pe_callR (R_mark_of T) (hr.mono (by decide)) rfl T.g_mark_of T.k_mark_of pass0 (pa_cons pe_bl (pa_cons (pe_callR (R_is_in T) (hr.mono (by decide)) rfl T.g_is_in T.k_is_in pass0 (pa_cons (pv 1) pa_nil)) pa_nil))))) pss_nil)
      (pss_cons (ps_if (pt_cmpR op_eq (pv 0) pe_str (nomark _)) (pss_one (ps_ret (pe_callR (R_mark_of T) (hr.mono (by decide)) rfl T.g_mark_of T.k_mark_of pass0 (pa_cons pe_bl (pa_cons (pe_callR (R_is_in T) (hr.mono (by decide)) rfl T.g_is_in T.k_is_in pass0 (pa_cons (pv 1) pa_nil)) pa_nil))))) pss_nil)
      (pss_cons (ps_if (pt_cmpR op_eq (pv 0) pe_str (nomark _)) (pss_one (ps_ret (pe_callR (R_mark_of T) (hr.mono (by decide)) rfl T.g_mark_of T.k_mark_of pass0 (pa_cons (pe_callR (R_is_out T) (hr.mono (by decide)) rfl T.g_is_out T.k_is_out pass0 (pa_cons (pv 1) pa_nil)) (pa_cons pe_bl pa_nil))))) pss_nil)
      (pss_cons (ps_if (PW.pt (pw_or (pt_cmpR op_eq (pv 0) pe_str (nomark _)) (pw_or1 (pt_cmpR op_eq (pv 0) pe_str (nomark _))))) (pss_one (ps_ret (pe_callR (R_mark_of T) (hr.mono (by decide)) rfl T.g_mark_of T.k_mark_of pass0 (pa_cons (pe_callR (R_is_out T) (hr.mono (by decide)) rfl T.g_is_out T.k_is_out pass0 (pa_cons (pv 1) pa_nil)) (pa_cons pe_bl pa_nil))))) pss_nil)
      (pss_one (ps_ret (pv 1)))))))), ?_⟩
  simp only [tSeq, tAsg, tRet, tRetN, tIfS, tDrop, tNext, tBreak, tCont, tVar, tC, tOp, tUn, tB, tTest, tAnd, tOr, tNot, tAndV, tOrV, tNotV, tIf, tNil, tCons, tTup, tLst, tCB, tCallR, tMethR, tPropR, StX.tMakeR, tFld, sFld, sFldAug, tPar, tPar3, gName, gNil, gCons, gTup, gSub, rI, rI0, rU, rEq, rNe, mIxL, mIxT, mLenL, mLenT, mLenS, mLenD, mLenK, mList, mTupL, mInt, mAbs, mMax, mMin, mStr, mAddS, mIsN, mNotN, rIxS, rIxL, rSetL, rAppend, rExtendT, rPopAt, rCat, rIn, tBM, tBM0, tChain, tNever, scal, L2.start, cxK, iRng1, iRng2, tDNewK, tDGet, tDGet2, sDPut, tDIn, tDNotIn, DGet_dk, DPut_dk, IsD_dk, tyV_list, isLst_lst, isDk_dk, dkOf_dk, atI_0, atI_1, atI_2, atI_3, ixN_30, ixN_31, ixN_32, List.map, List.replicate, List.length_cons, List.length_nil, List.nil_append, List.cons_append, List.append_nil, Nat.reduceSub, Nat.reduceAdd, List.getElem?_cons_zero, List.getElem?_cons_succ, List.set_cons_zero, List.set_cons_succ, List.cons.injEq, Option.some.injEq, V.int.injEq, V.str.injEq, V.bl.injEq, V.ref.injEq, HO.ins.injEq, HO.lst.injEq, HO.tup.injEq, HO.dK.injEq, exists_eq_left, exists_eq_left', exists_eq_right, exists_eq_right', exists_and_left, exists_and_right, true_and, and_true, and_self, if_true, if_false, Bool.false_eq_true, Bool.true_eq_false, eq_self, reduceCtorEq, false_and, and_false, upd_same, upd_upd, and_assoc, Int.reduceToNat, Int.reducePow, Int.reduceMul, Int.reduceAdd, Int.reduceNeg, mIsi, mIsi2, kdV_non, kdV_bl, kdV_int, kdV_str, kdV_ref, kdO_lst, kdO_tup, kdO_dK, V.ty.injEq, mAll, mAny, kit_NoneType_bool, kit_NoneType_int, kit_NoneType_str, kit_NoneType_list, kit_NoneType_tuple, kit_NoneType_dict, kit_bool_bool, kit_bool_int, kit_bool_str, kit_bool_list, kit_bool_tuple, kit_bool_dict, kit_int_bool, kit_int_int, kit_int_str, kit_int_list, kit_int_tuple, kit_int_dict, kit_str_bool, kit_str_int, kit_str_str, kit_str_list, kit_str_tuple, kit_str_dict, kit_list_bool, kit_list_int, kit_list_str, kit_list_list, kit_list_tuple, kit_list_dict, kit_tuple_bool, kit_tuple_int, kit_tuple_str, kit_tuple_list, kit_tuple_tuple, kit_tuple_dict, kit_dict_bool, kit_dict_int, kit_dict_str, kit_dict_list, kit_dict_tuple, kit_dict_dict, String.reduceEq, String.reduceNe, ne_eq, not_false_eq_true, not_true_eq_false, decide_false, decide_true, Bool.not_false, Bool.not_true, Bool.or_false, Bool.false_or, Bool.or_true, Bool.true_or, gTupH, wipe, tYes, exists_eq', exists_eq, exists_const, tFor_eq, tLc_eq, tCallX, tMethX, tRaiseOw, tMkOw, tFldOw, mIxA, mLenA, rInO, rNotInO, mLenO, rSetD, tM1, false_or, or_false, tInT, inV_nil, inV_str, flatV_str, flatV_int, flatV_non, mIntB, List.all_cons, List.all_nil, Bool.and_true, Bool.true_and, Bool.and_self, tDisp, tPairs, exk_nil, exk_str, leS0, leS1, leS2, leS3, leS4, leS5, leS6, leS7, leS8, leS9, leS10, leS11, leS12, Nat.reduceLeDiff, mBoolB, rEqNil, sp_is_out, sp_is_in, sp_mark_of]
  unfold markAfter at k
  simp only [decide_eq_true_eq]
  repeat' split
  all_goals simp_all
theorem rf_cases (w m : Str) (n : Int) : rowFault w m n = .non ∨ rowFault w m n = .str "closed" ∨ rowFault w m n = .str "amid" ∨ rowFault w m n = .str "starved" := by
  unfold rowFault
  repeat' split
  all_goals simp

def lf (n c s q g b : V) : List (Str × V) := [("number", n), ("cause", c), ("state", s), ("queue", q), ("sending", g), ("is_lent", b)]
section
variable (n c s q g b v : V)
theorem lf_number : (lf n c s q g b).lookup ("number" : Str) = some n := by rfl
theorem lf_cause : (lf n c s q g b).lookup ("cause" : Str) = some c := by rfl
theorem lf_state : (lf n c s q g b).lookup ("state" : Str) = some s := by rfl
theorem lf_queue : (lf n c s q g b).lookup ("queue" : Str) = some q := by rfl
theorem lf_sending : (lf n c s q g b).lookup ("sending" : Str) = some g := by rfl
theorem lf_lent : (lf n c s q g b).lookup ("is_lent" : Str) = some b := by rfl
theorem lp_cause : putF "cause" v (lf n c s q g b) = lf n v s q g b := by rfl
theorem lp_state : putF "state" v (lf n c s q g b) = lf n c v q g b := by rfl
theorem lp_queue : putF "queue" v (lf n c s q g b) = lf n c s v g b := by rfl
theorem lp_sending : putF "sending" v (lf n c s q g b) = lf n c s q v b := by rfl
theorem lp_lent : putF "is_lent" v (lf n c s q g b) = lf n c s q g v := by rfl
theorem lp_all : putF "is_lent" b (putF "sending" g (putF "queue" q (putF "state" s (putF "cause" c (putF "number" n []))))) = lf n c s q g b := by rfl
theorem lf_len : (lf n c s q g b).length = 6 := rfl
theorem ln_need : (lf n c s q g b).lookup ("need" : Str) = none := by rfl
theorem ln_ask : (lf n c s q g b).lookup ("ask" : Str) = none := by rfl
theorem ln_begin : (lf n c s q g b).lookup ("begin" : Str) = none := by rfl
theorem ln_finish : (lf n c s q g b).lookup ("finish" : Str) = none := by rfl
theorem ln_read : (lf n c s q g b).lookup ("read" : Str) = none := by rfl
theorem ln_head : (lf n c s q g b).lookup ("head" : Str) = none := by rfl
theorem ln_body : (lf n c s q g b).lookup ("body" : Str) = none := by rfl
theorem ln_drain : (lf n c s q g b).lookup ("drain" : Str) = none := by rfl
theorem ln_close : (lf n c s q g b).lookup ("close" : Str) = none := by rfl
theorem ln_tags : (lf n c s q g b).lookup ("tags" : Str) = none := by rfl
end
theorem six : 6 < 1000 := by decide
/-- a line's state: number, cause, mark, tags, what is sent, is_lent -/
structure LS where
  n : Int
  c : V
  m : Str
  q : List Str
  g : Str
  b : Bool
/-- a line at a (its queue at l) -/
structure LineAt (K : PySem.W.Frag) (H : Hp) (a l : Addr) (S : LS) : Prop where
  ob : ∃ (dx : Addr), H a = some (.ins (He.ga K "Line") dx (lf (.int S.n) S.c (.str S.m) (.ref l) (.str S.g) (.bl S.b)))
  qu : H l = some (.lst (S.q.map V.str))
  ne : a ≠ l
  sz : S.q.length ≤ 100000
/-- all but what stands at a and l is kept -/
def Kp2 (a l : Addr) (H H' : Hp) : Prop := ∀ b o, b ≠ a → b ≠ l → H b = some o → H' b = some o
theorem Kp2.trans {a l : Addr} {H H1 H2 : Hp} (x : Kp2 a l H H1) (y : Kp2 a l H1 H2) : Kp2 a l H H2 := fun b o n1 n2 h => y b o n1 n2 (x b o n1 n2 h)
theorem Kp2.same {a l : Addr} {H H1 : Hp} (x : Same H H1) : Kp2 a l H H1 := fun b o _ _ h => x b o h
theorem LineAt.same {K : PySem.W.Frag} {H H1 : Hp} {a l : Addr} {S : LS} (x : LineAt K H a l S) (s : Same H H1) : LineAt K H1 a l S := ⟨let ⟨dx, h⟩ := x.ob; ⟨dx, s _ _ h⟩, s _ _ x.qu, x.ne, x.sz⟩
theorem LineAt.frame {K : PySem.W.Frag} {H : Hp} {a l b : Addr} {S : LS} {o : HO} (x : LineAt K H a l S) (h1 : b ≠ a) (h2 : b ≠ l) : LineAt K (upd H b o) a l S := ⟨let ⟨dx, h⟩ := x.ob; ⟨dx, by rw [upd_ne h1.symm]; exact h⟩, by rw [upd_ne h2.symm]; exact x.qu, x.ne, x.sz⟩
theorem LineAt.kp2 {K : PySem.W.Frag} {H H1 : Hp} {a l a2 l2 : Addr} {S : LS} (x : LineAt K H a l S) (k : Kp2 a2 l2 H H1) (h1 : a ≠ a2) (h2 : a ≠ l2) (h3 : l ≠ a2) (h4 : l ≠ l2) : LineAt K H1 a l S := ⟨let ⟨dx, h⟩ := x.ob; ⟨dx, k _ _ h1 h2 h⟩, k _ _ h3 h4 x.qu, x.ne, x.sz⟩
theorem inV_strs (t : Str) : ∀ q : List Str, inV (.str t) (q.map V.str) = decide (t ∈ q)
  | [] => rfl
  | x :: q => by
    have ih := inV_strs t q
    unfold inV at ih ⊢
    simp only [List.map_cons, List.any_cons, ih]
    by_cases h : x = t
    · simp [h, eqV]
    · have h2 : ¬ t = x := fun e => h e.symm
      simp [h, h2, eqV]
def sp_Line_mark (K : PySem.W.Frag) : Sp := fun vs H Q _ => ∃ (a l : Addr) (S : LS), vs = [.ref a] ∧ LineAt K H a l S ∧ Q (.str S.m) H
theorem R_Line_mark {w : World} {K : PySem.W.Frag} {mg : Str → Option Value} {base : Heap} (T : Tx K mg) : FnR Pg w K mg base CX0 1 (My.prpG "Line" "mark" K) (sp_Line_mark K) := by
  obtain ⟨fd, F⟩ := T.d_Line_mark
  refine My.FunD.R F sc_Line_mark (fun vs H Q E h => by obtain ⟨a, l, S, rfl, ⟨⟨dx, ha⟩, hl, hn, hz⟩, k⟩ := h; rfl) (fun _ _ _ _ _ _ us hl => match us, hl with | [_], _ => rfl) (fun cdv A outer s H vs Q E hr h => ?_)
  obtain ⟨a, l, S, rfl, ⟨⟨dx, ha⟩, hl, hn, hz⟩, k⟩ := h
  refine ⟨_, (pss_one (ps_ret (pe_fld (pv 0) rfl))), ?_⟩
  simp only [tSeq, tAsg, tRet, tRetN, tIfS, tDrop, tNext, tBreak, tCont, tVar, tC, tOp, tUn, tB, tTest, tAnd, tOr, tNot, tAndV, tOrV, tNotV, tIf, tNil, tCons, tTup, tLst, tCB, tCallR, tMethR, tPropR, StX.tMakeR, tFld, sFld, sFldAug, tPar, tPar3, gName, gNil, gCons, gTup, gSub, rI, rI0, rU, rEq, rNe, mIxL, mIxT, mLenL, mLenT, mLenS, mLenD, mLenK, mList, mTupL, mInt, mAbs, mMax, mMin, mStr, mAddS, mIsN, mNotN, rIxS, rIxL, rSetL, rAppend, rExtendT, rPopAt, rCat, rIn, tBM, tBM0, tChain, tNever, scal, L2.start, cxK, iRng1, iRng2, tDNewK, tDGet, tDGet2, sDPut, tDIn, tDNotIn, DGet_dk, DPut_dk, IsD_dk, tyV_list, isLst_lst, isDk_dk, dkOf_dk, atI_0, atI_1, atI_2, atI_3, ixN_30, ixN_31, ixN_32, List.map, List.replicate, List.length_cons, List.length_nil, List.nil_append, List.cons_append, List.append_nil, Nat.reduceSub, Nat.reduceAdd, List.getElem?_cons_zero, List.getElem?_cons_succ, List.set_cons_zero, List.set_cons_succ, List.cons.injEq, Option.some.injEq, V.int.injEq, V.str.injEq, V.bl.injEq, V.ref.injEq, HO.ins.injEq, HO.lst.injEq, HO.tup.injEq, HO.dK.injEq, exists_eq_left, exists_eq_left', exists_eq_right, exists_eq_right', exists_and_left, exists_and_right, true_and, and_true, and_self, if_true, if_false, Bool.false_eq_true, Bool.true_eq_false, eq_self, reduceCtorEq, false_and, and_false, upd_same, upd_upd, and_assoc, Int.reduceToNat, Int.reducePow, Int.reduceMul, Int.reduceAdd, Int.reduceNeg, mIsi, mIsi2, kdV_non, kdV_bl, kdV_int, kdV_str, kdV_ref, kdO_lst, kdO_tup, kdO_dK, V.ty.injEq, mAll, mAny, kit_NoneType_bool, kit_NoneType_int, kit_NoneType_str, kit_NoneType_list, kit_NoneType_tuple, kit_NoneType_dict, kit_bool_bool, kit_bool_int, kit_bool_str, kit_bool_list, kit_bool_tuple, kit_bool_dict, kit_int_bool, kit_int_int, kit_int_str, kit_int_list, kit_int_tuple, kit_int_dict, kit_str_bool, kit_str_int, kit_str_str, kit_str_list, kit_str_tuple, kit_str_dict, kit_list_bool, kit_list_int, kit_list_str, kit_list_list, kit_list_tuple, kit_list_dict, kit_tuple_bool, kit_tuple_int, kit_tuple_str, kit_tuple_list, kit_tuple_tuple, kit_tuple_dict, kit_dict_bool, kit_dict_int, kit_dict_str, kit_dict_list, kit_dict_tuple, kit_dict_dict, String.reduceEq, String.reduceNe, ne_eq, not_false_eq_true, not_true_eq_false, decide_false, decide_true, Bool.not_false, Bool.not_true, Bool.or_false, Bool.false_or, Bool.or_true, Bool.true_or, gTupH, wipe, tYes, exists_eq', exists_eq, exists_const, tFor_eq, tLc_eq, tCallX, tMethX, tRaiseOw, tMkOw, tFldOw, mIxA, mLenA, rInO, rNotInO, mLenO, rSetD, tM1, false_or, or_false, tInT, inV_nil, inV_str, flatV_str, flatV_int, flatV_non, mIntB, List.all_cons, List.all_nil, Bool.and_true, Bool.true_and, Bool.and_self, tDisp, tPairs, exk_nil, exk_str, leS0, leS1, leS2, leS3, leS4, leS5, leS6, leS7, leS8, leS9, leS10, leS11, leS12, Nat.reduceLeDiff, mBoolB, rEqNil, ha, T.c_Line, T.f_Line_state, lf_state]
  exact k
def sp_Line_is_open (K : PySem.W.Frag) : Sp := fun vs H Q _ => ∃ (a l : Addr) (S : LS), vs = [.ref a] ∧ LineAt K H a l S ∧ Q (.bl (!decide (S.m = "closed"))) H
theorem R_Line_is_open {w : World} {K : PySem.W.Frag} {mg : Str → Option Value} {base : Heap} (T : Tx K mg) : FnR Pg w K mg base CX0 1 (My.prpG "Line" "is_open" K) (sp_Line_is_open K) := by
  obtain ⟨fd, F⟩ := T.d_Line_is_open
  refine My.FunD.R F sc_Line_is_open (fun vs H Q E h => by obtain ⟨a, l, S, rfl, ⟨⟨dx, ha⟩, hl, hn, hz⟩, k⟩ := h; rfl) (fun _ _ _ _ _ _ us hl => match us, hl with | [_], _ => rfl) (fun cdv A outer s H vs Q E hr h => ?_)
  obtain ⟨a, l, S, rfl, ⟨⟨dx, ha⟩, hl, hn, hz⟩, k⟩ := h
  refine ⟨_, (pss_one (ps_ret (pe_cmpR op_ne (pe_fld (pv 0) rfl) pe_str (nomark _)))), ?_⟩
  simp only [tSeq, tAsg, tRet, tRetN, tIfS, tDrop, tNext, tBreak, tCont, tVar, tC, tOp, tUn, tB, tTest, tAnd, tOr, tNot, tAndV, tOrV, tNotV, tIf, tNil, tCons, tTup, tLst, tCB, tCallR, tMethR, tPropR, StX.tMakeR, tFld, sFld, sFldAug, tPar, tPar3, gName, gNil, gCons, gTup, gSub, rI, rI0, rU, rEq, rNe, mIxL, mIxT, mLenL, mLenT, mLenS, mLenD, mLenK, mList, mTupL, mInt, mAbs, mMax, mMin, mStr, mAddS, mIsN, mNotN, rIxS, rIxL, rSetL, rAppend, rExtendT, rPopAt, rCat, rIn, tBM, tBM0, tChain, tNever, scal, L2.start, cxK, iRng1, iRng2, tDNewK, tDGet, tDGet2, sDPut, tDIn, tDNotIn, DGet_dk, DPut_dk, IsD_dk, tyV_list, isLst_lst, isDk_dk, dkOf_dk, atI_0, atI_1, atI_2, atI_3, ixN_30, ixN_31, ixN_32, List.map, List.replicate, List.length_cons, List.length_nil, List.nil_append, List.cons_append, List.append_nil, Nat.reduceSub, Nat.reduceAdd, List.getElem?_cons_zero, List.getElem?_cons_succ, List.set_cons_zero, List.set_cons_succ, List.cons.injEq, Option.some.injEq, V.int.injEq, V.str.injEq, V.bl.injEq, V.ref.injEq, HO.ins.injEq, HO.lst.injEq, HO.tup.injEq, HO.dK.injEq, exists_eq_left, exists_eq_left', exists_eq_right, exists_eq_right', exists_and_left, exists_and_right, true_and, and_true, and_self, if_true, if_false, Bool.false_eq_true, Bool.true_eq_false, eq_self, reduceCtorEq, false_and, and_false, upd_same, upd_upd, and_assoc, Int.reduceToNat, Int.reducePow, Int.reduceMul, Int.reduceAdd, Int.reduceNeg, mIsi, mIsi2, kdV_non, kdV_bl, kdV_int, kdV_str, kdV_ref, kdO_lst, kdO_tup, kdO_dK, V.ty.injEq, mAll, mAny, kit_NoneType_bool, kit_NoneType_int, kit_NoneType_str, kit_NoneType_list, kit_NoneType_tuple, kit_NoneType_dict, kit_bool_bool, kit_bool_int, kit_bool_str, kit_bool_list, kit_bool_tuple, kit_bool_dict, kit_int_bool, kit_int_int, kit_int_str, kit_int_list, kit_int_tuple, kit_int_dict, kit_str_bool, kit_str_int, kit_str_str, kit_str_list, kit_str_tuple, kit_str_dict, kit_list_bool, kit_list_int, kit_list_str, kit_list_list, kit_list_tuple, kit_list_dict, kit_tuple_bool, kit_tuple_int, kit_tuple_str, kit_tuple_list, kit_tuple_tuple, kit_tuple_dict, kit_dict_bool, kit_dict_int, kit_dict_str, kit_dict_list, kit_dict_tuple, kit_dict_dict, String.reduceEq, String.reduceNe, ne_eq, not_false_eq_true, not_true_eq_false, decide_false, decide_true, Bool.not_false, Bool.not_true, Bool.or_false, Bool.false_or, Bool.or_true, Bool.true_or, gTupH, wipe, tYes, exists_eq', exists_eq, exists_const, tFor_eq, tLc_eq, tCallX, tMethX, tRaiseOw, tMkOw, tFldOw, mIxA, mLenA, rInO, rNotInO, mLenO, rSetD, tM1, false_or, or_false, tInT, inV_nil, inV_str, flatV_str, flatV_int, flatV_non, mIntB, List.all_cons, List.all_nil, Bool.and_true, Bool.true_and, Bool.and_self, tDisp, tPairs, exk_nil, exk_str, leS0, leS1, leS2, leS3, leS4, leS5, leS6, leS7, leS8, leS9, leS10, leS11, leS12, Nat.reduceLeDiff, mBoolB, rEqNil, ha, T.c_Line, T.f_Line_state, lf_state]
  by_cases h : S.m = "closed"
  · simpa [h] using k
  · simpa [h] using k
def sp_Line_owed (K : PySem.W.Frag) : Sp := fun vs H Q _ => ∃ (a l : Addr) (S : LS), vs = [.ref a] ∧ LineAt K H a l S ∧ Q (.int (S.q.length : Int)) H
theorem R_Line_owed {w : World} {K : PySem.W.Frag} {mg : Str → Option Value} {base : Heap} (T : Tx K mg) : FnR Pg w K mg base CX0 1 (My.prpG "Line" "owed" K) (sp_Line_owed K) := by
  obtain ⟨fd, F⟩ := T.d_Line_owed
  refine My.FunD.R F sc_Line_owed (fun vs H Q E h => by obtain ⟨a, l, S, rfl, ⟨⟨dx, ha⟩, hl, hn, hz⟩, k⟩ := h; rfl) (fun _ _ _ _ _ _ us hl => match us, hl with | [_], _ => rfl) (fun cdv A outer s H vs Q E hr h => ?_)
  obtain ⟨a, l, S, rfl, ⟨⟨dx, ha⟩, hl, hn, hz⟩, k⟩ := h
  refine ⟨_, (pss_one (ps_ret (pe_callB lenL (by rfl) T.n_len (by decide +kernel) (pa_cons (pe_fld (pv 0) rfl) pa_nil)))), ?_⟩
  simp only [tSeq, tAsg, tRet, tRetN, tIfS, tDrop, tNext, tBreak, tCont, tVar, tC, tOp, tUn, tB, tTest, tAnd, tOr, tNot, tAndV, tOrV, tNotV, tIf, tNil, tCons, tTup, tLst, tCB, tCallR, tMethR, tPropR, StX.tMakeR, tFld, sFld, sFldAug, tPar, tPar3, gName, gNil, gCons, gTup, gSub, rI, rI0, rU, rEq, rNe, mIxL, mIxT, mLenL, mLenT, mLenS, mLenD, mLenK, mList, mTupL, mInt, mAbs, mMax, mMin, mStr, mAddS, mIsN, mNotN, rIxS, rIxL, rSetL, rAppend, rExtendT, rPopAt, rCat, rIn, tBM, tBM0, tChain, tNever, scal, L2.start, cxK, iRng1, iRng2, tDNewK, tDGet, tDGet2, sDPut, tDIn, tDNotIn, DGet_dk, DPut_dk, IsD_dk, tyV_list, isLst_lst, isDk_dk, dkOf_dk, atI_0, atI_1, atI_2, atI_3, ixN_30, ixN_31, ixN_32, List.map, List.replicate, List.length_cons, List.length_nil, List.nil_append, List.cons_append, List.append_nil, Nat.reduceSub, Nat.reduceAdd, List.getElem?_cons_zero, List.getElem?_cons_succ, List.set_cons_zero, List.set_cons_succ, List.cons.injEq, Option.some.injEq, V.int.injEq, V.str.injEq, V.bl.injEq, V.ref.injEq, HO.ins.injEq, HO.lst.injEq, HO.tup.injEq, HO.dK.injEq, exists_eq_left, exists_eq_left', exists_eq_right, exists_eq_right', exists_and_left, exists_and_right, true_and, and_true, and_self, if_true, if_false, Bool.false_eq_true, Bool.true_eq_false, eq_self, reduceCtorEq, false_and, and_false, upd_same, upd_upd, and_assoc, Int.reduceToNat, Int.reducePow, Int.reduceMul, Int.reduceAdd, Int.reduceNeg, mIsi, mIsi2, kdV_non, kdV_bl, kdV_int, kdV_str, kdV_ref, kdO_lst, kdO_tup, kdO_dK, V.ty.injEq, mAll, mAny, kit_NoneType_bool, kit_NoneType_int, kit_NoneType_str, kit_NoneType_list, kit_NoneType_tuple, kit_NoneType_dict, kit_bool_bool, kit_bool_int, kit_bool_str, kit_bool_list, kit_bool_tuple, kit_bool_dict, kit_int_bool, kit_int_int, kit_int_str, kit_int_list, kit_int_tuple, kit_int_dict, kit_str_bool, kit_str_int, kit_str_str, kit_str_list, kit_str_tuple, kit_str_dict, kit_list_bool, kit_list_int, kit_list_str, kit_list_list, kit_list_tuple, kit_list_dict, kit_tuple_bool, kit_tuple_int, kit_tuple_str, kit_tuple_list, kit_tuple_tuple, kit_tuple_dict, kit_dict_bool, kit_dict_int, kit_dict_str, kit_dict_list, kit_dict_tuple, kit_dict_dict, String.reduceEq, String.reduceNe, ne_eq, not_false_eq_true, not_true_eq_false, decide_false, decide_true, Bool.not_false, Bool.not_true, Bool.or_false, Bool.false_or, Bool.or_true, Bool.true_or, gTupH, wipe, tYes, exists_eq', exists_eq, exists_const, tFor_eq, tLc_eq, tCallX, tMethX, tRaiseOw, tMkOw, tFldOw, mIxA, mLenA, rInO, rNotInO, mLenO, rSetD, tM1, false_or, or_false, tInT, inV_nil, inV_str, flatV_str, flatV_int, flatV_non, mIntB, List.all_cons, List.all_nil, Bool.and_true, Bool.true_and, Bool.and_self, tDisp, tPairs, exk_nil, exk_str, leS0, leS1, leS2, leS3, leS4, leS5, leS6, leS7, leS8, leS9, leS10, leS11, leS12, Nat.reduceLeDiff, mBoolB, rEqNil, ha, hl, T.c_Line, T.f_Line_queue, lf_queue, List.length_map]
  exact k
def sp_Line___len__ (K : PySem.W.Frag) : Sp := fun vs H Q _ => ∃ (a l : Addr) (S : LS), vs = [.ref a] ∧ LineAt K H a l S ∧ Q (.int (S.q.length : Int)) H
theorem R_Line___len__ {w : World} {K : PySem.W.Frag} {mg : Str → Option Value} {base : Heap} (T : Tx K mg) : FnR Pg w K mg base CX0 1 (He.ma K (He.ga K "Line") "__len__") (sp_Line___len__ K) := by
  obtain ⟨fd, F⟩ := T.d_Line___len__
  refine My.FunD.R F sc_Line___len__ (fun vs H Q E h => by obtain ⟨a, l, S, rfl, ⟨⟨dx, ha⟩, hl, hn, hz⟩, k⟩ := h; rfl) (fun _ _ _ _ _ _ us hl => match us, hl with | [_], _ => rfl) (fun cdv A outer s H vs Q E hr h => ?_)
  obtain ⟨a, l, S, rfl, ⟨⟨dx, ha⟩, hl, hn, hz⟩, k⟩ := h
  refine ⟨_, (pss_one (ps_ret (pe_callB lenL (by rfl) T.n_len (by decide +kernel) (pa_cons (pe_fld (pv 0) rfl) pa_nil)))), ?_⟩
  simp only [tSeq, tAsg, tRet, tRetN, tIfS, tDrop, tNext, tBreak, tCont, tVar, tC, tOp, tUn, tB, tTest, tAnd, tOr, tNot, tAndV, tOrV, tNotV, tIf, tNil, tCons, tTup, tLst, tCB, tCallR, tMethR, tPropR, StX.tMakeR, tFld, sFld, sFldAug, tPar, tPar3, gName, gNil, gCons, gTup, gSub, rI, rI0, rU, rEq, rNe, mIxL, mIxT, mLenL, mLenT, mLenS, mLenD, mLenK, mList, mTupL, mInt, mAbs, mMax, mMin, mStr, mAddS, mIsN, mNotN, rIxS, rIxL, rSetL, rAppend, rExtendT, rPopAt, rCat, rIn, tBM, tBM0, tChain, tNever, scal, L2.start, cxK, iRng1, iRng2, tDNewK, tDGet, tDGet2, sDPut, tDIn, tDNotIn, DGet_dk, DPut_dk, IsD_dk, tyV_list, isLst_lst, isDk_dk, dkOf_dk, atI_0, atI_1, atI_2, atI_3, ixN_30, ixN_31, ixN_32, List.map, List.replicate, List.length_cons, List.length_nil, List.nil_append, List.cons_append, List.append_nil, Nat.reduceSub, Nat.reduceAdd, List.getElem?_cons_zero, List.getElem?_cons_succ, List.set_cons_zero, List.set_cons_succ, List.cons.injEq, Option.some.injEq, V.int.injEq, V.str.injEq, V.bl.injEq, V.ref.injEq, HO.ins.injEq, HO.lst.injEq, HO.tup.injEq, HO.dK.injEq, exists_eq_left, exists_eq_left', exists_eq_right, exists_eq_right', exists_and_left, exists_and_right, true_and, and_true, and_self, if_true, if_false, Bool.false_eq_true, Bool.true_eq_false, eq_self, reduceCtorEq, false_and, and_false, upd_same, upd_upd, and_assoc, Int.reduceToNat, Int.reducePow, Int.reduceMul, Int.reduceAdd, Int.reduceNeg, mIsi, mIsi2, kdV_non, kdV_bl, kdV_int, kdV_str, kdV_ref, kdO_lst, kdO_tup, kdO_dK, V.ty.injEq, mAll, mAny, kit_NoneType_bool, kit_NoneType_int, kit_NoneType_str, kit_NoneType_list, kit_NoneType_tuple, kit_NoneType_dict, kit_bool_bool, kit_bool_int, kit_bool_str, kit_bool_list, kit_bool_tuple, kit_bool_dict, kit_int_bool, kit_int_int, kit_int_str, kit_int_list, kit_int_tuple, kit_int_dict, kit_str_bool, kit_str_int, kit_str_str, kit_str_list, kit_str_tuple, kit_str_dict, kit_list_bool, kit_list_int, kit_list_str, kit_list_list, kit_list_tuple, kit_list_dict, kit_tuple_bool, kit_tuple_int, kit_tuple_str, kit_tuple_list, kit_tuple_tuple, kit_tuple_dict, kit_dict_bool, kit_dict_int, kit_dict_str, kit_dict_list, kit_dict_tuple, kit_dict_dict, String.reduceEq, String.reduceNe, ne_eq, not_false_eq_true, not_true_eq_false, decide_false, decide_true, Bool.not_false, Bool.not_true, Bool.or_false, Bool.false_or, Bool.or_true, Bool.true_or, gTupH, wipe, tYes, exists_eq', exists_eq, exists_const, tFor_eq, tLc_eq, tCallX, tMethX, tRaiseOw, tMkOw, tFldOw, mIxA, mLenA, rInO, rNotInO, mLenO, rSetD, tM1, false_or, or_false, tInT, inV_nil, inV_str, flatV_str, flatV_int, flatV_non, mIntB, List.all_cons, List.all_nil, Bool.and_true, Bool.true_and, Bool.and_self, tDisp, tPairs, exk_nil, exk_str, leS0, leS1, leS2, leS3, leS4, leS5, leS6, leS7, leS8, leS9, leS10, leS11, leS12, Nat.reduceLeDiff, mBoolB, rEqNil, ha, hl, T.c_Line, T.f_Line_queue, lf_queue, List.length_map]
  exact k
def sp_Line___contains__ (K : PySem.W.Frag) : Sp := fun vs H Q _ => ∃ (a l : Addr) (S : LS) (t : Str), vs = [.ref a, .str t] ∧ LineAt K H a l S ∧ Q (.bl (decide (t ∈ S.q))) H
theorem R_Line___contains__ {w : World} {K : PySem.W.Frag} {mg : Str → Option Value} {base : Heap} (T : Tx K mg) : FnR Pg w K mg base CX0 1 (He.ma K (He.ga K "Line") "__contains__") (sp_Line___contains__ K) := by
  obtain ⟨fd, F⟩ := T.d_Line___contains__
  refine My.FunD.R F sc_Line___contains__ (fun vs H Q E h => by obtain ⟨a, l, S, t, rfl, ⟨⟨dx, ha⟩, hl, hn, hz⟩, k⟩ := h; rfl) (fun _ _ _ _ _ _ us hl => match us, hl with | [_, _], _ => rfl) (fun cdv A outer s H vs Q E hr h => ?_)
  obtain ⟨a, l, S, t, rfl, ⟨⟨dx, ha⟩, hl, hn, hz⟩, k⟩ := h
  refine ⟨_, (pss_one (ps_ret (pe_cmpR op_in_seq (pv 1) (pe_fld (pv 0) rfl) rfl))), ?_⟩
  simp only [tSeq, tAsg, tRet, tRetN, tIfS, tDrop, tNext, tBreak, tCont, tVar, tC, tOp, tUn, tB, tTest, tAnd, tOr, tNot, tAndV, tOrV, tNotV, tIf, tNil, tCons, tTup, tLst, tCB, tCallR, tMethR, tPropR, StX.tMakeR, tFld, sFld, sFldAug, tPar, tPar3, gName, gNil, gCons, gTup, gSub, rI, rI0, rU, rEq, rNe, mIxL, mIxT, mLenL, mLenT, mLenS, mLenD, mLenK, mList, mTupL, mInt, mAbs, mMax, mMin, mStr, mAddS, mIsN, mNotN, rIxS, rIxL, rSetL, rAppend, rExtendT, rPopAt, rCat, rIn, tBM, tBM0, tChain, tNever, scal, L2.start, cxK, iRng1, iRng2, tDNewK, tDGet, tDGet2, sDPut, tDIn, tDNotIn, DGet_dk, DPut_dk, IsD_dk, tyV_list, isLst_lst, isDk_dk, dkOf_dk, atI_0, atI_1, atI_2, atI_3, ixN_30, ixN_31, ixN_32, List.map, List.replicate, List.length_cons, List.length_nil, List.nil_append, List.cons_append, List.append_nil, Nat.reduceSub, Nat.reduceAdd, List.getElem?_cons_zero, List.getElem?_cons_succ, List.set_cons_zero, List.set_cons_succ, List.cons.injEq, Option.some.injEq, V.int.injEq, V.str.injEq, V.bl.injEq, V.ref.injEq, HO.ins.injEq, HO.lst.injEq, HO.tup.injEq, HO.dK.injEq, exists_eq_left, exists_eq_left', exists_eq_right, exists_eq_right', exists_and_left, exists_and_right, true_and, and_true, and_self, if_true, if_false, Bool.false_eq_true, Bool.true_eq_false, eq_self, reduceCtorEq, false_and, and_false, upd_same, upd_upd, and_assoc, Int.reduceToNat, Int.reducePow, Int.reduceMul, Int.reduceAdd, Int.reduceNeg, mIsi, mIsi2, kdV_non, kdV_bl, kdV_int, kdV_str, kdV_ref, kdO_lst, kdO_tup, kdO_dK, V.ty.injEq, mAll, mAny, kit_NoneType_bool, kit_NoneType_int, kit_NoneType_str, kit_NoneType_list, kit_NoneType_tuple, kit_NoneType_dict, kit_bool_bool, kit_bool_int, kit_bool_str, kit_bool_list, kit_bool_tuple, kit_bool_dict, kit_int_bool, kit_int_int, kit_int_str, kit_int_list, kit_int_tuple, kit_int_dict, kit_str_bool, kit_str_int, kit_str_str, kit_str_list, kit_str_tuple, kit_str_dict, kit_list_bool, kit_list_int, kit_list_str, kit_list_list, kit_list_tuple, kit_list_dict, kit_tuple_bool, kit_tuple_int, kit_tuple_str, kit_tuple_list, kit_tuple_tuple, kit_tuple_dict, kit_dict_bool, kit_dict_int, kit_dict_str, kit_dict_list, kit_dict_tuple, kit_dict_dict, String.reduceEq, String.reduceNe, ne_eq, not_false_eq_true, not_true_eq_false, decide_false, decide_true, Bool.not_false, Bool.not_true, Bool.or_false, Bool.false_or, Bool.or_true, Bool.true_or, gTupH, wipe, tYes, exists_eq', exists_eq, exists_const, tFor_eq, tLc_eq, tCallX, tMethX, tRaiseOw, tMkOw, tFldOw, mIxA, mLenA, rInO, rNotInO, mLenO, rSetD, tM1, false_or, or_false, tInT, inV_nil, inV_str, flatV_str, flatV_int, flatV_non, mIntB, List.all_cons, List.all_nil, Bool.and_true, Bool.true_and, Bool.and_self, tDisp, tPairs, exk_nil, exk_str, leS0, leS1, leS2, leS3, leS4, leS5, leS6, leS7, leS8, leS9, leS10, leS11, leS12, Nat.reduceLeDiff, mBoolB, rEqNil, ha, hl, T.c_Line, T.f_Line_queue, lf_queue, List.length_map]
  refine ⟨_, .inl (SqL.of hl), ?_, ?_⟩
  · exact List.all_eq_true.mpr fun x hx => by obtain ⟨z, _, rfl⟩ := List.mem_map.mp hx; rfl
  · rw [inV_strs]; exact k
def sp_Line_is_clean (K : PySem.W.Frag) : Sp := fun vs H Q _ => ∃ (a l : Addr) (S : LS), vs = [.ref a] ∧ LineAt K H a l S ∧ Q (.bl (decide (S.m = "whole") && decide (S.q = []))) H
theorem R_Line_is_clean {w : World} {K : PySem.W.Frag} {mg : Str → Option Value} {base : Heap} (T : Tx K mg) : FnR Pg w K mg base CX0 1 (My.prpG "Line" "is_clean" K) (sp_Line_is_clean K) := by
  obtain ⟨fd, F⟩ := T.d_Line_is_clean
  refine My.FunD.R F sc_Line_is_clean (fun vs H Q E h => by obtain ⟨a, l, S, rfl, ⟨⟨dx, ha⟩, hl, hn, hz⟩, k⟩ := h; rfl) (fun _ _ _ _ _ _ us hl => match us, hl with | [_], _ => rfl) (fun cdv A outer s H vs Q E hr h => ?_)
  obtain ⟨a, l, S, rfl, ⟨⟨dx, ha⟩, hl, hn, hz⟩, k⟩ := h
  refine ⟨_, (pss_one (ps_ret (pe_and (pe_cmpR op_eq (pe_fld (pv 0) rfl) pe_str (nomark _)) (pe_one (pe_cmpR op_eq (pe_callB lenL (by rfl) T.n_len (by decide +kernel) (pa_cons (pe_fld (pv 0) rfl) pa_nil)) pe_int (nomark _)))))), ?_⟩
  simp only [tSeq, tAsg, tRet, tRetN, tIfS, tDrop, tNext, tBreak, tCont, tVar, tC, tOp, tUn, tB, tTest, tAnd, tOr, tNot, tAndV, tOrV, tNotV, tIf, tNil, tCons, tTup, tLst, tCB, tCallR, tMethR, tPropR, StX.tMakeR, tFld, sFld, sFldAug, tPar, tPar3, gName, gNil, gCons, gTup, gSub, rI, rI0, rU, rEq, rNe, mIxL, mIxT, mLenL, mLenT, mLenS, mLenD, mLenK, mList, mTupL, mInt, mAbs, mMax, mMin, mStr, mAddS, mIsN, mNotN, rIxS, rIxL, rSetL, rAppend, rExtendT, rPopAt, rCat, rIn, tBM, tBM0, tChain, tNever, scal, L2.start, cxK, iRng1, iRng2, tDNewK, tDGet, tDGet2, sDPut, tDIn, tDNotIn, DGet_dk, DPut_dk, IsD_dk, tyV_list, isLst_lst, isDk_dk, dkOf_dk, atI_0, atI_1, atI_2, atI_3, ixN_30, ixN_31, ixN_32, List.map, List.replicate, List.length_cons, List.length_nil, List.nil_append, List.cons_append, List.append_nil, Nat.reduceSub, Nat.reduceAdd, List.getElem?_cons_zero, List.getElem?_cons_succ, List.set_cons_zero, List.set_cons_succ, List.cons.injEq, Option.some.injEq, V.int.injEq, V.str.injEq, V.bl.injEq, V.ref.injEq, HO.ins.injEq, HO.lst.injEq, HO.tup.injEq, HO.dK.injEq, exists_eq_left, exists_eq_left', exists_eq_right, exists_eq_right', exists_and_left, exists_and_right, true_and, and_true, and_self, if_true, if_false, Bool.false_eq_true, Bool.true_eq_false, eq_self, reduceCtorEq, false_and, and_false, upd_same, upd_upd, and_assoc, Int.reduceToNat, Int.reducePow, Int.reduceMul, Int.reduceAdd, Int.reduceNeg, mIsi, mIsi2, kdV_non, kdV_bl, kdV_int, kdV_str, kdV_ref, kdO_lst, kdO_tup, kdO_dK, V.ty.injEq, mAll, mAny, kit_NoneType_bool, kit_NoneType_int, kit_NoneType_str, kit_NoneType_list, kit_NoneType_tuple, kit_NoneType_dict, kit_bool_bool, kit_bool_int, kit_bool_str, kit_bool_list, kit_bool_tuple, kit_bool_dict, kit_int_bool, kit_int_int, kit_int_str, kit_int_list, kit_int_tuple, kit_int_dict, kit_str_bool, kit_str_int, kit_str_str, kit_str_list, kit_str_tuple, kit_str_dict, kit_list_bool, kit_list_int, kit_list_str, kit_list_list, kit_list_tuple, kit_list_dict, kit_tuple_bool, kit_tuple_int, kit_tuple_str, kit_tuple_list, kit_tuple_tuple, kit_tuple_dict, kit_dict_bool, kit_dict_int, kit_dict_str, kit_dict_list, kit_dict_tuple, kit_dict_dict, String.reduceEq, String.reduceNe, ne_eq, not_false_eq_true, not_true_eq_false, decide_false, decide_true, Bool.not_false, Bool.not_true, Bool.or_false, Bool.false_or, Bool.or_true, Bool.true_or, gTupH, wipe, tYes, exists_eq', exists_eq, exists_const, tFor_eq, tLc_eq, tCallX, tMethX, tRaiseOw, tMkOw, tFldOw, mIxA, mLenA, rInO, rNotInO, mLenO, rSetD, tM1, false_or, or_false, tInT, inV_nil, inV_str, flatV_str, flatV_int, flatV_non, mIntB, List.all_cons, List.all_nil, Bool.and_true, Bool.true_and, Bool.and_self, tDisp, tPairs, exk_nil, exk_str, leS0, leS1, leS2, leS3, leS4, leS5, leS6, leS7, leS8, leS9, leS10, leS11, leS12, Nat.reduceLeDiff, mBoolB, rEqNil, ha, hl, T.c_Line, T.f_Line_queue, T.f_Line_state, lf_queue, lf_state, List.length_map]
  have e : decide ((S.q.length : Int) = 0) = decide (S.q = []) := by cases S.q <;> simp; omega
  rw [e]
  by_cases h : S.m = "whole"
  · simpa [h] using k
  · simpa [h] using k
def sp_Line_tags (K : PySem.W.Frag) : Sp := fun vs H Q _ => ∃ (a l : Addr) (S : LS), vs = [.ref a] ∧ LineAt K H a l S ∧ ∀ p, H p = none → Q (.ref p) (upd H p (.lst (S.q.map V.str)))
theorem R_Line_tags {w : World} {K : PySem.W.Frag} {mg : Str → Option Value} {base : Heap} (T : Tx K mg) : FnR Pg w K mg base CX0 1 (He.ma K (He.ga K "Line") "tags") (sp_Line_tags K) := by
  obtain ⟨fd, F⟩ := T.d_Line_tags
  refine My.FunD.R F sc_Line_tags (fun vs H Q E h => by obtain ⟨a, l, S, rfl, ⟨⟨dx, ha⟩, hl, hn, hz⟩, k⟩ := h; rfl) (fun _ _ _ _ _ _ us hl => match us, hl with | [_], _ => rfl) (fun cdv A outer s H vs Q E hr h => ?_)
  obtain ⟨a, l, S, rfl, ⟨⟨dx, ha⟩, hl, hn, hz⟩, k⟩ := h
  refine ⟨_, (pss_one (ps_ret (pe_callTy listL (by rfl) T.n_list (by decide +kernel) (pa_cons (pe_fld (pv 0) rfl) pa_nil)))), ?_⟩
  simp only [tSeq, tAsg, tRet, tRetN, tIfS, tDrop, tNext, tBreak, tCont, tVar, tC, tOp, tUn, tB, tTest, tAnd, tOr, tNot, tAndV, tOrV, tNotV, tIf, tNil, tCons, tTup, tLst, tCB, tCallR, tMethR, tPropR, StX.tMakeR, tFld, sFld, sFldAug, tPar, tPar3, gName, gNil, gCons, gTup, gSub, rI, rI0, rU, rEq, rNe, mIxL, mIxT, mLenL, mLenT, mLenS, mLenD, mLenK, mList, mTupL, mInt, mAbs, mMax, mMin, mStr, mAddS, mIsN, mNotN, rIxS, rIxL, rSetL, rAppend, rExtendT, rPopAt, rCat, rIn, tBM, tBM0, tChain, tNever, scal, L2.start, cxK, iRng1, iRng2, tDNewK, tDGet, tDGet2, sDPut, tDIn, tDNotIn, DGet_dk, DPut_dk, IsD_dk, tyV_list, isLst_lst, isDk_dk, dkOf_dk, atI_0, atI_1, atI_2, atI_3, ixN_30, ixN_31, ixN_32, List.map, List.replicate, List.length_cons, List.length_nil, List.nil_append, List.cons_append, List.append_nil, Nat.reduceSub, Nat.reduceAdd, List.getElem?_cons_zero, List.getElem?_cons_succ, List.set_cons_zero, List.set_cons_succ, List.cons.injEq, Option.some.injEq, V.int.injEq, V.str.injEq, V.bl.injEq, V.ref.injEq, HO.ins.injEq, HO.lst.injEq, HO.tup.injEq, HO.dK.injEq, exists_eq_left, exists_eq_left', exists_eq_right, exists_eq_right', exists_and_left, exists_and_right, true_and, and_true, and_self, if_true, if_false, Bool.false_eq_true, Bool.true_eq_false, eq_self, reduceCtorEq, false_and, and_false, upd_same, upd_upd, and_assoc, Int.reduceToNat, Int.reducePow, Int.reduceMul, Int.reduceAdd, Int.reduceNeg, mIsi, mIsi2, kdV_non, kdV_bl, kdV_int, kdV_str, kdV_ref, kdO_lst, kdO_tup, kdO_dK, V.ty.injEq, mAll, mAny, kit_NoneType_bool, kit_NoneType_int, kit_NoneType_str, kit_NoneType_list, kit_NoneType_tuple, kit_NoneType_dict, kit_bool_bool, kit_bool_int, kit_bool_str, kit_bool_list, kit_bool_tuple, kit_bool_dict, kit_int_bool, kit_int_int, kit_int_str, kit_int_list, kit_int_tuple, kit_int_dict, kit_str_bool, kit_str_int, kit_str_str, kit_str_list, kit_str_tuple, kit_str_dict, kit_list_bool, kit_list_int, kit_list_str, kit_list_list, kit_list_tuple, kit_list_dict, kit_tuple_bool, kit_tuple_int, kit_tuple_str, kit_tuple_list, kit_tuple_tuple, kit_tuple_dict, kit_dict_bool, kit_dict_int, kit_dict_str, kit_dict_list, kit_dict_tuple, kit_dict_dict, String.reduceEq, String.reduceNe, ne_eq, not_false_eq_true, not_true_eq_false, decide_false, decide_true, Bool.not_false, Bool.not_true, Bool.or_false, Bool.false_or, Bool.or_true, Bool.true_or, gTupH, wipe, tYes, exists_eq', exists_eq, exists_const, tFor_eq, tLc_eq, tCallX, tMethX, tRaiseOw, tMkOw, tFldOw, mIxA, mLenA, rInO, rNotInO, mLenO, rSetD, tM1, false_or, or_false, tInT, inV_nil, inV_str, flatV_str, flatV_int, flatV_non, mIntB, List.all_cons, List.all_nil, Bool.and_true, Bool.true_and, Bool.and_self, tDisp, tPairs, exk_nil, exk_str, leS0, leS1, leS2, leS3, leS4, leS5, leS6, leS7, leS8, leS9, leS10, leS11, leS12, Nat.reduceLeDiff, mBoolB, rEqNil, ha, hl, T.c_Line, T.f_Line_queue, lf_queue, List.length_map]
  exact k
/-- the fault f of a line is raised -/
def Rz (K : PySem.W.Frag) (H : Hp) (E : XK) (S : LS) (f : V) : Prop := ∀ H' d, Same H H' →
  (f = .str "closed" → H' d = some (.xd [("number", .int S.n)]) → E (.ref (He.ga K "Closed")) (some d) H') ∧
  (f = .str "amid" → H' d = some (.xd [("half", .str S.m)]) → E (.ref (He.ga K "Amid")) (some d) H') ∧
  (f = .str "starved" → H' d = some (.xd [("number", .int S.n)]) → E (.ref (He.ga K "Starved")) (some d) H')
theorem Rz.same {K : PySem.W.Frag} {H H1 : Hp} {E : XK} {S : LS} {f : V} (r : Rz K H E S f) (s : Same H H1) : Rz K H1 E S f := fun H' d s' => r H' d (s.trans s')
def sp_Line_need (K : PySem.W.Frag) : Sp := fun vs H Q E => ∃ (a l : Addr) (S : LS) (w : Str) (n : Int), vs = [.ref a, .str w, .int n] ∧ LineAt K H a l S ∧ inV (.str w) LW = true ∧ (rowFault w S.m n = .non → Q .non H) ∧ Rz K H E S (rowFault w S.m n)
theorem R_Line_need {w : World} {K : PySem.W.Frag} {mg : Str → Option Value} {base : Heap} (T : Tx K mg) : FnR Pg w K mg base (L2.CX Pg w) 7 (He.ma K (He.ga K "Line") "need") (sp_Line_need K) := by
  obtain ⟨fd, F⟩ := T.d_Line_need
  refine My.FunD.RX F sc_Line_need (fun vs H Q E h => by obtain ⟨a, l, S, w', n, rfl, ⟨⟨dx, ha⟩, hl, hn, hz⟩, hw, k, r⟩ := h; rfl) (fun _ _ _ _ _ _ us hl => match us, hl with | [_, _, _], _ => rfl) (fun cdv A outer s H vs Q E hr h => ?_)
  obtain ⟨a, l, S, w', n, rfl, ⟨⟨dx, ha⟩, hl, hn, hz⟩, hw, k, r⟩ := h
  refine ⟨_, (pss_cons (ps_set (i := 3) sc_Line_need.nd rfl (by first | exact Or.inl rfl | exact Or.inr rfl) (pe_callR (R_row_fault T) (hr.mono (by decide)) rfl T.g_row_fault T.k_row_fault pass0 (pa_cons (pv 1) (pa_cons (pe_fld (pv 0) rfl) (pa_cons (pv 2) pa_nil)))))
      (pss_cons (ps_if (pt_cmpR op_eq (pv 3) pe_str (nomark _)) (pss_one (ps_raiseOw rfl T.ow_Closed hr (takes_of rfl rfl rfl rfl) (pa_cons (pe_fld (pv 0) rfl) pa_nil) rfl)) pss_nil)
      (pss_cons (ps_if (pt_cmpR op_eq (pv 3) pe_str (nomark _)) (pss_one (ps_raiseOw rfl T.ow_Amid hr (takes_of rfl rfl rfl rfl) (pa_cons (pe_fld (pv 0) rfl) pa_nil) rfl)) pss_nil)
      (pss_one (ps_if (pt_cmpR op_eq (pv 3) pe_str (nomark _)) (pss_one (ps_raiseOw rfl T.ow_Starved hr (takes_of rfl rfl rfl rfl) (pa_cons (pe_fld (pv 0) rfl) pa_nil) rfl)) pss_nil))))), ?_⟩
  rcases rf_cases w' S.m n with hf | hf | hf | hf
  · simp only [tSeq, tAsg, tRet, tRetN, tIfS, tDrop, tNext, tBreak, tCont, tVar, tC, tOp, tUn, tB, tTest, tAnd, tOr, tNot, tAndV, tOrV, tNotV, tIf, tNil, tCons, tTup, tLst, tCB, tCallR, tMethR, tPropR, StX.tMakeR, tFld, sFld, sFldAug, tPar, tPar3, gName, gNil, gCons, gTup, gSub, rI, rI0, rU, rEq, rNe, mIxL, mIxT, mLenL, mLenT, mLenS, mLenD, mLenK, mList, mTupL, mInt, mAbs, mMax, mMin, mStr, mAddS, mIsN, mNotN, rIxS, rIxL, rSetL, rAppend, rExtendT, rPopAt, rCat, rIn, tBM, tBM0, tChain, tNever, scal, L2.start, cxK, iRng1, iRng2, tDNewK, tDGet, tDGet2, sDPut, tDIn, tDNotIn, DGet_dk, DPut_dk, IsD_dk, tyV_list, isLst_lst, isDk_dk, dkOf_dk, atI_0, atI_1, atI_2, atI_3, ixN_30, ixN_31, ixN_32, List.map, List.replicate, List.length_cons, List.length_nil, List.nil_append, List.cons_append, List.append_nil, Nat.reduceSub, Nat.reduceAdd, List.getElem?_cons_zero, List.getElem?_cons_succ, List.set_cons_zero, List.set_cons_succ, List.cons.injEq, Option.some.injEq, V.int.injEq, V.str.injEq, V.bl.injEq, V.ref.injEq, HO.ins.injEq, HO.lst.injEq, HO.tup.injEq, HO.dK.injEq, exists_eq_left, exists_eq_left', exists_eq_right, exists_eq_right', exists_and_left, exists_and_right, true_and, and_true, and_self, if_true, if_false, Bool.false_eq_true, Bool.true_eq_false, eq_self, reduceCtorEq, false_and, and_false, upd_same, upd_upd, and_assoc, Int.reduceToNat, Int.reducePow, Int.reduceMul, Int.reduceAdd, Int.reduceNeg, mIsi, mIsi2, kdV_non, kdV_bl, kdV_int, kdV_str, kdV_ref, kdO_lst, kdO_tup, kdO_dK, V.ty.injEq, mAll, mAny, kit_NoneType_bool, kit_NoneType_int, kit_NoneType_str, kit_NoneType_list, kit_NoneType_tuple, kit_NoneType_dict, kit_bool_bool, kit_bool_int, kit_bool_str, kit_bool_list, kit_bool_tuple, kit_bool_dict, kit_int_bool, kit_int_int, kit_int_str, kit_int_list, kit_int_tuple, kit_int_dict, kit_str_bool, kit_str_int, kit_str_str, kit_str_list, kit_str_tuple, kit_str_dict, kit_list_bool, kit_list_int, kit_list_str, kit_list_list, kit_list_tuple, kit_list_dict, kit_tuple_bool, kit_tuple_int, kit_tuple_str, kit_tuple_list, kit_tuple_tuple, kit_tuple_dict, kit_dict_bool, kit_dict_int, kit_dict_str, kit_dict_list, kit_dict_tuple, kit_dict_dict, String.reduceEq, String.reduceNe, ne_eq, not_false_eq_true, not_true_eq_false, decide_false, decide_true, Bool.not_false, Bool.not_true, Bool.or_false, Bool.false_or, Bool.or_true, Bool.true_or, gTupH, wipe, tYes, exists_eq', exists_eq, exists_const, tFor_eq, tLc_eq, tCallX, tMethX, tRaiseOw, tMkOw, tFldOw, mIxA, mLenA, rInO, rNotInO, mLenO, rSetD, tM1, false_or, or_false, tInT, inV_nil, inV_str, flatV_str, flatV_int, flatV_non, mIntB, List.all_cons, List.all_nil, Bool.and_true, Bool.true_and, Bool.and_self, tDisp, tPairs, exk_nil, exk_str, leS0, leS1, leS2, leS3, leS4, leS5, leS6, leS7, leS8, leS9, leS10, leS11, leS12, Nat.reduceLeDiff, mBoolB, rEqNil, ha, T.c_Line, T.f_Line_state, lf_state, sp_row_fault, hw, hf]
    simpa using k hf
  · simp only [tSeq, tAsg, tRet, tRetN, tIfS, tDrop, tNext, tBreak, tCont, tVar, tC, tOp, tUn, tB, tTest, tAnd, tOr, tNot, tAndV, tOrV, tNotV, tIf, tNil, tCons, tTup, tLst, tCB, tCallR, tMethR, tPropR, StX.tMakeR, tFld, sFld, sFldAug, tPar, tPar3, gName, gNil, gCons, gTup, gSub, rI, rI0, rU, rEq, rNe, mIxL, mIxT, mLenL, mLenT, mLenS, mLenD, mLenK, mList, mTupL, mInt, mAbs, mMax, mMin, mStr, mAddS, mIsN, mNotN, rIxS, rIxL, rSetL, rAppend, rExtendT, rPopAt, rCat, rIn, tBM, tBM0, tChain, tNever, scal, L2.start, cxK, iRng1, iRng2, tDNewK, tDGet, tDGet2, sDPut, tDIn, tDNotIn, DGet_dk, DPut_dk, IsD_dk, tyV_list, isLst_lst, isDk_dk, dkOf_dk, atI_0, atI_1, atI_2, atI_3, ixN_30, ixN_31, ixN_32, List.map, List.replicate, List.length_cons, List.length_nil, List.nil_append, List.cons_append, List.append_nil, Nat.reduceSub, Nat.reduceAdd, List.getElem?_cons_zero, List.getElem?_cons_succ, List.set_cons_zero, List.set_cons_succ, List.cons.injEq, Option.some.injEq, V.int.injEq, V.str.injEq, V.bl.injEq, V.ref.injEq, HO.ins.injEq, HO.lst.injEq, HO.tup.injEq, HO.dK.injEq, exists_eq_left, exists_eq_left', exists_eq_right, exists_eq_right', exists_and_left, exists_and_right, true_and, and_true, and_self, if_true, if_false, Bool.false_eq_true, Bool.true_eq_false, eq_self, reduceCtorEq, false_and, and_false, upd_same, upd_upd, and_assoc, Int.reduceToNat, Int.reducePow, Int.reduceMul, Int.reduceAdd, Int.reduceNeg, mIsi, mIsi2, kdV_non, kdV_bl, kdV_int, kdV_str, kdV_ref, kdO_lst, kdO_tup, kdO_dK, V.ty.injEq, mAll, mAny, kit_NoneType_bool, kit_NoneType_int, kit_NoneType_str, kit_NoneType_list, kit_NoneType_tuple, kit_NoneType_dict, kit_bool_bool, kit_bool_int, kit_bool_str, kit_bool_list, kit_bool_tuple, kit_bool_dict, kit_int_bool, kit_int_int, kit_int_str, kit_int_list, kit_int_tuple, kit_int_dict, kit_str_bool, kit_str_int, kit_str_str, kit_str_list, kit_str_tuple, kit_str_dict, kit_list_bool, kit_list_int, kit_list_str, kit_list_list, kit_list_tuple, kit_list_dict, kit_tuple_bool, kit_tuple_int, kit_tuple_str, kit_tuple_list, kit_tuple_tuple, kit_tuple_dict, kit_dict_bool, kit_dict_int, kit_dict_str, kit_dict_list, kit_dict_tuple, kit_dict_dict, String.reduceEq, String.reduceNe, ne_eq, not_false_eq_true, not_true_eq_false, decide_false, decide_true, Bool.not_false, Bool.not_true, Bool.or_false, Bool.false_or, Bool.or_true, Bool.true_or, gTupH, wipe, tYes, exists_eq', exists_eq, exists_const, tFor_eq, tLc_eq, tCallX, tMethX, tRaiseOw, tMkOw, tFldOw, mIxA, mLenA, rInO, rNotInO, mLenO, rSetD, tM1, false_or, or_false, tInT, inV_nil, inV_str, flatV_str, flatV_int, flatV_non, mIntB, List.all_cons, List.all_nil, Bool.and_true, Bool.true_and, Bool.and_self, tDisp, tPairs, exk_nil, exk_str, leS0, leS1, leS2, leS3, leS4, leS5, leS6, leS7, leS8, leS9, leS10, leS11, leS12, Nat.reduceLeDiff, mBoolB, rEqNil, ha, T.c_Line, T.f_Line_state, T.f_Line_number, lf_state, lf_number, sp_row_fault, hw, hf]
    exact fun d hd => (r _ d (Same.new hd)).1 hf upd_same
  · simp only [tSeq, tAsg, tRet, tRetN, tIfS, tDrop, tNext, tBreak, tCont, tVar, tC, tOp, tUn, tB, tTest, tAnd, tOr, tNot, tAndV, tOrV, tNotV, tIf, tNil, tCons, tTup, tLst, tCB, tCallR, tMethR, tPropR, StX.tMakeR, tFld, sFld, sFldAug, tPar, tPar3, gName, gNil, gCons, gTup, gSub, rI, rI0, rU, rEq, rNe, mIxL, mIxT, mLenL, mLenT, mLenS, mLenD, mLenK, mList, mTupL, mInt, mAbs, mMax, mMin, mStr, mAddS, mIsN, mNotN, rIxS, rIxL, rSetL, rAppend, rExtendT, rPopAt, rCat, rIn, tBM, tBM0, tChain, tNever, scal, L2.start, cxK, iRng1, iRng2, tDNewK, tDGet, tDGet2, sDPut, tDIn, tDNotIn, DGet_dk, DPut_dk, IsD_dk, tyV_list, isLst_lst, isDk_dk, dkOf_dk, atI_0, atI_1, atI_2, atI_3, ixN_30, ixN_31, ixN_32, List.map, List.replicate, List.length_cons, List.length_nil, List.nil_append, List.cons_append, List.append_nil, Nat.reduceSub, Nat.reduceAdd, List.getElem?_cons_zero, List.getElem?_cons_succ, List.set_cons_zero, List.set_cons_succ, List.cons.injEq, Option.some.injEq, V.int.injEq, V.str.injEq, V.bl.injEq, V.ref.injEq, HO.ins.injEq, HO.lst.injEq, HO.tup.injEq, HO.dK.injEq, exists_eq_left, exists_eq_left', exists_eq_right, exists_eq_right', exists_and_left, exists_and_right, true_and, and_true, and_self, if_true, if_false, Bool.false_eq_true, Bool.true_eq_false, eq_self, reduceCtorEq, false_and, and_false, upd_same, upd_upd, and_assoc, Int.reduceToNat, Int.reducePow, Int.reduceMul, Int.reduceAdd, Int.reduceNeg, mIsi, mIsi2, kdV_non, kdV_bl, kdV_int, kdV_str, kdV_ref, kdO_lst, kdO_tup, kdO_dK, V.ty.injEq, mAll, mAny, kit_NoneType_bool, kit_NoneType_int, kit_NoneType_str, kit_NoneType_list, kit_NoneType_tuple, kit_NoneType_dict, kit_bool_bool, kit_bool_int, kit_bool_str, kit_bool_list, kit_bool_tuple, kit_bool_dict, kit_int_bool, kit_int_int, kit_int_str, kit_int_list, kit_int_tuple, kit_int_dict, kit_str_bool, kit_str_int, kit_str_str, kit_str_list, kit_str_tuple, kit_str_dict, kit_list_bool, kit_list_int, kit_list_str, kit_list_list, kit_list_tuple, kit_list_dict, kit_tuple_bool, kit_tuple_int, kit_tuple_str, kit_tuple_list, kit_tuple_tuple, kit_tuple_dict, kit_dict_bool, kit_dict_int, kit_dict_str, kit_dict_list, kit_dict_tuple, kit_dict_dict, String.reduceEq, String.reduceNe, ne_eq, not_false_eq_true, not_true_eq_false, decide_false, decide_true, Bool.not_false, Bool.not_true, Bool.or_false, Bool.false_or, Bool.or_true, Bool.true_or, gTupH, wipe, tYes, exists_eq', exists_eq, exists_const, tFor_eq, tLc_eq, tCallX, tMethX, tRaiseOw, tMkOw, tFldOw, mIxA, mLenA, rInO, rNotInO, mLenO, rSetD, tM1, false_or, or_false, tInT, inV_nil, inV_str, flatV_str, flatV_int, flatV_non, mIntB, List.all_cons, List.all_nil, Bool.and_true, Bool.true_and, Bool.and_self, tDisp, tPairs, exk_nil, exk_str, leS0, leS1, leS2, leS3, leS4, leS5, leS6, leS7, leS8, leS9, leS10, leS11, leS12, Nat.reduceLeDiff, mBoolB, rEqNil, ha, T.c_Line, T.f_Line_state, T.f_Line_number, lf_state, lf_number, sp_row_fault, hw, hf]
    exact fun d hd => (r _ d (Same.new hd)).2.1 hf upd_same
  · simp only [tSeq, tAsg, tRet, tRetN, tIfS, tDrop, tNext, tBreak, tCont, tVar, tC, tOp, tUn, tB, tTest, tAnd, tOr, tNot, tAndV, tOrV, tNotV, tIf, tNil, tCons, tTup, tLst, tCB, tCallR, tMethR, tPropR, StX.tMakeR, tFld, sFld, sFldAug, tPar, tPar3, gName, gNil, gCons, gTup, gSub, rI, rI0, rU, rEq, rNe, mIxL, mIxT, mLenL, mLenT, mLenS, mLenD, mLenK, mList, mTupL, mInt, mAbs, mMax, mMin, mStr, mAddS, mIsN, mNotN, rIxS, rIxL, rSetL, rAppend, rExtendT, rPopAt, rCat, rIn, tBM, tBM0, tChain, tNever, scal, L2.start, cxK, iRng1, iRng2, tDNewK, tDGet, tDGet2, sDPut, tDIn, tDNotIn, DGet_dk, DPut_dk, IsD_dk, tyV_list, isLst_lst, isDk_dk, dkOf_dk, atI_0, atI_1, atI_2, atI_3, ixN_30, ixN_31, ixN_32, List.map, List.replicate, List.length_cons, List.length_nil, List.nil_append, List.cons_append, List.append_nil, Nat.reduceSub, Nat.reduceAdd, List.getElem?_cons_zero, List.getElem?_cons_succ, List.set_cons_zero, List.set_cons_succ, List.cons.injEq, Option.some.injEq, V.int.injEq, V.str.injEq, V.bl.injEq, V.ref.injEq, HO.ins.injEq, HO.lst.injEq, HO.tup.injEq, HO.dK.injEq, exists_eq_left, exists_eq_left', exists_eq_right, exists_eq_right', exists_and_left, exists_and_right, true_and, and_true, and_self, if_true, if_false, Bool.false_eq_true, Bool.true_eq_false, eq_self, reduceCtorEq, false_and, and_false, upd_same, upd_upd, and_assoc, Int.reduceToNat, Int.reducePow, Int.reduceMul, Int.reduceAdd, Int.reduceNeg, mIsi, mIsi2, kdV_non, kdV_bl, kdV_int, kdV_str, kdV_ref, kdO_lst, kdO_tup, kdO_dK, V.ty.injEq, mAll, mAny, kit_NoneType_bool, kit_NoneType_int, kit_NoneType_str, kit_NoneType_list, kit_NoneType_tuple, kit_NoneType_dict, kit_bool_bool, kit_bool_int, kit_bool_str, kit_bool_list, kit_bool_tuple, kit_bool_dict, kit_int_bool, kit_int_int, kit_int_str, kit_int_list, kit_int_tuple, kit_int_dict, kit_str_bool, kit_str_int, kit_str_str, kit_str_list, kit_str_tuple, kit_str_dict, kit_list_bool, kit_list_int, kit_list_str, kit_list_list, kit_list_tuple, kit_list_dict, kit_tuple_bool, kit_tuple_int, kit_tuple_str, kit_tuple_list, kit_tuple_tuple, kit_tuple_dict, kit_dict_bool, kit_dict_int, kit_dict_str, kit_dict_list, kit_dict_tuple, kit_dict_dict, String.reduceEq, String.reduceNe, ne_eq, not_false_eq_true, not_true_eq_false, decide_false, decide_true, Bool.not_false, Bool.not_true, Bool.or_false, Bool.false_or, Bool.or_true, Bool.true_or, gTupH, wipe, tYes, exists_eq', exists_eq, exists_const, tFor_eq, tLc_eq, tCallX, tMethX, tRaiseOw, tMkOw, tFldOw, mIxA, mLenA, rInO, rNotInO, mLenO, rSetD, tM1, false_or, or_false, tInT, inV_nil, inV_str, flatV_str, flatV_int, flatV_non, mIntB, List.all_cons, List.all_nil, Bool.and_true, Bool.true_and, Bool.and_self, tDisp, tPairs, exk_nil, exk_str, leS0, leS1, leS2, leS3, leS4, leS5, leS6, leS7, leS8, leS9, leS10, leS11, leS12, Nat.reduceLeDiff, mBoolB, rEqNil, ha, T.c_Line, T.f_Line_state, T.f_Line_number, lf_state, lf_number, sp_row_fault, hw, hf]
    exact fun d hd => (r _ d (Same.new hd)).2.2 hf upd_same

end K31

set_option Elab.async false
set_option linter.all false
set_option maxRecDepth 100000
set_option maxHeartbeats 4000000
namespace K31
open PySem PySem.Spec PyProof.Rows L2 My
theorem LineAt.put {K : PySem.W.Frag} {H : Hp} {a l : Addr} {S : LS} {dx : Addr} (hl : H l = some (.lst (S.q.map V.str))) (hn : a ≠ l) (hz : S.q.length ≤ 100000) :
    LineAt K (upd H a (.ins (He.ga K "Line") dx (lf (.int S.n) S.c (.str S.m) (.ref l) (.str S.g) (.bl S.b)))) a l S :=
  ⟨⟨dx, upd_same⟩, by rw [upd_ne hn.symm]; exact hl, hn, hz⟩
def sp_Line_begin (K : PySem.W.Frag) : Sp := fun vs H Q E => ∃ (a l : Addr) (S : LS) (t : Str), vs = [.ref a, .str t] ∧ LineAt K H a l S ∧
  (rowFault "begin" S.m 0 = .non → ∀ H', LineAt K H' a l { S with m := markAfter "begin" S.m, g := t } → Kp2 a l H H' → Q .non H') ∧ Rz K H E S (rowFault "begin" S.m 0)
theorem R_Line_begin {w : World} {K : PySem.W.Frag} {mg : Str → Option Value} {base : Heap} (T : Tx K mg) : FnR Pg w K mg base (L2.CX Pg w) 9 (He.ma K (He.ga K "Line") "begin") (sp_Line_begin K) := by
  obtain ⟨fd, F⟩ := T.d_Line_begin
  refine My.FunD.RX F sc_Line_begin (fun vs H Q E h => by obtain ⟨a, l, S, t, rfl, hL, k, r⟩ := h; rfl) (fun _ _ _ _ _ _ us hl => match us, hl with | [_, _], _ => rfl) (fun cdv A outer s H vs Q E hr h => ?_)
  obtain ⟨a, l, S, t, rfl, hL, k, r⟩ := h
  refine ⟨_, (pss_cons (ps_expr (pe_methX (pv 0) T.c_Line T.m_Line_need (R_Line_need T) (hr.mono (by decide)) (passAt (takes_of rfl rfl rfl rfl)) (pa_cons pe_str (pa_cons pe_int pa_nil))))
      (pss_cons (ps_fld (pv 0) (pe_callR (R_mark_after T) (hr.mono (by decide)) rfl T.g_mark_after T.k_mark_after pass0 (pa_cons pe_str (pa_cons (pe_fld (pv 0) rfl) pa_nil))) rfl)
      (pss_one (ps_fld (pv 0) (pv 1) rfl)))), ?_⟩
  obtain ⟨dx, ha⟩ := hL.ob
  simp only [tSeq, tAsg, tRet, tRetN, tIfS, tDrop, tNext, tBreak, tCont, tVar, tC, tOp, tUn, tB, tTest, tAnd, tOr, tNot, tAndV, tOrV, tNotV, tIf, tNil, tCons, tTup, tLst, tCB, tCallR, tMethR, tPropR, StX.tMakeR, tFld, sFld, sFldAug, tPar, tPar3, gName, gNil, gCons, gTup, gSub, rI, rI0, rU, rEq, rNe, mIxL, mIxT, mLenL, mLenT, mLenS, mLenD, mLenK, mList, mTupL, mInt, mAbs, mMax, mMin, mStr, mAddS, mIsN, mNotN, rIxS, rIxL, rSetL, rAppend, rExtendT, rPopAt, rCat, rIn, tBM, tBM0, tChain, tNever, scal, L2.start, cxK, iRng1, iRng2, tDNewK, tDGet, tDGet2, sDPut, tDIn, tDNotIn, DGet_dk, DPut_dk, IsD_dk, tyV_list, isLst_lst, isDk_dk, dkOf_dk, atI_0, atI_1, atI_2, atI_3, ixN_30, ixN_31, ixN_32, List.map, List.replicate, List.length_cons, List.length_nil, List.nil_append, List.cons_append, List.append_nil, Nat.reduceSub, Nat.reduceAdd, List.getElem?_cons_zero, List.getElem?_cons_succ, List.set_cons_zero, List.set_cons_succ, List.cons.injEq, Option.some.injEq, V.int.injEq, V.str.injEq, V.bl.injEq, V.ref.injEq, HO.ins.injEq, HO.lst.injEq, HO.tup.injEq, HO.dK.injEq, exists_eq_left, exists_eq_left', exists_eq_right, exists_eq_right', exists_and_left, exists_and_right, true_and, and_true, and_self, if_true, if_false, Bool.false_eq_true, Bool.true_eq_false, eq_self, reduceCtorEq, false_and, and_false, upd_same, upd_upd, and_assoc, Int.reduceToNat, Int.reducePow, Int.reduceMul, Int.reduceAdd, Int.reduceNeg, mIsi, mIsi2, kdV_non, kdV_bl, kdV_int, kdV_str, kdV_ref, kdO_lst, kdO_tup, kdO_dK, V.ty.injEq, mAll, mAny, kit_NoneType_bool, kit_NoneType_int, kit_NoneType_str, kit_NoneType_list, kit_NoneType_tuple, kit_NoneType_dict, kit_bool_bool, kit_bool_int, kit_bool_str, kit_bool_list, kit_bool_tuple, kit_bool_dict, kit_int_bool, kit_int_int, kit_int_str, kit_int_list, kit_int_tuple, kit_int_dict, kit_str_bool, kit_str_int, kit_str_str, kit_str_list, kit_str_tuple, kit_str_dict, kit_list_bool, kit_list_int, kit_list_str, kit_list_list, kit_list_tuple, kit_list_dict, kit_tuple_bool, kit_tuple_int, kit_tuple_str, kit_tuple_list, kit_tuple_tuple, kit_tuple_dict, kit_dict_bool, kit_dict_int, kit_dict_str, kit_dict_list, kit_dict_tuple, kit_dict_dict, String.reduceEq, String.reduceNe, ne_eq, not_false_eq_true, not_true_eq_false, decide_false, decide_true, Bool.not_false, Bool.not_true, Bool.or_false, Bool.false_or, Bool.or_true, Bool.true_or, gTupH, wipe, tYes, exists_eq', exists_eq, exists_const, tFor_eq, tLc_eq, tCallX, tMethX, tRaiseOw, tMkOw, tFldOw, mIxA, mLenA, rInO, rNotInO, mLenO, rSetD, tM1, false_or, or_false, tInT, inV_nil, inV_str, flatV_str, flatV_int, flatV_non, mIntB, List.all_cons, List.all_nil, Bool.and_true, Bool.true_and, Bool.and_self, tDisp, tPairs, exk_nil, exk_str, leS0, leS1, leS2, leS3, leS4, leS5, leS6, leS7, leS8, leS9, leS10, leS11, leS12, Nat.reduceLeDiff, mBoolB, rEqNil, ha, T.c_Line, T.f_Line_state, T.f_Line_sending, lf_state, lp_state, lp_sending, ln_need, sp_Line_need, sp_mark_after, lf_len, six]
  refine ⟨l, S, hL, rfl, fun hf => k hf _ (LineAt.put (S := { S with m := markAfter "begin" S.m, g := t }) hL.qu hL.ne hL.sz) fun b o n1 n2 h => ?_, r⟩
  rw [upd_ne n1]; exact h
def sp_Line_finish (K : PySem.W.Frag) : Sp := fun vs H Q E => ∃ (a l : Addr) (S : LS), vs = [.ref a] ∧ LineAt K H a l S ∧ S.q.length < 100000 ∧
  (rowFault "finish" S.m 0 = .non → ∀ H', LineAt K H' a l { S with m := markAfter "finish" S.m, q := S.q ++ [S.g] } → Kp2 a l H H' → Q .non H') ∧ Rz K H E S (rowFault "finish" S.m 0)
theorem R_Line_finish {w : World} {K : PySem.W.Frag} {mg : Str → Option Value} {base : Heap} (T : Tx K mg) : FnR Pg w K mg base (L2.CX Pg w) 9 (He.ma K (He.ga K "Line") "finish") (sp_Line_finish K) := by
  obtain ⟨fd, F⟩ := T.d_Line_finish
  refine My.FunD.RX F sc_Line_finish (fun vs H Q E h => by obtain ⟨a, l, S, rfl, hL, hz, k, r⟩ := h; rfl) (fun _ _ _ _ _ _ us hl => match us, hl with | [_], _ => rfl) (fun cdv A outer s H vs Q E hr h => ?_)
  obtain ⟨a, l, S, rfl, hL, hz, k, r⟩ := h
  refine ⟨_, (pss_cons (ps_expr (pe_methX (pv 0) T.c_Line T.m_Line_need (R_Line_need T) (hr.mono (by decide)) (passAt (takes_of rfl rfl rfl rfl)) (pa_cons pe_str (pa_cons pe_int pa_nil))))
      (pss_cons (ps_fld (pv 0) (pe_callR (R_mark_after T) (hr.mono (by decide)) rfl T.g_mark_after T.k_mark_after pass0 (pa_cons pe_str (pa_cons (pe_fld (pv 0) rfl) pa_nil))) rfl)
      (pss_one (ps_expr (pe_bm PySem.F.plainAttrs_list PySem.F.slot_list_append PySem.F.type_list_append mt_append (pe_fld (pv 0) rfl) (pa_cons (pe_fld (pv 0) rfl) pa_nil)))))), ?_⟩
  obtain ⟨dx, ha⟩ := hL.ob
  have n1 := hL.ne
  have n2 := hL.ne.symm
  have hl := hL.qu
  simp only [tSeq, tAsg, tRet, tRetN, tIfS, tDrop, tNext, tBreak, tCont, tVar, tC, tOp, tUn, tB, tTest, tAnd, tOr, tNot, tAndV, tOrV, tNotV, tIf, tNil, tCons, tTup, tLst, tCB, tCallR, tMethR, tPropR, StX.tMakeR, tFld, sFld, sFldAug, tPar, tPar3, gName, gNil, gCons, gTup, gSub, rI, rI0, rU, rEq, rNe, mIxL, mIxT, mLenL, mLenT, mLenS, mLenD, mLenK, mList, mTupL, mInt, mAbs, mMax, mMin, mStr, mAddS, mIsN, mNotN, rIxS, rIxL, rSetL, rAppend, rExtendT, rPopAt, rCat, rIn, tBM, tBM0, tChain, tNever, scal, L2.start, cxK, iRng1, iRng2, tDNewK, tDGet, tDGet2, sDPut, tDIn, tDNotIn, DGet_dk, DPut_dk, IsD_dk, tyV_list, isLst_lst, isDk_dk, dkOf_dk, atI_0, atI_1, atI_2, atI_3, ixN_30, ixN_31, ixN_32, List.map, List.replicate, List.length_cons, List.length_nil, List.nil_append, List.cons_append, List.append_nil, Nat.reduceSub, Nat.reduceAdd, List.getElem?_cons_zero, List.getElem?_cons_succ, List.set_cons_zero, List.set_cons_succ, List.cons.injEq, Option.some.injEq, V.int.injEq, V.str.injEq, V.bl.injEq, V.ref.injEq, HO.ins.injEq, HO.lst.injEq, HO.tup.injEq, HO.dK.injEq, exists_eq_left, exists_eq_left', exists_eq_right, exists_eq_right', exists_and_left, exists_and_right, true_and, and_true, and_self, if_true, if_false, Bool.false_eq_true, Bool.true_eq_false, eq_self, reduceCtorEq, false_and, and_false, upd_same, upd_upd, and_assoc, Int.reduceToNat, Int.reducePow, Int.reduceMul, Int.reduceAdd, Int.reduceNeg, mIsi, mIsi2, kdV_non, kdV_bl, kdV_int, kdV_str, kdV_ref, kdO_lst, kdO_tup, kdO_dK, V.ty.injEq, mAll, mAny, kit_NoneType_bool, kit_NoneType_int, kit_NoneType_str, kit_NoneType_list, kit_NoneType_tuple, kit_NoneType_dict, kit_bool_bool, kit_bool_int, kit_bool_str, kit_bool_list, kit_bool_tuple, kit_bool_dict, kit_int_bool, kit_int_int, kit_int_str, kit_int_list, kit_int_tuple, kit_int_dict, kit_str_bool, kit_str_int, kit_str_str, kit_str_list, kit_str_tuple, kit_str_dict, kit_list_bool, kit_list_int, kit_list_str, kit_list_list, kit_list_tuple, kit_list_dict, kit_tuple_bool, kit_tuple_int, kit_tuple_str, kit_tuple_list, kit_tuple_tuple, kit_tuple_dict, kit_dict_bool, kit_dict_int, kit_dict_str, kit_dict_list, kit_dict_tuple, kit_dict_dict, String.reduceEq, String.reduceNe, ne_eq, not_false_eq_true, not_true_eq_false, decide_false, decide_true, Bool.not_false, Bool.not_true, Bool.or_false, Bool.false_or, Bool.or_true, Bool.true_or, gTupH, wipe, tYes, exists_eq', exists_eq, exists_const, tFor_eq, tLc_eq, tCallX, tMethX, tRaiseOw, tMkOw, tFldOw, mIxA, mLenA, rInO, rNotInO, mLenO, rSetD, tM1, false_or, or_false, tInT, inV_nil, inV_str, flatV_str, flatV_int, flatV_non, mIntB, List.all_cons, List.all_nil, Bool.and_true, Bool.true_and, Bool.and_self, tDisp, tPairs, exk_nil, exk_str, leS0, leS1, leS2, leS3, leS4, leS5, leS6, leS7, leS8, leS9, leS10, leS11, leS12, Nat.reduceLeDiff, mBoolB, rEqNil, ha, hl, upd_ne n1, upd_ne n2, T.c_Line, T.f_Line_state, T.f_Line_sending, T.f_Line_queue, lf_state, lf_sending, lf_queue, lp_state, lp_sending, ln_need, sp_Line_need, sp_mark_after, lf_len, six, List.length_map]
  refine ⟨l, S, hL, rfl, fun hf => ⟨Nat.lt_trans hz (by decide), k hf _ ⟨⟨dx, ?_⟩, ?_, n1, ?_⟩ fun b o z1 z2 h => ?_⟩, r⟩
  · rw [upd_ne n1, upd_same]
  · rw [upd_same, List.map_append]; rfl
  · simp; omega
  · rw [upd_ne z2, upd_ne z1]; exact h
theorem erase0 (t : V) (q : List V) : (t :: q).eraseIdx 0 = q := rfl
theorem sq0 (n : Nat) : seqIndex? 0 (n + 1) = some 0 := by
  unfold seqIndex?
  simp
theorem rf_read_ne {w m : Str} {q : List Str} (h1 : w = "read" ∨ w = "head") (h : rowFault w m (q.length : Int) = .non) : q ≠ [] := by
  intro e
  subst e
  unfold rowFault at h
  rw [if_pos (show (w = "read" ∨ w = "head") ∧ (([] : List Str).length : Int) < 1 from ⟨h1, by decide⟩)] at h
  split at h
  · cases h
  · split at h <;> cases h
def sp_Line_read (K : PySem.W.Frag) : Sp := fun vs H Q E => ∃ (a l : Addr) (S : LS), vs = [.ref a] ∧ LineAt K H a l S ∧
  (rowFault "read" S.m (S.q.length : Int) = .non → ∀ t q H', S.q = t :: q → LineAt K H' a l { S with q := q } → Kp2 a l H H' → Q (.str t) H') ∧ Rz K H E S (rowFault "read" S.m (S.q.length : Int))
theorem R_Line_read {w : World} {K : PySem.W.Frag} {mg : Str → Option Value} {base : Heap} (T : Tx K mg) : FnR Pg w K mg base (L2.CX Pg w) 9 (He.ma K (He.ga K "Line") "read") (sp_Line_read K) := by
  obtain ⟨fd, F⟩ := T.d_Line_read
  refine My.FunD.RX F sc_Line_read (fun vs H Q E h => by obtain ⟨a, l, S, rfl, hL, k, r⟩ := h; rfl) (fun _ _ _ _ _ _ us hl => match us, hl with | [_], _ => rfl) (fun cdv A outer s H vs Q E hr h => ?_)
  obtain ⟨a, l, S, rfl, hL, k, r⟩ := h
  refine ⟨_, (pss_cons (ps_expr (pe_methX (pv 0) T.c_Line T.m_Line_need (R_Line_need T) (hr.mono (by decide)) (passAt (takes_of rfl rfl rfl rfl)) (pa_cons pe_str (pa_cons (pe_callB lenL (by rfl) T.n_len (by decide +kernel) (pa_cons (pe_fld (pv 0) rfl) pa_nil)) pa_nil))))
      (pss_one (ps_ret (pe_bm PySem.F.plainAttrs_list PySem.F.slot_list_pop PySem.F.type_list_pop mt_popAt (pe_fld (pv 0) rfl) (pa_cons pe_int pa_nil))))), ?_⟩
  obtain ⟨dx, ha⟩ := hL.ob
  have n1 := hL.ne
  have hl := hL.qu
  simp only [tSeq, tAsg, tRet, tRetN, tIfS, tDrop, tNext, tBreak, tCont, tVar, tC, tOp, tUn, tB, tTest, tAnd, tOr, tNot, tAndV, tOrV, tNotV, tIf, tNil, tCons, tTup, tLst, tCB, tCallR, tMethR, tPropR, StX.tMakeR, tFld, sFld, sFldAug, tPar, tPar3, gName, gNil, gCons, gTup, gSub, rI, rI0, rU, rEq, rNe, mIxL, mIxT, mLenL, mLenT, mLenS, mLenD, mLenK, mList, mTupL, mInt, mAbs, mMax, mMin, mStr, mAddS, mIsN, mNotN, rIxS, rIxL, rSetL, rAppend, rExtendT, rPopAt, rCat, rIn, tBM, tBM0, tChain, tNever, scal, L2.start, cxK, iRng1, iRng2, tDNewK, tDGet, tDGet2, sDPut, tDIn, tDNotIn, DGet_dk, DPut_dk, IsD_dk, tyV_list, isLst_lst, isDk_dk, dkOf_dk, atI_0, atI_1, atI_2, atI_3, ixN_30, ixN_31, ixN_32, List.map, List.replicate, List.length_cons, List.length_nil, List.nil_append, List.cons_append, List.append_nil, Nat.reduceSub, Nat.reduceAdd, List.getElem?_cons_zero, List.getElem?_cons_succ, List.set_cons_zero, List.set_cons_succ, List.cons.injEq, Option.some.injEq, V.int.injEq, V.str.injEq, V.bl.injEq, V.ref.injEq, HO.ins.injEq, HO.lst.injEq, HO.tup.injEq, HO.dK.injEq, exists_eq_left, exists_eq_left', exists_eq_right, exists_eq_right', exists_and_left, exists_and_right, true_and, and_true, and_self, if_true, if_false, Bool.false_eq_true, Bool.true_eq_false, eq_self, reduceCtorEq, false_and, and_false, upd_same, upd_upd, and_assoc, Int.reduceToNat, Int.reducePow, Int.reduceMul, Int.reduceAdd, Int.reduceNeg, mIsi, mIsi2, kdV_non, kdV_bl, kdV_int, kdV_str, kdV_ref, kdO_lst, kdO_tup, kdO_dK, V.ty.injEq, mAll, mAny, kit_NoneType_bool, kit_NoneType_int, kit_NoneType_str, kit_NoneType_list, kit_NoneType_tuple, kit_NoneType_dict, kit_bool_bool, kit_bool_int, kit_bool_str, kit_bool_list, kit_bool_tuple, kit_bool_dict, kit_int_bool, kit_int_int, kit_int_str, kit_int_list, kit_int_tuple, kit_int_dict, kit_str_bool, kit_str_int, kit_str_str, kit_str_list, kit_str_tuple, kit_str_dict, kit_list_bool, kit_list_int, kit_list_str, kit_list_list, kit_list_tuple, kit_list_dict, kit_tuple_bool, kit_tuple_int, kit_tuple_str, kit_tuple_list, kit_tuple_tuple, kit_tuple_dict, kit_dict_bool, kit_dict_int, kit_dict_str, kit_dict_list, kit_dict_tuple, kit_dict_dict, String.reduceEq, String.reduceNe, ne_eq, not_false_eq_true, not_true_eq_false, decide_false, decide_true, Bool.not_false, Bool.not_true, Bool.or_false, Bool.false_or, Bool.or_true, Bool.true_or, gTupH, wipe, tYes, exists_eq', exists_eq, exists_const, tFor_eq, tLc_eq, tCallX, tMethX, tRaiseOw, tMkOw, tFldOw, mIxA, mLenA, rInO, rNotInO, mLenO, rSetD, tM1, false_or, or_false, tInT, inV_nil, inV_str, flatV_str, flatV_int, flatV_non, mIntB, List.all_cons, List.all_nil, Bool.and_true, Bool.true_and, Bool.and_self, tDisp, tPairs, exk_nil, exk_str, leS0, leS1, leS2, leS3, leS4, leS5, leS6, leS7, leS8, leS9, leS10, leS11, leS12, Nat.reduceLeDiff, mBoolB, rEqNil, ha, hl, T.c_Line, T.f_Line_queue, lf_queue, ln_need, sp_Line_need, List.length_map]
  refine ⟨l, S, hL, rfl, fun hf => ?_, r⟩
  obtain ⟨n, c, m, q, g, b⟩ := S
  cases q with
  | nil => exact absurd rfl (rf_read_ne (.inl rfl) hf)
  | cons t q =>
    simp only [tSeq, tAsg, tRet, tRetN, tIfS, tDrop, tNext, tBreak, tCont, tVar, tC, tOp, tUn, tB, tTest, tAnd, tOr, tNot, tAndV, tOrV, tNotV, tIf, tNil, tCons, tTup, tLst, tCB, tCallR, tMethR, tPropR, StX.tMakeR, tFld, sFld, sFldAug, tPar, tPar3, gName, gNil, gCons, gTup, gSub, rI, rI0, rU, rEq, rNe, mIxL, mIxT, mLenL, mLenT, mLenS, mLenD, mLenK, mList, mTupL, mInt, mAbs, mMax, mMin, mStr, mAddS, mIsN, mNotN, rIxS, rIxL, rSetL, rAppend, rExtendT, rPopAt, rCat, rIn, tBM, tBM0, tChain, tNever, scal, L2.start, cxK, iRng1, iRng2, tDNewK, tDGet, tDGet2, sDPut, tDIn, tDNotIn, DGet_dk, DPut_dk, IsD_dk, tyV_list, isLst_lst, isDk_dk, dkOf_dk, atI_0, atI_1, atI_2, atI_3, ixN_30, ixN_31, ixN_32, List.map, List.replicate, List.length_cons, List.length_nil, List.nil_append, List.cons_append, List.append_nil, Nat.reduceSub, Nat.reduceAdd, List.getElem?_cons_zero, List.getElem?_cons_succ, List.set_cons_zero, List.set_cons_succ, List.cons.injEq, Option.some.injEq, V.int.injEq, V.str.injEq, V.bl.injEq, V.ref.injEq, HO.ins.injEq, HO.lst.injEq, HO.tup.injEq, HO.dK.injEq, exists_eq_left, exists_eq_left', exists_eq_right, exists_eq_right', exists_and_left, exists_and_right, true_and, and_true, and_self, if_true, if_false, Bool.false_eq_true, Bool.true_eq_false, eq_self, reduceCtorEq, false_and, and_false, upd_same, upd_upd, and_assoc, Int.reduceToNat, Int.reducePow, Int.reduceMul, Int.reduceAdd, Int.reduceNeg, mIsi, mIsi2, kdV_non, kdV_bl, kdV_int, kdV_str, kdV_ref, kdO_lst, kdO_tup, kdO_dK, V.ty.injEq, mAll, mAny, kit_NoneType_bool, kit_NoneType_int, kit_NoneType_str, kit_NoneType_list, kit_NoneType_tuple, kit_NoneType_dict, kit_bool_bool, kit_bool_int, kit_bool_str, kit_bool_list, kit_bool_tuple, kit_bool_dict, kit_int_bool, kit_int_int, kit_int_str, kit_int_list, kit_int_tuple, kit_int_dict, kit_str_bool, kit_str_int, kit_str_str, kit_str_list, kit_str_tuple, kit_str_dict, kit_list_bool, kit_list_int, kit_list_str, kit_list_list, kit_list_tuple, kit_list_dict, kit_tuple_bool, kit_tuple_int, kit_tuple_str, kit_tuple_list, kit_tuple_tuple, kit_tuple_dict, kit_dict_bool, kit_dict_int, kit_dict_str, kit_dict_list, kit_dict_tuple, kit_dict_dict, String.reduceEq, String.reduceNe, ne_eq, not_false_eq_true, not_true_eq_false, decide_false, decide_true, Bool.not_false, Bool.not_true, Bool.or_false, Bool.false_or, Bool.or_true, Bool.true_or, gTupH, wipe, tYes, exists_eq', exists_eq, exists_const, tFor_eq, tLc_eq, tCallX, tMethX, tRaiseOw, tMkOw, tFldOw, mIxA, mLenA, rInO, rNotInO, mLenO, rSetD, tM1, false_or, or_false, tInT, inV_nil, inV_str, flatV_str, flatV_int, flatV_non, mIntB, List.all_cons, List.all_nil, Bool.and_true, Bool.true_and, Bool.and_self, tDisp, tPairs, exk_nil, exk_str, leS0, leS1, leS2, leS3, leS4, leS5, leS6, leS7, leS8, leS9, leS10, leS11, leS12, Nat.reduceLeDiff, mBoolB, rEqNil, sq0, erase0]
    refine ⟨by decide, by decide, k hf t q _ rfl ⟨⟨dx, ?_⟩, ?_, n1, ?_⟩ fun b o z1 z2 h => ?_⟩
    · rw [upd_ne n1]; exact ha
    · rw [upd_same]
    · have := hL.sz; simp at this; show q.length ≤ 100000; omega
    · rw [upd_ne z2]; exact h
def sp_Line_head (K : PySem.W.Frag) : Sp := fun vs H Q E => ∃ (a l : Addr) (S : LS), vs = [.ref a] ∧ LineAt K H a l S ∧
  (rowFault "head" S.m (S.q.length : Int) = .non → ∀ t q H', S.q = t :: q → LineAt K H' a l { S with m := markAfter "head" S.m } → Kp2 a l H H' → Q (.str t) H') ∧ Rz K H E S (rowFault "head" S.m (S.q.length : Int))
theorem R_Line_head {w : World} {K : PySem.W.Frag} {mg : Str → Option Value} {base : Heap} (T : Tx K mg) : FnR Pg w K mg base (L2.CX Pg w) 9 (He.ma K (He.ga K "Line") "head") (sp_Line_head K) := by
  obtain ⟨fd, F⟩ := T.d_Line_head
  refine My.FunD.RX F sc_Line_head (fun vs H Q E h => by obtain ⟨a, l, S, rfl, hL, k, r⟩ := h; rfl) (fun _ _ _ _ _ _ us hl => match us, hl with | [_], _ => rfl) (fun cdv A outer s H vs Q E hr h => ?_)
  obtain ⟨a, l, S, rfl, hL, k, r⟩ := h
  refine ⟨_, (pss_cons (ps_expr (pe_methX (pv 0) T.c_Line T.m_Line_need (R_Line_need T) (hr.mono (by decide)) (passAt (takes_of rfl rfl rfl rfl)) (pa_cons pe_str (pa_cons (pe_callB lenL (by rfl) T.n_len (by decide +kernel) (pa_cons (pe_fld (pv 0) rfl) pa_nil)) pa_nil))))
      (pss_cons (ps_fld (pv 0) (pe_callR (R_mark_after T) (hr.mono (by decide)) rfl T.g_mark_after T.k_mark_after pass0 (pa_cons pe_str (pa_cons (pe_fld (pv 0) rfl) pa_nil))) rfl)
      (pss_one (ps_ret (pe_ix ixL (pe_fld (pv 0) rfl) pe_int (fun _ _ => rfl)))))), ?_⟩
  obtain ⟨dx, ha⟩ := hL.ob
  have n1 := hL.ne
  have n2 := hL.ne.symm
  have hl := hL.qu
  simp only [tSeq, tAsg, tRet, tRetN, tIfS, tDrop, tNext, tBreak, tCont, tVar, tC, tOp, tUn, tB, tTest, tAnd, tOr, tNot, tAndV, tOrV, tNotV, tIf, tNil, tCons, tTup, tLst, tCB, tCallR, tMethR, tPropR, StX.tMakeR, tFld, sFld, sFldAug, tPar, tPar3, gName, gNil, gCons, gTup, gSub, rI, rI0, rU, rEq, rNe, mIxL, mIxT, mLenL, mLenT, mLenS, mLenD, mLenK, mList, mTupL, mInt, mAbs, mMax, mMin, mStr, mAddS, mIsN, mNotN, rIxS, rIxL, rSetL, rAppend, rExtendT, rPopAt, rCat, rIn, tBM, tBM0, tChain, tNever, scal, L2.start, cxK, iRng1, iRng2, tDNewK, tDGet, tDGet2, sDPut, tDIn, tDNotIn, DGet_dk, DPut_dk, IsD_dk, tyV_list, isLst_lst, isDk_dk, dkOf_dk, atI_0, atI_1, atI_2, atI_3, ixN_30, ixN_31, ixN_32, List.map, List.replicate, List.length_cons, List.length_nil, List.nil_append, List.cons_append, List.append_nil, Nat.reduceSub, Nat.reduceAdd, List.getElem?_cons_zero, List.getElem?_cons_succ, List.set_cons_zero, List.set_cons_succ, List.cons.injEq, Option.some.injEq, V.int.injEq, V.str.injEq, V.bl.injEq, V.ref.injEq, HO.ins.injEq, HO.lst.injEq, HO.tup.injEq, HO.dK.injEq, exists_eq_left, exists_eq_left', exists_eq_right, exists_eq_right', exists_and_left, exists_and_right, true_and, and_true, and_self, if_true, if_false, Bool.false_eq_true, Bool.true_eq_false, eq_self, reduceCtorEq, false_and, and_false, upd_same, upd_upd, and_assoc, Int.reduceToNat, Int.reducePow, Int.reduceMul, Int.reduceAdd, Int.reduceNeg, mIsi, mIsi2, kdV_non, kdV_bl, kdV_int, kdV_str, kdV_ref, kdO_lst, kdO_tup, kdO_dK, V.ty.injEq, mAll, mAny, kit_NoneType_bool, kit_NoneType_int, kit_NoneType_str, kit_NoneType_list, kit_NoneType_tuple, kit_NoneType_dict, kit_bool_bool, kit_bool_int, kit_bool_str, kit_bool_list, kit_bool_tuple, kit_bool_dict, kit_int_bool, kit_int_int, kit_int_str, kit_int_list, kit_int_tuple, kit_int_dict, kit_str_bool, kit_str_int, kit_str_str, kit_str_list, kit_str_tuple, kit_str_dict, kit_list_bool, kit_list_int, kit_list_str, kit_list_list, kit_list_tuple, kit_list_dict, kit_tuple_bool, kit_tuple_int, kit_tuple_str, kit_tuple_list, kit_tuple_tuple, kit_tuple_dict, kit_dict_bool, kit_dict_int, kit_dict_str, kit_dict_list, kit_dict_tuple, kit_dict_dict, String.reduceEq, String.reduceNe, ne_eq, not_false_eq_true, not_true_eq_false, decide_false, decide_true, Bool.not_false, Bool.not_true, Bool.or_false, Bool.false_or, Bool.or_true, Bool.true_or, gTupH, wipe, tYes, exists_eq', exists_eq, exists_const, tFor_eq, tLc_eq, tCallX, tMethX, tRaiseOw, tMkOw, tFldOw, mIxA, mLenA, rInO, rNotInO, mLenO, rSetD, tM1, false_or, or_false, tInT, inV_nil, inV_str, flatV_str, flatV_int, flatV_non, mIntB, List.all_cons, List.all_nil, Bool.and_true, Bool.true_and, Bool.and_self, tDisp, tPairs, exk_nil, exk_str, leS0, leS1, leS2, leS3, leS4, leS5, leS6, leS7, leS8, leS9, leS10, leS11, leS12, Nat.reduceLeDiff, mBoolB, rEqNil, ha, hl, upd_ne n1, upd_ne n2, T.c_Line, T.f_Line_queue, T.f_Line_state, lf_queue, lf_state, lp_state, ln_need, sp_Line_need, sp_mark_after, lf_len, six, List.length_map]
  refine ⟨l, S, hL, rfl, fun hf => ?_, r⟩
  obtain ⟨n, c, m, q, g, b⟩ := S
  cases q with
  | nil => exact absurd rfl (rf_read_ne (.inr rfl) hf)
  | cons t q =>
    simp only [tSeq, tAsg, tRet, tRetN, tIfS, tDrop, tNext, tBreak, tCont, tVar, tC, tOp, tUn, tB, tTest, tAnd, tOr, tNot, tAndV, tOrV, tNotV, tIf, tNil, tCons, tTup, tLst, tCB, tCallR, tMethR, tPropR, StX.tMakeR, tFld, sFld, sFldAug, tPar, tPar3, gName, gNil, gCons, gTup, gSub, rI, rI0, rU, rEq, rNe, mIxL, mIxT, mLenL, mLenT, mLenS, mLenD, mLenK, mList, mTupL, mInt, mAbs, mMax, mMin, mStr, mAddS, mIsN, mNotN, rIxS, rIxL, rSetL, rAppend, rExtendT, rPopAt, rCat, rIn, tBM, tBM0, tChain, tNever, scal, L2.start, cxK, iRng1, iRng2, tDNewK, tDGet, tDGet2, sDPut, tDIn, tDNotIn, DGet_dk, DPut_dk, IsD_dk, tyV_list, isLst_lst, isDk_dk, dkOf_dk, atI_0, atI_1, atI_2, atI_3, ixN_30, ixN_31, ixN_32, List.map, List.replicate, List.length_cons, List.length_nil, List.nil_append, List.cons_append, List.append_nil, Nat.reduceSub, Nat.reduceAdd, List.getElem?_cons_zero, List.getElem?_cons_succ, List.set_cons_zero, List.set_cons_succ, List.cons.injEq, Option.some.injEq, V.int.injEq, V.str.injEq, V.bl.injEq, V.ref.injEq, HO.ins.injEq, HO.lst.injEq, HO.tup.injEq, HO.dK.injEq, exists_eq_left, exists_eq_left', exists_eq_right, exists_eq_right', exists_and_left, exists_and_right, true_and, and_true, and_self, if_true, if_false, Bool.false_eq_true, Bool.true_eq_false, eq_self, reduceCtorEq, false_and, and_false, upd_same, upd_upd, and_assoc, Int.reduceToNat, Int.reducePow, Int.reduceMul, Int.reduceAdd, Int.reduceNeg, mIsi, mIsi2, kdV_non, kdV_bl, kdV_int, kdV_str, kdV_ref, kdO_lst, kdO_tup, kdO_dK, V.ty.injEq, mAll, mAny, kit_NoneType_bool, kit_NoneType_int, kit_NoneType_str, kit_NoneType_list, kit_NoneType_tuple, kit_NoneType_dict, kit_bool_bool, kit_bool_int, kit_bool_str, kit_bool_list, kit_bool_tuple, kit_bool_dict, kit_int_bool, kit_int_int, kit_int_str, kit_int_list, kit_int_tuple, kit_int_dict, kit_str_bool, kit_str_int, kit_str_str, kit_str_list, kit_str_tuple, kit_str_dict, kit_list_bool, kit_list_int, kit_list_str, kit_list_list, kit_list_tuple, kit_list_dict, kit_tuple_bool, kit_tuple_int, kit_tuple_str, kit_tuple_list, kit_tuple_tuple, kit_tuple_dict, kit_dict_bool, kit_dict_int, kit_dict_str, kit_dict_list, kit_dict_tuple, kit_dict_dict, String.reduceEq, String.reduceNe, ne_eq, not_false_eq_true, not_true_eq_false, decide_false, decide_true, Bool.not_false, Bool.not_true, Bool.or_false, Bool.false_or, Bool.or_true, Bool.true_or, gTupH, wipe, tYes, exists_eq', exists_eq, exists_const, tFor_eq, tLc_eq, tCallX, tMethX, tRaiseOw, tMkOw, tFldOw, mIxA, mLenA, rInO, rNotInO, mLenO, rSetD, tM1, false_or, or_false, tInT, inV_nil, inV_str, flatV_str, flatV_int, flatV_non, mIntB, List.all_cons, List.all_nil, Bool.and_true, Bool.true_and, Bool.and_self, tDisp, tPairs, exk_nil, exk_str, leS0, leS1, leS2, leS3, leS4, leS5, leS6, leS7, leS8, leS9, leS10, leS11, leS12, Nat.reduceLeDiff, mBoolB, rEqNil]
    refine k hf t q _ rfl (LineAt.put (S := ⟨n, c, markAfter "head" m, t :: q, g, b⟩) hl n1 hL.sz) fun b o z1 z2 h => ?_
    rw [upd_ne z1]; exact h
def sp_Line_body (K : PySem.W.Frag) : Sp := fun vs H Q E => ∃ (a l : Addr) (S : LS), vs = [.ref a] ∧ LineAt K H a l S ∧ (isIn S.m = true → S.q ≠ []) ∧
  (rowFault "body" S.m (S.q.length : Int) = .non → ∀ t q H', S.q = t :: q → LineAt K H' a l { S with m := markAfter "body" S.m, q := q } → Kp2 a l H H' → Q (.str t) H') ∧ Rz K H E S (rowFault "body" S.m (S.q.length : Int))
theorem rf_body {m : Str} {n : Int} (h : rowFault "body" m n = .non) : isIn m = true := by
  have e2 : isAmid "body" m = !isIn m := by
    unfold isAmid
    rw [if_neg (by decide), if_neg (by decide), if_neg (by decide), if_pos rfl]
  unfold rowFault at h
  rw [e2] at h
  split at h
  · cases h
  · cases e : isIn m
    · rw [e, if_pos (show (!false) = true from rfl)] at h
      cases h
    · rfl
theorem R_Line_body {w : World} {K : PySem.W.Frag} {mg : Str → Option Value} {base : Heap} (T : Tx K mg) : FnR Pg w K mg base (L2.CX Pg w) 9 (He.ma K (He.ga K "Line") "body") (sp_Line_body K) := by
  obtain ⟨fd, F⟩ := T.d_Line_body
  refine My.FunD.RX F sc_Line_body (fun vs H Q E h => by obtain ⟨a, l, S, rfl, hL, hi, k, r⟩ := h; rfl) (fun _ _ _ _ _ _ us hl => match us, hl with | [_], _ => rfl) (fun cdv A outer s H vs Q E hr h => ?_)
  obtain ⟨a, l, S, rfl, hL, hi, k, r⟩ := h
  refine ⟨_, (pss_cons (ps_expr (pe_methX (pv 0) T.c_Line T.m_Line_need (R_Line_need T) (hr.mono (by decide)) (passAt (takes_of rfl rfl rfl rfl)) (pa_cons pe_str (pa_cons (pe_callB lenL (by rfl) T.n_len (by decide +kernel) (pa_cons (pe_fld (pv 0) rfl) pa_nil)) pa_nil))))
      (pss_cons (ps_fld (pv 0) (pe_callR (R_mark_after T) (hr.mono (by decide)) rfl T.g_mark_after T.k_mark_after pass0 (pa_cons pe_str (pa_cons (pe_fld (pv 0) rfl) pa_nil))) rfl)
      (pss_one (ps_ret (pe_bm PySem.F.plainAttrs_list PySem.F.slot_list_pop PySem.F.type_list_pop mt_popAt (pe_fld (pv 0) rfl) (pa_cons pe_int pa_nil)))))), ?_⟩
  obtain ⟨dx, ha⟩ := hL.ob
  have n1 := hL.ne
  have n2 := hL.ne.symm
  have hl := hL.qu
  simp only [tSeq, tAsg, tRet, tRetN, tIfS, tDrop, tNext, tBreak, tCont, tVar, tC, tOp, tUn, tB, tTest, tAnd, tOr, tNot, tAndV, tOrV, tNotV, tIf, tNil, tCons, tTup, tLst, tCB, tCallR, tMethR, tPropR, StX.tMakeR, tFld, sFld, sFldAug, tPar, tPar3, gName, gNil, gCons, gTup, gSub, rI, rI0, rU, rEq, rNe, mIxL, mIxT, mLenL, mLenT, mLenS, mLenD, mLenK, mList, mTupL, mInt, mAbs, mMax, mMin, mStr, mAddS, mIsN, mNotN, rIxS, rIxL, rSetL, rAppend, rExtendT, rPopAt, rCat, rIn, tBM, tBM0, tChain, tNever, scal, L2.start, cxK, iRng1, iRng2, tDNewK, tDGet, tDGet2, sDPut, tDIn, tDNotIn, DGet_dk, DPut_dk, IsD_dk, tyV_list, isLst_lst, isDk_dk, dkOf_dk, atI_0, atI_1, atI_2, atI_3, ixN_30, ixN_31, ixN_32, List.map, List.replicate, List.length_cons, List.length_nil, List.nil_append, List.cons_append, List.append_nil, Nat.reduceSub, Nat.reduceAdd, List.getElem?_cons_zero, List.getElem?_cons_succ, List.set_cons_zero, List.set_cons_succ, List.cons.injEq, Option.some.injEq, V.int.injEq, V.str.injEq, V.bl.injEq, V.ref.injEq, HO.ins.injEq, HO.lst.injEq, HO.tup.injEq, HO.dK.injEq, exists_eq_left, exists_eq_left', exists_eq_right, exists_eq_right', exists_and_left, exists_and_right, true_and, and_true, and_self, if_true, if_false, Bool.false_eq_true, Bool.true_eq_false, eq_self, reduceCtorEq, false_and, and_false, upd_same, upd_upd, and_assoc, Int.reduceToNat, Int.reducePow, Int.reduceMul, Int.reduceAdd, Int.reduceNeg, mIsi, mIsi2, kdV_non, kdV_bl, kdV_int, kdV_str, kdV_ref, kdO_lst, kdO_tup, kdO_dK, V.ty.injEq, mAll, mAny, kit_NoneType_bool, kit_NoneType_int, kit_NoneType_str, kit_NoneType_list, kit_NoneType_tuple, kit_NoneType_dict, kit_bool_bool, kit_bool_int, kit_bool_str, kit_bool_list, kit_bool_tuple, kit_bool_dict, kit_int_bool, kit_int_int, kit_int_str, kit_int_list, kit_int_tuple, kit_int_dict, kit_str_bool, kit_str_int, kit_str_str, kit_str_list, kit_str_tuple, kit_str_dict, kit_list_bool, kit_list_int, kit_list_str, kit_list_list, kit_list_tuple, kit_list_dict, kit_tuple_bool, kit_tuple_int, kit_tuple_str, kit_tuple_list, kit_tuple_tuple, kit_tuple_dict, kit_dict_bool, kit_dict_int, kit_dict_str, kit_dict_list, kit_dict_tuple, kit_dict_dict, String.reduceEq, String.reduceNe, ne_eq, not_false_eq_true, not_true_eq_false, decide_false, decide_true, Bool.not_false, Bool.not_true, Bool.or_false, Bool.false_or, Bool.or_true, Bool.true_or, gTupH, wipe, tYes, exists_eq', exists_eq, exists_const, tFor_eq, tLc_eq, tCallX, tMethX, tRaiseOw, tMkOw, tFldOw, mIxA, mLenA, rInO, rNotInO, mLenO, rSetD, tM1, false_or, or_false, tInT, inV_nil, inV_str, flatV_str, flatV_int, flatV_non, mIntB, List.all_cons, List.all_nil, Bool.and_true, Bool.true_and, Bool.and_self, tDisp, tPairs, exk_nil, exk_str, leS0, leS1, leS2, leS3, leS4, leS5, leS6, leS7, leS8, leS9, leS10, leS11, leS12, Nat.reduceLeDiff, mBoolB, rEqNil, ha, hl, upd_ne n1, upd_ne n2, T.c_Line, T.f_Line_queue, T.f_Line_state, lf_queue, lf_state, lp_state, ln_need, sp_Line_need, sp_mark_after, lf_len, six, List.length_map]
  refine ⟨l, S, hL, rfl, fun hf => ?_, r⟩
  obtain ⟨n, c, m, q, g, b⟩ := S
  cases q with
  | nil => exact absurd rfl (hi (rf_body hf))
  | cons t q =>
    simp only [tSeq, tAsg, tRet, tRetN, tIfS, tDrop, tNext, tBreak, tCont, tVar, tC, tOp, tUn, tB, tTest, tAnd, tOr, tNot, tAndV, tOrV, tNotV, tIf, tNil, tCons, tTup, tLst, tCB, tCallR, tMethR, tPropR, StX.tMakeR, tFld, sFld, sFldAug, tPar, tPar3, gName, gNil, gCons, gTup, gSub, rI, rI0, rU, rEq, rNe, mIxL, mIxT, mLenL, mLenT, mLenS, mLenD, mLenK, mList, mTupL, mInt, mAbs, mMax, mMin, mStr, mAddS, mIsN, mNotN, rIxS, rIxL, rSetL, rAppend, rExtendT, rPopAt, rCat, rIn, tBM, tBM0, tChain, tNever, scal, L2.start, cxK, iRng1, iRng2, tDNewK, tDGet, tDGet2, sDPut, tDIn, tDNotIn, DGet_dk, DPut_dk, IsD_dk, tyV_list, isLst_lst, isDk_dk, dkOf_dk, atI_0, atI_1, atI_2, atI_3, ixN_30, ixN_31, ixN_32, List.map, List.replicate, List.length_cons, List.length_nil, List.nil_append, List.cons_append, List.append_nil, Nat.reduceSub, Nat.reduceAdd, List.getElem?_cons_zero, List.getElem?_cons_succ, List.set_cons_zero, List.set_cons_succ, List.cons.injEq, Option.some.injEq, V.int.injEq, V.str.injEq, V.bl.injEq, V.ref.injEq, HO.ins.injEq, HO.lst.injEq, HO.tup.injEq, HO.dK.injEq, exists_eq_left, exists_eq_left', exists_eq_right, exists_eq_right', exists_and_left, exists_and_right, true_and, and_true, and_self, if_true, if_false, Bool.false_eq_true, Bool.true_eq_false, eq_self, reduceCtorEq, false_and, and_false, upd_same, upd_upd, and_assoc, Int.reduceToNat, Int.reducePow, Int.reduceMul, Int.reduceAdd, Int.reduceNeg, mIsi, mIsi2, kdV_non, kdV_bl, kdV_int, kdV_str, kdV_ref, kdO_lst, kdO_tup, kdO_dK, V.ty.injEq, mAll, mAny, kit_NoneType_bool, kit_NoneType_int, kit_NoneType_str, kit_NoneType_list, kit_NoneType_tuple, kit_NoneType_dict, kit_bool_bool, kit_bool_int, kit_bool_str, kit_bool_list, kit_bool_tuple, kit_bool_dict, kit_int_bool, kit_int_int, kit_int_str, kit_int_list, kit_int_tuple, kit_int_dict, kit_str_bool, kit_str_int, kit_str_str, kit_str_list, kit_str_tuple, kit_str_dict, kit_list_bool, kit_list_int, kit_list_str, kit_list_list, kit_list_tuple, kit_list_dict, kit_tuple_bool, kit_tuple_int, kit_tuple_str, kit_tuple_list, kit_tuple_tuple, kit_tuple_dict, kit_dict_bool, kit_dict_int, kit_dict_str, kit_dict_list, kit_dict_tuple, kit_dict_dict, String.reduceEq, String.reduceNe, ne_eq, not_false_eq_true, not_true_eq_false, decide_false, decide_true, Bool.not_false, Bool.not_true, Bool.or_false, Bool.false_or, Bool.or_true, Bool.true_or, gTupH, wipe, tYes, exists_eq', exists_eq, exists_const, tFor_eq, tLc_eq, tCallX, tMethX, tRaiseOw, tMkOw, tFldOw, mIxA, mLenA, rInO, rNotInO, mLenO, rSetD, tM1, false_or, or_false, tInT, inV_nil, inV_str, flatV_str, flatV_int, flatV_non, mIntB, List.all_cons, List.all_nil, Bool.and_true, Bool.true_and, Bool.and_self, tDisp, tPairs, exk_nil, exk_str, leS0, leS1, leS2, leS3, leS4, leS5, leS6, leS7, leS8, leS9, leS10, leS11, leS12, Nat.reduceLeDiff, mBoolB, rEqNil, sq0, erase0]
    refine ⟨by decide, by decide, k hf t q _ rfl ⟨⟨dx, ?_⟩, ?_, n1, ?_⟩ fun b o z1 z2 h => ?_⟩
    · rw [upd_ne n1, upd_same]
    · rw [upd_same]
    · have := hL.sz; simp at this; show q.length ≤ 100000; omega
    · rw [upd_ne z2, upd_ne z1]; exact h
def sp_Line_drain (K : PySem.W.Frag) : Sp := fun vs H Q _ => ∃ (a l : Addr) (S : LS), vs = [.ref a] ∧ LineAt K H a l S ∧ ∀ H' p l', H p = none → H l' = none → l' ≠ p → H' p = some (.lst (S.q.map V.str)) → LineAt K H' a l' { S with m := markAfter "drain" S.m, q := [] } → Kp a H H' → Q (.ref p) H'
theorem R_Line_drain {w : World} {K : PySem.W.Frag} {mg : Str → Option Value} {base : Heap} (T : Tx K mg) : FnR Pg w K mg base CX0 5 (He.ma K (He.ga K "Line") "drain") (sp_Line_drain K) := by
  obtain ⟨fd, F⟩ := T.d_Line_drain
  refine My.FunD.R F sc_Line_drain (fun vs H Q E h => by obtain ⟨a, l, S, rfl, hL, k⟩ := h; rfl) (fun _ _ _ _ _ _ us hl => match us, hl with | [_], _ => rfl) (fun cdv A outer s H vs Q E hr h => ?_)
  obtain ⟨a, l, S, rfl, hL, k⟩ := h
  refine ⟨_, (pss_cons (ps_set (i := 1) sc_Line_drain.nd rfl (by first | exact Or.inl rfl | exact Or.inr rfl) (pe_callTy listL (by rfl) T.n_list (by decide +kernel) (pa_cons (pe_fld (pv 0) rfl) pa_nil)))
      (pss_cons (ps_fld (pv 0) (pe_callR (R_mark_after T) (hr.mono (by decide)) rfl T.g_mark_after T.k_mark_after pass0 (pa_cons pe_str (pa_cons (pe_fld (pv 0) rfl) pa_nil))) rfl)
      (pss_cons (ps_fld (pv 0) (pe_lst pa_nil) rfl)
      (pss_one (ps_ret (pv 1)))))), ?_⟩
  obtain ⟨dx, ha⟩ := hL.ob
  have n1 := hL.ne
  have n2 := hL.ne.symm
  have hl := hL.qu
  simp only [tSeq, tAsg, tRet, tRetN, tIfS, tDrop, tNext, tBreak, tCont, tVar, tC, tOp, tUn, tB, tTest, tAnd, tOr, tNot, tAndV, tOrV, tNotV, tIf, tNil, tCons, tTup, tLst, tCB, tCallR, tMethR, tPropR, StX.tMakeR, tFld, sFld, sFldAug, tPar, tPar3, gName, gNil, gCons, gTup, gSub, rI, rI0, rU, rEq, rNe, mIxL, mIxT, mLenL, mLenT, mLenS, mLenD, mLenK, mList, mTupL, mInt, mAbs, mMax, mMin, mStr, mAddS, mIsN, mNotN, rIxS, rIxL, rSetL, rAppend, rExtendT, rPopAt, rCat, rIn, tBM, tBM0, tChain, tNever, scal, L2.start, cxK, iRng1, iRng2, tDNewK, tDGet, tDGet2, sDPut, tDIn, tDNotIn, DGet_dk, DPut_dk, IsD_dk, tyV_list, isLst_lst, isDk_dk, dkOf_dk, atI_0, atI_1, atI_2, atI_3, ixN_30, ixN_31, ixN_32, List.map, List.replicate, List.length_cons, List.length_nil, List.nil_append, List.cons_append, List.append_nil, Nat.reduceSub, Nat.reduceAdd, List.getElem?_cons_zero, List.getElem?_cons_succ, List.set_cons_zero, List.set_cons_succ, List.cons.injEq, Option.some.injEq, V.int.injEq, V.str.injEq, V.bl.injEq, V.ref.injEq, HO.ins.injEq, HO.lst.injEq, HO.tup.injEq, HO.dK.injEq, exists_eq_left, exists_eq_left', exists_eq_right, exists_eq_right', exists_and_left, exists_and_right, true_and, and_true, and_self, if_true, if_false, Bool.false_eq_true, Bool.true_eq_false, eq_self, reduceCtorEq, false_and, and_false, upd_same, upd_upd, and_assoc, Int.reduceToNat, Int.reducePow, Int.reduceMul, Int.reduceAdd, Int.reduceNeg, mIsi, mIsi2, kdV_non, kdV_bl, kdV_int, kdV_str, kdV_ref, kdO_lst, kdO_tup, kdO_dK, V.ty.injEq, mAll, mAny, kit_NoneType_bool, kit_NoneType_int, kit_NoneType_str, kit_NoneType_list, kit_NoneType_tuple, kit_NoneType_dict, kit_bool_bool, kit_bool_int, kit_bool_str, kit_bool_list, kit_bool_tuple, kit_bool_dict, kit_int_bool, kit_int_int, kit_int_str, kit_int_list, kit_int_tuple, kit_int_dict, kit_str_bool, kit_str_int, kit_str_str, kit_str_list, kit_str_tuple, kit_str_dict, kit_list_bool, kit_list_int, kit_list_str, kit_list_list, kit_list_tuple, kit_list_dict, kit_tuple_bool, kit_tuple_int, kit_tuple_str, kit_tuple_list, kit_tuple_tuple, kit_tuple_dict, kit_dict_bool, kit_dict_int, kit_dict_str, kit_dict_list, kit_dict_tuple, kit_dict_dict, String.reduceEq, String.reduceNe, ne_eq, not_false_eq_true, not_true_eq_false, decide_false, decide_true, Bool.not_false, Bool.not_true, Bool.or_false, Bool.false_or, Bool.or_true, Bool.true_or, gTupH, wipe, tYes, exists_eq', exists_eq, exists_const, tFor_eq, tLc_eq, tCallX, tMethX, tRaiseOw, tMkOw, tFldOw, mIxA, mLenA, rInO, rNotInO, mLenO, rSetD, tM1, false_or, or_false, tInT, inV_nil, inV_str, flatV_str, flatV_int, flatV_non, mIntB, List.all_cons, List.all_nil, Bool.and_true, Bool.true_and, Bool.and_self, tDisp, tPairs, exk_nil, exk_str, leS0, leS1, leS2, leS3, leS4, leS5, leS6, leS7, leS8, leS9, leS10, leS11, leS12, Nat.reduceLeDiff, mBoolB, rEqNil, ha, hl, T.c_Line, T.f_Line_queue, T.f_Line_state, lf_queue, lf_state, lp_state, sp_mark_after, lf_len, six]
  intro p hp
  have np : a ≠ p := ne_of_none ha hp
  simp only [tSeq, tAsg, tRet, tRetN, tIfS, tDrop, tNext, tBreak, tCont, tVar, tC, tOp, tUn, tB, tTest, tAnd, tOr, tNot, tAndV, tOrV, tNotV, tIf, tNil, tCons, tTup, tLst, tCB, tCallR, tMethR, tPropR, StX.tMakeR, tFld, sFld, sFldAug, tPar, tPar3, gName, gNil, gCons, gTup, gSub, rI, rI0, rU, rEq, rNe, mIxL, mIxT, mLenL, mLenT, mLenS, mLenD, mLenK, mList, mTupL, mInt, mAbs, mMax, mMin, mStr, mAddS, mIsN, mNotN, rIxS, rIxL, rSetL, rAppend, rExtendT, rPopAt, rCat, rIn, tBM, tBM0, tChain, tNever, scal, L2.start, cxK, iRng1, iRng2, tDNewK, tDGet, tDGet2, sDPut, tDIn, tDNotIn, DGet_dk, DPut_dk, IsD_dk, tyV_list, isLst_lst, isDk_dk, dkOf_dk, atI_0, atI_1, atI_2, atI_3, ixN_30, ixN_31, ixN_32, List.map, List.replicate, List.length_cons, List.length_nil, List.nil_append, List.cons_append, List.append_nil, Nat.reduceSub, Nat.reduceAdd, List.getElem?_cons_zero, List.getElem?_cons_succ, List.set_cons_zero, List.set_cons_succ, List.cons.injEq, Option.some.injEq, V.int.injEq, V.str.injEq, V.bl.injEq, V.ref.injEq, HO.ins.injEq, HO.lst.injEq, HO.tup.injEq, HO.dK.injEq, exists_eq_left, exists_eq_left', exists_eq_right, exists_eq_right', exists_and_left, exists_and_right, true_and, and_true, and_self, if_true, if_false, Bool.false_eq_true, Bool.true_eq_false, eq_self, reduceCtorEq, false_and, and_false, upd_same, upd_upd, and_assoc, Int.reduceToNat, Int.reducePow, Int.reduceMul, Int.reduceAdd, Int.reduceNeg, mIsi, mIsi2, kdV_non, kdV_bl, kdV_int, kdV_str, kdV_ref, kdO_lst, kdO_tup, kdO_dK, V.ty.injEq, mAll, mAny, kit_NoneType_bool, kit_NoneType_int, kit_NoneType_str, kit_NoneType_list, kit_NoneType_tuple, kit_NoneType_dict, kit_bool_bool, kit_bool_int, kit_bool_str, kit_bool_list, kit_bool_tuple, kit_bool_dict, kit_int_bool, kit_int_int, kit_int_str, kit_int_list, kit_int_tuple, kit_int_dict, kit_str_bool, kit_str_int, kit_str_str, kit_str_list, kit_str_tuple, kit_str_dict, kit_list_bool, kit_list_int, kit_list_str, kit_list_list, kit_list_tuple, kit_list_dict, kit_tuple_bool, kit_tuple_int, kit_tuple_str, kit_tuple_list, kit_tuple_tuple, kit_tuple_dict, kit_dict_bool, kit_dict_int, kit_dict_str, kit_dict_list, kit_dict_tuple, kit_dict_dict, String.reduceEq, String.reduceNe, ne_eq, not_false_eq_true, not_true_eq_false, decide_false, decide_true, Bool.not_false, Bool.not_true, Bool.or_false, Bool.false_or, Bool.or_true, Bool.true_or, gTupH, wipe, tYes, exists_eq', exists_eq, exists_const, tFor_eq, tLc_eq, tCallX, tMethX, tRaiseOw, tMkOw, tFldOw, mIxA, mLenA, rInO, rNotInO, mLenO, rSetD, tM1, false_or, or_false, tInT, inV_nil, inV_str, flatV_str, flatV_int, flatV_non, mIntB, List.all_cons, List.all_nil, Bool.and_true, Bool.true_and, Bool.and_self, tDisp, tPairs, exk_nil, exk_str, leS0, leS1, leS2, leS3, leS4, leS5, leS6, leS7, leS8, leS9, leS10, leS11, leS12, Nat.reduceLeDiff, mBoolB, rEqNil, upd_ne np, ha, T.c_Line, T.f_Line_queue, T.f_Line_state, lf_queue, lf_state, lp_state, lp_queue, sp_mark_after, lf_len, six]
  intro l' hl'
  have na : a ≠ l' := fun e => by rw [← e, upd_same] at hl'; cases hl'
  have hl2 : upd H p (.lst (S.q.map V.str)) l' = none := by rw [upd_ne na.symm] at hl'; exact hl'
  have nl : l' ≠ p := fun e => by rw [e, upd_same] at hl2; cases hl2
  have hl3 : H l' = none := by rw [upd_ne nl] at hl2; exact hl2
  simp only [tSeq, tAsg, tRet, tRetN, tIfS, tDrop, tNext, tBreak, tCont, tVar, tC, tOp, tUn, tB, tTest, tAnd, tOr, tNot, tAndV, tOrV, tNotV, tIf, tNil, tCons, tTup, tLst, tCB, tCallR, tMethR, tPropR, StX.tMakeR, tFld, sFld, sFldAug, tPar, tPar3, gName, gNil, gCons, gTup, gSub, rI, rI0, rU, rEq, rNe, mIxL, mIxT, mLenL, mLenT, mLenS, mLenD, mLenK, mList, mTupL, mInt, mAbs, mMax, mMin, mStr, mAddS, mIsN, mNotN, rIxS, rIxL, rSetL, rAppend, rExtendT, rPopAt, rCat, rIn, tBM, tBM0, tChain, tNever, scal, L2.start, cxK, iRng1, iRng2, tDNewK, tDGet, tDGet2, sDPut, tDIn, tDNotIn, DGet_dk, DPut_dk, IsD_dk, tyV_list, isLst_lst, isDk_dk, dkOf_dk, atI_0, atI_1, atI_2, atI_3, ixN_30, ixN_31, ixN_32, List.map, List.replicate, List.length_cons, List.length_nil, List.nil_append, List.cons_append, List.append_nil, Nat.reduceSub, Nat.reduceAdd, List.getElem?_cons_zero, List.getElem?_cons_succ, List.set_cons_zero, List.set_cons_succ, List.cons.injEq, Option.some.injEq, V.int.injEq, V.str.injEq, V.bl.injEq, V.ref.injEq, HO.ins.injEq, HO.lst.injEq, HO.tup.injEq, HO.dK.injEq, exists_eq_left, exists_eq_left', exists_eq_right, exists_eq_right', exists_and_left, exists_and_right, true_and, and_true, and_self, if_true, if_false, Bool.false_eq_true, Bool.true_eq_false, eq_self, reduceCtorEq, false_and, and_false, upd_same, upd_upd, and_assoc, Int.reduceToNat, Int.reducePow, Int.reduceMul, Int.reduceAdd, Int.reduceNeg, mIsi, mIsi2, kdV_non, kdV_bl, kdV_int, kdV_str, kdV_ref, kdO_lst, kdO_tup, kdO_dK, V.ty.injEq, mAll, mAny, kit_NoneType_bool, kit_NoneType_int, kit_NoneType_str, kit_NoneType_list, kit_NoneType_tuple, kit_NoneType_dict, kit_bool_bool, kit_bool_int, kit_bool_str, kit_bool_list, kit_bool_tuple, kit_bool_dict, kit_int_bool, kit_int_int, kit_int_str, kit_int_list, kit_int_tuple, kit_int_dict, kit_str_bool, kit_str_int, kit_str_str, kit_str_list, kit_str_tuple, kit_str_dict, kit_list_bool, kit_list_int, kit_list_str, kit_list_list, kit_list_tuple, kit_list_dict, kit_tuple_bool, kit_tuple_int, kit_tuple_str, kit_tuple_list, kit_tuple_tuple, kit_tuple_dict, kit_dict_bool, kit_dict_int, kit_dict_str, kit_dict_list, kit_dict_tuple, kit_dict_dict, String.reduceEq, String.reduceNe, ne_eq, not_false_eq_true, not_true_eq_false, decide_false, decide_true, Bool.not_false, Bool.not_true, Bool.or_false, Bool.false_or, Bool.or_true, Bool.true_or, gTupH, wipe, tYes, exists_eq', exists_eq, exists_const, tFor_eq, tLc_eq, tCallX, tMethX, tRaiseOw, tMkOw, tFldOw, mIxA, mLenA, rInO, rNotInO, mLenO, rSetD, tM1, false_or, or_false, tInT, inV_nil, inV_str, flatV_str, flatV_int, flatV_non, mIntB, List.all_cons, List.all_nil, Bool.and_true, Bool.true_and, Bool.and_self, tDisp, tPairs, exk_nil, exk_str, leS0, leS1, leS2, leS3, leS4, leS5, leS6, leS7, leS8, leS9, leS10, leS11, leS12, Nat.reduceLeDiff, mBoolB, rEqNil, upd_ne na, T.c_Line, T.f_Line_queue, lp_queue, lf_len, six]
  refine k _ p l' hp hl3 nl ?_ ⟨⟨dx, upd_same⟩, ?_, na, Nat.zero_le _⟩ fun b o z h => ?_
  · rw [upd_ne np.symm, upd_ne nl.symm, upd_ne np.symm, upd_same]
  · rw [upd_ne na.symm, upd_same]; rfl
  · rw [upd_ne z, upd_ne (ne_of_none h hl3), upd_ne z, upd_ne (ne_of_none h hp)]; exact h
def closeS (c : V) (S : LS) : LS := if S.m = "closed" then S else { S with m := "closed", c := c, q := [] }
def sp_Line_close (K : PySem.W.Frag) : Sp := fun vs H Q _ => ∃ (a l : Addr) (S : LS) (c : V), vs = [.ref a, c] ∧ LineAt K H a l S ∧ ∀ H' l', l' = l ∨ H l' = none → LineAt K H' a l' (closeS c S) → Kp a H H' → Q .non H'
theorem R_Line_close1 {w : World} {K : PySem.W.Frag} {mg : Str → Option Value} {base : Heap} (T : Tx K mg) : FnR Pg w K mg base CX0 1 (He.ma K (He.ga K "Line") "close") (fun vs H Q E => sp_Line_close K vs H Q E) := by
  obtain ⟨fd, F⟩ := T.d_Line_close
  refine FnR.imp (My.FunD.Rd (sp := sp_Line_close K) 2 1 F sc_Line_close (fun vs H Q E h => by obtain ⟨a, l, S, c, rfl, _⟩ := h; rfl) (by intro h; cases h) rfl (fun T kV doc pm an cdv ct us its h1 h2 => ?_) (fun cdv A outer s H vs Q E hr h => ?_)) fun vs H Q E h => ?_
  · match us, its, h1, h2 with
    | [_, _], [_], _, _ => exact ⟨_, rfl, rfl⟩
  · obtain ⟨a, l, S, c, rfl, hL, k⟩ := h
    refine ⟨_, (pss_one (ps_if (pt_cmpR op_ne (pe_fld (pv 0) rfl) pe_str (nomark _)) (pss_cons (ps_fld (pv 0) pe_str rfl)
      (pss_cons (ps_fld (pv 0) (pv 1) rfl)
      (pss_one (ps_fld (pv 0) (pe_lst pa_nil) rfl)))) pss_nil)), ?_⟩
    obtain ⟨dx, ha⟩ := hL.ob
    simp only [tSeq, tAsg, tRet, tRetN, tIfS, tDrop, tNext, tBreak, tCont, tVar, tC, tOp, tUn, tB, tTest, tAnd, tOr, tNot, tAndV, tOrV, tNotV, tIf, tNil, tCons, tTup, tLst, tCB, tCallR, tMethR, tPropR, StX.tMakeR, tFld, sFld, sFldAug, tPar, tPar3, gName, gNil, gCons, gTup, gSub, rI, rI0, rU, rEq, rNe, mIxL, mIxT, mLenL, mLenT, mLenS, mLenD, mLenK, mList, mTupL, mInt, mAbs, mMax, mMin, mStr, mAddS, mIsN, mNotN, rIxS, rIxL, rSetL, rAppend, rExtendT, rPopAt, rCat, rIn, tBM, tBM0, tChain, tNever, scal, L2.start, cxK, iRng1, iRng2, tDNewK, tDGet, tDGet2, sDPut, tDIn, tDNotIn, DGet_dk, DPut_dk, IsD_dk, tyV_list, isLst_lst, isDk_dk, dkOf_dk, atI_0, atI_1, atI_2, atI_3, ixN_30, ixN_31, ixN_32, List.map, List.replicate, List.length_cons, List.length_nil, List.nil_append, List.cons_append, List.append_nil, Nat.reduceSub, Nat.reduceAdd, List.getElem?_cons_zero, List.getElem?_cons_succ, List.set_cons_zero, List.set_cons_succ, List.cons.injEq, Option.some.injEq, V.int.injEq, V.str.injEq, V.bl.injEq, V.ref.injEq, HO.ins.injEq, HO.lst.injEq, HO.tup.injEq, HO.dK.injEq, exists_eq_left, exists_eq_left', exists_eq_right, exists_eq_right', exists_and_left, exists_and_right, true_and, and_true, and_self, if_true, if_false, Bool.false_eq_true, Bool.true_eq_false, eq_self, reduceCtorEq, false_and, and_false, upd_same, upd_upd, and_assoc, Int.reduceToNat, Int.reducePow, Int.reduceMul, Int.reduceAdd, Int.reduceNeg, mIsi, mIsi2, kdV_non, kdV_bl, kdV_int, kdV_str, kdV_ref, kdO_lst, kdO_tup, kdO_dK, V.ty.injEq, mAll, mAny, kit_NoneType_bool, kit_NoneType_int, kit_NoneType_str, kit_NoneType_list, kit_NoneType_tuple, kit_NoneType_dict, kit_bool_bool, kit_bool_int, kit_bool_str, kit_bool_list, kit_bool_tuple, kit_bool_dict, kit_int_bool, kit_int_int, kit_int_str, kit_int_list, kit_int_tuple, kit_int_dict, kit_str_bool, kit_str_int, kit_str_str, kit_str_list, kit_str_tuple, kit_str_dict, kit_list_bool, kit_list_int, kit_list_str, kit_list_list, kit_list_tuple, kit_list_dict, kit_tuple_bool, kit_tuple_int, kit_tuple_str, kit_tuple_list, kit_tuple_tuple, kit_tuple_dict, kit_dict_bool, kit_dict_int, kit_dict_str, kit_dict_list, kit_dict_tuple, kit_dict_dict, String.reduceEq, String.reduceNe, ne_eq, not_false_eq_true, not_true_eq_false, decide_false, decide_true, Bool.not_false, Bool.not_true, Bool.or_false, Bool.false_or, Bool.or_true, Bool.true_or, gTupH, wipe, tYes, exists_eq', exists_eq, exists_const, tFor_eq, tLc_eq, tCallX, tMethX, tRaiseOw, tMkOw, tFldOw, mIxA, mLenA, rInO, rNotInO, mLenO, rSetD, tM1, false_or, or_false, tInT, inV_nil, inV_str, flatV_str, flatV_int, flatV_non, mIntB, List.all_cons, List.all_nil, Bool.and_true, Bool.true_and, Bool.and_self, tDisp, tPairs, exk_nil, exk_str, leS0, leS1, leS2, leS3, leS4, leS5, leS6, leS7, leS8, leS9, leS10, leS11, leS12, Nat.reduceLeDiff, mBoolB, rEqNil, ha, T.c_Line, T.f_Line_state, lf_state]
    by_cases h : S.m = "closed"
    · simp only [h, decide_true, Bool.not_true, Bool.false_eq_true, if_false]
      refine k H l (.inl rfl) ?_ (Kp.refl H)
      rw [closeS, if_pos h]; exact hL
    · simp only [tSeq, tAsg, tRet, tRetN, tIfS, tDrop, tNext, tBreak, tCont, tVar, tC, tOp, tUn, tB, tTest, tAnd, tOr, tNot, tAndV, tOrV, tNotV, tIf, tNil, tCons, tTup, tLst, tCB, tCallR, tMethR, tPropR, StX.tMakeR, tFld, sFld, sFldAug, tPar, tPar3, gName, gNil, gCons, gTup, gSub, rI, rI0, rU, rEq, rNe, mIxL, mIxT, mLenL, mLenT, mLenS, mLenD, mLenK, mList, mTupL, mInt, mAbs, mMax, mMin, mStr, mAddS, mIsN, mNotN, rIxS, rIxL, rSetL, rAppend, rExtendT, rPopAt, rCat, rIn, tBM, tBM0, tChain, tNever, scal, L2.start, cxK, iRng1, iRng2, tDNewK, tDGet, tDGet2, sDPut, tDIn, tDNotIn, DGet_dk, DPut_dk, IsD_dk, tyV_list, isLst_lst, isDk_dk, dkOf_dk, atI_0, atI_1, atI_2, atI_3, ixN_30, ixN_31, ixN_32, List.map, List.replicate, List.length_cons, List.length_nil, List.nil_append, List.cons_append, List.append_nil, Nat.reduceSub, Nat.reduceAdd, List.getElem?_cons_zero, List.getElem?_cons_succ, List.set_cons_zero, List.set_cons_succ, List.cons.injEq, Option.some.injEq, V.int.injEq, V.str.injEq, V.bl.injEq, V.ref.injEq, HO.ins.injEq, HO.lst.injEq, HO.tup.injEq, HO.dK.injEq, exists_eq_left, exists_eq_left', exists_eq_right, exists_eq_right', exists_and_left, exists_and_right, true_and, and_true, and_self, if_true, if_false, Bool.false_eq_true, Bool.true_eq_false, eq_self, reduceCtorEq, false_and, and_false, upd_same, upd_upd, and_assoc, Int.reduceToNat, Int.reducePow, Int.reduceMul, Int.reduceAdd, Int.reduceNeg, mIsi, mIsi2, kdV_non, kdV_bl, kdV_int, kdV_str, kdV_ref, kdO_lst, kdO_tup, kdO_dK, V.ty.injEq, mAll, mAny, kit_NoneType_bool, kit_NoneType_int, kit_NoneType_str, kit_NoneType_list, kit_NoneType_tuple, kit_NoneType_dict, kit_bool_bool, kit_bool_int, kit_bool_str, kit_bool_list, kit_bool_tuple, kit_bool_dict, kit_int_bool, kit_int_int, kit_int_str, kit_int_list, kit_int_tuple, kit_int_dict, kit_str_bool, kit_str_int, kit_str_str, kit_str_list, kit_str_tuple, kit_str_dict, kit_list_bool, kit_list_int, kit_list_str, kit_list_list, kit_list_tuple, kit_list_dict, kit_tuple_bool, kit_tuple_int, kit_tuple_str, kit_tuple_list, kit_tuple_tuple, kit_tuple_dict, kit_dict_bool, kit_dict_int, kit_dict_str, kit_dict_list, kit_dict_tuple, kit_dict_dict, String.reduceEq, String.reduceNe, ne_eq, not_false_eq_true, not_true_eq_false, decide_false, decide_true, Bool.not_false, Bool.not_true, Bool.or_false, Bool.false_or, Bool.or_true, Bool.true_or, gTupH, wipe, tYes, exists_eq', exists_eq, exists_const, tFor_eq, tLc_eq, tCallX, tMethX, tRaiseOw, tMkOw, tFldOw, mIxA, mLenA, rInO, rNotInO, mLenO, rSetD, tM1, false_or, or_false, tInT, inV_nil, inV_str, flatV_str, flatV_int, flatV_non, mIntB, List.all_cons, List.all_nil, Bool.and_true, Bool.true_and, Bool.and_self, tDisp, tPairs, exk_nil, exk_str, leS0, leS1, leS2, leS3, leS4, leS5, leS6, leS7, leS8, leS9, leS10, leS11, leS12, Nat.reduceLeDiff, mBoolB, rEqNil, h, ha, T.c_Line, T.f_Line_state, T.f_Line_cause, T.f_Line_queue, lf_state, lp_state, lp_cause, lp_queue, lf_len, six]
      intro l' hl'
      have na : a ≠ l' := fun e => by rw [← e, upd_same] at hl'; cases hl'
      have hl3 : H l' = none := by rw [upd_ne na.symm] at hl'; exact hl'
      simp only [tSeq, tAsg, tRet, tRetN, tIfS, tDrop, tNext, tBreak, tCont, tVar, tC, tOp, tUn, tB, tTest, tAnd, tOr, tNot, tAndV, tOrV, tNotV, tIf, tNil, tCons, tTup, tLst, tCB, tCallR, tMethR, tPropR, StX.tMakeR, tFld, sFld, sFldAug, tPar, tPar3, gName, gNil, gCons, gTup, gSub, rI, rI0, rU, rEq, rNe, mIxL, mIxT, mLenL, mLenT, mLenS, mLenD, mLenK, mList, mTupL, mInt, mAbs, mMax, mMin, mStr, mAddS, mIsN, mNotN, rIxS, rIxL, rSetL, rAppend, rExtendT, rPopAt, rCat, rIn, tBM, tBM0, tChain, tNever, scal, L2.start, cxK, iRng1, iRng2, tDNewK, tDGet, tDGet2, sDPut, tDIn, tDNotIn, DGet_dk, DPut_dk, IsD_dk, tyV_list, isLst_lst, isDk_dk, dkOf_dk, atI_0, atI_1, atI_2, atI_3, ixN_30, ixN_31, ixN_32, List.map, List.replicate, List.length_cons, List.length_nil, List.nil_append, List.cons_append, List.append_nil, Nat.reduceSub, Nat.reduceAdd, List.getElem?_cons_zero, List.getElem?_cons_succ, List.set_cons_zero, List.set_cons_succ, List.cons.injEq, Option.some.injEq, V.int.injEq, V.str.injEq, V.bl.injEq, V.ref.injEq, HO.ins.injEq, HO.lst.injEq, HO.tup.injEq, HO.dK.injEq, exists_eq_left, exists_eq_left', exists_eq_right, exists_eq_right', exists_and_left, exists_and_right, true_and, and_true, and_self, if_true, if_false, Bool.false_eq_true, Bool.true_eq_false, eq_self, reduceCtorEq, false_and, and_false, upd_same, upd_upd, and_assoc, Int.reduceToNat, Int.reducePow, Int.reduceMul, Int.reduceAdd, Int.reduceNeg, mIsi, mIsi2, kdV_non, kdV_bl, kdV_int, kdV_str, kdV_ref, kdO_lst, kdO_tup, kdO_dK, V.ty.injEq, mAll, mAny, kit_NoneType_bool, kit_NoneType_int, kit_NoneType_str, kit_NoneType_list, kit_NoneType_tuple, kit_NoneType_dict, kit_bool_bool, kit_bool_int, kit_bool_str, kit_bool_list, kit_bool_tuple, kit_bool_dict, kit_int_bool, kit_int_int, kit_int_str, kit_int_list, kit_int_tuple, kit_int_dict, kit_str_bool, kit_str_int, kit_str_str, kit_str_list, kit_str_tuple, kit_str_dict, kit_list_bool, kit_list_int, kit_list_str, kit_list_list, kit_list_tuple, kit_list_dict, kit_tuple_bool, kit_tuple_int, kit_tuple_str, kit_tuple_list, kit_tuple_tuple, kit_tuple_dict, kit_dict_bool, kit_dict_int, kit_dict_str, kit_dict_list, kit_dict_tuple, kit_dict_dict, String.reduceEq, String.reduceNe, ne_eq, not_false_eq_true, not_true_eq_false, decide_false, decide_true, Bool.not_false, Bool.not_true, Bool.or_false, Bool.false_or, Bool.or_true, Bool.true_or, gTupH, wipe, tYes, exists_eq', exists_eq, exists_const, tFor_eq, tLc_eq, tCallX, tMethX, tRaiseOw, tMkOw, tFldOw, mIxA, mLenA, rInO, rNotInO, mLenO, rSetD, tM1, false_or, or_false, tInT, inV_nil, inV_str, flatV_str, flatV_int, flatV_non, mIntB, List.all_cons, List.all_nil, Bool.and_true, Bool.true_and, Bool.and_self, tDisp, tPairs, exk_nil, exk_str, leS0, leS1, leS2, leS3, leS4, leS5, leS6, leS7, leS8, leS9, leS10, leS11, leS12, Nat.reduceLeDiff, mBoolB, rEqNil, upd_ne na, T.c_Line, T.f_Line_queue, lp_queue, lf_len, six]
      refine k _ l' (.inr hl3) ?_ fun b o z h => ?_
      · rw [closeS, if_neg h]
        refine ⟨⟨dx, upd_same⟩, ?_, na, Nat.zero_le _⟩
        rw [upd_ne na.symm, upd_same]; rfl
      · rw [upd_ne z, upd_ne (ne_of_none h hl3), upd_ne z]; exact h
  · show sp_Line_close K (vs ++ []) H Q E
    rw [List.append_nil]; exact h
theorem R_Line_close0 {w : World} {K : PySem.W.Frag} {mg : Str → Option Value} {base : Heap} (T : Tx K mg) : FnR Pg w K mg base CX0 1 (He.ma K (He.ga K "Line") "close") (fun vs H Q E => sp_Line_close K (vs ++ [.non]) H Q E) := by
  obtain ⟨fd, F⟩ := T.d_Line_close
  refine My.FunD.Rd (sp := sp_Line_close K) 1 0 F sc_Line_close (fun vs H Q E h => by obtain ⟨a, l, S, c, rfl, _⟩ := h; rfl) (by intro h; cases h) rfl (fun T kV doc pm an cdv ct us its h1 h2 => ?_) (fun cdv A outer s H vs Q E hr h => ?_)
  · match us, its, h1, h2 with
    | [_], [_], _, _ => exact ⟨_, rfl, rfl⟩
  · obtain ⟨a, l, S, c, rfl, hL, k⟩ := h
    refine ⟨_, (pss_one (ps_if (pt_cmpR op_ne (pe_fld (pv 0) rfl) pe_str (nomark _)) (pss_cons (ps_fld (pv 0) pe_str rfl)
      (pss_cons (ps_fld (pv 0) (pv 1) rfl)
      (pss_one (ps_fld (pv 0) (pe_lst pa_nil) rfl)))) pss_nil)), ?_⟩
    obtain ⟨dx, ha⟩ := hL.ob
    simp only [tSeq, tAsg, tRet, tRetN, tIfS, tDrop, tNext, tBreak, tCont, tVar, tC, tOp, tUn, tB, tTest, tAnd, tOr, tNot, tAndV, tOrV, tNotV, tIf, tNil, tCons, tTup, tLst, tCB, tCallR, tMethR, tPropR, StX.tMakeR, tFld, sFld, sFldAug, tPar, tPar3, gName, gNil, gCons, gTup, gSub, rI, rI0, rU, rEq, rNe, mIxL, mIxT, mLenL, mLenT, mLenS, mLenD, mLenK, mList, mTupL, mInt, mAbs, mMax, mMin, mStr, mAddS, mIsN, mNotN, rIxS, rIxL, rSetL, rAppend, rExtendT, rPopAt, rCat, rIn, tBM, tBM0, tChain, tNever, scal, L2.start, cxK, iRng1, iRng2, tDNewK, tDGet, tDGet2, sDPut, tDIn, tDNotIn, DGet_dk, DPut_dk, IsD_dk, tyV_list, isLst_lst, isDk_dk, dkOf_dk, atI_0, atI_1, atI_2, atI_3, ixN_30, ixN_31, ixN_32, List.map, List.replicate, List.length_cons, List.length_nil, List.nil_append, List.cons_append, List.append_nil, Nat.reduceSub, Nat.reduceAdd, List.getElem?_cons_zero, List.getElem?_cons_succ, List.set_cons_zero, List.set_cons_succ, List.cons.injEq, Option.some.injEq, V.int.injEq, V.str.injEq, V.bl.injEq, V.ref.injEq, HO.ins.injEq, HO.lst.injEq, HO.tup.injEq, HO.dK.injEq, exists_eq_left, exists_eq_left', exists_eq_right, exists_eq_right', exists_and_left, exists_and_right, true_and, and_true, and_self, if_true, if_false, Bool.false_eq_true, Bool.true_eq_false, eq_self, reduceCtorEq, false_and, and_false, upd_same, upd_upd, and_assoc, Int.reduceToNat, Int.reducePow, Int.reduceMul, Int.reduceAdd, Int.reduceNeg, mIsi, mIsi2, kdV_non, kdV_bl, kdV_int, kdV_str, kdV_ref, kdO_lst, kdO_tup, kdO_dK, V.ty.injEq, mAll, mAny, kit_NoneType_bool, kit_NoneType_int, kit_NoneType_str, kit_NoneType_list, kit_NoneType_tuple, kit_NoneType_dict, kit_bool_bool, kit_bool_int, kit_bool_str, kit_bool_list, kit_bool_tuple, kit_bool_dict, kit_int_bool, kit_int_int, kit_int_str, kit_int_list, kit_int_tuple, kit_int_dict, kit_str_bool, kit_str_int, kit_str_str, kit_str_list, kit_str_tuple, kit_str_dict, kit_list_bool, kit_list_int, kit_list_str, kit_list_list, kit_list_tuple, kit_list_dict, kit_tuple_bool, kit_tuple_int, kit_tuple_str, kit_tuple_list, kit_tuple_tuple, kit_tuple_dict, kit_dict_bool, kit_dict_int, kit_dict_str, kit_dict_list, kit_dict_tuple, kit_dict_dict, String.reduceEq, String.reduceNe, ne_eq, not_false_eq_true, not_true_eq_false, decide_false, decide_true, Bool.not_false, Bool.not_true, Bool.or_false, Bool.false_or, Bool.or_true, Bool.true_or, gTupH, wipe, tYes, exists_eq', exists_eq, exists_const, tFor_eq, tLc_eq, tCallX, tMethX, tRaiseOw, tMkOw, tFldOw, mIxA, mLenA, rInO, rNotInO, mLenO, rSetD, tM1, false_or, or_false, tInT, inV_nil, inV_str, flatV_str, flatV_int, flatV_non, mIntB, List.all_cons, List.all_nil, Bool.and_true, Bool.true_and, Bool.and_self, tDisp, tPairs, exk_nil, exk_str, leS0, leS1, leS2, leS3, leS4, leS5, leS6, leS7, leS8, leS9, leS10, leS11, leS12, Nat.reduceLeDiff, mBoolB, rEqNil, ha, T.c_Line, T.f_Line_state, lf_state]
    by_cases h : S.m = "closed"
    · simp only [h, decide_true, Bool.not_true, Bool.false_eq_true, if_false]
      refine k H l (.inl rfl) ?_ (Kp.refl H)
      rw [closeS, if_pos h]; exact hL
    · simp only [tSeq, tAsg, tRet, tRetN, tIfS, tDrop, tNext, tBreak, tCont, tVar, tC, tOp, tUn, tB, tTest, tAnd, tOr, tNot, tAndV, tOrV, tNotV, tIf, tNil, tCons, tTup, tLst, tCB, tCallR, tMethR, tPropR, StX.tMakeR, tFld, sFld, sFldAug, tPar, tPar3, gName, gNil, gCons, gTup, gSub, rI, rI0, rU, rEq, rNe, mIxL, mIxT, mLenL, mLenT, mLenS, mLenD, mLenK, mList, mTupL, mInt, mAbs, mMax, mMin, mStr, mAddS, mIsN, mNotN, rIxS, rIxL, rSetL, rAppend, rExtendT, rPopAt, rCat, rIn, tBM, tBM0, tChain, tNever, scal, L2.start, cxK, iRng1, iRng2, tDNewK, tDGet, tDGet2, sDPut, tDIn, tDNotIn, DGet_dk, DPut_dk, IsD_dk, tyV_list, isLst_lst, isDk_dk, dkOf_dk, atI_0, atI_1, atI_2, atI_3, ixN_30, ixN_31, ixN_32, List.map, List.replicate, List.length_cons, List.length_nil, List.nil_append, List.cons_append, List.append_nil, Nat.reduceSub, Nat.reduceAdd, List.getElem?_cons_zero, List.getElem?_cons_succ, List.set_cons_zero, List.set_cons_succ, List.cons.injEq, Option.some.injEq, V.int.injEq, V.str.injEq, V.bl.injEq, V.ref.injEq, HO.ins.injEq, HO.lst.injEq, HO.tup.injEq, HO.dK.injEq, exists_eq_left, exists_eq_left', exists_eq_right, exists_eq_right', exists_and_left, exists_and_right, true_and, and_true, and_self, if_true, if_false, Bool.false_eq_true, Bool.true_eq_false, eq_self, reduceCtorEq, false_and, and_false, upd_same, upd_upd, and_assoc, Int.reduceToNat, Int.reducePow, Int.reduceMul, Int.reduceAdd, Int.reduceNeg, mIsi, mIsi2, kdV_non, kdV_bl, kdV_int, kdV_str, kdV_ref, kdO_lst, kdO_tup, kdO_dK, V.ty.injEq, mAll, mAny, kit_NoneType_bool, kit_NoneType_int, kit_NoneType_str, kit_NoneType_list, kit_NoneType_tuple, kit_NoneType_dict, kit_bool_bool, kit_bool_int, kit_bool_str, kit_bool_list, kit_bool_tuple, kit_bool_dict, kit_int_bool, kit_int_int, kit_int_str, kit_int_list, kit_int_tuple, kit_int_dict, kit_str_bool, kit_str_int, kit_str_str, kit_str_list, kit_str_tuple, kit_str_dict, kit_list_bool, kit_list_int, kit_list_str, kit_list_list, kit_list_tuple, kit_list_dict, kit_tuple_bool, kit_tuple_int, kit_tuple_str, kit_tuple_list, kit_tuple_tuple, kit_tuple_dict, kit_dict_bool, kit_dict_int, kit_dict_str, kit_dict_list, kit_dict_tuple, kit_dict_dict, String.reduceEq, String.reduceNe, ne_eq, not_false_eq_true, not_true_eq_false, decide_false, decide_true, Bool.not_false, Bool.not_true, Bool.or_false, Bool.false_or, Bool.or_true, Bool.true_or, gTupH, wipe, tYes, exists_eq', exists_eq, exists_const, tFor_eq, tLc_eq, tCallX, tMethX, tRaiseOw, tMkOw, tFldOw, mIxA, mLenA, rInO, rNotInO, mLenO, rSetD, tM1, false_or, or_false, tInT, inV_nil, inV_str, flatV_str, flatV_int, flatV_non, mIntB, List.all_cons, List.all_nil, Bool.and_true, Bool.true_and, Bool.and_self, tDisp, tPairs, exk_nil, exk_str, leS0, leS1, leS2, leS3, leS4, leS5, leS6, leS7, leS8, leS9, leS10, leS11, leS12, Nat.reduceLeDiff, mBoolB, rEqNil, h, ha, T.c_Line, T.f_Line_state, T.f_Line_cause, T.f_Line_queue, lf_state, lp_state, lp_cause, lp_queue, lf_len, six]
      intro l' hl'
      have na : a ≠ l' := fun e => by rw [← e, upd_same] at hl'; cases hl'
      have hl3 : H l' = none := by rw [upd_ne na.symm] at hl'; exact hl'
      simp only [tSeq, tAsg, tRet, tRetN, tIfS, tDrop, tNext, tBreak, tCont, tVar, tC, tOp, tUn, tB, tTest, tAnd, tOr, tNot, tAndV, tOrV, tNotV, tIf, tNil, tCons, tTup, tLst, tCB, tCallR, tMethR, tPropR, StX.tMakeR, tFld, sFld, sFldAug, tPar, tPar3, gName, gNil, gCons, gTup, gSub, rI, rI0, rU, rEq, rNe, mIxL, mIxT, mLenL, mLenT, mLenS, mLenD, mLenK, mList, mTupL, mInt, mAbs, mMax, mMin, mStr, mAddS, mIsN, mNotN, rIxS, rIxL, rSetL, rAppend, rExtendT, rPopAt, rCat, rIn, tBM, tBM0, tChain, tNever, scal, L2.start, cxK, iRng1, iRng2, tDNewK, tDGet, tDGet2, sDPut, tDIn, tDNotIn, DGet_dk, DPut_dk, IsD_dk, tyV_list, isLst_lst, isDk_dk, dkOf_dk, atI_0, atI_1, atI_2, atI_3, ixN_30, ixN_31, ixN_32, List.map, List.replicate, List.length_cons, List.length_nil, List.nil_append, List.cons_append, List.append_nil, Nat.reduceSub, Nat.reduceAdd, List.getElem?_cons_zero, List.getElem?_cons_succ, List.set_cons_zero, List.set_cons_succ, List.cons.injEq, Option.some.injEq, V.int.injEq, V.str.injEq, V.bl.injEq, V.ref.injEq, HO.ins.injEq, HO.lst.injEq, HO.tup.injEq, HO.dK.injEq, exists_eq_left, exists_eq_left', exists_eq_right, exists_eq_right', exists_and_left, exists_and_right, true_and, and_true, and_self, if_true, if_false, Bool.false_eq_true, Bool.true_eq_false, eq_self, reduceCtorEq, false_and, and_false, upd_same, upd_upd, and_assoc, Int.reduceToNat, Int.reducePow, Int.reduceMul, Int.reduceAdd, Int.reduceNeg, mIsi, mIsi2, kdV_non, kdV_bl, kdV_int, kdV_str, kdV_ref, kdO_lst, kdO_tup, kdO_dK, V.ty.injEq, mAll, mAny, kit_NoneType_bool, kit_NoneType_int, kit_NoneType_str, kit_NoneType_list, kit_NoneType_tuple, kit_NoneType_dict, kit_bool_bool, kit_bool_int, kit_bool_str, kit_bool_list, kit_bool_tuple, kit_bool_dict, kit_int_bool, kit_int_int, kit_int_str, kit_int_list, kit_int_tuple, kit_int_dict, kit_str_bool, kit_str_int, kit_str_str, kit_str_list, kit_str_tuple, kit_str_dict, kit_list_bool, kit_list_int, kit_list_str, kit_list_list, kit_list_tuple, kit_list_dict, kit_tuple_bool, kit_tuple_int, kit_tuple_str, kit_tuple_list, kit_tuple_tuple, kit_tuple_dict, kit_dict_bool, kit_dict_int, kit_dict_str, kit_dict_list, kit_dict_tuple, kit_dict_dict, String.reduceEq, String.reduceNe, ne_eq, not_false_eq_true, not_true_eq_false, decide_false, decide_true, Bool.not_false, Bool.not_true, Bool.or_false, Bool.false_or, Bool.or_true, Bool.true_or, gTupH, wipe, tYes, exists_eq', exists_eq, exists_const, tFor_eq, tLc_eq, tCallX, tMethX, tRaiseOw, tMkOw, tFldOw, mIxA, mLenA, rInO, rNotInO, mLenO, rSetD, tM1, false_or, or_false, tInT, inV_nil, inV_str, flatV_str, flatV_int, flatV_non, mIntB, List.all_cons, List.all_nil, Bool.and_true, Bool.true_and, Bool.and_self, tDisp, tPairs, exk_nil, exk_str, leS0, leS1, leS2, leS3, leS4, leS5, leS6, leS7, leS8, leS9, leS10, leS11, leS12, Nat.reduceLeDiff, mBoolB, rEqNil, upd_ne na, T.c_Line, T.f_Line_queue, lp_queue, lf_len, six]
      refine k _ l' (.inr hl3) ?_ fun b o z h => ?_
      · rw [closeS, if_neg h]
        refine ⟨⟨dx, upd_same⟩, ?_, na, Nat.zero_le _⟩
        rw [upd_ne na.symm, upd_same]; rfl
      · rw [upd_ne z, upd_ne (ne_of_none h hl3), upd_ne z]; exact h
def spi_Line_ask (K : PySem.W.Frag) : Sp := fun vs H Q E => ∃ (a l p : Addr) (S : LS) (ts : List Str), vs = [.ref a, .ref p] ∧ LineAt K H a l S ∧ H p = some (.tup (ts.map V.str)) ∧ S.q.length + ts.length ≤ 100000 ∧
  (rowFault "ask" S.m 0 = .non → ∀ H', LineAt K H' a l { S with q := S.q ++ ts } → Kp2 a l H H' → Q .non H') ∧ Rz K H E S (rowFault "ask" S.m 0)
def sp_Line_ask (K : PySem.W.Frag) : Sp := fun vs H Q E => ∃ (a l : Addr) (S : LS) (ts : List Str), vs = .ref a :: ts.map V.str ∧ LineAt K H a l S ∧ S.q.length + ts.length ≤ 100000 ∧
  (rowFault "ask" S.m 0 = .non → ∀ H', LineAt K H' a l { S with q := S.q ++ ts } → Kp2 a l H H' → Q .non H') ∧ Rz K H E S (rowFault "ask" S.m 0)
theorem R_Line_ask {w : World} {K : PySem.W.Frag} {mg : Str → Option Value} {base : Heap} (T : Tx K mg) : FnR Pg w K mg base (L2.CX Pg w) 9 (He.ma K (He.ga K "Line") "ask") (sp_Line_ask K) := by
  obtain ⟨fd, F⟩ := T.d_Line_ask
  refine FnR.imp (My.FunD.RsX (ps := ["self"]) (pv := "tags") (sp := spi_Line_ask K) F sc_Line_ask (fun kV doc pm an cdv ct => StX.bind_star1 (B := fun l => bindArgs (PySem.W.fnOf D_Line_ask.name D_Line_ask.qual D_Line_ask.params D_Line_ask.body D_Line_ask.scope .none kV doc pm an cdv ct) ⟨l, []⟩) (fun _ => rfl) (fun _ _ _ => rfl)) (fun cdv A outer s H vs Q E hr h => ?_)) fun vs H Q E h => ?_
  · obtain ⟨a, l, p, S, ts, rfl, hL, hp, hz, k, r⟩ := h
    refine ⟨_, (pss_cons (ps_expr (pe_methX (pv 0) T.c_Line T.m_Line_need (R_Line_need T) (hr.mono (by decide)) (passAt (takes_of rfl rfl rfl rfl)) (pa_cons pe_str (pa_cons pe_int pa_nil))))
      (pss_one (ps_expr (pe_bm PySem.F.plainAttrs_list PySem.F.slot_list_extend PySem.F.type_list_extend mt_extendT (pe_fld (pv 0) rfl) (pa_cons (pv 1) pa_nil))))), ?_⟩
    obtain ⟨dx, ha⟩ := hL.ob
    have n1 := hL.ne
    have hl := hL.qu
    simp only [tSeq, tAsg, tRet, tRetN, tIfS, tDrop, tNext, tBreak, tCont, tVar, tC, tOp, tUn, tB, tTest, tAnd, tOr, tNot, tAndV, tOrV, tNotV, tIf, tNil, tCons, tTup, tLst, tCB, tCallR, tMethR, tPropR, StX.tMakeR, tFld, sFld, sFldAug, tPar, tPar3, gName, gNil, gCons, gTup, gSub, rI, rI0, rU, rEq, rNe, mIxL, mIxT, mLenL, mLenT, mLenS, mLenD, mLenK, mList, mTupL, mInt, mAbs, mMax, mMin, mStr, mAddS, mIsN, mNotN, rIxS, rIxL, rSetL, rAppend, rExtendT, rPopAt, rCat, rIn, tBM, tBM0, tChain, tNever, scal, L2.start, cxK, iRng1, iRng2, tDNewK, tDGet, tDGet2, sDPut, tDIn, tDNotIn, DGet_dk, DPut_dk, IsD_dk, tyV_list, isLst_lst, isDk_dk, dkOf_dk, atI_0, atI_1, atI_2, atI_3, ixN_30, ixN_31, ixN_32, List.map, List.replicate, List.length_cons, List.length_nil, List.nil_append, List.cons_append, List.append_nil, Nat.reduceSub, Nat.reduceAdd, List.getElem?_cons_zero, List.getElem?_cons_succ, List.set_cons_zero, List.set_cons_succ, List.cons.injEq, Option.some.injEq, V.int.injEq, V.str.injEq, V.bl.injEq, V.ref.injEq, HO.ins.injEq, HO.lst.injEq, HO.tup.injEq, HO.dK.injEq, exists_eq_left, exists_eq_left', exists_eq_right, exists_eq_right', exists_and_left, exists_and_right, true_and, and_true, and_self, if_true, if_false, Bool.false_eq_true, Bool.true_eq_false, eq_self, reduceCtorEq, false_and, and_false, upd_same, upd_upd, and_assoc, Int.reduceToNat, Int.reducePow, Int.reduceMul, Int.reduceAdd, Int.reduceNeg, mIsi, mIsi2, kdV_non, kdV_bl, kdV_int, kdV_str, kdV_ref, kdO_lst, kdO_tup, kdO_dK, V.ty.injEq, mAll, mAny, kit_NoneType_bool, kit_NoneType_int, kit_NoneType_str, kit_NoneType_list, kit_NoneType_tuple, kit_NoneType_dict, kit_bool_bool, kit_bool_int, kit_bool_str, kit_bool_list, kit_bool_tuple, kit_bool_dict, kit_int_bool, kit_int_int, kit_int_str, kit_int_list, kit_int_tuple, kit_int_dict, kit_str_bool, kit_str_int, kit_str_str, kit_str_list, kit_str_tuple, kit_str_dict, kit_list_bool, kit_list_int, kit_list_str, kit_list_list, kit_list_tuple, kit_list_dict, kit_tuple_bool, kit_tuple_int, kit_tuple_str, kit_tuple_list, kit_tuple_tuple, kit_tuple_dict, kit_dict_bool, kit_dict_int, kit_dict_str, kit_dict_list, kit_dict_tuple, kit_dict_dict, String.reduceEq, String.reduceNe, ne_eq, not_false_eq_true, not_true_eq_false, decide_false, decide_true, Bool.not_false, Bool.not_true, Bool.or_false, Bool.false_or, Bool.or_true, Bool.true_or, gTupH, wipe, tYes, exists_eq', exists_eq, exists_const, tFor_eq, tLc_eq, tCallX, tMethX, tRaiseOw, tMkOw, tFldOw, mIxA, mLenA, rInO, rNotInO, mLenO, rSetD, tM1, false_or, or_false, tInT, inV_nil, inV_str, flatV_str, flatV_int, flatV_non, mIntB, List.all_cons, List.all_nil, Bool.and_true, Bool.true_and, Bool.and_self, tDisp, tPairs, exk_nil, exk_str, leS0, leS1, leS2, leS3, leS4, leS5, leS6, leS7, leS8, leS9, leS10, leS11, leS12, Nat.reduceLeDiff, mBoolB, rEqNil, ha, hl, T.c_Line, T.f_Line_queue, lf_queue, ln_need, sp_Line_need, List.length_map]
    refine ⟨l, S, hL, rfl, fun hf => ⟨ts.map V.str, SqT.of hp, ?_, k hf _ ⟨⟨dx, ?_⟩, ?_, n1, ?_⟩ fun b o z1 z2 h => ?_⟩, r⟩
    · rw [List.length_map]; exact Nat.le_trans hz (by decide)
    · rw [upd_ne n1]; exact ha
    · rw [upd_same, List.map_append]
    · simp; omega
    · rw [upd_ne z2]; exact h
  · obtain ⟨a, l, S, ts, rfl, hL, hz, k, r⟩ := h
    refine ⟨[.ref a], ts.map V.str, rfl, rfl, ?_, fun p hp => ?_⟩
    · rw [List.length_map]; exact Nat.le_trans (by omega) (show 100000 ≤ sizeLine by decide)
    · obtain ⟨dx, ha⟩ := hL.ob
      have e1 : a ≠ p := ne_of_none ha hp
      have e2 : l ≠ p := ne_of_none hL.qu hp
      refine ⟨a, l, p, S, ts, rfl, ⟨⟨dx, by rw [upd_ne e1]; exact ha⟩, by rw [upd_ne e2]; exact hL.qu, hL.ne, hL.sz⟩, upd_same, hz, fun hf H' h1 h2 => k hf H' h1 fun b o z1 z2 h => h2 b o z1 z2 ?_, r.same (Same.new hp)⟩
      rw [upd_ne (ne_of_none h hp)]; exact h
def newS (n : Int) : LS := ⟨n, .non, "whole", [], "", false⟩
def sp_Line_init (K : PySem.W.Frag) : Sp := fun vs H Q _ => ∃ (a dx : Addr) (n : Int), vs = [.ref a, .int n] ∧ H a = some (.ins (He.ga K "Line") dx []) ∧ ∀ H' l, H l = none → LineAt K H' a l (newS n) → Kp a H H' → Q .non H'
theorem R_Line_init0 {w : World} {K : PySem.W.Frag} {mg : Str → Option Value} {base : Heap} (T : Tx K mg) : FnR Pg w K mg base CX0 1 (He.ma K (He.ga K "Line") "__init__") (fun vs H Q E => sp_Line_init K (vs ++ [.int 0]) H Q E) := by
  obtain ⟨fd, F⟩ := T.d_Line___init__
  refine My.FunD.Rd (sp := sp_Line_init K) 1 0 F sc_Line___init__ (fun vs H Q E h => by obtain ⟨a, dx, n, rfl, _⟩ := h; rfl) (by intro h; cases h) rfl (fun T kV doc pm an cdv ct us its h1 h2 => ?_) (fun cdv A outer s H vs Q E hr h => ?_)
  · match us, its, h1, h2 with
    | [_], [_], _, _ => exact ⟨_, rfl, rfl⟩
  · obtain ⟨a, dx, n, rfl, ha, k⟩ := h
    refine ⟨_, (pss_cons (ps_fld (pv 0) (pv 1) rfl)
      (pss_cons (ps_fld (pv 0) pe_non rfl)
      (pss_cons (ps_fld (pv 0) pe_str rfl)
      (pss_cons (ps_fld (pv 0) (pe_lst pa_nil) rfl)
      (pss_cons (ps_fld (pv 0) pe_str rfl)
      (pss_one (ps_fld (pv 0) pe_bl rfl))))))), ?_⟩
    simp only [tSeq, tAsg, tRet, tRetN, tIfS, tDrop, tNext, tBreak, tCont, tVar, tC, tOp, tUn, tB, tTest, tAnd, tOr, tNot, tAndV, tOrV, tNotV, tIf, tNil, tCons, tTup, tLst, tCB, tCallR, tMethR, tPropR, StX.tMakeR, tFld, sFld, sFldAug, tPar, tPar3, gName, gNil, gCons, gTup, gSub, rI, rI0, rU, rEq, rNe, mIxL, mIxT, mLenL, mLenT, mLenS, mLenD, mLenK, mList, mTupL, mInt, mAbs, mMax, mMin, mStr, mAddS, mIsN, mNotN, rIxS, rIxL, rSetL, rAppend, rExtendT, rPopAt, rCat, rIn, tBM, tBM0, tChain, tNever, scal, L2.start, cxK, iRng1, iRng2, tDNewK, tDGet, tDGet2, sDPut, tDIn, tDNotIn, DGet_dk, DPut_dk, IsD_dk, tyV_list, isLst_lst, isDk_dk, dkOf_dk, atI_0, atI_1, atI_2, atI_3, ixN_30, ixN_31, ixN_32, List.map, List.replicate, List.length_cons, List.length_nil, List.nil_append, List.cons_append, List.append_nil, Nat.reduceSub, Nat.reduceAdd, List.getElem?_cons_zero, List.getElem?_cons_succ, List.set_cons_zero, List.set_cons_succ, List.cons.injEq, Option.some.injEq, V.int.injEq, V.str.injEq, V.bl.injEq, V.ref.injEq, HO.ins.injEq, HO.lst.injEq, HO.tup.injEq, HO.dK.injEq, exists_eq_left, exists_eq_left', exists_eq_right, exists_eq_right', exists_and_left, exists_and_right, true_and, and_true, and_self, if_true, if_false, Bool.false_eq_true, Bool.true_eq_false, eq_self, reduceCtorEq, false_and, and_false, upd_same, upd_upd, and_assoc, Int.reduceToNat, Int.reducePow, Int.reduceMul, Int.reduceAdd, Int.reduceNeg, mIsi, mIsi2, kdV_non, kdV_bl, kdV_int, kdV_str, kdV_ref, kdO_lst, kdO_tup, kdO_dK, V.ty.injEq, mAll, mAny, kit_NoneType_bool, kit_NoneType_int, kit_NoneType_str, kit_NoneType_list, kit_NoneType_tuple, kit_NoneType_dict, kit_bool_bool, kit_bool_int, kit_bool_str, kit_bool_list, kit_bool_tuple, kit_bool_dict, kit_int_bool, kit_int_int, kit_int_str, kit_int_list, kit_int_tuple, kit_int_dict, kit_str_bool, kit_str_int, kit_str_str, kit_str_list, kit_str_tuple, kit_str_dict, kit_list_bool, kit_list_int, kit_list_str, kit_list_list, kit_list_tuple, kit_list_dict, kit_tuple_bool, kit_tuple_int, kit_tuple_str, kit_tuple_list, kit_tuple_tuple, kit_tuple_dict, kit_dict_bool, kit_dict_int, kit_dict_str, kit_dict_list, kit_dict_tuple, kit_dict_dict, String.reduceEq, String.reduceNe, ne_eq, not_false_eq_true, not_true_eq_false, decide_false, decide_true, Bool.not_false, Bool.not_true, Bool.or_false, Bool.false_or, Bool.or_true, Bool.true_or, gTupH, wipe, tYes, exists_eq', exists_eq, exists_const, tFor_eq, tLc_eq, tCallX, tMethX, tRaiseOw, tMkOw, tFldOw, mIxA, mLenA, rInO, rNotInO, mLenO, rSetD, tM1, false_or, or_false, tInT, inV_nil, inV_str, flatV_str, flatV_int, flatV_non, mIntB, List.all_cons, List.all_nil, Bool.and_true, Bool.true_and, Bool.and_self, tDisp, tPairs, exk_nil, exk_str, leS0, leS1, leS2, leS3, leS4, leS5, leS6, leS7, leS8, leS9, leS10, leS11, leS12, Nat.reduceLeDiff, mBoolB, rEqNil, ha, T.c_Line, T.f_Line_number, T.f_Line_cause, T.f_Line_state, T.f_Line_queue]
    refine ⟨by decide, by show 1 < 1000; decide, by show 2 < 1000; decide, fun p hp => ?_⟩
    have np : a ≠ p := fun e => by rw [← e, upd_same] at hp; cases hp
    have hp2 : H p = none := by rw [upd_ne np.symm] at hp; exact hp
    simp only [tSeq, tAsg, tRet, tRetN, tIfS, tDrop, tNext, tBreak, tCont, tVar, tC, tOp, tUn, tB, tTest, tAnd, tOr, tNot, tAndV, tOrV, tNotV, tIf, tNil, tCons, tTup, tLst, tCB, tCallR, tMethR, tPropR, StX.tMakeR, tFld, sFld, sFldAug, tPar, tPar3, gName, gNil, gCons, gTup, gSub, rI, rI0, rU, rEq, rNe, mIxL, mIxT, mLenL, mLenT, mLenS, mLenD, mLenK, mList, mTupL, mInt, mAbs, mMax, mMin, mStr, mAddS, mIsN, mNotN, rIxS, rIxL, rSetL, rAppend, rExtendT, rPopAt, rCat, rIn, tBM, tBM0, tChain, tNever, scal, L2.start, cxK, iRng1, iRng2, tDNewK, tDGet, tDGet2, sDPut, tDIn, tDNotIn, DGet_dk, DPut_dk, IsD_dk, tyV_list, isLst_lst, isDk_dk, dkOf_dk, atI_0, atI_1, atI_2, atI_3, ixN_30, ixN_31, ixN_32, List.map, List.replicate, List.length_cons, List.length_nil, List.nil_append, List.cons_append, List.append_nil, Nat.reduceSub, Nat.reduceAdd, List.getElem?_cons_zero, List.getElem?_cons_succ, List.set_cons_zero, List.set_cons_succ, List.cons.injEq, Option.some.injEq, V.int.injEq, V.str.injEq, V.bl.injEq, V.ref.injEq, HO.ins.injEq, HO.lst.injEq, HO.tup.injEq, HO.dK.injEq, exists_eq_left, exists_eq_left', exists_eq_right, exists_eq_right', exists_and_left, exists_and_right, true_and, and_true, and_self, if_true, if_false, Bool.false_eq_true, Bool.true_eq_false, eq_self, reduceCtorEq, false_and, and_false, upd_same, upd_upd, and_assoc, Int.reduceToNat, Int.reducePow, Int.reduceMul, Int.reduceAdd, Int.reduceNeg, mIsi, mIsi2, kdV_non, kdV_bl, kdV_int, kdV_str, kdV_ref, kdO_lst, kdO_tup, kdO_dK, V.ty.injEq, mAll, mAny, kit_NoneType_bool, kit_NoneType_int, kit_NoneType_str, kit_NoneType_list, kit_NoneType_tuple, kit_NoneType_dict, kit_bool_bool, kit_bool_int, kit_bool_str, kit_bool_list, kit_bool_tuple, kit_bool_dict, kit_int_bool, kit_int_int, kit_int_str, kit_int_list, kit_int_tuple, kit_int_dict, kit_str_bool, kit_str_int, kit_str_str, kit_str_list, kit_str_tuple, kit_str_dict, kit_list_bool, kit_list_int, kit_list_str, kit_list_list, kit_list_tuple, kit_list_dict, kit_tuple_bool, kit_tuple_int, kit_tuple_str, kit_tuple_list, kit_tuple_tuple, kit_tuple_dict, kit_dict_bool, kit_dict_int, kit_dict_str, kit_dict_list, kit_dict_tuple, kit_dict_dict, String.reduceEq, String.reduceNe, ne_eq, not_false_eq_true, not_true_eq_false, decide_false, decide_true, Bool.not_false, Bool.not_true, Bool.or_false, Bool.false_or, Bool.or_true, Bool.true_or, gTupH, wipe, tYes, exists_eq', exists_eq, exists_const, tFor_eq, tLc_eq, tCallX, tMethX, tRaiseOw, tMkOw, tFldOw, mIxA, mLenA, rInO, rNotInO, mLenO, rSetD, tM1, false_or, or_false, tInT, inV_nil, inV_str, flatV_str, flatV_int, flatV_non, mIntB, List.all_cons, List.all_nil, Bool.and_true, Bool.true_and, Bool.and_self, tDisp, tPairs, exk_nil, exk_str, leS0, leS1, leS2, leS3, leS4, leS5, leS6, leS7, leS8, leS9, leS10, leS11, leS12, Nat.reduceLeDiff, mBoolB, rEqNil, upd_ne np, T.c_Line, T.f_Line_queue, T.f_Line_sending, T.f_Line_is_lent, lp_all]
    refine ⟨by show 3 < 1000; decide, by show 4 < 1000; decide, by show 5 < 1000; decide, k _ p hp2 ⟨⟨dx, upd_same⟩, ?_, np, Nat.zero_le _⟩ fun b o z h => ?_⟩
    · rw [upd_ne np.symm, upd_same]; rfl
    · rw [upd_ne z, upd_ne (ne_of_none h hp2), upd_ne z]; exact h
theorem R_Line_init1 {w : World} {K : PySem.W.Frag} {mg : Str → Option Value} {base : Heap} (T : Tx K mg) : FnR Pg w K mg base CX0 1 (He.ma K (He.ga K "Line") "__init__") (fun vs H Q E => sp_Line_init K vs H Q E) := by
  obtain ⟨fd, F⟩ := T.d_Line___init__
  refine FnR.imp (My.FunD.Rd (sp := sp_Line_init K) 2 1 F sc_Line___init__ (fun vs H Q E h => by obtain ⟨a, dx, n, rfl, _⟩ := h; rfl) (by intro h; cases h) rfl (fun T kV doc pm an cdv ct us its h1 h2 => ?_) (fun cdv A outer s H vs Q E hr h => ?_)) fun vs H Q E h => ?_
  · match us, its, h1, h2 with
    | [_, _], [_], _, _ => exact ⟨_, rfl, rfl⟩
  · obtain ⟨a, dx, n, rfl, ha, k⟩ := h
    refine ⟨_, (pss_cons (ps_fld (pv 0) (pv 1) rfl)
      (pss_cons (ps_fld (pv 0) pe_non rfl)
      (pss_cons (ps_fld (pv 0) pe_str rfl)
      (pss_cons (ps_fld (pv 0) (pe_lst pa_nil) rfl)
      (pss_cons (ps_fld (pv 0) pe_str rfl)
      (pss_one (ps_fld (pv 0) pe_bl rfl))))))), ?_⟩
    simp only [tSeq, tAsg, tRet, tRetN, tIfS, tDrop, tNext, tBreak, tCont, tVar, tC, tOp, tUn, tB, tTest, tAnd, tOr, tNot, tAndV, tOrV, tNotV, tIf, tNil, tCons, tTup, tLst, tCB, tCallR, tMethR, tPropR, StX.tMakeR, tFld, sFld, sFldAug, tPar, tPar3, gName, gNil, gCons, gTup, gSub, rI, rI0, rU, rEq, rNe, mIxL, mIxT, mLenL, mLenT, mLenS, mLenD, mLenK, mList, mTupL, mInt, mAbs, mMax, mMin, mStr, mAddS, mIsN, mNotN, rIxS, rIxL, rSetL, rAppend, rExtendT, rPopAt, rCat, rIn, tBM, tBM0, tChain, tNever, scal, L2.start, cxK, iRng1, iRng2, tDNewK, tDGet, tDGet2, sDPut, tDIn, tDNotIn, DGet_dk, DPut_dk, IsD_dk, tyV_list, isLst_lst, isDk_dk, dkOf_dk, atI_0, atI_1, atI_2, atI_3, ixN_30, ixN_31, ixN_32, List.map, List.replicate, List.length_cons, List.length_nil, List.nil_append, List.cons_append, List.append_nil, Nat.reduceSub, Nat.reduceAdd, List.getElem?_cons_zero, List.getElem?_cons_succ, List.set_cons_zero, List.set_cons_succ, List.cons.injEq, Option.some.injEq, V.int.injEq, V.str.injEq, V.bl.injEq, V.ref.injEq, HO.ins.injEq, HO.lst.injEq, HO.tup.injEq, HO.dK.injEq, exists_eq_left, exists_eq_left', exists_eq_right, exists_eq_right', exists_and_left, exists_and_right, true_and, and_true, and_self, if_true, if_false, Bool.false_eq_true, Bool.true_eq_false, eq_self, reduceCtorEq, false_and, and_false, upd_same, upd_upd, and_assoc, Int.reduceToNat, Int.reducePow, Int.reduceMul, Int.reduceAdd, Int.reduceNeg, mIsi, mIsi2, kdV_non, kdV_bl, kdV_int, kdV_str, kdV_ref, kdO_lst, kdO_tup, kdO_dK, V.ty.injEq, mAll, mAny, kit_NoneType_bool, kit_NoneType_int, kit_NoneType_str, kit_NoneType_list, kit_NoneType_tuple, kit_NoneType_dict, kit_bool_bool, kit_bool_int, kit_bool_str, kit_bool_list, kit_bool_tuple, kit_bool_dict, kit_int_bool, kit_int_int, kit_int_str, kit_int_list, kit_int_tuple, kit_int_dict, kit_str_bool, kit_str_int, kit_str_str, kit_str_list, kit_str_tuple, kit_str_dict, kit_list_bool, kit_list_int, kit_list_str, kit_list_list, kit_list_tuple, kit_list_dict, kit_tuple_bool, kit_tuple_int, kit_tuple_str, kit_tuple_list, kit_tuple_tuple, kit_tuple_dict, kit_dict_bool, kit_dict_int, kit_dict_str, kit_dict_list, kit_dict_tuple, kit_dict_dict, String.reduceEq, String.reduceNe, ne_eq, not_false_eq_true, not_true_eq_false, decide_false, decide_true, Bool.not_false, Bool.not_true, Bool.or_false, Bool.false_or, Bool.or_true, Bool.true_or, gTupH, wipe, tYes, exists_eq', exists_eq, exists_const, tFor_eq, tLc_eq, tCallX, tMethX, tRaiseOw, tMkOw, tFldOw, mIxA, mLenA, rInO, rNotInO, mLenO, rSetD, tM1, false_or, or_false, tInT, inV_nil, inV_str, flatV_str, flatV_int, flatV_non, mIntB, List.all_cons, List.all_nil, Bool.and_true, Bool.true_and, Bool.and_self, tDisp, tPairs, exk_nil, exk_str, leS0, leS1, leS2, leS3, leS4, leS5, leS6, leS7, leS8, leS9, leS10, leS11, leS12, Nat.reduceLeDiff, mBoolB, rEqNil, ha, T.c_Line, T.f_Line_number, T.f_Line_cause, T.f_Line_state, T.f_Line_queue]
    refine ⟨by decide, by show 1 < 1000; decide, by show 2 < 1000; decide, fun p hp => ?_⟩
    have np : a ≠ p := fun e => by rw [← e, upd_same] at hp; cases hp
    have hp2 : H p = none := by rw [upd_ne np.symm] at hp; exact hp
    simp only [tSeq, tAsg, tRet, tRetN, tIfS, tDrop, tNext, tBreak, tCont, tVar, tC, tOp, tUn, tB, tTest, tAnd, tOr, tNot, tAndV, tOrV, tNotV, tIf, tNil, tCons, tTup, tLst, tCB, tCallR, tMethR, tPropR, StX.tMakeR, tFld, sFld, sFldAug, tPar, tPar3, gName, gNil, gCons, gTup, gSub, rI, rI0, rU, rEq, rNe, mIxL, mIxT, mLenL, mLenT, mLenS, mLenD, mLenK, mList, mTupL, mInt, mAbs, mMax, mMin, mStr, mAddS, mIsN, mNotN, rIxS, rIxL, rSetL, rAppend, rExtendT, rPopAt, rCat, rIn, tBM, tBM0, tChain, tNever, scal, L2.start, cxK, iRng1, iRng2, tDNewK, tDGet, tDGet2, sDPut, tDIn, tDNotIn, DGet_dk, DPut_dk, IsD_dk, tyV_list, isLst_lst, isDk_dk, dkOf_dk, atI_0, atI_1, atI_2, atI_3, ixN_30, ixN_31, ixN_32, List.map, List.replicate, List.length_cons, List.length_nil, List.nil_append, List.cons_append, List.append_nil, Nat.reduceSub, Nat.reduceAdd, List.getElem?_cons_zero, List.getElem?_cons_succ, List.set_cons_zero, List.set_cons_succ, List.cons.injEq, Option.some.injEq, V.int.injEq, V.str.injEq, V.bl.injEq, V.ref.injEq, HO.ins.injEq, HO.lst.injEq, HO.tup.injEq, HO.dK.injEq, exists_eq_left, exists_eq_left', exists_eq_right, exists_eq_right', exists_and_left, exists_and_right, true_and, and_true, and_self, if_true, if_false, Bool.false_eq_true, Bool.true_eq_false, eq_self, reduceCtorEq, false_and, and_false, upd_same, upd_upd, and_assoc, Int.reduceToNat, Int.reducePow, Int.reduceMul, Int.reduceAdd, Int.reduceNeg, mIsi, mIsi2, kdV_non, kdV_bl, kdV_int, kdV_str, kdV_ref, kdO_lst, kdO_tup, kdO_dK, V.ty.injEq, mAll, mAny, kit_NoneType_bool, kit_NoneType_int, kit_NoneType_str, kit_NoneType_list, kit_NoneType_tuple, kit_NoneType_dict, kit_bool_bool, kit_bool_int, kit_bool_str, kit_bool_list, kit_bool_tuple, kit_bool_dict, kit_int_bool, kit_int_int, kit_int_str, kit_int_list, kit_int_tuple, kit_int_dict, kit_str_bool, kit_str_int, kit_str_str, kit_str_list, kit_str_tuple, kit_str_dict, kit_list_bool, kit_list_int, kit_list_str, kit_list_list, kit_list_tuple, kit_list_dict, kit_tuple_bool, kit_tuple_int, kit_tuple_str, kit_tuple_list, kit_tuple_tuple, kit_tuple_dict, kit_dict_bool, kit_dict_int, kit_dict_str, kit_dict_list, kit_dict_tuple, kit_dict_dict, String.reduceEq, String.reduceNe, ne_eq, not_false_eq_true, not_true_eq_false, decide_false, decide_true, Bool.not_false, Bool.not_true, Bool.or_false, Bool.false_or, Bool.or_true, Bool.true_or, gTupH, wipe, tYes, exists_eq', exists_eq, exists_const, tFor_eq, tLc_eq, tCallX, tMethX, tRaiseOw, tMkOw, tFldOw, mIxA, mLenA, rInO, rNotInO, mLenO, rSetD, tM1, false_or, or_false, tInT, inV_nil, inV_str, flatV_str, flatV_int, flatV_non, mIntB, List.all_cons, List.all_nil, Bool.and_true, Bool.true_and, Bool.and_self, tDisp, tPairs, exk_nil, exk_str, leS0, leS1, leS2, leS3, leS4, leS5, leS6, leS7, leS8, leS9, leS10, leS11, leS12, Nat.reduceLeDiff, mBoolB, rEqNil, upd_ne np, T.c_Line, T.f_Line_queue, T.f_Line_sending, T.f_Line_is_lent, lp_all]
    refine ⟨by show 3 < 1000; decide, by show 4 < 1000; decide, by show 5 < 1000; decide, k _ p hp2 ⟨⟨dx, upd_same⟩, ?_, np, Nat.zero_le _⟩ fun b o z h => ?_⟩
    · rw [upd_ne np.symm, upd_same]; rfl
    · rw [upd_ne z, upd_ne (ne_of_none h hp2), upd_ne z]; exact h
  · show sp_Line_init K (vs ++ []) H Q E
    rw [List.append_nil]; exact h

end K31

set_option Elab.async false
set_option linter.all false
set_option maxRecDepth 100000
set_option maxHeartbeats 4000000
namespace K31
open PySem PySem.Spec PyProof.Rows L2 My
def BagL (l : List V) (n : Nat) : Prop := ∃ x0 x1 x2 : Int, l = [.int x0, .int x1, .int x2] ∧ 0 ≤ x0 ∧ 0 ≤ x1 ∧ x1 < 2 ^ 40 ∧ 0 ≤ x2 ∧ x2 ≤ n
theorem cmulR {i j : Int} (h1 : 0 ≤ j) (h2 : j < 2 ^ 60) : CMul i j := Or.inr ⟨by omega, by omega⟩
theorem cmulL {i j : Int} (h1 : 0 ≤ i) (h2 : i < 2 ^ 60) : CMul i j := Or.inl ⟨by omega, by omega⟩
theorem cdivW {i j : Int} (h1 : 0 < j) (h2 : j < 2 ^ 200) : CDivW i j := wide_div (b := 200) h1 (by omega) (by decide) (by decide)
theorem pow60 : (2 : Nat) ^ 60 ≤ 2 ^ 4096 := Nat.pow_le_pow_right (by decide) (by decide)
theorem cpow {i j : Int} (h1 : 0 ≤ i) (h2 : i < 2 ^ 60) (h3 : 0 ≤ j) (h4 : j ≤ 64) : CPowW i j := ⟨h3, h4, Nat.lt_of_lt_of_le (show i.natAbs < 2 ^ 60 by omega) pow60⟩
def sp_l_draw (_ : PySem.W.Frag) : Sp := fun vs H Q _ => ∃ (b : Addr) (m : Int) (n : Nat) (l : List V), vs = [.ref b, .int m] ∧ H b = some (.lst l) ∧ BagL l n ∧ 0 < m ∧ m < 2 ^ 60 ∧ n ≤ 1000000 ∧ ∀ (r : Int) (l' : List V), 0 ≤ r → r < m → BagL l' (n + 1) → Q (.int r) (upd H b (.lst l'))
theorem R_l_draw {w : World} {K : PySem.W.Frag} {mg : Str → Option Value} {base : Heap} (T : Tx K mg) : FnR Pg w K mg base CX0 1 (He.ga K "_law_draw") (sp_l_draw K) := by
  obtain ⟨fd, F⟩ := T.d_l_draw
  refine My.FunD.R F sc_l_draw (fun vs H Q E h => by obtain ⟨b, m, n, l, rfl, hb, ⟨x0, x1, x2, rfl, h0, h1, h1', h2, h2'⟩, m0, m1, hn, k⟩ := h; rfl) (fun _ _ _ _ _ _ us hl => match us, hl with | [_, _], _ => rfl) (fun cdv A outer s H vs Q E hr h => ?_)
  obtain ⟨b, m, n, l, rfl, hb, ⟨x0, x1, x2, rfl, h0, h1, h1', h2, h2'⟩, m0, m1, hn, k⟩ := h
  refine ⟨_, (pss_cons (ps_if (pt_cmpR op_gt (pe_ix ixL (pv 0) pe_int (fun _ _ => rfl)) pe_int (nomark _)) (pss_cons (ps_set (i := 2) sc_l_draw.nd rfl (by first | exact Or.inl rfl | exact Or.inr rfl) (pe_op op_mod (pe_callTy int1 (by rfl) T.n_int (by decide +kernel) (pa_cons (pe_ix ixL (pv 0) pe_int (fun _ _ => rfl)) pa_nil)) (pv 1)))
      (pss_cons (ps_asg (pe_op op_fdivW (pe_ix ixL (pv 0) pe_int (fun _ _ => rfl)) (pv 1)) (pg_sub (pv 0) pe_int set_list))
      (pss_one (ps_ret (pv 2))))) pss_nil)
      (pss_cons (ps_set (i := 3) sc_l_draw.nd rfl (by first | exact Or.inl rfl | exact Or.inr rfl) (pe_op op_add (pe_ix ixL (pv 0) pe_int (fun _ _ => rfl)) pe_int))
      (pss_cons (ps_asg (pv 3) (pg_sub (pv 0) pe_int set_list))
      (pss_cons (ps_set (i := 4) sc_l_draw.nd rfl (by first | exact Or.inl rfl | exact Or.inr rfl) (pe_op op_mod (pe_callTy int1 (by rfl) T.n_int (by decide +kernel) (pa_cons (pe_op op_add (pe_op op_add (pe_op op_mul (pe_ix ixL (pv 0) pe_int (fun _ _ => rfl)) pe_int) (pe_op op_mul (pe_op op_mul pe_int (pv 3)) (pv 3))) pe_int) pa_nil)) pe_int))
      (pss_cons (ps_asg (pv 4) (pg_sub (pv 0) pe_int set_list))
      (pss_one (ps_ret (pe_op op_mod (pe_op op_mod (pe_callTy int1 (by rfl) T.n_int (by decide +kernel) (pa_cons (pe_op op_add (pe_op op_powW (pe_op op_fdiv (pv 4) pe_int) pe_int) (pe_op op_fdiv (pv 4) pe_int)) pa_nil)) pe_int) (pv 1))))))))), ?_⟩
  simp only [tSeq, tAsg, tRet, tRetN, tIfS, tDrop, tNext, tBreak, tCont, tVar, tC, tOp, tUn, tB, tTest, tAnd, tOr, tNot, tAndV, tOrV, tNotV, tIf, tNil, tCons, tTup, tLst, tCB, tCallR, tMethR, tPropR, StX.tMakeR, tFld, sFld, sFldAug, tPar, tPar3, gName, gNil, gCons, gTup, gSub, rI, rI0, rU, rEq, rNe, mIxL, mIxT, mLenL, mLenT, mLenS, mLenD, mLenK, mList, mTupL, mInt, mAbs, mMax, mMin, mStr, mAddS, mIsN, mNotN, rIxS, rIxL, rSetL, rAppend, rExtendT, rPopAt, rCat, rIn, tBM, tBM0, tChain, tNever, scal, L2.start, cxK, iRng1, iRng2, tDNewK, tDGet, tDGet2, sDPut, tDIn, tDNotIn, DGet_dk, DPut_dk, IsD_dk, tyV_list, isLst_lst, isDk_dk, dkOf_dk, atI_0, atI_1, atI_2, atI_3, ixN_30, ixN_31, ixN_32, List.map, List.replicate, List.length_cons, List.length_nil, List.nil_append, List.cons_append, List.append_nil, Nat.reduceSub, Nat.reduceAdd, List.getElem?_cons_zero, List.getElem?_cons_succ, List.set_cons_zero, List.set_cons_succ, List.cons.injEq, Option.some.injEq, V.int.injEq, V.str.injEq, V.bl.injEq, V.ref.injEq, HO.ins.injEq, HO.lst.injEq, HO.tup.injEq, HO.dK.injEq, exists_eq_left, exists_eq_left', exists_eq_right, exists_eq_right', exists_and_left, exists_and_right, true_and, and_true, and_self, if_true, if_false, Bool.false_eq_true, Bool.true_eq_false, eq_self, reduceCtorEq, false_and, and_false, upd_same, upd_upd, and_assoc, Int.reduceToNat, Int.reducePow, Int.reduceMul, Int.reduceAdd, Int.reduceNeg, mIsi, mIsi2, kdV_non, kdV_bl, kdV_int, kdV_str, kdV_ref, kdO_lst, kdO_tup, kdO_dK, V.ty.injEq, mAll, mAny, kit_NoneType_bool, kit_NoneType_int, kit_NoneType_str, kit_NoneType_list, kit_NoneType_tuple, kit_NoneType_dict, kit_bool_bool, kit_bool_int, kit_bool_str, kit_bool_list, kit_bool_tuple, kit_bool_dict, kit_int_bool, kit_int_int, kit_int_str, kit_int_list, kit_int_tuple, kit_int_dict, kit_str_bool, kit_str_int, kit_str_str, kit_str_list, kit_str_tuple, kit_str_dict, kit_list_bool, kit_list_int, kit_list_str, kit_list_list, kit_list_tuple, kit_list_dict, kit_tuple_bool, kit_tuple_int, kit_tuple_str, kit_tuple_list, kit_tuple_tuple, kit_tuple_dict, kit_dict_bool, kit_dict_int, kit_dict_str, kit_dict_list, kit_dict_tuple, kit_dict_dict, String.reduceEq, String.reduceNe, ne_eq, not_false_eq_true, not_true_eq_false, decide_false, decide_true, Bool.not_false, Bool.not_true, Bool.or_false, Bool.false_or, Bool.or_true, Bool.true_or, gTupH, wipe, tYes, exists_eq', exists_eq, exists_const, tFor_eq, tLc_eq, tCallX, tMethX, tRaiseOw, tMkOw, tFldOw, mIxA, mLenA, rInO, rNotInO, mLenO, rSetD, tM1, false_or, or_false, tInT, inV_nil, inV_str, flatV_str, flatV_int, flatV_non, mIntB, List.all_cons, List.all_nil, Bool.and_true, Bool.true_and, Bool.and_self, tDisp, tPairs, exk_nil, exk_str, leS0, leS1, leS2, leS3, leS4, leS5, leS6, leS7, leS8, leS9, leS10, leS11, leS12, Nat.reduceLeDiff, mBoolB, rEqNil, hb]
  refine ite_dec (fun g => ?_) (fun g => ?_)
  · refine ⟨m0, cdivW m0 (by omega), k _ _ (Int.emod_nonneg _ (by omega)) (Int.emod_lt_of_pos _ m0) ⟨_, x1, x2, rfl, Int.ediv_nonneg h0 (by omega), h1, h1', h2, by omega⟩⟩
  · have e1 : 0 ≤ (x1 * 40692 + 12211 * (x2 + 1) * (x2 + 1) + 77) % 2147483399 := Int.emod_nonneg _ (by decide)
    have e2 : (x1 * 40692 + 12211 * (x2 + 1) * (x2 + 1) + 77) % 2147483399 < 2147483399 := Int.emod_lt_of_pos _ (by decide)
    generalize (x1 * 40692 + 12211 * (x2 + 1) * (x2 + 1) + 77) % 2147483399 = y at e1 e2 ⊢
    refine ⟨cmulL h1 (by omega), cmulL (by decide) (by decide), cmulR (by omega) (by omega), by decide, ⟨by decide, by decide⟩, cpow (by omega) (by omega) (by decide) (by decide), ⟨by decide, by decide⟩, by decide, m0, k _ _ (Int.emod_nonneg _ (by omega)) (Int.emod_lt_of_pos _ m0) ⟨x0, y, x2 + 1, rfl, h0, e1, by omega, by omega, by omega⟩⟩
def sp_l_source (K : PySem.W.Frag) : Sp := fun vs H Q _ => ∃ (a : Addr) (ns : List Int) (i : Nat), vs = [.ref a, .int (i : Int)] ∧ SqL K H a (ns.map V.int) ∧ i ≤ 1000 ∧ ∀ (p : Addr) (l : List V), H p = none → BagL l 0 → Q (.ref p) (upd H p (.lst l))
theorem bag0 {c z : Int} {i : Nat} (hc : 0 ≤ c) (hi : i ≤ 1000) : BagL [.int c, .int (z % 2147483579 + 9176 * (i : Int) + 41), .int 0] 0 := by
  have e1 : 0 ≤ z % 2147483579 := Int.emod_nonneg _ (by decide)
  have e2 : z % 2147483579 < 2147483579 := Int.emod_lt_of_pos _ (by decide)
  exact ⟨c, _, 0, rfl, hc, by omega, by omega, by omega, by omega⟩
theorem R_l_source {w : World} {K : PySem.W.Frag} {mg : Str → Option Value} {base : Heap} (T : Tx K mg) : FnR Pg w K mg base CX0 1 (He.ga K "_law_source") (sp_l_source K) := by
  obtain ⟨fd, F⟩ := T.d_l_source
  refine My.FunD.R F sc_l_source (fun vs H Q E h => by obtain ⟨a, ns, i, rfl, hS, hi, k⟩ := h; rfl) (fun _ _ _ _ _ _ us hl => match us, hl with | [_, _], _ => rfl) (fun cdv A outer s H vs Q E hr h => ?_)
  obtain ⟨a, ns, i, rfl, hS, hi, k⟩ := h
  refine ⟨_, (pss_cons (ps_set (i := 2) sc_l_source.nd rfl (by first | exact Or.inl rfl | exact Or.inr rfl) (pe_ifExp (pt_cmpR op_lt (pv 1) (pe_callB lenK (by rfl) T.n_len (by decide +kernel) (pa_cons (pv 0) pa_nil)) (nomark _)) (pe_callTy int1 (by rfl) T.n_int (by decide +kernel) (pa_cons (pe_ix ix_list (pv 0) (pv 1) (fun _ _ => rfl)) pa_nil)) pe_int))
      (pss_cons (ps_set (i := 3) sc_l_source.nd rfl (by first | exact Or.inl rfl | exact Or.inr rfl) (pe_ifExp (pt_cmpR op_ge (pe_callB abs1 (by rfl) T.n_abs (by decide +kernel) (pa_cons (pv 2) pa_nil)) (pe_op op_powW pe_int pe_int) (nomark _)) (pe_callB abs1 (by rfl) T.n_abs (by decide +kernel) (pa_cons (pv 2) pa_nil)) pe_int))
      (pss_one (ps_ret (pe_lst (pa_cons (pv 3) (pa_cons (pe_op op_add (pe_op op_add (pe_op op_mod (pe_callTy int1 (by rfl) T.n_int (by decide +kernel) (pa_cons (pv 2) pa_nil)) pe_int) (pe_op op_mul pe_int (pv 1))) pe_int) (pa_cons pe_int pa_nil)))))))), ?_⟩
  simp only [tSeq, tAsg, tRet, tRetN, tIfS, tDrop, tNext, tBreak, tCont, tVar, tC, tOp, tUn, tB, tTest, tAnd, tOr, tNot, tAndV, tOrV, tNotV, tIf, tNil, tCons, tTup, tLst, tCB, tCallR, tMethR, tPropR, StX.tMakeR, tFld, sFld, sFldAug, tPar, tPar3, gName, gNil, gCons, gTup, gSub, rI, rI0, rU, rEq, rNe, mIxL, mIxT, mLenL, mLenT, mLenS, mLenD, mLenK, mList, mTupL, mInt, mAbs, mMax, mMin, mStr, mAddS, mIsN, mNotN, rIxS, rIxL, rSetL, rAppend, rExtendT, rPopAt, rCat, rIn, tBM, tBM0, tChain, tNever, scal, L2.start, cxK, iRng1, iRng2, tDNewK, tDGet, tDGet2, sDPut, tDIn, tDNotIn, DGet_dk, DPut_dk, IsD_dk, tyV_list, isLst_lst, isDk_dk, dkOf_dk, atI_0, atI_1, atI_2, atI_3, ixN_30, ixN_31, ixN_32, List.map, List.replicate, List.length_cons, List.length_nil, List.nil_append, List.cons_append, List.append_nil, Nat.reduceSub, Nat.reduceAdd, List.getElem?_cons_zero, List.getElem?_cons_succ, List.set_cons_zero, List.set_cons_succ, List.cons.injEq, Option.some.injEq, V.int.injEq, V.str.injEq, V.bl.injEq, V.ref.injEq, HO.ins.injEq, HO.lst.injEq, HO.tup.injEq, HO.dK.injEq, exists_eq_left, exists_eq_left', exists_eq_right, exists_eq_right', exists_and_left, exists_and_right, true_and, and_true, and_self, if_true, if_false, Bool.false_eq_true, Bool.true_eq_false, eq_self, reduceCtorEq, false_and, and_false, upd_same, upd_upd, and_assoc, Int.reduceToNat, Int.reducePow, Int.reduceMul, Int.reduceAdd, Int.reduceNeg, mIsi, mIsi2, kdV_non, kdV_bl, kdV_int, kdV_str, kdV_ref, kdO_lst, kdO_tup, kdO_dK, V.ty.injEq, mAll, mAny, kit_NoneType_bool, kit_NoneType_int, kit_NoneType_str, kit_NoneType_list, kit_NoneType_tuple, kit_NoneType_dict, kit_bool_bool, kit_bool_int, kit_bool_str, kit_bool_list, kit_bool_tuple, kit_bool_dict, kit_int_bool, kit_int_int, kit_int_str, kit_int_list, kit_int_tuple, kit_int_dict, kit_str_bool, kit_str_int, kit_str_str, kit_str_list, kit_str_tuple, kit_str_dict, kit_list_bool, kit_list_int, kit_list_str, kit_list_list, kit_list_tuple, kit_list_dict, kit_tuple_bool, kit_tuple_int, kit_tuple_str, kit_tuple_list, kit_tuple_tuple, kit_tuple_dict, kit_dict_bool, kit_dict_int, kit_dict_str, kit_dict_list, kit_dict_tuple, kit_dict_dict, String.reduceEq, String.reduceNe, ne_eq, not_false_eq_true, not_true_eq_false, decide_false, decide_true, Bool.not_false, Bool.not_true, Bool.or_false, Bool.false_or, Bool.or_true, Bool.true_or, gTupH, wipe, tYes, exists_eq', exists_eq, exists_const, tFor_eq, tLc_eq, tCallX, tMethX, tRaiseOw, tMkOw, tFldOw, mIxA, mLenA, rInO, rNotInO, mLenO, rSetD, tM1, false_or, or_false, tInT, inV_nil, inV_str, flatV_str, flatV_int, flatV_non, mIntB, List.all_cons, List.all_nil, Bool.and_true, Bool.true_and, Bool.and_self, tDisp, tPairs, exk_nil, exk_str, leS0, leS1, leS2, leS3, leS4, leS5, leS6, leS7, leS8, leS9, leS10, leS11, leS12, Nat.reduceLeDiff, mBoolB, rEqNil]
  have c1 : CPowW 10 18 := cpow (by decide) (by decide) (by decide) (by decide)
  have c2 : CMul 9176 (i : Int) := cmulL (by decide) (by decide)
  refine ⟨_, hS, ite_dec (fun g => ?_) (fun g => ?_)⟩
  · have hi' : i < ns.length := by rw [List.length_map] at g; omega
    refine ⟨_, hS, _, atI_cell hi', _, rfl, c1, ite_dec (fun g2 => ?_) (fun g2 => ?_)⟩
    · exact ⟨by decide, c2, fun p hp => k p _ hp (bag0 (by split <;> omega) hi)⟩
    · exact ⟨by decide, c2, fun p hp => k p _ hp (bag0 (by decide) hi)⟩
  · refine ⟨c1, ite_dec (fun g2 => ?_) (fun g2 => ?_)⟩
    · exact ⟨by decide, c2, fun p hp => k p _ hp (bag0 (z := 0) (by decide) hi)⟩
    · exact ⟨by decide, c2, fun p hp => k p _ hp (bag0 (z := 0) (by decide) hi)⟩
theorem bag_up {l : List V} {n m : Nat} (h : BagL l n) (hm : n ≤ m) : BagL l m := by
  obtain ⟨x0, x1, x2, e, h0, h1, h2, h3, h4⟩ := h
  exact ⟨x0, x1, x2, e, h0, h1, h2, h3, by omega⟩

theorem atI_mem {α : Type} {xs : List α} {i : Int} (h0 : 0 ≤ i) (h1 : i < xs.length) : ∃ v, atI xs i = some v ∧ v ∈ xs := by
  obtain ⟨n, rfl⟩ := Int.eq_ofNat_of_zero_le h0
  have hn : n < xs.length := by omega
  refine ⟨xs[n], ?_, List.getElem_mem hn⟩
  unfold atI ixN
  rw [if_pos h0, if_pos (by omega)]
  simp [hn]
def sp_l_of (_ : PySem.W.Frag) : Sp := fun vs H Q _ => ∃ (b : Addr) (n : Nat) (l : List V) (x : V), vs = [.ref b, x] ∧ H b = some (.lst l) ∧ BagL l n ∧ n ≤ 1000000 ∧
  ((∃ p xs, x = .ref p ∧ p ≠ b ∧ H p = some (.lst xs) ∧ xs ≠ [] ∧ xs.length ≤ 1000000 ∧ ∀ (v : V) (l' : List V), v ∈ xs → BagL l' (n + 1) → Q v (upd H b (.lst l'))) ∨
   ∃ z : Str, x = .str z ∧ 0 < z.length ∧ z.length ≤ 1000000 ∧ ∀ (c : Nat) (l' : List V), BagL l' (n + 1) → Q (.str ⟨#[c]⟩) (upd H b (.lst l')))
theorem R_l_of {w : World} {K : PySem.W.Frag} {mg : Str → Option Value} {base : Heap} (T : Tx K mg) : FnR Pg w K mg base CX0 3 (He.ga K "_law_of") (sp_l_of K) := by
  obtain ⟨fd, F⟩ := T.d_l_of
  refine My.FunD.R F sc_l_of (fun vs H Q E h => by obtain ⟨b, n, l, x, rfl, hb, hB, hn, hx⟩ := h; rfl) (fun _ _ _ _ _ _ us hl => match us, hl with | [_, _], _ => rfl) (fun cdv A outer s H vs Q E hr h => ?_)
  obtain ⟨b, n, l, x, rfl, hb, hB, hn, hx⟩ := h
  refine ⟨_, (pss_one (ps_ret (pe_ix ixA (pv 1) (pe_callR (R_l_draw T) (hr.mono (by decide)) rfl T.g__law_draw T.k__law_draw pass0 (pa_cons (pv 0) (pa_cons (pe_callB lenA (by rfl) T.n_len (by decide +kernel) (pa_cons (pv 1) pa_nil)) pa_nil))) (fun _ _ => rfl)))), ?_⟩
  rcases hx with ⟨p, xs, rfl, hne, hp, h0, h1, k⟩ | ⟨z, rfl, h0, h1, k⟩
  · simp only [tSeq, tAsg, tRet, tRetN, tIfS, tDrop, tNext, tBreak, tCont, tVar, tC, tOp, tUn, tB, tTest, tAnd, tOr, tNot, tAndV, tOrV, tNotV, tIf, tNil, tCons, tTup, tLst, tCB, tCallR, tMethR, tPropR, StX.tMakeR, tFld, sFld, sFldAug, tPar, tPar3, gName, gNil, gCons, gTup, gSub, rI, rI0, rU, rEq, rNe, mIxL, mIxT, mLenL, mLenT, mLenS, mLenD, mLenK, mList, mTupL, mInt, mAbs, mMax, mMin, mStr, mAddS, mIsN, mNotN, rIxS, rIxL, rSetL, rAppend, rExtendT, rPopAt, rCat, rIn, tBM, tBM0, tChain, tNever, scal, L2.start, cxK, iRng1, iRng2, tDNewK, tDGet, tDGet2, sDPut, tDIn, tDNotIn, DGet_dk, DPut_dk, IsD_dk, tyV_list, isLst_lst, isDk_dk, dkOf_dk, atI_0, atI_1, atI_2, atI_3, ixN_30, ixN_31, ixN_32, List.map, List.replicate, List.length_cons, List.length_nil, List.nil_append, List.cons_append, List.append_nil, Nat.reduceSub, Nat.reduceAdd, List.getElem?_cons_zero, List.getElem?_cons_succ, List.set_cons_zero, List.set_cons_succ, List.cons.injEq, Option.some.injEq, V.int.injEq, V.str.injEq, V.bl.injEq, V.ref.injEq, HO.ins.injEq, HO.lst.injEq, HO.tup.injEq, HO.dK.injEq, exists_eq_left, exists_eq_left', exists_eq_right, exists_eq_right', exists_and_left, exists_and_right, true_and, and_true, and_self, if_true, if_false, Bool.false_eq_true, Bool.true_eq_false, eq_self, reduceCtorEq, false_and, and_false, upd_same, upd_upd, and_assoc, Int.reduceToNat, Int.reducePow, Int.reduceMul, Int.reduceAdd, Int.reduceNeg, mIsi, mIsi2, kdV_non, kdV_bl, kdV_int, kdV_str, kdV_ref, kdO_lst, kdO_tup, kdO_dK, V.ty.injEq, mAll, mAny, kit_NoneType_bool, kit_NoneType_int, kit_NoneType_str, kit_NoneType_list, kit_NoneType_tuple, kit_NoneType_dict, kit_bool_bool, kit_bool_int, kit_bool_str, kit_bool_list, kit_bool_tuple, kit_bool_dict, kit_int_bool, kit_int_int, kit_int_str, kit_int_list, kit_int_tuple, kit_int_dict, kit_str_bool, kit_str_int, kit_str_str, kit_str_list, kit_str_tuple, kit_str_dict, kit_list_bool, kit_list_int, kit_list_str, kit_list_list, kit_list_tuple, kit_list_dict, kit_tuple_bool, kit_tuple_int, kit_tuple_str, kit_tuple_list, kit_tuple_tuple, kit_tuple_dict, kit_dict_bool, kit_dict_int, kit_dict_str, kit_dict_list, kit_dict_tuple, kit_dict_dict, String.reduceEq, String.reduceNe, ne_eq, not_false_eq_true, not_true_eq_false, decide_false, decide_true, Bool.not_false, Bool.not_true, Bool.or_false, Bool.false_or, Bool.or_true, Bool.true_or, gTupH, wipe, tYes, exists_eq', exists_eq, exists_const, tFor_eq, tLc_eq, tCallX, tMethX, tRaiseOw, tMkOw, tFldOw, mIxA, mLenA, rInO, rNotInO, mLenO, rSetD, tM1, false_or, or_false, tInT, inV_nil, inV_str, flatV_str, flatV_int, flatV_non, mIntB, List.all_cons, List.all_nil, Bool.and_true, Bool.true_and, Bool.and_self, tDisp, tPairs, exk_nil, exk_str, leS0, leS1, leS2, leS3, leS4, leS5, leS6, leS7, leS8, leS9, leS10, leS11, leS12, Nat.reduceLeDiff, mBoolB, rEqNil, hp]
    have hpos : 0 < xs.length := List.length_pos_iff.mpr h0
    refine ⟨b, (xs.length : Int), n, l, rfl, hb, hB, by omega, by omega, hn, fun r l' r0 r1 hB' => ?_⟩
    obtain ⟨v, hv, hm⟩ := atI_mem r0 r1
    exact ⟨xs, r, rfl, by rw [upd_ne hne]; exact hp, v, hv, k v l' hm hB'⟩
  · simp only [tSeq, tAsg, tRet, tRetN, tIfS, tDrop, tNext, tBreak, tCont, tVar, tC, tOp, tUn, tB, tTest, tAnd, tOr, tNot, tAndV, tOrV, tNotV, tIf, tNil, tCons, tTup, tLst, tCB, tCallR, tMethR, tPropR, StX.tMakeR, tFld, sFld, sFldAug, tPar, tPar3, gName, gNil, gCons, gTup, gSub, rI, rI0, rU, rEq, rNe, mIxL, mIxT, mLenL, mLenT, mLenS, mLenD, mLenK, mList, mTupL, mInt, mAbs, mMax, mMin, mStr, mAddS, mIsN, mNotN, rIxS, rIxL, rSetL, rAppend, rExtendT, rPopAt, rCat, rIn, tBM, tBM0, tChain, tNever, scal, L2.start, cxK, iRng1, iRng2, tDNewK, tDGet, tDGet2, sDPut, tDIn, tDNotIn, DGet_dk, DPut_dk, IsD_dk, tyV_list, isLst_lst, isDk_dk, dkOf_dk, atI_0, atI_1, atI_2, atI_3, ixN_30, ixN_31, ixN_32, List.map, List.replicate, List.length_cons, List.length_nil, List.nil_append, List.cons_append, List.append_nil, Nat.reduceSub, Nat.reduceAdd, List.getElem?_cons_zero, List.getElem?_cons_succ, List.set_cons_zero, List.set_cons_succ, List.cons.injEq, Option.some.injEq, V.int.injEq, V.str.injEq, V.bl.injEq, V.ref.injEq, HO.ins.injEq, HO.lst.injEq, HO.tup.injEq, HO.dK.injEq, exists_eq_left, exists_eq_left', exists_eq_right, exists_eq_right', exists_and_left, exists_and_right, true_and, and_true, and_self, if_true, if_false, Bool.false_eq_true, Bool.true_eq_false, eq_self, reduceCtorEq, false_and, and_false, upd_same, upd_upd, and_assoc, Int.reduceToNat, Int.reducePow, Int.reduceMul, Int.reduceAdd, Int.reduceNeg, mIsi, mIsi2, kdV_non, kdV_bl, kdV_int, kdV_str, kdV_ref, kdO_lst, kdO_tup, kdO_dK, V.ty.injEq, mAll, mAny, kit_NoneType_bool, kit_NoneType_int, kit_NoneType_str, kit_NoneType_list, kit_NoneType_tuple, kit_NoneType_dict, kit_bool_bool, kit_bool_int, kit_bool_str, kit_bool_list, kit_bool_tuple, kit_bool_dict, kit_int_bool, kit_int_int, kit_int_str, kit_int_list, kit_int_tuple, kit_int_dict, kit_str_bool, kit_str_int, kit_str_str, kit_str_list, kit_str_tuple, kit_str_dict, kit_list_bool, kit_list_int, kit_list_str, kit_list_list, kit_list_tuple, kit_list_dict, kit_tuple_bool, kit_tuple_int, kit_tuple_str, kit_tuple_list, kit_tuple_tuple, kit_tuple_dict, kit_dict_bool, kit_dict_int, kit_dict_str, kit_dict_list, kit_dict_tuple, kit_dict_dict, String.reduceEq, String.reduceNe, ne_eq, not_false_eq_true, not_true_eq_false, decide_false, decide_true, Bool.not_false, Bool.not_true, Bool.or_false, Bool.false_or, Bool.or_true, Bool.true_or, gTupH, wipe, tYes, exists_eq', exists_eq, exists_const, tFor_eq, tLc_eq, tCallX, tMethX, tRaiseOw, tMkOw, tFldOw, mIxA, mLenA, rInO, rNotInO, mLenO, rSetD, tM1, false_or, or_false, tInT, inV_nil, inV_str, flatV_str, flatV_int, flatV_non, mIntB, List.all_cons, List.all_nil, Bool.and_true, Bool.true_and, Bool.and_self, tDisp, tPairs, exk_nil, exk_str, leS0, leS1, leS2, leS3, leS4, leS5, leS6, leS7, leS8, leS9, leS10, leS11, leS12, Nat.reduceLeDiff, mBoolB, rEqNil]
    have hs : z.length ≤ sizeLine := Nat.le_trans h1 (by decide)
    refine ⟨hs, b, (z.length : Int), n, l, rfl, hb, hB, by omega, by omega, hn, fun r l' r0 r1 hB' => ?_⟩
    have hl : z.cps.toList.length = z.length := by simp [Str.length]
    obtain ⟨v, hv, hm⟩ := atI_mem (xs := z.cps.toList) r0 (by rw [hl]; exact r1)
    exact ⟨r, rfl, hs, v, hv, k v l' hB'⟩

mutual
def dpt : Nat → PyData → Bool
  | _, .none => true
  | _, .bool _ => true
  | _, .int _ => true
  | _, .str _ => true
  | 0, .list _ => false
  | 0, .tuple _ => false
  | n + 1, .list ds => decide (ds.length ≤ 100000) && dpts n ds
  | n + 1, .tuple ds => decide (ds.length ≤ 100000) && dpts n ds
  | _, .dict _ => false
def dpts : Nat → List PyData → Bool
  | _, [] => true
  | n, d :: ds => dpt n d && dpts n ds
end
theorem dpts_get : ∀ {n : Nat} {ds : List PyData} {i : Nat} {d : PyData}, dpts n ds = true → ds[i]? = some d → dpt n d = true
  | n, [], i, d, _, h => by cases i <;> cases h
  | n, e :: ds, 0, d, h, hd => by
    injection hd with hd
    subst hd
    rw [dpts] at h
    exact (Bool.and_eq_true_iff.mp h).1
  | n, e :: ds, i + 1, d, h, hd => by
    rw [dpts] at h
    exact dpts_get (i := i) (Bool.and_eq_true_iff.mp h).2 hd
def sp_l_same (n : Nat) : Sp := fun vs H Q _ => ∃ (x y : V) (d : PyData), vs = [x, y] ∧ Da H x d ∧ Da H y d ∧ dpt n d = true ∧ ∀ H', Same H H' → Q (.bl true) H'
theorem R_same_step {w : World} {K : PySem.W.Frag} {mg : Str → Option Value} {base : Heap} (T : Tx K mg) (n : Nat) (ih : FnR Pg w K mg base CX0 (n + 1) (He.ga K "_law_same") (sp_l_same n)) : FnR Pg w K mg base CX0 (n + 2) (He.ga K "_law_same") (sp_l_same (n + 1)) := by
  obtain ⟨fd, F⟩ := T.d_l_same
  refine My.FunD.R F sc_l_same (fun vs H Q E h => by obtain ⟨x, y, d, rfl, _⟩ := h; rfl) (fun _ _ _ _ _ _ us hl => match us, hl with | [_, _], _ => rfl) (fun cdv A outer s H vs Q E hr h => ?_)
  obtain ⟨x, y, d, rfl, hx, hy, hd, k⟩ := h
  refine ⟨_, (pss_cons (ps_if (PW.pt (pw_or (pt_cmpR isN (pv 1) pe_non (nomark _)) (pw_or1 (pt_val (pe_callB isi1 (by rfl) T.n_isinstance (by decide +kernel) (pa_cons (pv 1) (pa_cons (pe_bltn (v := .ty "bool") (by rfl) T.n_bool (by decide +kernel) rfl) pa_nil))))))) (pss_one (ps_ret (pe_ifExp (pt_cmpR isN (pv 1) pe_non (nomark _)) (pe_cmpR isN (pv 0) pe_non (nomark _)) (pe_and (pe_callB isi1 (by rfl) T.n_isinstance (by decide +kernel) (pa_cons (pv 0) (pa_cons (pe_bltn (v := .ty "bool") (by rfl) T.n_bool (by decide +kernel) rfl) pa_nil))) (pe_one (pe_cmpR op_eq (pv 0) (pv 1) (nomark _))))))) pss_nil)
      (pss_cons (ps_if (pt_cmpR op_ne (pe_callB isi1 (by rfl) T.n_isinstance (by decide +kernel) (pa_cons (pv 1) (pa_cons (pe_bltn (v := .ty "tuple") (by rfl) T.n_tuple (by decide +kernel) rfl) pa_nil))) (pe_callB isi1 (by rfl) T.n_isinstance (by decide +kernel) (pa_cons (pv 0) (pa_cons (pe_bltn (v := .ty "tuple") (by rfl) T.n_tuple (by decide +kernel) rfl) pa_nil))) (nomark _)) (pss_one (ps_ret pe_bl)) pss_nil)
      (pss_cons (ps_if (pt_cmpR op_ne (pe_callB isi1 (by rfl) T.n_isinstance (by decide +kernel) (pa_cons (pv 1) (pa_cons (pe_bltn (v := .ty "list") (by rfl) T.n_list (by decide +kernel) rfl) pa_nil))) (pe_callB isi1 (by rfl) T.n_isinstance (by decide +kernel) (pa_cons (pv 0) (pa_cons (pe_bltn (v := .ty "list") (by rfl) T.n_list (by decide +kernel) rfl) pa_nil))) (nomark _)) (pss_one (ps_ret pe_bl)) pss_nil)
      (pss_cons (ps_if (pt_val (pe_callB isi2 (by rfl) T.n_isinstance (by decide +kernel) (pa_cons (pv 1) (pa_cons (pe_tup (pa_cons (pe_bltn (v := .ty "tuple") (by rfl) T.n_tuple (by decide +kernel) rfl) (pa_cons (pe_bltn (v := .ty "list") (by rfl) T.n_list (by decide +kernel) rfl) pa_nil))) pa_nil)))) (pss_one (ps_ret (pe_and (pe_cmpR op_eq (pe_callB call_len (by rfl) T.n_len (by decide +kernel) (pa_cons (pv 0) pa_nil)) (pe_callB call_len (by rfl) T.n_len (by decide +kernel) (pa_cons (pv 1) pa_nil)) (nomark _)) (pe_one (pe_callB (all1 rfl) (by rfl) T.n_all (by decide +kernel) (pa_cons (pe_lc (own := [("_law_one", 2), ("_law_two", 3)]) (g := gTupH 2 (gCons (gName 2) (gCons (gName 3) gNil))) (tt := tYes) rfl sc_l_same.nd (RZ.pi_zipA (by rfl) T.n_zip (pa_cons (pv 0) (pa_cons (pv 1) pa_nil))) (blkOk_by (own := [("_law_one", 2), ("_law_two", 3)]) (N := ["_law_actual", "_law_due_here", "_law_one", "_law_two"]) (sc := defScope s_l_same) (by decide +kernel)) (fun _ _ _ _ _ => by exact (pg_tupH (n := 2) rfl (pgs_cons (pg_name (i := 2) sc_l_same.nd rfl (by first | exact Or.inl rfl | exact Or.inr rfl)) (pgs_cons (pg_name (i := 3) sc_l_same.nd rfl (by first | exact Or.inl rfl | exact Or.inr rfl)) pgs_nil)))) (fun _ _ _ _ _ => by exact pts_nil) (fun _ _ _ _ _ => by exact (pe_callR ih (hr.mono (Nat.le_refl _)) rfl T.g__law_same T.k__law_same pass0 (pa_cons (pv 2) (pa_cons (pv 3) pa_nil))))) pa_nil)))))) pss_nil)
      (pss_cons (ps_if (pt_val (pe_callB isi1 (by rfl) T.n_isinstance (by decide +kernel) (pa_cons (pv 1) (pa_cons (pe_bltn (v := .ty "int") (by rfl) T.n_int (by decide +kernel) rfl) pa_nil)))) (pss_one (ps_ret (pe_and (pe_callB isi1 (by rfl) T.n_isinstance (by decide +kernel) (pa_cons (pv 0) (pa_cons (pe_bltn (v := .ty "int") (by rfl) T.n_int (by decide +kernel) rfl) pa_nil))) (pe_and (pe_not (pe_callB isi1 (by rfl) T.n_isinstance (by decide +kernel) (pa_cons (pv 0) (pa_cons (pe_bltn (v := .ty "bool") (by rfl) T.n_bool (by decide +kernel) rfl) pa_nil)))) (pe_one (pe_cmpR op_eq (pv 0) (pv 1) (nomark _))))))) pss_nil)
      (pss_one (ps_ret (pe_and (pe_callB isi1 (by rfl) T.n_isinstance (by decide +kernel) (pa_cons (pv 0) (pa_cons (pe_bltn (v := .ty "str") (by rfl) T.n_str (by decide +kernel) rfl) pa_nil))) (pe_one (pe_cmpR op_eq (pv 0) (pv 1) (nomark _))))))))))), ?_⟩
  cases hx with
  | non => cases hy with
    | non =>
      simp only [tSeq, tAsg, tRet, tRetN, tIfS, tDrop, tNext, tBreak, tCont, tVar, tC, tOp, tUn, tB, tTest, tAnd, tOr, tNot, tAndV, tOrV, tNotV, tIf, tNil, tCons, tTup, tLst, tCB, tCallR, tMethR, tPropR, StX.tMakeR, tFld, sFld, sFldAug, tPar, tPar3, gName, gNil, gCons, gTup, gSub, rI, rI0, rU, rEq, rNe, mIxL, mIxT, mLenL, mLenT, mLenS, mLenD, mLenK, mList, mTupL, mInt, mAbs, mMax, mMin, mStr, mAddS, mIsN, mNotN, rIxS, rIxL, rSetL, rAppend, rExtendT, rPopAt, rCat, rIn, tBM, tBM0, tChain, tNever, scal, L2.start, cxK, iRng1, iRng2, tDNewK, tDGet, tDGet2, sDPut, tDIn, tDNotIn, DGet_dk, DPut_dk, IsD_dk, tyV_list, isLst_lst, isDk_dk, dkOf_dk, atI_0, atI_1, atI_2, atI_3, ixN_30, ixN_31, ixN_32, List.map, List.replicate, List.length_cons, List.length_nil, List.nil_append, List.cons_append, List.append_nil, Nat.reduceSub, Nat.reduceAdd, List.getElem?_cons_zero, List.getElem?_cons_succ, List.set_cons_zero, List.set_cons_succ, List.cons.injEq, Option.some.injEq, V.int.injEq, V.str.injEq, V.bl.injEq, V.ref.injEq, HO.ins.injEq, HO.lst.injEq, HO.tup.injEq, HO.dK.injEq, exists_eq_left, exists_eq_left', exists_eq_right, exists_eq_right', exists_and_left, exists_and_right, true_and, and_true, and_self, if_true, if_false, Bool.false_eq_true, Bool.true_eq_false, eq_self, reduceCtorEq, false_and, and_false, upd_same, upd_upd, and_assoc, Int.reduceToNat, Int.reducePow, Int.reduceMul, Int.reduceAdd, Int.reduceNeg, mIsi, mIsi2, kdV_non, kdV_bl, kdV_int, kdV_str, kdV_ref, kdO_lst, kdO_tup, kdO_dK, V.ty.injEq, mAll, mAny, kit_NoneType_bool, kit_NoneType_int, kit_NoneType_str, kit_NoneType_list, kit_NoneType_tuple, kit_NoneType_dict, kit_bool_bool, kit_bool_int, kit_bool_str, kit_bool_list, kit_bool_tuple, kit_bool_dict, kit_int_bool, kit_int_int, kit_int_str, kit_int_list, kit_int_tuple, kit_int_dict, kit_str_bool, kit_str_int, kit_str_str, kit_str_list, kit_str_tuple, kit_str_dict, kit_list_bool, kit_list_int, kit_list_str, kit_list_list, kit_list_tuple, kit_list_dict, kit_tuple_bool, kit_tuple_int, kit_tuple_str, kit_tuple_list, kit_tuple_tuple, kit_tuple_dict, kit_dict_bool, kit_dict_int, kit_dict_str, kit_dict_list, kit_dict_tuple, kit_dict_dict, String.reduceEq, String.reduceNe, ne_eq, not_false_eq_true, not_true_eq_false, decide_false, decide_true, Bool.not_false, Bool.not_true, Bool.or_false, Bool.false_or, Bool.or_true, Bool.true_or, gTupH, wipe, tYes, exists_eq', exists_eq, exists_const, tFor_eq, tLc_eq, tCallX, tMethX, tRaiseOw, tMkOw, tFldOw, mIxA, mLenA, rInO, rNotInO, mLenO, rSetD, tM1, false_or, or_false, tInT, inV_nil, inV_str, flatV_str, flatV_int, flatV_non, mIntB, List.all_cons, List.all_nil, Bool.and_true, Bool.true_and, Bool.and_self, tDisp, tPairs, exk_nil, exk_str, leS0, leS1, leS2, leS3, leS4, leS5, leS6, leS7, leS8, leS9, leS10, leS11, leS12, Nat.reduceLeDiff, mBoolB, rEqNil]
      exact k H (Same.refl H)
  | bl b => cases hy with
    | bl b =>
      simp only [tSeq, tAsg, tRet, tRetN, tIfS, tDrop, tNext, tBreak, tCont, tVar, tC, tOp, tUn, tB, tTest, tAnd, tOr, tNot, tAndV, tOrV, tNotV, tIf, tNil, tCons, tTup, tLst, tCB, tCallR, tMethR, tPropR, StX.tMakeR, tFld, sFld, sFldAug, tPar, tPar3, gName, gNil, gCons, gTup, gSub, rI, rI0, rU, rEq, rNe, mIxL, mIxT, mLenL, mLenT, mLenS, mLenD, mLenK, mList, mTupL, mInt, mAbs, mMax, mMin, mStr, mAddS, mIsN, mNotN, rIxS, rIxL, rSetL, rAppend, rExtendT, rPopAt, rCat, rIn, tBM, tBM0, tChain, tNever, scal, L2.start, cxK, iRng1, iRng2, tDNewK, tDGet, tDGet2, sDPut, tDIn, tDNotIn, DGet_dk, DPut_dk, IsD_dk, tyV_list, isLst_lst, isDk_dk, dkOf_dk, atI_0, atI_1, atI_2, atI_3, ixN_30, ixN_31, ixN_32, List.map, List.replicate, List.length_cons, List.length_nil, List.nil_append, List.cons_append, List.append_nil, Nat.reduceSub, Nat.reduceAdd, List.getElem?_cons_zero, List.getElem?_cons_succ, List.set_cons_zero, List.set_cons_succ, List.cons.injEq, Option.some.injEq, V.int.injEq, V.str.injEq, V.bl.injEq, V.ref.injEq, HO.ins.injEq, HO.lst.injEq, HO.tup.injEq, HO.dK.injEq, exists_eq_left, exists_eq_left', exists_eq_right, exists_eq_right', exists_and_left, exists_and_right, true_and, and_true, and_self, if_true, if_false, Bool.false_eq_true, Bool.true_eq_false, eq_self, reduceCtorEq, false_and, and_false, upd_same, upd_upd, and_assoc, Int.reduceToNat, Int.reducePow, Int.reduceMul, Int.reduceAdd, Int.reduceNeg, mIsi, mIsi2, kdV_non, kdV_bl, kdV_int, kdV_str, kdV_ref, kdO_lst, kdO_tup, kdO_dK, V.ty.injEq, mAll, mAny, kit_NoneType_bool, kit_NoneType_int, kit_NoneType_str, kit_NoneType_list, kit_NoneType_tuple, kit_NoneType_dict, kit_bool_bool, kit_bool_int, kit_bool_str, kit_bool_list, kit_bool_tuple, kit_bool_dict, kit_int_bool, kit_int_int, kit_int_str, kit_int_list, kit_int_tuple, kit_int_dict, kit_str_bool, kit_str_int, kit_str_str, kit_str_list, kit_str_tuple, kit_str_dict, kit_list_bool, kit_list_int, kit_list_str, kit_list_list, kit_list_tuple, kit_list_dict, kit_tuple_bool, kit_tuple_int, kit_tuple_str, kit_tuple_list, kit_tuple_tuple, kit_tuple_dict, kit_dict_bool, kit_dict_int, kit_dict_str, kit_dict_list, kit_dict_tuple, kit_dict_dict, String.reduceEq, String.reduceNe, ne_eq, not_false_eq_true, not_true_eq_false, decide_false, decide_true, Bool.not_false, Bool.not_true, Bool.or_false, Bool.false_or, Bool.or_true, Bool.true_or, gTupH, wipe, tYes, exists_eq', exists_eq, exists_const, tFor_eq, tLc_eq, tCallX, tMethX, tRaiseOw, tMkOw, tFldOw, mIxA, mLenA, rInO, rNotInO, mLenO, rSetD, tM1, false_or, or_false, tInT, inV_nil, inV_str, flatV_str, flatV_int, flatV_non, mIntB, List.all_cons, List.all_nil, Bool.and_true, Bool.true_and, Bool.and_self, tDisp, tPairs, exk_nil, exk_str, leS0, leS1, leS2, leS3, leS4, leS5, leS6, leS7, leS8, leS9, leS10, leS11, leS12, Nat.reduceLeDiff, mBoolB, rEqNil]
      exact k H (Same.refl H)
  | int i => cases hy with
    | int i =>
      simp only [tSeq, tAsg, tRet, tRetN, tIfS, tDrop, tNext, tBreak, tCont, tVar, tC, tOp, tUn, tB, tTest, tAnd, tOr, tNot, tAndV, tOrV, tNotV, tIf, tNil, tCons, tTup, tLst, tCB, tCallR, tMethR, tPropR, StX.tMakeR, tFld, sFld, sFldAug, tPar, tPar3, gName, gNil, gCons, gTup, gSub, rI, rI0, rU, rEq, rNe, mIxL, mIxT, mLenL, mLenT, mLenS, mLenD, mLenK, mList, mTupL, mInt, mAbs, mMax, mMin, mStr, mAddS, mIsN, mNotN, rIxS, rIxL, rSetL, rAppend, rExtendT, rPopAt, rCat, rIn, tBM, tBM0, tChain, tNever, scal, L2.start, cxK, iRng1, iRng2, tDNewK, tDGet, tDGet2, sDPut, tDIn, tDNotIn, DGet_dk, DPut_dk, IsD_dk, tyV_list, isLst_lst, isDk_dk, dkOf_dk, atI_0, atI_1, atI_2, atI_3, ixN_30, ixN_31, ixN_32, List.map, List.replicate, List.length_cons, List.length_nil, List.nil_append, List.cons_append, List.append_nil, Nat.reduceSub, Nat.reduceAdd, List.getElem?_cons_zero, List.getElem?_cons_succ, List.set_cons_zero, List.set_cons_succ, List.cons.injEq, Option.some.injEq, V.int.injEq, V.str.injEq, V.bl.injEq, V.ref.injEq, HO.ins.injEq, HO.lst.injEq, HO.tup.injEq, HO.dK.injEq, exists_eq_left, exists_eq_left', exists_eq_right, exists_eq_right', exists_and_left, exists_and_right, true_and, and_true, and_self, if_true, if_false, Bool.false_eq_true, Bool.true_eq_false, eq_self, reduceCtorEq, false_and, and_false, upd_same, upd_upd, and_assoc, Int.reduceToNat, Int.reducePow, Int.reduceMul, Int.reduceAdd, Int.reduceNeg, mIsi, mIsi2, kdV_non, kdV_bl, kdV_int, kdV_str, kdV_ref, kdO_lst, kdO_tup, kdO_dK, V.ty.injEq, mAll, mAny, kit_NoneType_bool, kit_NoneType_int, kit_NoneType_str, kit_NoneType_list, kit_NoneType_tuple, kit_NoneType_dict, kit_bool_bool, kit_bool_int, kit_bool_str, kit_bool_list, kit_bool_tuple, kit_bool_dict, kit_int_bool, kit_int_int, kit_int_str, kit_int_list, kit_int_tuple, kit_int_dict, kit_str_bool, kit_str_int, kit_str_str, kit_str_list, kit_str_tuple, kit_str_dict, kit_list_bool, kit_list_int, kit_list_str, kit_list_list, kit_list_tuple, kit_list_dict, kit_tuple_bool, kit_tuple_int, kit_tuple_str, kit_tuple_list, kit_tuple_tuple, kit_tuple_dict, kit_dict_bool, kit_dict_int, kit_dict_str, kit_dict_list, kit_dict_tuple, kit_dict_dict, String.reduceEq, String.reduceNe, ne_eq, not_false_eq_true, not_true_eq_false, decide_false, decide_true, Bool.not_false, Bool.not_true, Bool.or_false, Bool.false_or, Bool.or_true, Bool.true_or, gTupH, wipe, tYes, exists_eq', exists_eq, exists_const, tFor_eq, tLc_eq, tCallX, tMethX, tRaiseOw, tMkOw, tFldOw, mIxA, mLenA, rInO, rNotInO, mLenO, rSetD, tM1, false_or, or_false, tInT, inV_nil, inV_str, flatV_str, flatV_int, flatV_non, mIntB, List.all_cons, List.all_nil, Bool.and_true, Bool.true_and, Bool.and_self, tDisp, tPairs, exk_nil, exk_str, leS0, leS1, leS2, leS3, leS4, leS5, leS6, leS7, leS8, leS9, leS10, leS11, leS12, Nat.reduceLeDiff, mBoolB, rEqNil]
      exact fun p hp => k _ (Same.new hp)
  | str i => cases hy with
    | str i =>
      simp only [tSeq, tAsg, tRet, tRetN, tIfS, tDrop, tNext, tBreak, tCont, tVar, tC, tOp, tUn, tB, tTest, tAnd, tOr, tNot, tAndV, tOrV, tNotV, tIf, tNil, tCons, tTup, tLst, tCB, tCallR, tMethR, tPropR, StX.tMakeR, tFld, sFld, sFldAug, tPar, tPar3, gName, gNil, gCons, gTup, gSub, rI, rI0, rU, rEq, rNe, mIxL, mIxT, mLenL, mLenT, mLenS, mLenD, mLenK, mList, mTupL, mInt, mAbs, mMax, mMin, mStr, mAddS, mIsN, mNotN, rIxS, rIxL, rSetL, rAppend, rExtendT, rPopAt, rCat, rIn, tBM, tBM0, tChain, tNever, scal, L2.start, cxK, iRng1, iRng2, tDNewK, tDGet, tDGet2, sDPut, tDIn, tDNotIn, DGet_dk, DPut_dk, IsD_dk, tyV_list, isLst_lst, isDk_dk, dkOf_dk, atI_0, atI_1, atI_2, atI_3, ixN_30, ixN_31, ixN_32, List.map, List.replicate, List.length_cons, List.length_nil, List.nil_append, List.cons_append, List.append_nil, Nat.reduceSub, Nat.reduceAdd, List.getElem?_cons_zero, List.getElem?_cons_succ, List.set_cons_zero, List.set_cons_succ, List.cons.injEq, Option.some.injEq, V.int.injEq, V.str.injEq, V.bl.injEq, V.ref.injEq, HO.ins.injEq, HO.lst.injEq, HO.tup.injEq, HO.dK.injEq, exists_eq_left, exists_eq_left', exists_eq_right, exists_eq_right', exists_and_left, exists_and_right, true_and, and_true, and_self, if_true, if_false, Bool.false_eq_true, Bool.true_eq_false, eq_self, reduceCtorEq, false_and, and_false, upd_same, upd_upd, and_assoc, Int.reduceToNat, Int.reducePow, Int.reduceMul, Int.reduceAdd, Int.reduceNeg, mIsi, mIsi2, kdV_non, kdV_bl, kdV_int, kdV_str, kdV_ref, kdO_lst, kdO_tup, kdO_dK, V.ty.injEq, mAll, mAny, kit_NoneType_bool, kit_NoneType_int, kit_NoneType_str, kit_NoneType_list, kit_NoneType_tuple, kit_NoneType_dict, kit_bool_bool, kit_bool_int, kit_bool_str, kit_bool_list, kit_bool_tuple, kit_bool_dict, kit_int_bool, kit_int_int, kit_int_str, kit_int_list, kit_int_tuple, kit_int_dict, kit_str_bool, kit_str_int, kit_str_str, kit_str_list, kit_str_tuple, kit_str_dict, kit_list_bool, kit_list_int, kit_list_str, kit_list_list, kit_list_tuple, kit_list_dict, kit_tuple_bool, kit_tuple_int, kit_tuple_str, kit_tuple_list, kit_tuple_tuple, kit_tuple_dict, kit_dict_bool, kit_dict_int, kit_dict_str, kit_dict_list, kit_dict_tuple, kit_dict_dict, String.reduceEq, String.reduceNe, ne_eq, not_false_eq_true, not_true_eq_false, decide_false, decide_true, Bool.not_false, Bool.not_true, Bool.or_false, Bool.false_or, Bool.or_true, Bool.true_or, gTupH, wipe, tYes, exists_eq', exists_eq, exists_const, tFor_eq, tLc_eq, tCallX, tMethX, tRaiseOw, tMkOw, tFldOw, mIxA, mLenA, rInO, rNotInO, mLenO, rSetD, tM1, false_or, or_false, tInT, inV_nil, inV_str, flatV_str, flatV_int, flatV_non, mIntB, List.all_cons, List.all_nil, Bool.and_true, Bool.true_and, Bool.and_self, tDisp, tPairs, exk_nil, exk_str, leS0, leS1, leS2, leS3, leS4, leS5, leS6, leS7, leS8, leS9, leS10, leS11, leS12, Nat.reduceLeDiff, mBoolB, rEqNil]
      exact fun p hp => k _ (Same.new hp)
  | @lst a1 xs1 ds e1 k1 => cases hy with
    | @lst a2 xs2 _ e2 k2 =>
      simp only [tSeq, tAsg, tRet, tRetN, tIfS, tDrop, tNext, tBreak, tCont, tVar, tC, tOp, tUn, tB, tTest, tAnd, tOr, tNot, tAndV, tOrV, tNotV, tIf, tNil, tCons, tTup, tLst, tCB, tCallR, tMethR, tPropR, StX.tMakeR, tFld, sFld, sFldAug, tPar, tPar3, gName, gNil, gCons, gTup, gSub, rI, rI0, rU, rEq, rNe, mIxL, mIxT, mLenL, mLenT, mLenS, mLenD, mLenK, mList, mTupL, mInt, mAbs, mMax, mMin, mStr, mAddS, mIsN, mNotN, rIxS, rIxL, rSetL, rAppend, rExtendT, rPopAt, rCat, rIn, tBM, tBM0, tChain, tNever, scal, L2.start, cxK, iRng1, iRng2, tDNewK, tDGet, tDGet2, sDPut, tDIn, tDNotIn, DGet_dk, DPut_dk, IsD_dk, tyV_list, isLst_lst, isDk_dk, dkOf_dk, atI_0, atI_1, atI_2, atI_3, ixN_30, ixN_31, ixN_32, List.map, List.replicate, List.length_cons, List.length_nil, List.nil_append, List.cons_append, List.append_nil, Nat.reduceSub, Nat.reduceAdd, List.getElem?_cons_zero, List.getElem?_cons_succ, List.set_cons_zero, List.set_cons_succ, List.cons.injEq, Option.some.injEq, V.int.injEq, V.str.injEq, V.bl.injEq, V.ref.injEq, HO.ins.injEq, HO.lst.injEq, HO.tup.injEq, HO.dK.injEq, exists_eq_left, exists_eq_left', exists_eq_right, exists_eq_right', exists_and_left, exists_and_right, true_and, and_true, and_self, if_true, if_false, Bool.false_eq_true, Bool.true_eq_false, eq_self, reduceCtorEq, false_and, and_false, upd_same, upd_upd, and_assoc, Int.reduceToNat, Int.reducePow, Int.reduceMul, Int.reduceAdd, Int.reduceNeg, mIsi, mIsi2, kdV_non, kdV_bl, kdV_int, kdV_str, kdV_ref, kdO_lst, kdO_tup, kdO_dK, V.ty.injEq, mAll, mAny, kit_NoneType_bool, kit_NoneType_int, kit_NoneType_str, kit_NoneType_list, kit_NoneType_tuple, kit_NoneType_dict, kit_bool_bool, kit_bool_int, kit_bool_str, kit_bool_list, kit_bool_tuple, kit_bool_dict, kit_int_bool, kit_int_int, kit_int_str, kit_int_list, kit_int_tuple, kit_int_dict, kit_str_bool, kit_str_int, kit_str_str, kit_str_list, kit_str_tuple, kit_str_dict, kit_list_bool, kit_list_int, kit_list_str, kit_list_list, kit_list_tuple, kit_list_dict, kit_tuple_bool, kit_tuple_int, kit_tuple_str, kit_tuple_list, kit_tuple_tuple, kit_tuple_dict, kit_dict_bool, kit_dict_int, kit_dict_str, kit_dict_list, kit_dict_tuple, kit_dict_dict, String.reduceEq, String.reduceNe, ne_eq, not_false_eq_true, not_true_eq_false, decide_false, decide_true, Bool.not_false, Bool.not_true, Bool.or_false, Bool.false_or, Bool.or_true, Bool.true_or, gTupH, wipe, tYes, exists_eq', exists_eq, exists_const, tFor_eq, tLc_eq, tCallX, tMethX, tRaiseOw, tMkOw, tFldOw, mIxA, mLenA, rInO, rNotInO, mLenO, rSetD, tM1, false_or, or_false, tInT, inV_nil, inV_str, flatV_str, flatV_int, flatV_non, mIntB, List.all_cons, List.all_nil, Bool.and_true, Bool.true_and, Bool.and_self, tDisp, tPairs, exk_nil, exk_str, leS0, leS1, leS2, leS3, leS4, leS5, leS6, leS7, leS8, leS9, leS10, leS11, leS12, Nat.reduceLeDiff, mBoolB, rEqNil, e1, e2]
      intro p hp
      have n1 := ne_of_none e1 hp
      have n2 := ne_of_none e2 hp
      have l12 : xs1.length = xs2.length := k1.length.trans k2.length.symm
      rw [dpt] at hd
      obtain ⟨hln, hds⟩ := Bool.and_eq_true_iff.mp hd
      have hln := of_decide_eq_true hln
      simp only [tSeq, tAsg, tRet, tRetN, tIfS, tDrop, tNext, tBreak, tCont, tVar, tC, tOp, tUn, tB, tTest, tAnd, tOr, tNot, tAndV, tOrV, tNotV, tIf, tNil, tCons, tTup, tLst, tCB, tCallR, tMethR, tPropR, StX.tMakeR, tFld, sFld, sFldAug, tPar, tPar3, gName, gNil, gCons, gTup, gSub, rI, rI0, rU, rEq, rNe, mIxL, mIxT, mLenL, mLenT, mLenS, mLenD, mLenK, mList, mTupL, mInt, mAbs, mMax, mMin, mStr, mAddS, mIsN, mNotN, rIxS, rIxL, rSetL, rAppend, rExtendT, rPopAt, rCat, rIn, tBM, tBM0, tChain, tNever, scal, L2.start, cxK, iRng1, iRng2, tDNewK, tDGet, tDGet2, sDPut, tDIn, tDNotIn, DGet_dk, DPut_dk, IsD_dk, tyV_list, isLst_lst, isDk_dk, dkOf_dk, atI_0, atI_1, atI_2, atI_3, ixN_30, ixN_31, ixN_32, List.map, List.replicate, List.length_cons, List.length_nil, List.nil_append, List.cons_append, List.append_nil, Nat.reduceSub, Nat.reduceAdd, List.getElem?_cons_zero, List.getElem?_cons_succ, List.set_cons_zero, List.set_cons_succ, List.cons.injEq, Option.some.injEq, V.int.injEq, V.str.injEq, V.bl.injEq, V.ref.injEq, HO.ins.injEq, HO.lst.injEq, HO.tup.injEq, HO.dK.injEq, exists_eq_left, exists_eq_left', exists_eq_right, exists_eq_right', exists_and_left, exists_and_right, true_and, and_true, and_self, if_true, if_false, Bool.false_eq_true, Bool.true_eq_false, eq_self, reduceCtorEq, false_and, and_false, upd_same, upd_upd, and_assoc, Int.reduceToNat, Int.reducePow, Int.reduceMul, Int.reduceAdd, Int.reduceNeg, mIsi, mIsi2, kdV_non, kdV_bl, kdV_int, kdV_str, kdV_ref, kdO_lst, kdO_tup, kdO_dK, V.ty.injEq, mAll, mAny, kit_NoneType_bool, kit_NoneType_int, kit_NoneType_str, kit_NoneType_list, kit_NoneType_tuple, kit_NoneType_dict, kit_bool_bool, kit_bool_int, kit_bool_str, kit_bool_list, kit_bool_tuple, kit_bool_dict, kit_int_bool, kit_int_int, kit_int_str, kit_int_list, kit_int_tuple, kit_int_dict, kit_str_bool, kit_str_int, kit_str_str, kit_str_list, kit_str_tuple, kit_str_dict, kit_list_bool, kit_list_int, kit_list_str, kit_list_list, kit_list_tuple, kit_list_dict, kit_tuple_bool, kit_tuple_int, kit_tuple_str, kit_tuple_list, kit_tuple_tuple, kit_tuple_dict, kit_dict_bool, kit_dict_int, kit_dict_str, kit_dict_list, kit_dict_tuple, kit_dict_dict, String.reduceEq, String.reduceNe, ne_eq, not_false_eq_true, not_true_eq_false, decide_false, decide_true, Bool.not_false, Bool.not_true, Bool.or_false, Bool.false_or, Bool.or_true, Bool.true_or, gTupH, wipe, tYes, exists_eq', exists_eq, exists_const, tFor_eq, tLc_eq, tCallX, tMethX, tRaiseOw, tMkOw, tFldOw, mIxA, mLenA, rInO, rNotInO, mLenO, rSetD, tM1, false_or, or_false, tInT, inV_nil, inV_str, flatV_str, flatV_int, flatV_non, mIntB, List.all_cons, List.all_nil, Bool.and_true, Bool.true_and, Bool.and_self, tDisp, tPairs, exk_nil, exk_str, leS0, leS1, leS2, leS3, leS4, leS5, leS6, leS7, leS8, leS9, leS10, leS11, leS12, Nat.reduceLeDiff, mBoolB, rEqNil, upd_ne n1, upd_ne n2, e1, e2]
      have s0 : Same H (upd H p (.tup [.ty "tuple", .ty "list"])) := Same.new hp
      refine ⟨xs1.length, Or.inl ⟨xs1, SqL.of (s0 _ _ e1), rfl⟩, xs2.length, Or.inl ⟨xs2, SqL.of (s0 _ _ e2), rfl⟩, ?_⟩
      rw [if_pos (decide_eq_true (by rw [l12]))]
      generalize upd H p (.tup [.ty "tuple", .ty "list"]) = G at s0 ⊢
      simp only [RZ.iZipA, tCons, tNil, tVar]
      refine ⟨_, rfl, _, rfl, a1, a2, xs1, xs2, rfl, Or.inl ⟨SqL.of (s0 _ _ e1), SqL.of (s0 _ _ e2), fun D hD => ?_⟩⟩
      refine loopC_it (walk_zip (K := K) (a := a1) (b := a2) (xs := xs1) (ys := xs2) (n := xs1.length) (by omega)) (fun i H' => Same G H' ∧ H' D = some (.lst (List.replicate i (.bl true)))) ⟨Same.new hD, ?_⟩ (fun i H' _ h => ⟨SqL.of (h.1 _ _ (s0 _ _ e1)), SqL.of (h.1 _ _ (s0 _ _ e2))⟩) (fun i x H' H'' hi h y => ?_) (fun H' h => ?_)
      · rw [upd_same]; rfl
      · obtain ⟨B, u, v, rfl, hB, rfl, hu, hv⟩ := y
        have hu' : xs1[i]? = some u := hu
        have hv' : xs2[i]? = some v := hv
        obtain ⟨h1, h2⟩ := h
        have nB : D ≠ B := ne_of_none h2 hB
        simp only [tSeq, tAsg, tRet, tRetN, tIfS, tDrop, tNext, tBreak, tCont, tVar, tC, tOp, tUn, tB, tTest, tAnd, tOr, tNot, tAndV, tOrV, tNotV, tIf, tNil, tCons, tTup, tLst, tCB, tCallR, tMethR, tPropR, StX.tMakeR, tFld, sFld, sFldAug, tPar, tPar3, gName, gNil, gCons, gTup, gSub, rI, rI0, rU, rEq, rNe, mIxL, mIxT, mLenL, mLenT, mLenS, mLenD, mLenK, mList, mTupL, mInt, mAbs, mMax, mMin, mStr, mAddS, mIsN, mNotN, rIxS, rIxL, rSetL, rAppend, rExtendT, rPopAt, rCat, rIn, tBM, tBM0, tChain, tNever, scal, L2.start, cxK, iRng1, iRng2, tDNewK, tDGet, tDGet2, sDPut, tDIn, tDNotIn, DGet_dk, DPut_dk, IsD_dk, tyV_list, isLst_lst, isDk_dk, dkOf_dk, atI_0, atI_1, atI_2, atI_3, ixN_30, ixN_31, ixN_32, List.map, List.replicate, List.length_cons, List.length_nil, List.nil_append, List.cons_append, List.append_nil, Nat.reduceSub, Nat.reduceAdd, List.getElem?_cons_zero, List.getElem?_cons_succ, List.set_cons_zero, List.set_cons_succ, List.cons.injEq, Option.some.injEq, V.int.injEq, V.str.injEq, V.bl.injEq, V.ref.injEq, HO.ins.injEq, HO.lst.injEq, HO.tup.injEq, HO.dK.injEq, exists_eq_left, exists_eq_left', exists_eq_right, exists_eq_right', exists_and_left, exists_and_right, true_and, and_true, and_self, if_true, if_false, Bool.false_eq_true, Bool.true_eq_false, eq_self, reduceCtorEq, false_and, and_false, upd_same, upd_upd, and_assoc, Int.reduceToNat, Int.reducePow, Int.reduceMul, Int.reduceAdd, Int.reduceNeg, mIsi, mIsi2, kdV_non, kdV_bl, kdV_int, kdV_str, kdV_ref, kdO_lst, kdO_tup, kdO_dK, V.ty.injEq, mAll, mAny, kit_NoneType_bool, kit_NoneType_int, kit_NoneType_str, kit_NoneType_list, kit_NoneType_tuple, kit_NoneType_dict, kit_bool_bool, kit_bool_int, kit_bool_str, kit_bool_list, kit_bool_tuple, kit_bool_dict, kit_int_bool, kit_int_int, kit_int_str, kit_int_list, kit_int_tuple, kit_int_dict, kit_str_bool, kit_str_int, kit_str_str, kit_str_list, kit_str_tuple, kit_str_dict, kit_list_bool, kit_list_int, kit_list_str, kit_list_list, kit_list_tuple, kit_list_dict, kit_tuple_bool, kit_tuple_int, kit_tuple_str, kit_tuple_list, kit_tuple_tuple, kit_tuple_dict, kit_dict_bool, kit_dict_int, kit_dict_str, kit_dict_list, kit_dict_tuple, kit_dict_dict, String.reduceEq, String.reduceNe, ne_eq, not_false_eq_true, not_true_eq_false, decide_false, decide_true, Bool.not_false, Bool.not_true, Bool.or_false, Bool.false_or, Bool.or_true, Bool.true_or, gTupH, wipe, tYes, exists_eq', exists_eq, exists_const, tFor_eq, tLc_eq, tCallX, tMethX, tRaiseOw, tMkOw, tFldOw, mIxA, mLenA, rInO, rNotInO, mLenO, rSetD, tM1, false_or, or_false, tInT, inV_nil, inV_str, flatV_str, flatV_int, flatV_non, mIntB, List.all_cons, List.all_nil, Bool.and_true, Bool.true_and, Bool.and_self, tDisp, tPairs, exk_nil, exk_str, leS0, leS1, leS2, leS3, leS4, leS5, leS6, leS7, leS8, leS9, leS10, leS11, leS12, Nat.reduceLeDiff, mBoolB, rEqNil, sp_l_same]
        obtain ⟨du, hdu, au⟩ := k1.get hu'
        obtain ⟨dv, hdv, av⟩ := k2.get hv'
        rw [hdu] at hdv
        injection hdv with hdv
        subst hdv
        have sB : Same H (upd H' B (.tup [u, v])) := Same.upd_new (s0.trans h1) hB
        refine ⟨du, Da.same sB _ _ au, Da.same sB _ _ av, dpts_get hds hdu, fun H2 s2 => ?_⟩
        refine ⟨_, s2 _ _ (by rw [upd_ne nB]; exact h2), ?_, ?_⟩
        · rw [List.length_replicate]
          have := k1.length
          exact Nat.lt_of_lt_of_le (show i < 100001 by omega) (by decide)
        · refine ⟨fun b o hb => ?_, ?_⟩
          · rw [upd_ne (ne_of_none hb hD)]
            exact s2 _ _ (Same.upd_new h1 hB _ _ hb)
          · rw [← List.replicate_succ', List.replicate_succ]
      · obtain ⟨h1, h2⟩ := h
        refine ⟨_, h2, List.replicate xs1.length true, by simp, ?_⟩
        have e : (List.replicate xs1.length true).all id = true := by simp
        rw [e]
        exact k _ (s0.trans h1)
  | @tup a1 xs1 ds e1 k1 => cases hy with
    | @tup a2 xs2 _ e2 k2 =>
      simp only [tSeq, tAsg, tRet, tRetN, tIfS, tDrop, tNext, tBreak, tCont, tVar, tC, tOp, tUn, tB, tTest, tAnd, tOr, tNot, tAndV, tOrV, tNotV, tIf, tNil, tCons, tTup, tLst, tCB, tCallR, tMethR, tPropR, StX.tMakeR, tFld, sFld, sFldAug, tPar, tPar3, gName, gNil, gCons, gTup, gSub, rI, rI0, rU, rEq, rNe, mIxL, mIxT, mLenL, mLenT, mLenS, mLenD, mLenK, mList, mTupL, mInt, mAbs, mMax, mMin, mStr, mAddS, mIsN, mNotN, rIxS, rIxL, rSetL, rAppend, rExtendT, rPopAt, rCat, rIn, tBM, tBM0, tChain, tNever, scal, L2.start, cxK, iRng1, iRng2, tDNewK, tDGet, tDGet2, sDPut, tDIn, tDNotIn, DGet_dk, DPut_dk, IsD_dk, tyV_list, isLst_lst, isDk_dk, dkOf_dk, atI_0, atI_1, atI_2, atI_3, ixN_30, ixN_31, ixN_32, List.map, List.replicate, List.length_cons, List.length_nil, List.nil_append, List.cons_append, List.append_nil, Nat.reduceSub, Nat.reduceAdd, List.getElem?_cons_zero, List.getElem?_cons_succ, List.set_cons_zero, List.set_cons_succ, List.cons.injEq, Option.some.injEq, V.int.injEq, V.str.injEq, V.bl.injEq, V.ref.injEq, HO.ins.injEq, HO.lst.injEq, HO.tup.injEq, HO.dK.injEq, exists_eq_left, exists_eq_left', exists_eq_right, exists_eq_right', exists_and_left, exists_and_right, true_and, and_true, and_self, if_true, if_false, Bool.false_eq_true, Bool.true_eq_false, eq_self, reduceCtorEq, false_and, and_false, upd_same, upd_upd, and_assoc, Int.reduceToNat, Int.reducePow, Int.reduceMul, Int.reduceAdd, Int.reduceNeg, mIsi, mIsi2, kdV_non, kdV_bl, kdV_int, kdV_str, kdV_ref, kdO_lst, kdO_tup, kdO_dK, V.ty.injEq, mAll, mAny, kit_NoneType_bool, kit_NoneType_int, kit_NoneType_str, kit_NoneType_list, kit_NoneType_tuple, kit_NoneType_dict, kit_bool_bool, kit_bool_int, kit_bool_str, kit_bool_list, kit_bool_tuple, kit_bool_dict, kit_int_bool, kit_int_int, kit_int_str, kit_int_list, kit_int_tuple, kit_int_dict, kit_str_bool, kit_str_int, kit_str_str, kit_str_list, kit_str_tuple, kit_str_dict, kit_list_bool, kit_list_int, kit_list_str, kit_list_list, kit_list_tuple, kit_list_dict, kit_tuple_bool, kit_tuple_int, kit_tuple_str, kit_tuple_list, kit_tuple_tuple, kit_tuple_dict, kit_dict_bool, kit_dict_int, kit_dict_str, kit_dict_list, kit_dict_tuple, kit_dict_dict, String.reduceEq, String.reduceNe, ne_eq, not_false_eq_true, not_true_eq_false, decide_false, decide_true, Bool.not_false, Bool.not_true, Bool.or_false, Bool.false_or, Bool.or_true, Bool.true_or, gTupH, wipe, tYes, exists_eq', exists_eq, exists_const, tFor_eq, tLc_eq, tCallX, tMethX, tRaiseOw, tMkOw, tFldOw, mIxA, mLenA, rInO, rNotInO, mLenO, rSetD, tM1, false_or, or_false, tInT, inV_nil, inV_str, flatV_str, flatV_int, flatV_non, mIntB, List.all_cons, List.all_nil, Bool.and_true, Bool.true_and, Bool.and_self, tDisp, tPairs, exk_nil, exk_str, leS0, leS1, leS2, leS3, leS4, leS5, leS6, leS7, leS8, leS9, leS10, leS11, leS12, Nat.reduceLeDiff, mBoolB, rEqNil, e1, e2]
      intro p hp
      have n1 := ne_of_none e1 hp
      have n2 := ne_of_none e2 hp
      have l12 : xs1.length = xs2.length := k1.length.trans k2.length.symm
      rw [dpt] at hd
      obtain ⟨hln, hds⟩ := Bool.and_eq_true_iff.mp hd
      have hln := of_decide_eq_true hln
      simp only [tSeq, tAsg, tRet, tRetN, tIfS, tDrop, tNext, tBreak, tCont, tVar, tC, tOp, tUn, tB, tTest, tAnd, tOr, tNot, tAndV, tOrV, tNotV, tIf, tNil, tCons, tTup, tLst, tCB, tCallR, tMethR, tPropR, StX.tMakeR, tFld, sFld, sFldAug, tPar, tPar3, gName, gNil, gCons, gTup, gSub, rI, rI0, rU, rEq, rNe, mIxL, mIxT, mLenL, mLenT, mLenS, mLenD, mLenK, mList, mTupL, mInt, mAbs, mMax, mMin, mStr, mAddS, mIsN, mNotN, rIxS, rIxL, rSetL, rAppend, rExtendT, rPopAt, rCat, rIn, tBM, tBM0, tChain, tNever, scal, L2.start, cxK, iRng1, iRng2, tDNewK, tDGet, tDGet2, sDPut, tDIn, tDNotIn, DGet_dk, DPut_dk, IsD_dk, tyV_list, isLst_lst, isDk_dk, dkOf_dk, atI_0, atI_1, atI_2, atI_3, ixN_30, ixN_31, ixN_32, List.map, List.replicate, List.length_cons, List.length_nil, List.nil_append, List.cons_append, List.append_nil, Nat.reduceSub, Nat.reduceAdd, List.getElem?_cons_zero, List.getElem?_cons_succ, List.set_cons_zero, List.set_cons_succ, List.cons.injEq, Option.some.injEq, V.int.injEq, V.str.injEq, V.bl.injEq, V.ref.injEq, HO.ins.injEq, HO.lst.injEq, HO.tup.injEq, HO.dK.injEq, exists_eq_left, exists_eq_left', exists_eq_right, exists_eq_right', exists_and_left, exists_and_right, true_and, and_true, and_self, if_true, if_false, Bool.false_eq_true, Bool.true_eq_false, eq_self, reduceCtorEq, false_and, and_false, upd_same, upd_upd, and_assoc, Int.reduceToNat, Int.reducePow, Int.reduceMul, Int.reduceAdd, Int.reduceNeg, mIsi, mIsi2, kdV_non, kdV_bl, kdV_int, kdV_str, kdV_ref, kdO_lst, kdO_tup, kdO_dK, V.ty.injEq, mAll, mAny, kit_NoneType_bool, kit_NoneType_int, kit_NoneType_str, kit_NoneType_list, kit_NoneType_tuple, kit_NoneType_dict, kit_bool_bool, kit_bool_int, kit_bool_str, kit_bool_list, kit_bool_tuple, kit_bool_dict, kit_int_bool, kit_int_int, kit_int_str, kit_int_list, kit_int_tuple, kit_int_dict, kit_str_bool, kit_str_int, kit_str_str, kit_str_list, kit_str_tuple, kit_str_dict, kit_list_bool, kit_list_int, kit_list_str, kit_list_list, kit_list_tuple, kit_list_dict, kit_tuple_bool, kit_tuple_int, kit_tuple_str, kit_tuple_list, kit_tuple_tuple, kit_tuple_dict, kit_dict_bool, kit_dict_int, kit_dict_str, kit_dict_list, kit_dict_tuple, kit_dict_dict, String.reduceEq, String.reduceNe, ne_eq, not_false_eq_true, not_true_eq_false, decide_false, decide_true, Bool.not_false, Bool.not_true, Bool.or_false, Bool.false_or, Bool.or_true, Bool.true_or, gTupH, wipe, tYes, exists_eq', exists_eq, exists_const, tFor_eq, tLc_eq, tCallX, tMethX, tRaiseOw, tMkOw, tFldOw, mIxA, mLenA, rInO, rNotInO, mLenO, rSetD, tM1, false_or, or_false, tInT, inV_nil, inV_str, flatV_str, flatV_int, flatV_non, mIntB, List.all_cons, List.all_nil, Bool.and_true, Bool.true_and, Bool.and_self, tDisp, tPairs, exk_nil, exk_str, leS0, leS1, leS2, leS3, leS4, leS5, leS6, leS7, leS8, leS9, leS10, leS11, leS12, Nat.reduceLeDiff, mBoolB, rEqNil, upd_ne n1, upd_ne n2, e1, e2]
      have s0 : Same H (upd H p (.tup [.ty "tuple", .ty "list"])) := Same.new hp
      refine ⟨xs1.length, Or.inr ⟨xs1, SqT.of (s0 _ _ e1), rfl⟩, xs2.length, Or.inr ⟨xs2, SqT.of (s0 _ _ e2), rfl⟩, ?_⟩
      rw [if_pos (decide_eq_true (by rw [l12]))]
      generalize upd H p (.tup [.ty "tuple", .ty "list"]) = G at s0 ⊢
      simp only [RZ.iZipA, tCons, tNil, tVar]
      refine ⟨_, rfl, _, rfl, a1, a2, xs1, xs2, rfl, Or.inr ⟨SqT.of (s0 _ _ e1), SqT.of (s0 _ _ e2), fun D hD => ?_⟩⟩
      refine loopC_it (walk_zipT (K := K) (a := a1) (b := a2) (xs := xs1) (ys := xs2) (n := xs1.length) (by omega)) (fun i H' => Same G H' ∧ H' D = some (.lst (List.replicate i (.bl true)))) ⟨Same.new hD, ?_⟩ (fun i H' _ h => ⟨SqT.of (h.1 _ _ (s0 _ _ e1)), SqT.of (h.1 _ _ (s0 _ _ e2))⟩) (fun i x H' H'' hi h y => ?_) (fun H' h => ?_)
      · rw [upd_same]; rfl
      · obtain ⟨B, u, v, rfl, hB, rfl, hu, hv⟩ := y
        have hu' : xs1[i]? = some u := hu
        have hv' : xs2[i]? = some v := hv
        obtain ⟨h1, h2⟩ := h
        have nB : D ≠ B := ne_of_none h2 hB
        simp only [tSeq, tAsg, tRet, tRetN, tIfS, tDrop, tNext, tBreak, tCont, tVar, tC, tOp, tUn, tB, tTest, tAnd, tOr, tNot, tAndV, tOrV, tNotV, tIf, tNil, tCons, tTup, tLst, tCB, tCallR, tMethR, tPropR, StX.tMakeR, tFld, sFld, sFldAug, tPar, tPar3, gName, gNil, gCons, gTup, gSub, rI, rI0, rU, rEq, rNe, mIxL, mIxT, mLenL, mLenT, mLenS, mLenD, mLenK, mList, mTupL, mInt, mAbs, mMax, mMin, mStr, mAddS, mIsN, mNotN, rIxS, rIxL, rSetL, rAppend, rExtendT, rPopAt, rCat, rIn, tBM, tBM0, tChain, tNever, scal, L2.start, cxK, iRng1, iRng2, tDNewK, tDGet, tDGet2, sDPut, tDIn, tDNotIn, DGet_dk, DPut_dk, IsD_dk, tyV_list, isLst_lst, isDk_dk, dkOf_dk, atI_0, atI_1, atI_2, atI_3, ixN_30, ixN_31, ixN_32, List.map, List.replicate, List.length_cons, List.length_nil, List.nil_append, List.cons_append, List.append_nil, Nat.reduceSub, Nat.reduceAdd, List.getElem?_cons_zero, List.getElem?_cons_succ, List.set_cons_zero, List.set_cons_succ, List.cons.injEq, Option.some.injEq, V.int.injEq, V.str.injEq, V.bl.injEq, V.ref.injEq, HO.ins.injEq, HO.lst.injEq, HO.tup.injEq, HO.dK.injEq, exists_eq_left, exists_eq_left', exists_eq_right, exists_eq_right', exists_and_left, exists_and_right, true_and, and_true, and_self, if_true, if_false, Bool.false_eq_true, Bool.true_eq_false, eq_self, reduceCtorEq, false_and, and_false, upd_same, upd_upd, and_assoc, Int.reduceToNat, Int.reducePow, Int.reduceMul, Int.reduceAdd, Int.reduceNeg, mIsi, mIsi2, kdV_non, kdV_bl, kdV_int, kdV_str, kdV_ref, kdO_lst, kdO_tup, kdO_dK, V.ty.injEq, mAll, mAny, kit_NoneType_bool, kit_NoneType_int, kit_NoneType_str, kit_NoneType_list, kit_NoneType_tuple, kit_NoneType_dict, kit_bool_bool, kit_bool_int, kit_bool_str, kit_bool_list, kit_bool_tuple, kit_bool_dict, kit_int_bool, kit_int_int, kit_int_str, kit_int_list, kit_int_tuple, kit_int_dict, kit_str_bool, kit_str_int, kit_str_str, kit_str_list, kit_str_tuple, kit_str_dict, kit_list_bool, kit_list_int, kit_list_str, kit_list_list, kit_list_tuple, kit_list_dict, kit_tuple_bool, kit_tuple_int, kit_tuple_str, kit_tuple_list, kit_tuple_tuple, kit_tuple_dict, kit_dict_bool, kit_dict_int, kit_dict_str, kit_dict_list, kit_dict_tuple, kit_dict_dict, String.reduceEq, String.reduceNe, ne_eq, not_false_eq_true, not_true_eq_false, decide_false, decide_true, Bool.not_false, Bool.not_true, Bool.or_false, Bool.false_or, Bool.or_true, Bool.true_or, gTupH, wipe, tYes, exists_eq', exists_eq, exists_const, tFor_eq, tLc_eq, tCallX, tMethX, tRaiseOw, tMkOw, tFldOw, mIxA, mLenA, rInO, rNotInO, mLenO, rSetD, tM1, false_or, or_false, tInT, inV_nil, inV_str, flatV_str, flatV_int, flatV_non, mIntB, List.all_cons, List.all_nil, Bool.and_true, Bool.true_and, Bool.and_self, tDisp, tPairs, exk_nil, exk_str, leS0, leS1, leS2, leS3, leS4, leS5, leS6, leS7, leS8, leS9, leS10, leS11, leS12, Nat.reduceLeDiff, mBoolB, rEqNil, sp_l_same]
        obtain ⟨du, hdu, au⟩ := k1.get hu'
        obtain ⟨dv, hdv, av⟩ := k2.get hv'
        rw [hdu] at hdv
        injection hdv with hdv
        subst hdv
        have sB : Same H (upd H' B (.tup [u, v])) := Same.upd_new (s0.trans h1) hB
        refine ⟨du, Da.same sB _ _ au, Da.same sB _ _ av, dpts_get hds hdu, fun H2 s2 => ?_⟩
        refine ⟨_, s2 _ _ (by rw [upd_ne nB]; exact h2), ?_, ?_⟩
        · rw [List.length_replicate]
          have := k1.length
          exact Nat.lt_of_lt_of_le (show i < 100001 by omega) (by decide)
        · refine ⟨fun b o hb => ?_, ?_⟩
          · rw [upd_ne (ne_of_none hb hD)]
            exact s2 _ _ (Same.upd_new h1 hB _ _ hb)
          · rw [← List.replicate_succ', List.replicate_succ]
      · obtain ⟨h1, h2⟩ := h
        refine ⟨_, h2, List.replicate xs1.length true, by simp, ?_⟩
        have e : (List.replicate xs1.length true).all id = true := by simp
        rw [e]
        exact k _ (s0.trans h1)
theorem R_same_base {w : World} {K : PySem.W.Frag} {mg : Str → Option Value} {base : Heap} (T : Tx K mg) : FnR Pg w K mg base CX0 1 (He.ga K "_law_same") (sp_l_same 0) := by
  obtain ⟨fd, F⟩ := T.d_l_same
  refine My.FunD.R F sc_l_same (fun vs H Q E h => by obtain ⟨x, y, d, rfl, _⟩ := h; rfl) (fun _ _ _ _ _ _ us hl => match us, hl with | [_, _], _ => rfl) (fun cdv A outer s H vs Q E hr h => ?_)
  obtain ⟨x, y, d, rfl, hx, hy, hd, k⟩ := h
  refine ⟨_, (pss_cons (ps_if (PW.pt (pw_or (pt_cmpR isN (pv 1) pe_non (nomark _)) (pw_or1 (pt_val (pe_callB isi1 (by rfl) T.n_isinstance (by decide +kernel) (pa_cons (pv 1) (pa_cons (pe_bltn (v := .ty "bool") (by rfl) T.n_bool (by decide +kernel) rfl) pa_nil))))))) (pss_one (ps_ret (pe_ifExp (pt_cmpR isN (pv 1) pe_non (nomark _)) (pe_cmpR isN (pv 0) pe_non (nomark _)) (pe_and (pe_callB isi1 (by rfl) T.n_isinstance (by decide +kernel) (pa_cons (pv 0) (pa_cons (pe_bltn (v := .ty "bool") (by rfl) T.n_bool (by decide +kernel) rfl) pa_nil))) (pe_one (pe_cmpR op_eq (pv 0) (pv 1) (nomark _))))))) pss_nil)
      (pss_cons (ps_if (pt_cmpR op_ne (pe_callB isi1 (by rfl) T.n_isinstance (by decide +kernel) (pa_cons (pv 1) (pa_cons (pe_bltn (v := .ty "tuple") (by rfl) T.n_tuple (by decide +kernel) rfl) pa_nil))) (pe_callB isi1 (by rfl) T.n_isinstance (by decide +kernel) (pa_cons (pv 0) (pa_cons (pe_bltn (v := .ty "tuple") (by rfl) T.n_tuple (by decide +kernel) rfl) pa_nil))) (nomark _)) (pss_one (ps_ret pe_bl)) pss_nil)
      (pss_cons (ps_if (pt_cmpR op_ne (pe_callB isi1 (by rfl) T.n_isinstance (by decide +kernel) (pa_cons (pv 1) (pa_cons (pe_bltn (v := .ty "list") (by rfl) T.n_list (by decide +kernel) rfl) pa_nil))) (pe_callB isi1 (by rfl) T.n_isinstance (by decide +kernel) (pa_cons (pv 0) (pa_cons (pe_bltn (v := .ty "list") (by rfl) T.n_list (by decide +kernel) rfl) pa_nil))) (nomark _)) (pss_one (ps_ret pe_bl)) pss_nil)
      (pss_cons (ps_if (pt_val (pe_callB isi2 (by rfl) T.n_isinstance (by decide +kernel) (pa_cons (pv 1) (pa_cons (pe_tup (pa_cons (pe_bltn (v := .ty "tuple") (by rfl) T.n_tuple (by decide +kernel) rfl) (pa_cons (pe_bltn (v := .ty "list") (by rfl) T.n_list (by decide +kernel) rfl) pa_nil))) pa_nil)))) (pss_one ps_never) pss_nil)
      (pss_cons (ps_if (pt_val (pe_callB isi1 (by rfl) T.n_isinstance (by decide +kernel) (pa_cons (pv 1) (pa_cons (pe_bltn (v := .ty "int") (by rfl) T.n_int (by decide +kernel) rfl) pa_nil)))) (pss_one (ps_ret (pe_and (pe_callB isi1 (by rfl) T.n_isinstance (by decide +kernel) (pa_cons (pv 0) (pa_cons (pe_bltn (v := .ty "int") (by rfl) T.n_int (by decide +kernel) rfl) pa_nil))) (pe_and (pe_not (pe_callB isi1 (by rfl) T.n_isinstance (by decide +kernel) (pa_cons (pv 0) (pa_cons (pe_bltn (v := .ty "bool") (by rfl) T.n_bool (by decide +kernel) rfl) pa_nil)))) (pe_one (pe_cmpR op_eq (pv 0) (pv 1) (nomark _))))))) pss_nil)
      (pss_one (ps_ret (pe_and (pe_callB isi1 (by rfl) T.n_isinstance (by decide +kernel) (pa_cons (pv 0) (pa_cons (pe_bltn (v := .ty "str") (by rfl) T.n_str (by decide +kernel) rfl) pa_nil))) (pe_one (pe_cmpR op_eq (pv 0) (pv 1) (nomark _))))))))))), ?_⟩
  cases hx with
  | non => cases hy with
    | non =>
      simp only [tSeq, tAsg, tRet, tRetN, tIfS, tDrop, tNext, tBreak, tCont, tVar, tC, tOp, tUn, tB, tTest, tAnd, tOr, tNot, tAndV, tOrV, tNotV, tIf, tNil, tCons, tTup, tLst, tCB, tCallR, tMethR, tPropR, StX.tMakeR, tFld, sFld, sFldAug, tPar, tPar3, gName, gNil, gCons, gTup, gSub, rI, rI0, rU, rEq, rNe, mIxL, mIxT, mLenL, mLenT, mLenS, mLenD, mLenK, mList, mTupL, mInt, mAbs, mMax, mMin, mStr, mAddS, mIsN, mNotN, rIxS, rIxL, rSetL, rAppend, rExtendT, rPopAt, rCat, rIn, tBM, tBM0, tChain, tNever, scal, L2.start, cxK, iRng1, iRng2, tDNewK, tDGet, tDGet2, sDPut, tDIn, tDNotIn, DGet_dk, DPut_dk, IsD_dk, tyV_list, isLst_lst, isDk_dk, dkOf_dk, atI_0, atI_1, atI_2, atI_3, ixN_30, ixN_31, ixN_32, List.map, List.replicate, List.length_cons, List.length_nil, List.nil_append, List.cons_append, List.append_nil, Nat.reduceSub, Nat.reduceAdd, List.getElem?_cons_zero, List.getElem?_cons_succ, List.set_cons_zero, List.set_cons_succ, List.cons.injEq, Option.some.injEq, V.int.injEq, V.str.injEq, V.bl.injEq, V.ref.injEq, HO.ins.injEq, HO.lst.injEq, HO.tup.injEq, HO.dK.injEq, exists_eq_left, exists_eq_left', exists_eq_right, exists_eq_right', exists_and_left, exists_and_right, true_and, and_true, and_self, if_true, if_false, Bool.false_eq_true, Bool.true_eq_false, eq_self, reduceCtorEq, false_and, and_false, upd_same, upd_upd, and_assoc, Int.reduceToNat, Int.reducePow, Int.reduceMul, Int.reduceAdd, Int.reduceNeg, mIsi, mIsi2, kdV_non, kdV_bl, kdV_int, kdV_str, kdV_ref, kdO_lst, kdO_tup, kdO_dK, V.ty.injEq, mAll, mAny, kit_NoneType_bool, kit_NoneType_int, kit_NoneType_str, kit_NoneType_list, kit_NoneType_tuple, kit_NoneType_dict, kit_bool_bool, kit_bool_int, kit_bool_str, kit_bool_list, kit_bool_tuple, kit_bool_dict, kit_int_bool, kit_int_int, kit_int_str, kit_int_list, kit_int_tuple, kit_int_dict, kit_str_bool, kit_str_int, kit_str_str, kit_str_list, kit_str_tuple, kit_str_dict, kit_list_bool, kit_list_int, kit_list_str, kit_list_list, kit_list_tuple, kit_list_dict, kit_tuple_bool, kit_tuple_int, kit_tuple_str, kit_tuple_list, kit_tuple_tuple, kit_tuple_dict, kit_dict_bool, kit_dict_int, kit_dict_str, kit_dict_list, kit_dict_tuple, kit_dict_dict, String.reduceEq, String.reduceNe, ne_eq, not_false_eq_true, not_true_eq_false, decide_false, decide_true, Bool.not_false, Bool.not_true, Bool.or_false, Bool.false_or, Bool.or_true, Bool.true_or, gTupH, wipe, tYes, exists_eq', exists_eq, exists_const, tFor_eq, tLc_eq, tCallX, tMethX, tRaiseOw, tMkOw, tFldOw, mIxA, mLenA, rInO, rNotInO, mLenO, rSetD, tM1, false_or, or_false, tInT, inV_nil, inV_str, flatV_str, flatV_int, flatV_non, mIntB, List.all_cons, List.all_nil, Bool.and_true, Bool.true_and, Bool.and_self, tDisp, tPairs, exk_nil, exk_str, leS0, leS1, leS2, leS3, leS4, leS5, leS6, leS7, leS8, leS9, leS10, leS11, leS12, Nat.reduceLeDiff, mBoolB, rEqNil]
      exact k H (Same.refl H)
  | bl b => cases hy with
    | bl b =>
      simp only [tSeq, tAsg, tRet, tRetN, tIfS, tDrop, tNext, tBreak, tCont, tVar, tC, tOp, tUn, tB, tTest, tAnd, tOr, tNot, tAndV, tOrV, tNotV, tIf, tNil, tCons, tTup, tLst, tCB, tCallR, tMethR, tPropR, StX.tMakeR, tFld, sFld, sFldAug, tPar, tPar3, gName, gNil, gCons, gTup, gSub, rI, rI0, rU, rEq, rNe, mIxL, mIxT, mLenL, mLenT, mLenS, mLenD, mLenK, mList, mTupL, mInt, mAbs, mMax, mMin, mStr, mAddS, mIsN, mNotN, rIxS, rIxL, rSetL, rAppend, rExtendT, rPopAt, rCat, rIn, tBM, tBM0, tChain, tNever, scal, L2.start, cxK, iRng1, iRng2, tDNewK, tDGet, tDGet2, sDPut, tDIn, tDNotIn, DGet_dk, DPut_dk, IsD_dk, tyV_list, isLst_lst, isDk_dk, dkOf_dk, atI_0, atI_1, atI_2, atI_3, ixN_30, ixN_31, ixN_32, List.map, List.replicate, List.length_cons, List.length_nil, List.nil_append, List.cons_append, List.append_nil, Nat.reduceSub, Nat.reduceAdd, List.getElem?_cons_zero, List.getElem?_cons_succ, List.set_cons_zero, List.set_cons_succ, List.cons.injEq, Option.some.injEq, V.int.injEq, V.str.injEq, V.bl.injEq, V.ref.injEq, HO.ins.injEq, HO.lst.injEq, HO.tup.injEq, HO.dK.injEq, exists_eq_left, exists_eq_left', exists_eq_right, exists_eq_right', exists_and_left, exists_and_right, true_and, and_true, and_self, if_true, if_false, Bool.false_eq_true, Bool.true_eq_false, eq_self, reduceCtorEq, false_and, and_false, upd_same, upd_upd, and_assoc, Int.reduceToNat, Int.reducePow, Int.reduceMul, Int.reduceAdd, Int.reduceNeg, mIsi, mIsi2, kdV_non, kdV_bl, kdV_int, kdV_str, kdV_ref, kdO_lst, kdO_tup, kdO_dK, V.ty.injEq, mAll, mAny, kit_NoneType_bool, kit_NoneType_int, kit_NoneType_str, kit_NoneType_list, kit_NoneType_tuple, kit_NoneType_dict, kit_bool_bool, kit_bool_int, kit_bool_str, kit_bool_list, kit_bool_tuple, kit_bool_dict, kit_int_bool, kit_int_int, kit_int_str, kit_int_list, kit_int_tuple, kit_int_dict, kit_str_bool, kit_str_int, kit_str_str, kit_str_list, kit_str_tuple, kit_str_dict, kit_list_bool, kit_list_int, kit_list_str, kit_list_list, kit_list_tuple, kit_list_dict, kit_tuple_bool, kit_tuple_int, kit_tuple_str, kit_tuple_list, kit_tuple_tuple, kit_tuple_dict, kit_dict_bool, kit_dict_int, kit_dict_str, kit_dict_list, kit_dict_tuple, kit_dict_dict, String.reduceEq, String.reduceNe, ne_eq, not_false_eq_true, not_true_eq_false, decide_false, decide_true, Bool.not_false, Bool.not_true, Bool.or_false, Bool.false_or, Bool.or_true, Bool.true_or, gTupH, wipe, tYes, exists_eq', exists_eq, exists_const, tFor_eq, tLc_eq, tCallX, tMethX, tRaiseOw, tMkOw, tFldOw, mIxA, mLenA, rInO, rNotInO, mLenO, rSetD, tM1, false_or, or_false, tInT, inV_nil, inV_str, flatV_str, flatV_int, flatV_non, mIntB, List.all_cons, List.all_nil, Bool.and_true, Bool.true_and, Bool.and_self, tDisp, tPairs, exk_nil, exk_str, leS0, leS1, leS2, leS3, leS4, leS5, leS6, leS7, leS8, leS9, leS10, leS11, leS12, Nat.reduceLeDiff, mBoolB, rEqNil]
      exact k H (Same.refl H)
  | int i => cases hy with
    | int i =>
      simp only [tSeq, tAsg, tRet, tRetN, tIfS, tDrop, tNext, tBreak, tCont, tVar, tC, tOp, tUn, tB, tTest, tAnd, tOr, tNot, tAndV, tOrV, tNotV, tIf, tNil, tCons, tTup, tLst, tCB, tCallR, tMethR, tPropR, StX.tMakeR, tFld, sFld, sFldAug, tPar, tPar3, gName, gNil, gCons, gTup, gSub, rI, rI0, rU, rEq, rNe, mIxL, mIxT, mLenL, mLenT, mLenS, mLenD, mLenK, mList, mTupL, mInt, mAbs, mMax, mMin, mStr, mAddS, mIsN, mNotN, rIxS, rIxL, rSetL, rAppend, rExtendT, rPopAt, rCat, rIn, tBM, tBM0, tChain, tNever, scal, L2.start, cxK, iRng1, iRng2, tDNewK, tDGet, tDGet2, sDPut, tDIn, tDNotIn, DGet_dk, DPut_dk, IsD_dk, tyV_list, isLst_lst, isDk_dk, dkOf_dk, atI_0, atI_1, atI_2, atI_3, ixN_30, ixN_31, ixN_32, List.map, List.replicate, List.length_cons, List.length_nil, List.nil_append, List.cons_append, List.append_nil, Nat.reduceSub, Nat.reduceAdd, List.getElem?_cons_zero, List.getElem?_cons_succ, List.set_cons_zero, List.set_cons_succ, List.cons.injEq, Option.some.injEq, V.int.injEq, V.str.injEq, V.bl.injEq, V.ref.injEq, HO.ins.injEq, HO.lst.injEq, HO.tup.injEq, HO.dK.injEq, exists_eq_left, exists_eq_left', exists_eq_right, exists_eq_right', exists_and_left, exists_and_right, true_and, and_true, and_self, if_true, if_false, Bool.false_eq_true, Bool.true_eq_false, eq_self, reduceCtorEq, false_and, and_false, upd_same, upd_upd, and_assoc, Int.reduceToNat, Int.reducePow, Int.reduceMul, Int.reduceAdd, Int.reduceNeg, mIsi, mIsi2, kdV_non, kdV_bl, kdV_int, kdV_str, kdV_ref, kdO_lst, kdO_tup, kdO_dK, V.ty.injEq, mAll, mAny, kit_NoneType_bool, kit_NoneType_int, kit_NoneType_str, kit_NoneType_list, kit_NoneType_tuple, kit_NoneType_dict, kit_bool_bool, kit_bool_int, kit_bool_str, kit_bool_list, kit_bool_tuple, kit_bool_dict, kit_int_bool, kit_int_int, kit_int_str, kit_int_list, kit_int_tuple, kit_int_dict, kit_str_bool, kit_str_int, kit_str_str, kit_str_list, kit_str_tuple, kit_str_dict, kit_list_bool, kit_list_int, kit_list_str, kit_list_list, kit_list_tuple, kit_list_dict, kit_tuple_bool, kit_tuple_int, kit_tuple_str, kit_tuple_list, kit_tuple_tuple, kit_tuple_dict, kit_dict_bool, kit_dict_int, kit_dict_str, kit_dict_list, kit_dict_tuple, kit_dict_dict, String.reduceEq, String.reduceNe, ne_eq, not_false_eq_true, not_true_eq_false, decide_false, decide_true, Bool.not_false, Bool.not_true, Bool.or_false, Bool.false_or, Bool.or_true, Bool.true_or, gTupH, wipe, tYes, exists_eq', exists_eq, exists_const, tFor_eq, tLc_eq, tCallX, tMethX, tRaiseOw, tMkOw, tFldOw, mIxA, mLenA, rInO, rNotInO, mLenO, rSetD, tM1, false_or, or_false, tInT, inV_nil, inV_str, flatV_str, flatV_int, flatV_non, mIntB, List.all_cons, List.all_nil, Bool.and_true, Bool.true_and, Bool.and_self, tDisp, tPairs, exk_nil, exk_str, leS0, leS1, leS2, leS3, leS4, leS5, leS6, leS7, leS8, leS9, leS10, leS11, leS12, Nat.reduceLeDiff, mBoolB, rEqNil]
      exact fun p hp => k _ (Same.new hp)
  | str i => cases hy with
    | str i =>
      simp only [tSeq, tAsg, tRet, tRetN, tIfS, tDrop, tNext, tBreak, tCont, tVar, tC, tOp, tUn, tB, tTest, tAnd, tOr, tNot, tAndV, tOrV, tNotV, tIf, tNil, tCons, tTup, tLst, tCB, tCallR, tMethR, tPropR, StX.tMakeR, tFld, sFld, sFldAug, tPar, tPar3, gName, gNil, gCons, gTup, gSub, rI, rI0, rU, rEq, rNe, mIxL, mIxT, mLenL, mLenT, mLenS, mLenD, mLenK, mList, mTupL, mInt, mAbs, mMax, mMin, mStr, mAddS, mIsN, mNotN, rIxS, rIxL, rSetL, rAppend, rExtendT, rPopAt, rCat, rIn, tBM, tBM0, tChain, tNever, scal, L2.start, cxK, iRng1, iRng2, tDNewK, tDGet, tDGet2, sDPut, tDIn, tDNotIn, DGet_dk, DPut_dk, IsD_dk, tyV_list, isLst_lst, isDk_dk, dkOf_dk, atI_0, atI_1, atI_2, atI_3, ixN_30, ixN_31, ixN_32, List.map, List.replicate, List.length_cons, List.length_nil, List.nil_append, List.cons_append, List.append_nil, Nat.reduceSub, Nat.reduceAdd, List.getElem?_cons_zero, List.getElem?_cons_succ, List.set_cons_zero, List.set_cons_succ, List.cons.injEq, Option.some.injEq, V.int.injEq, V.str.injEq, V.bl.injEq, V.ref.injEq, HO.ins.injEq, HO.lst.injEq, HO.tup.injEq, HO.dK.injEq, exists_eq_left, exists_eq_left', exists_eq_right, exists_eq_right', exists_and_left, exists_and_right, true_and, and_true, and_self, if_true, if_false, Bool.false_eq_true, Bool.true_eq_false, eq_self, reduceCtorEq, false_and, and_false, upd_same, upd_upd, and_assoc, Int.reduceToNat, Int.reducePow, Int.reduceMul, Int.reduceAdd, Int.reduceNeg, mIsi, mIsi2, kdV_non, kdV_bl, kdV_int, kdV_str, kdV_ref, kdO_lst, kdO_tup, kdO_dK, V.ty.injEq, mAll, mAny, kit_NoneType_bool, kit_NoneType_int, kit_NoneType_str, kit_NoneType_list, kit_NoneType_tuple, kit_NoneType_dict, kit_bool_bool, kit_bool_int, kit_bool_str, kit_bool_list, kit_bool_tuple, kit_bool_dict, kit_int_bool, kit_int_int, kit_int_str, kit_int_list, kit_int_tuple, kit_int_dict, kit_str_bool, kit_str_int, kit_str_str, kit_str_list, kit_str_tuple, kit_str_dict, kit_list_bool, kit_list_int, kit_list_str, kit_list_list, kit_list_tuple, kit_list_dict, kit_tuple_bool, kit_tuple_int, kit_tuple_str, kit_tuple_list, kit_tuple_tuple, kit_tuple_dict, kit_dict_bool, kit_dict_int, kit_dict_str, kit_dict_list, kit_dict_tuple, kit_dict_dict, String.reduceEq, String.reduceNe, ne_eq, not_false_eq_true, not_true_eq_false, decide_false, decide_true, Bool.not_false, Bool.not_true, Bool.or_false, Bool.false_or, Bool.or_true, Bool.true_or, gTupH, wipe, tYes, exists_eq', exists_eq, exists_const, tFor_eq, tLc_eq, tCallX, tMethX, tRaiseOw, tMkOw, tFldOw, mIxA, mLenA, rInO, rNotInO, mLenO, rSetD, tM1, false_or, or_false, tInT, inV_nil, inV_str, flatV_str, flatV_int, flatV_non, mIntB, List.all_cons, List.all_nil, Bool.and_true, Bool.true_and, Bool.and_self, tDisp, tPairs, exk_nil, exk_str, leS0, leS1, leS2, leS3, leS4, leS5, leS6, leS7, leS8, leS9, leS10, leS11, leS12, Nat.reduceLeDiff, mBoolB, rEqNil]
      exact fun p hp => k _ (Same.new hp)
  | lst e1 k1 => cases hd
  | tup e1 k1 => cases hd
theorem R_same {w : World} {K : PySem.W.Frag} {mg : Str → Option Value} {base : Heap} (T : Tx K mg) : ∀ n : Nat, FnR Pg w K mg base CX0 (n + 1) (He.ga K "_law_same") (sp_l_same n)
  | 0 => R_same_base T
  | n + 1 => R_same_step T n (R_same T n)
/-- to the depth 4 -/
theorem R_l_same {w : World} {K : PySem.W.Frag} {mg : Str → Option Value} {base : Heap} (T : Tx K mg) : FnR Pg w K mg base CX0 5 (He.ga K "_law_same") (sp_l_same 4) := R_same T 4

end K31

set_option Elab.async false
set_option linter.all false
set_option maxRecDepth 100000
set_option maxHeartbeats 4000000
namespace K31
open PySem PySem.Spec PyProof.Rows L2 My
/-- the five marks -/
def Mk (m : Str) : Prop := m = "whole" ∨ m = "out" ∨ m = "in" ∨ m = "both" ∨ m = "closed"
def W6 (w : Str) : Prop := w = "ask" ∨ w = "begin" ∨ w = "finish" ∨ w = "read" ∨ w = "head" ∨ w = "body"
def amV (w : Str) (s r : Bool) : Bool := if w = "ask" ∨ w = "begin" then s else if w = "finish" then !s else if w = "read" ∨ w = "head" then r else if w = "body" then !r else false
theorem am_get {w : Str} (hw : W6 w) (s r : Bool) : (valV (mergeK [] [((Sum.inr "ask" : Key), V.bl s), (Sum.inr "begin", V.bl s), (Sum.inr "finish", V.bl (!s)), (Sum.inr "read", V.bl r), (Sum.inr "head", V.bl r)]) (Sum.inr w)).getD (V.bl (!r)) = V.bl (amV w s r) := by
  rcases hw with rfl | rfl | rfl | rfl | rfl | rfl <;> rfl
def sp_l_fault (_ : PySem.W.Frag) : Sp := fun vs H Q _ => ∃ (w m : Str) (n : Int), vs = [.str w, .str m, .int n] ∧ W6 w ∧ 0 ≤ n ∧ ∀ H', Same H H' → Q (rowFault w m n) H'
theorem R_l_fault {w : World} {K : PySem.W.Frag} {mg : Str → Option Value} {base : Heap} (T : Tx K mg) : FnR Pg w K mg base CX0 1 (He.ga K "_law_fault") (sp_l_fault K) := by
  obtain ⟨fd, F⟩ := T.d_l_fault
  refine My.FunD.R F sc_l_fault (fun vs H Q E h => by obtain ⟨w', m, n, rfl, hw, hn, k⟩ := h; rfl) (fun _ _ _ _ _ _ us hl => match us, hl with | [_, _, _], _ => rfl) (fun cdv A outer s H vs Q E hr h => ?_)
  obtain ⟨w', m, n, rfl, hw, hn, k⟩ := h
  refine ⟨_, (pss_cons (ps_if (pt_notInT (pv 0) (pa_cons pe_str (pa_cons pe_str (pa_cons pe_str (pa_cons pe_str (pa_cons pe_str (pa_cons pe_str pa_nil))))))) (pss_one (ps_ret pe_non)) pss_nil)
      (pss_cons (ps_if (pt_cmpR op_eq (pv 1) pe_str (nomark _)) (pss_one (ps_ret pe_str)) pss_nil)
      (pss_cons (ps_par (i := 3) (j := 4) (by rfl) sc_l_fault.nd rfl rfl (by decide) rfl rfl (pa_cons (pe_inT (pv 1) (pa_cons pe_str (pa_cons pe_str pa_nil))) (pa_cons (pe_inT (pv 1) (pa_cons pe_str (pa_cons pe_str pa_nil))) pa_nil)) (by rfl))
      (pss_cons (ps_set (i := 5) sc_l_fault.nd rfl (by first | exact Or.inl rfl | exact Or.inr rfl) (pe_disp (pps_cons pe_str (pv 3) (pps_cons pe_str (pv 3) (pps_cons pe_str (pe_not (pv 3)) (pps_cons pe_str (pv 4) (pps_cons pe_str (pv 4) pps_nil))))) (by rfl) (by rfl) (fun z => by cases z) (by decide)))
      (pss_cons (ps_if (pt_val (pe_dget2 (hu_of hr) (pv 5) (pv 0) (pe_not (pv 4)) ⟨rfl, rfl, rfl, rfl⟩)) (pss_one (ps_ret pe_str)) pss_nil)
      (pss_one (ps_ret (pe_ifExp (PW.pt (pw_and (pt_inT (pv 0) (pa_cons pe_str (pa_cons pe_str pa_nil))) (pw_and1 (pt_cmpR op_eq (pv 2) pe_int (nomark _))))) pe_str pe_non)))))))), ?_⟩
  simp only [tSeq, tAsg, tRet, tRetN, tIfS, tDrop, tNext, tBreak, tCont, tVar, tC, tOp, tUn, tB, tTest, tAnd, tOr, tNot, tAndV, tOrV, tNotV, tIf, tNil, tCons, tTup, tLst, tCB, tCallR, tMethR, tPropR, StX.tMakeR, tFld, sFld, sFldAug, tPar, tPar3, gName, gNil, gCons, gTup, gSub, rI, rI0, rU, rEq, rNe, mIxL, mIxT, mLenL, mLenT, mLenS, mLenD, mLenK, mList, mTupL, mInt, mAbs, mMax, mMin, mStr, mAddS, mIsN, mNotN, rIxS, rIxL, rSetL, rAppend, rExtendT, rPopAt, rCat, rIn, tBM, tBM0, tChain, tNever, scal, L2.start, cxK, iRng1, iRng2, tDNewK, tDGet, tDGet2, sDPut, tDIn, tDNotIn, DGet_dk, DPut_dk, IsD_dk, tyV_list, isLst_lst, isDk_dk, dkOf_dk, atI_0, atI_1, atI_2, atI_3, ixN_30, ixN_31, ixN_32, List.map, List.replicate, List.length_cons, List.length_nil, List.nil_append, List.cons_append, List.append_nil, Nat.reduceSub, Nat.reduceAdd, List.getElem?_cons_zero, List.getElem?_cons_succ, List.set_cons_zero, List.set_cons_succ, List.cons.injEq, Option.some.injEq, V.int.injEq, V.str.injEq, V.bl.injEq, V.ref.injEq, HO.ins.injEq, HO.lst.injEq, HO.tup.injEq, HO.dK.injEq, exists_eq_left, exists_eq_left', exists_eq_right, exists_eq_right', exists_and_left, exists_and_right, true_and, and_true, and_self, if_true, if_false, Bool.false_eq_true, Bool.true_eq_false, eq_self, reduceCtorEq, false_and, and_false, upd_same, upd_upd, and_assoc, Int.reduceToNat, Int.reducePow, Int.reduceMul, Int.reduceAdd, Int.reduceNeg, mIsi, mIsi2, kdV_non, kdV_bl, kdV_int, kdV_str, kdV_ref, kdO_lst, kdO_tup, kdO_dK, V.ty.injEq, mAll, mAny, kit_NoneType_bool, kit_NoneType_int, kit_NoneType_str, kit_NoneType_list, kit_NoneType_tuple, kit_NoneType_dict, kit_bool_bool, kit_bool_int, kit_bool_str, kit_bool_list, kit_bool_tuple, kit_bool_dict, kit_int_bool, kit_int_int, kit_int_str, kit_int_list, kit_int_tuple, kit_int_dict, kit_str_bool, kit_str_int, kit_str_str, kit_str_list, kit_str_tuple, kit_str_dict, kit_list_bool, kit_list_int, kit_list_str, kit_list_list, kit_list_tuple, kit_list_dict, kit_tuple_bool, kit_tuple_int, kit_tuple_str, kit_tuple_list, kit_tuple_tuple, kit_tuple_dict, kit_dict_bool, kit_dict_int, kit_dict_str, kit_dict_list, kit_dict_tuple, kit_dict_dict, String.reduceEq, String.reduceNe, ne_eq, not_false_eq_true, not_true_eq_false, decide_false, decide_true, Bool.not_false, Bool.not_true, Bool.or_false, Bool.false_or, Bool.or_true, Bool.true_or, gTupH, wipe, tYes, exists_eq', exists_eq, exists_const, tFor_eq, tLc_eq, tCallX, tMethX, tRaiseOw, tMkOw, tFldOw, mIxA, mLenA, rInO, rNotInO, mLenO, rSetD, tM1, false_or, or_false, tInT, inV_nil, inV_str, flatV_str, flatV_int, flatV_non, mIntB, List.all_cons, List.all_nil, Bool.and_true, Bool.true_and, Bool.and_self, tDisp, tPairs, exk_nil, exk_str, leS0, leS1, leS2, leS3, leS4, leS5, leS6, leS7, leS8, leS9, leS10, leS11, leS12, Nat.reduceLeDiff, mBoolB, rEqNil]
  unfold rowFault at k
  rw [if_neg (by rcases hw with rfl | rfl | rfl | rfl | rfl | rfl <;> decide)]
  refine ite_dec (fun h1 => ?_) (fun h1 => ?_)
  · rw [if_pos h1] at k; exact k H (Same.refl H)
  rw [if_neg h1] at k
  intro p hp
  refine ⟨_, am_get hw _ _, ?_⟩
  have s0 := fun o => Same.new (o := o) hp
  refine ite_b (fun h2 => ?_) (fun h2 => ?_)
  · rw [if_pos (show isAmid w' m = true from h2)] at k; exact k _ (s0 _)
  · rw [if_neg (show ¬ isAmid w' m = true from by rw [show isAmid w' m = false from h2]; decide)] at k
    refine ite_b (fun h3 => ?_) (fun h3 => ?_)
    · have h3' : w' = "read" ∨ w' = "head" := by simpa using h3
      refine ite_dec (fun h4 => ?_) (fun h4 => ?_)
      · rw [if_pos ⟨h3', by omega⟩] at k; exact k _ (s0 _)
      · rw [if_neg (fun z => h4 (by omega))] at k; exact k _ (s0 _)
    · have h3' : ¬ (w' = "read" ∨ w' = "head") := by simpa using h3
      rw [if_neg (fun z => h3' z.1)] at k; exact k _ (s0 _)
def sp_l_mark (_ : PySem.W.Frag) : Sp := fun vs H Q _ => ∃ (w m : Str), vs = [.str w, .str m] ∧ Mk m ∧ ∀ H', Same H H' → Q (.str (markAfter w m)) H'
theorem mark_id {m : Str} (h : Mk m) (hc : ¬ m = "closed") : markOf (isOut m) (isIn m) = m := by
  rcases h with rfl | rfl | rfl | rfl | rfl
  · rfl
  · rfl
  · rfl
  · rfl
  · exact absurd rfl hc
theorem mo_eq (s r : Bool) : V.str (markOf s r) = if s = true then (if r = true then .str "both" else .str "out") else (if r = true then .str "in" else .str "whole") := by cases s <;> cases r <;> rfl
theorem R_l_mark {w : World} {K : PySem.W.Frag} {mg : Str → Option Value} {base : Heap} (T : Tx K mg) : FnR Pg w K mg base CX0 1 (He.ga K "_law_mark") (sp_l_mark K) := by
  obtain ⟨fd, F⟩ := T.d_l_mark
  refine My.FunD.R F sc_l_mark (fun vs H Q E h => by obtain ⟨w', m, rfl, hm, k⟩ := h; rfl) (fun _ _ _ _ _ _ us hl => match us, hl with | [_, _], _ => rfl) (fun cdv A outer s H vs Q E hr h => ?_)
  obtain ⟨w', m, rfl, hm, k⟩ := h
  refine ⟨_, (pss_cons (ps_if (PW.pt (pw_or (pt_cmpR op_eq (pv 1) pe_str (nomark _)) (pw_or1 (pt_cmpR op_eq (pv 0) pe_str (nomark _))))) (pss_one (ps_ret pe_str)) pss_nil)
      (pss_cons (ps_par (i := 2) (j := 3) (by rfl) sc_l_mark.nd rfl rfl (by decide) rfl rfl (pa_cons (pe_inT (pv 1) (pa_cons pe_str (pa_cons pe_str pa_nil))) (pa_cons (pe_inT (pv 1) (pa_cons pe_str (pa_cons pe_str pa_nil))) pa_nil)) (by rfl))
      (pss_cons (ps_if (pt_inT (pv 0) (pa_cons pe_str (pa_cons pe_str pa_nil))) (pss_one (ps_set (i := 2) sc_l_mark.nd rfl (by first | exact Or.inl rfl | exact Or.inr rfl) (pe_cmpR op_eq (pv 0) pe_str (nomark _)))) pss_nil)
      (pss_cons (ps_if (pt_inT (pv 0) (pa_cons pe_str (pa_cons pe_str (pa_cons pe_str pa_nil)))) (pss_one (ps_set (i := 3) sc_l_mark.nd rfl (by first | exact Or.inl rfl | exact Or.inr rfl) (pe_cmpR op_eq (pv 0) pe_str (nomark _)))) pss_nil)
      (pss_one (ps_ret (pe_ix ixL (pe_ix ixL (pe_lst (pa_cons (pe_lst (pa_cons pe_str (pa_cons pe_str pa_nil))) (pa_cons (pe_lst (pa_cons pe_str (pa_cons pe_str pa_nil))) pa_nil))) (pe_callTy intB (by rfl) T.n_int (by decide +kernel) (pa_cons (pv 2) pa_nil)) (fun _ _ => rfl)) (pe_callTy intB (by rfl) T.n_int (by decide +kernel) (pa_cons (pv 3) pa_nil)) (fun _ _ => rfl)))))))), ?_⟩
  simp only [tSeq, tAsg, tRet, tRetN, tIfS, tDrop, tNext, tBreak, tCont, tVar, tC, tOp, tUn, tB, tTest, tAnd, tOr, tNot, tAndV, tOrV, tNotV, tIf, tNil, tCons, tTup, tLst, tCB, tCallR, tMethR, tPropR, StX.tMakeR, tFld, sFld, sFldAug, tPar, tPar3, gName, gNil, gCons, gTup, gSub, rI, rI0, rU, rEq, rNe, mIxL, mIxT, mLenL, mLenT, mLenS, mLenD, mLenK, mList, mTupL, mInt, mAbs, mMax, mMin, mStr, mAddS, mIsN, mNotN, rIxS, rIxL, rSetL, rAppend, rExtendT, rPopAt, rCat, rIn, tBM, tBM0, tChain, tNever, scal, L2.start, cxK, iRng1, iRng2, tDNewK, tDGet, tDGet2, sDPut, tDIn, tDNotIn, DGet_dk, DPut_dk, IsD_dk, tyV_list, isLst_lst, isDk_dk, dkOf_dk, atI_0, atI_1, atI_2, atI_3, ixN_30, ixN_31, ixN_32, List.map, List.replicate, List.length_cons, List.length_nil, List.nil_append, List.cons_append, List.append_nil, Nat.reduceSub, Nat.reduceAdd, List.getElem?_cons_zero, List.getElem?_cons_succ, List.set_cons_zero, List.set_cons_succ, List.cons.injEq, Option.some.injEq, V.int.injEq, V.str.injEq, V.bl.injEq, V.ref.injEq, HO.ins.injEq, HO.lst.injEq, HO.tup.injEq, HO.dK.injEq, exists_eq_left, exists_eq_left', exists_eq_right, exists_eq_right', exists_and_left, exists_and_right, true_and, and_true, and_self, if_true, if_false, Bool.false_eq_true, Bool.true_eq_false, eq_self, reduceCtorEq, false_and, and_false, upd_same, upd_upd, and_assoc, Int.reduceToNat, Int.reducePow, Int.reduceMul, Int.reduceAdd, Int.reduceNeg, mIsi, mIsi2, kdV_non, kdV_bl, kdV_int, kdV_str, kdV_ref, kdO_lst, kdO_tup, kdO_dK, V.ty.injEq, mAll, mAny, kit_NoneType_bool, kit_NoneType_int, kit_NoneType_str, kit_NoneType_list, kit_NoneType_tuple, kit_NoneType_dict, kit_bool_bool, kit_bool_int, kit_bool_str, kit_bool_list, kit_bool_tuple, kit_bool_dict, kit_int_bool, kit_int_int, kit_int_str, kit_int_list, kit_int_tuple, kit_int_dict, kit_str_bool, kit_str_int, kit_str_str, kit_str_list, kit_str_tuple, kit_str_dict, kit_list_bool, kit_list_int, kit_list_str, kit_list_list, kit_list_tuple, kit_list_dict, kit_tuple_bool, kit_tuple_int, kit_tuple_str, kit_tuple_list, kit_tuple_tuple, kit_tuple_dict, kit_dict_bool, kit_dict_int, kit_dict_str, kit_dict_list, kit_dict_tuple, kit_dict_dict, String.reduceEq, String.reduceNe, ne_eq, not_false_eq_true, not_true_eq_false, decide_false, decide_true, Bool.not_false, Bool.not_true, Bool.or_false, Bool.false_or, Bool.or_true, Bool.true_or, gTupH, wipe, tYes, exists_eq', exists_eq, exists_const, tFor_eq, tLc_eq, tCallX, tMethX, tRaiseOw, tMkOw, tFldOw, mIxA, mLenA, rInO, rNotInO, mLenO, rSetD, tM1, false_or, or_false, tInT, inV_nil, inV_str, flatV_str, flatV_int, flatV_non, mIntB, List.all_cons, List.all_nil, Bool.and_true, Bool.true_and, Bool.and_self, tDisp, tPairs, exk_nil, exk_str, leS0, leS1, leS2, leS3, leS4, leS5, leS6, leS7, leS8, leS9, leS10, leS11, leS12, Nat.reduceLeDiff, mBoolB, rEqNil]
  unfold markAfter at k
  refine ite_dec (fun h1 => ?_) (fun h1 => ?_)
  · rw [if_pos (.inl h1)] at k; exact k H (Same.refl H)
  refine ite_dec (fun h2 => ?_) (fun h2 => ?_)
  · rw [if_pos (.inr h2)] at k; exact k H (Same.refl H)
  rw [if_neg (by rintro (z | z) <;> contradiction)] at k
  refine ite_b (fun h3 => ?_) (fun h3 => ?_)
  · have h3' : w' = "begin" ∨ w' = "finish" := by simpa using h3
    rw [if_neg (by rcases h3' with rfl | rfl <;> decide)]
    refine pick22 (r := isIn m) fun H' s' => ?_
    rw [← mo_eq]
    rcases h3' with rfl | rfl
    · rw [if_pos rfl] at k; exact k H' s'
    · rw [if_neg (by decide), if_pos rfl] at k; exact k H' s'
  · have h3' : ¬ (w' = "begin" ∨ w' = "finish") := by simpa using h3
    rw [if_neg (fun z => h3' (.inl z)), if_neg (fun z => h3' (.inr z))] at k
    refine ite_b (fun h4 => ?_) (fun h4 => ?_)
    · have h4' : w' = "head" ∨ w' = "body" ∨ w' = "drain" := by simpa using h4
      refine pick22 (s := isOut m) fun H' s' => ?_
      rw [← mo_eq]
      rcases h4' with rfl | rfl | rfl
      · rw [if_pos rfl] at k; exact k H' s'
      · rw [if_neg (by decide), if_pos (by decide)] at k; exact k H' s'
      · rw [if_neg (by decide), if_pos (by decide)] at k; exact k H' s'
    · have h4' : ¬ (w' = "head" ∨ w' = "body" ∨ w' = "drain") := by simpa using h4
      rw [if_neg (fun z => h4' (.inl z)), if_neg (fun z => h4' (.inr z))] at k
      refine pick22 (s := isOut m) (r := isIn m) fun H' s' => ?_
      rw [← mo_eq, mark_id hm h1]
      exact k H' s'
def nowL (n c m q g : V) : List (Key × V) := [(.inr "number", n), (.inr "mark", m), (.inr "queue", q), (.inr "begun", g), (.inr "cause", c)]
section
variable (n c m q g v : V)
theorem nl_new : mergeK [] [((Sum.inr "number" : Key), n), (Sum.inr "mark", m), (Sum.inr "queue", q), (Sum.inr "begun", g), (Sum.inr "cause", c)] = nowL n c m q g := by rfl
theorem nl_number : valV (nowL n c m q g) (Sum.inr "number" : Key) = some n := by rfl
theorem nl_mark : valV (nowL n c m q g) (Sum.inr "mark" : Key) = some m := by rfl
theorem nl_queue : valV (nowL n c m q g) (Sum.inr "queue" : Key) = some q := by rfl
theorem nl_begun : valV (nowL n c m q g) (Sum.inr "begun" : Key) = some g := by rfl
theorem nl_cause : valV (nowL n c m q g) (Sum.inr "cause" : Key) = some c := by rfl
theorem np_mark : putK (nowL n c m q g) (Sum.inr "mark" : Key) v = nowL n c v q g := by rfl
theorem np_queue : putK (nowL n c m q g) (Sum.inr "queue" : Key) v = nowL n c m v g := by rfl
theorem np_begun : putK (nowL n c m q g) (Sum.inr "begun" : Key) v = nowL n c m q v := by rfl
theorem np_cause : putK (nowL n c m q g) (Sum.inr "cause" : Key) v = nowL n v m q g := by rfl
theorem nl_len : (nowL n c m q g).length = 5 := rfl
end
theorem five : 5 < sizeLine := by decide
def sp_l_new (_ : PySem.W.Frag) : Sp := fun vs H Q _ => ∃ (n : Int), vs = [.int n] ∧ ∀ H' d q, H d = none → H q = none → d ≠ q → H' d = some (.dK (nowL (.int n) .non (.str "whole") (.ref q) .non)) → H' q = some (.lst []) → Same H H' → Q (.ref d) H'
theorem R_l_new {w : World} {K : PySem.W.Frag} {mg : Str → Option Value} {base : Heap} (T : Tx K mg) : FnR Pg w K mg base CX0 1 (He.ga K "_law_new") (sp_l_new K) := by
  obtain ⟨fd, F⟩ := T.d_l_new
  refine My.FunD.R F sc_l_new (fun vs H Q E h => by obtain ⟨n, rfl, k⟩ := h; rfl) (fun _ _ _ _ _ _ us hl => match us, hl with | [_], _ => rfl) (fun cdv A outer s H vs Q E hr h => ?_)
  obtain ⟨n, rfl, k⟩ := h
  refine ⟨_, (pss_one (ps_ret (pe_disp (pps_cons pe_str (pv 0) (pps_cons pe_str pe_str (pps_cons pe_str (pe_lst pa_nil) (pps_cons pe_str pe_non (pps_cons pe_str pe_non pps_nil))))) (by rfl) (by rfl) (fun z => by cases z) (by decide)))), ?_⟩
  simp only [tSeq, tAsg, tRet, tRetN, tIfS, tDrop, tNext, tBreak, tCont, tVar, tC, tOp, tUn, tB, tTest, tAnd, tOr, tNot, tAndV, tOrV, tNotV, tIf, tNil, tCons, tTup, tLst, tCB, tCallR, tMethR, tPropR, StX.tMakeR, tFld, sFld, sFldAug, tPar, tPar3, gName, gNil, gCons, gTup, gSub, rI, rI0, rU, rEq, rNe, mIxL, mIxT, mLenL, mLenT, mLenS, mLenD, mLenK, mList, mTupL, mInt, mAbs, mMax, mMin, mStr, mAddS, mIsN, mNotN, rIxS, rIxL, rSetL, rAppend, rExtendT, rPopAt, rCat, rIn, tBM, tBM0, tChain, tNever, scal, L2.start, cxK, iRng1, iRng2, tDNewK, tDGet, tDGet2, sDPut, tDIn, tDNotIn, DGet_dk, DPut_dk, IsD_dk, tyV_list, isLst_lst, isDk_dk, dkOf_dk, atI_0, atI_1, atI_2, atI_3, ixN_30, ixN_31, ixN_32, List.map, List.replicate, List.length_cons, List.length_nil, List.nil_append, List.cons_append, List.append_nil, Nat.reduceSub, Nat.reduceAdd, List.getElem?_cons_zero, List.getElem?_cons_succ, List.set_cons_zero, List.set_cons_succ, List.cons.injEq, Option.some.injEq, V.int.injEq, V.str.injEq, V.bl.injEq, V.ref.injEq, HO.ins.injEq, HO.lst.injEq, HO.tup.injEq, HO.dK.injEq, exists_eq_left, exists_eq_left', exists_eq_right, exists_eq_right', exists_and_left, exists_and_right, true_and, and_true, and_self, if_true, if_false, Bool.false_eq_true, Bool.true_eq_false, eq_self, reduceCtorEq, false_and, and_false, upd_same, upd_upd, and_assoc, Int.reduceToNat, Int.reducePow, Int.reduceMul, Int.reduceAdd, Int.reduceNeg, mIsi, mIsi2, kdV_non, kdV_bl, kdV_int, kdV_str, kdV_ref, kdO_lst, kdO_tup, kdO_dK, V.ty.injEq, mAll, mAny, kit_NoneType_bool, kit_NoneType_int, kit_NoneType_str, kit_NoneType_list, kit_NoneType_tuple, kit_NoneType_dict, kit_bool_bool, kit_bool_int, kit_bool_str, kit_bool_list, kit_bool_tuple, kit_bool_dict, kit_int_bool, kit_int_int, kit_int_str, kit_int_list, kit_int_tuple, kit_int_dict, kit_str_bool, kit_str_int, kit_str_str, kit_str_list, kit_str_tuple, kit_str_dict, kit_list_bool, kit_list_int, kit_list_str, kit_list_list, kit_list_tuple, kit_list_dict, kit_tuple_bool, kit_tuple_int, kit_tuple_str, kit_tuple_list, kit_tuple_tuple, kit_tuple_dict, kit_dict_bool, kit_dict_int, kit_dict_str, kit_dict_list, kit_dict_tuple, kit_dict_dict, String.reduceEq, String.reduceNe, ne_eq, not_false_eq_true, not_true_eq_false, decide_false, decide_true, Bool.not_false, Bool.not_true, Bool.or_false, Bool.false_or, Bool.or_true, Bool.true_or, gTupH, wipe, tYes, exists_eq', exists_eq, exists_const, tFor_eq, tLc_eq, tCallX, tMethX, tRaiseOw, tMkOw, tFldOw, mIxA, mLenA, rInO, rNotInO, mLenO, rSetD, tM1, false_or, or_false, tInT, inV_nil, inV_str, flatV_str, flatV_int, flatV_non, mIntB, List.all_cons, List.all_nil, Bool.and_true, Bool.true_and, Bool.and_self, tDisp, tPairs, exk_nil, exk_str, leS0, leS1, leS2, leS3, leS4, leS5, leS6, leS7, leS8, leS9, leS10, leS11, leS12, Nat.reduceLeDiff, mBoolB, rEqNil]
  intro p hp q hq
  have e : p ≠ q := fun e => by rw [← e, upd_same] at hq; cases hq
  have hq2 : H q = none := by rw [upd_ne e.symm] at hq; exact hq
  rw [nl_new]
  refine ⟨by rw [upd_ne e, upd_same], k _ p q hp hq2 e upd_same ?_ ?_⟩
  · rw [upd_ne e.symm, upd_same]
  · intro b o h
    rw [upd_ne (ne_of_none h hp), upd_ne (ne_of_none h hq2), upd_ne (ne_of_none h hp)]; exact h

end K31

set_option Elab.async false
set_option linter.all false
set_option maxRecDepth 100000
set_option maxHeartbeats 4000000
namespace K31
open PySem PySem.Spec PyProof.Rows L2 My
def W8 (w : Str) : Prop := w = "ask" ∨ w = "begin" ∨ w = "finish" ∨ w = "read" ∨ w = "head" ∨ w = "body" ∨ w = "drain" ∨ w = "close"
def stepQ (w : Str) (ts : List Str) (S : LS) : List Str := if w = "ask" then S.q ++ ts else if w = "finish" then S.q ++ [S.g] else if w = "read" ∨ w = "body" then S.q.tail else S.q
def stepS (w : Str) (ts : List Str) (why : V) (S : LS) : LS :=
  if w = "close" then closeS why S else if w = "drain" then { S with m := markAfter "drain" S.m, q := [] } else
  if rowFault w S.m (S.q.length : Int) = .non then { S with m := markAfter w S.m, q := stepQ w ts S, g := if w = "begin" then ts.headD "" else S.g } else S
def fauR (S : LS) : V → PyData
  | .str f => .tuple [.str f, if f = "amid" then .str S.m else .int S.n]
  | _ => .none
def stepR (w : Str) (S : LS) : PyData :=
  if w = "close" then .tuple [.str "told", .none] else if w = "drain" then .tuple [.str "told", .list (S.q.map .str)] else
  if rowFault w S.m (S.q.length : Int) = .non then .tuple [.str "told", if w = "read" ∨ w = "head" ∨ w = "body" then .str (S.q.headD "") else .none] else fauR S (rowFault w S.m (S.q.length : Int))
structure GoodS (S : LS) : Prop where
  mm : Mk S.m
  hd : isIn S.m = true → S.q ≠ []
/-- the law's own book of a line -/
structure NowAt (H : Hp) (d lq : Addr) (S : LS) (g : V) : Prop where
  ob : H d = some (.dK (nowL (.int S.n) S.c (.str S.m) (.ref lq) g))
  qu : H lq = some (.lst (S.q.map V.str))
  ne : d ≠ lq
  gg : isOut S.m = true → g = .str S.g
def sp_l_due (_ : PySem.W.Frag) : Sp := fun vs H Q _ => ∃ (d lq tl : Addr) (S : LS) (g : V) (w : Str) (ts : List Str) (why : V), vs = [.ref d, .str w, .ref tl, why] ∧ NowAt H d lq S g ∧ H tl = some (.lst (ts.map V.str)) ∧ W8 w ∧ GoodS S ∧ (w = "begin" → ts ≠ []) ∧ S.q.length + ts.length < 100000 ∧
  ∀ H' r lq' g', NowAt H' d lq' (stepS w ts why S) g' → DaF H H' r (stepR w S) → Kp d H H' → (lq' = lq ∨ H lq' = none) → Q r H'
theorem step_fault {w : Str} {ts : List Str} {why : V} {S : LS} (h1 : ¬ w = "close") (h2 : ¬ w = "drain") (h3 : ¬ rowFault w S.m (S.q.length : Int) = .non) : stepS w ts why S = S ∧ stepR w S = fauR S (rowFault w S.m (S.q.length : Int)) := by
  unfold stepS stepR
  rw [if_neg h1, if_neg h2, if_neg h3, if_neg h1, if_neg h2, if_neg h3]
  exact ⟨rfl, rfl⟩
theorem step_ok {w : Str} {ts : List Str} {why : V} {S : LS} (h1 : ¬ w = "close") (h2 : ¬ w = "drain") (h3 : rowFault w S.m (S.q.length : Int) = .non) : stepS w ts why S = { S with m := markAfter w S.m, q := stepQ w ts S, g := if w = "begin" then ts.headD "" else S.g } ∧
    stepR w S = .tuple [.str "told", if w = "read" ∨ w = "head" ∨ w = "body" then .str (S.q.headD "") else .none] := by
  unfold stepS stepR
  rw [if_neg h1, if_neg h2, if_pos h3, if_neg h1, if_neg h2, if_pos h3]
  exact ⟨rfl, rfl⟩
theorem NowAt.same {H H1 : Hp} {d lq : Addr} {S : LS} {g : V} (x : NowAt H d lq S g) (s : Same H H1) : NowAt H1 d lq S g := ⟨s _ _ x.ob, s _ _ x.qu, x.ne, x.gg⟩
theorem due_if {w : Str} {S : LS} {H1 : Hp} {d lq : Addr} {g : V} {Q : VK} {Z : Prop} (hd : H1 d = some (.dK (nowL (.int S.n) S.c (.str S.m) (.ref lq) g))) (kf : ¬ rowFault w S.m (S.q.length : Int) = .non → ∀ p v, H1 p = none → (∀ H'', H'' p = some (.tup [rowFault w S.m (S.q.length : Int), v]) → Da H'' (.ref p) (fauR S (rowFault w S.m (S.q.length : Int)))) → Q (.ref p) (upd H1 p (.tup [rowFault w S.m (S.q.length : Int), v])))
    (kz : rowFault w S.m (S.q.length : Int) = .non → Z) : if (!decide (rowFault w S.m (S.q.length : Int) = V.non)) = true then scal (rowFault w S.m (S.q.length : Int)) (V.str "amid") = true ∧ (if decide (rowFault w S.m (S.q.length : Int) = V.str "amid") = true then ∀ p, H1 p = none → Q (V.ref p) (upd H1 p (.tup [rowFault w S.m (S.q.length : Int), V.str S.m])) else
      ∃ x, DGet H1 d (V.str "number") (some x) ∧ ∀ p, H1 p = none → Q (V.ref p) (upd H1 p (.tup [rowFault w S.m (S.q.length : Int), x]))) else Z := by
  have hD : DGet H1 d (.str "number") (some (.int S.n)) := by
    rw [DGet_dk (by rw [hd]; rfl), hd]; rfl
  rcases rf_cases w S.m (S.q.length : Int) with h | h | h | h
  · rw [if_neg (by rw [h]; decide)]; exact kz h
  all_goals
    have hn : ¬ rowFault w S.m (S.q.length : Int) = .non := by rw [h]; intro z; cases z
    have kf := kf hn
    rw [h] at kf ⊢
    refine iteT ⟨rfl, ?_⟩
    first
      | exact iteT fun p hp => kf p _ hp (fun H'' e => .tup e (.cons (.str _) (.cons (.str _) .nil)))
      | exact iteF ⟨_, hD, fun p hp => kf p _ hp (fun H'' e => .tup e (.cons (.str _) (.cons (.int _) .nil)))⟩
theorem out_after {w m : Str} (hm : Mk m) (hw : W8 w) (hb : ¬ w = "begin") : isOut (markAfter w m) = true → isOut m = true := by
  rcases hm with rfl | rfl | rfl | rfl | rfl <;> rcases hw with rfl | rfl | rfl | rfl | rfl | rfl | rfl | rfl <;> first | decide | exact absurd rfl hb
theorem rf_fin {m : Str} {n : Int} (h : rowFault "finish" m n = .non) : isOut m = true := by
  have e2 : isAmid "finish" m = !isOut m := by
    unfold isAmid
    rw [if_neg (by decide), if_pos rfl]
  unfold rowFault at h
  rw [e2] at h
  split at h
  · cases h
  · cases e : isOut m
    · rw [e, if_pos (show (!false) = true from rfl)] at h
      cases h
    · rfl
theorem dueFin {H G : Hp} {d lq lq' : Addr} {S' : LS} {g' x : V} {dx : PyData} {Q : VK} (k : ∀ H' r lq' g', NowAt H' d lq' S' g' → DaF H H' r (.tuple [.str "told", dx]) → Kp d H H' → (lq' = lq ∨ H lq' = none) → Q r H') (hN : NowAt G d lq' S' g') (hx : DaF H G x dx) (hk : Kp d H G) (hl : lq' = lq ∨ H lq' = none) :
    ∀ p, G p = none → Q (.ref p) (upd G p (.tup [.str "told", x])) := fun p hp => by
  have s : Same G (upd G p (.tup [.str "told", x])) := Same.new hp
  exact k _ _ lq' g' (hN.same s) (fun H'' hf => .tup (hf p _ (none_kp hk hN.ob hp) upd_same) (.cons (.str _) (.cons (hx H'' fun c o h1 h2 => hf c o h1 (s _ _ h2)) .nil))) (fun b o n h => s _ _ (hk b o n h)) hl
theorem R_l_due {w : World} {K : PySem.W.Frag} {mg : Str → Option Value} {base : Heap} (T : Tx K mg) : FnR Pg w K mg base CX0 3 (He.ga K "_law_due") (sp_l_due K) := by
  obtain ⟨fd, F⟩ := T.d_l_due
  refine My.FunD.R F sc_l_due (fun vs H Q E h => by obtain ⟨d, lq, tl, S, g, w', ts, why, rfl, hN, ht, hw, hG, hb, hz, k⟩ := h; rfl) (fun _ _ _ _ _ _ us hl => match us, hl with | [_, _, _, _], _ => rfl) (fun cdv A outer s H vs Q E hr h => ?_)
  obtain ⟨d, lq, tl, S, g, w', ts, why, rfl, hN, ht, hw, hG, hb, hz, k⟩ := h
  refine ⟨_, (pss_cons (ps_par (i := 4) (j := 5) (by rfl) sc_l_due.nd rfl rfl (by decide) rfl rfl (pa_cons (pe_dget (hu_of hr) (pv 0) pe_str (fun _ _ => rfl)) (pa_cons (pe_dget (hu_of hr) (pv 0) pe_str (fun _ _ => rfl)) pa_nil)) (by rfl))
      (pss_cons (ps_if (pt_cmpR op_eq (pv 1) pe_str (nomark _)) (pss_cons (ps_if (pt_cmpR op_ne (pv 5) pe_str (nomark _)) (pss_one (ps_asg (pe_tup (pa_cons pe_str (pa_cons (pv 3) (pa_cons (pe_lst pa_nil) pa_nil)))) (pg_tupH (n := 3) rfl (pgs_cons (pg_sub (pv 0) pe_str (set_dict (hu_of hr))) (pgs_cons (pg_sub (pv 0) pe_str (set_dict (hu_of hr))) (pgs_cons (pg_sub (pv 0) pe_str (set_dict (hu_of hr))) pgs_nil)))))) pss_nil)
      (pss_one (ps_ret (pe_tup (pa_cons pe_str (pa_cons pe_non pa_nil)))))) pss_nil)
      (pss_cons (ps_if (pt_cmpR op_eq (pv 1) pe_str (nomark _)) (pss_cons (ps_asg (pe_tup (pa_cons (pe_callR (R_l_mark T) (hr.mono (by decide)) rfl T.g__law_mark T.k__law_mark pass0 (pa_cons (pv 1) (pa_cons (pv 5) pa_nil))) (pa_cons (pe_lst pa_nil) pa_nil))) (pg_tupH (n := 2) rfl (pgs_cons (pg_sub (pv 0) pe_str (set_dict (hu_of hr))) (pgs_cons (pg_sub (pv 0) pe_str (set_dict (hu_of hr))) pgs_nil))))
      (pss_one (ps_ret (pe_tup (pa_cons pe_str (pa_cons (pe_callTy listL (by rfl) T.n_list (by decide +kernel) (pa_cons (pv 4) pa_nil)) pa_nil)))))) pss_nil)
      (pss_cons (ps_set (i := 6) sc_l_due.nd rfl (by first | exact Or.inl rfl | exact Or.inr rfl) (pe_callR (R_l_fault T) (hr.mono (by decide)) rfl T.g__law_fault T.k__law_fault pass0 (pa_cons (pv 1) (pa_cons (pv 5) (pa_cons (pe_callB lenL (by rfl) T.n_len (by decide +kernel) (pa_cons (pv 4) pa_nil)) pa_nil)))))
      (pss_cons (ps_if (pt_cmpR notN (pv 6) pe_non (nomark _)) (pss_one (ps_ret (pe_tup (pa_cons (pv 6) (pa_cons (pe_ifExp (pt_cmpR op_eq (pv 6) pe_str (nomark _)) (pv 5) (pe_dget (hu_of hr) (pv 0) pe_str (fun _ _ => rfl))) pa_nil))))) pss_nil)
      (pss_cons (ps_dput (hu_of hr) (pv 0) pe_str (pe_callR (R_l_mark T) (hr.mono (by decide)) rfl T.g__law_mark T.k__law_mark pass0 (pa_cons (pv 1) (pa_cons (pv 5) pa_nil))) rfl)
      (pss_cons (ps_if (pt_cmpR op_eq (pv 1) pe_str (nomark _)) (pss_one (ps_dput (hu_of hr) (pv 0) pe_str (pe_op op_cat (pv 4) (pv 2)) rfl)) pss_nil)
      (pss_cons (ps_if (pt_cmpR op_eq (pv 1) pe_str (nomark _)) (pss_one (ps_dput (hu_of hr) (pv 0) pe_str (pe_ix ixL (pv 2) pe_int (fun _ _ => rfl)) rfl)) pss_nil)
      (pss_cons (ps_if (pt_cmpR op_eq (pv 1) pe_str (nomark _)) (pss_one (ps_dput (hu_of hr) (pv 0) pe_str (pe_op op_cat (pv 4) (pe_lst (pa_cons (pe_dget (hu_of hr) (pv 0) pe_str (fun _ _ => rfl)) pa_nil))) rfl)) pss_nil)
      (pss_cons (ps_if (pt_inT (pv 1) (pa_cons pe_str (pa_cons pe_str pa_nil))) (pss_one (ps_dput (hu_of hr) (pv 0) pe_str (pe_slice slL (pv 4) (po_some pe_int) po_none) rfl)) pss_nil)
      (pss_one (ps_ret (pe_tup (pa_cons pe_str (pa_cons (pe_ifExp (pt_inT (pv 1) (pa_cons pe_str (pa_cons pe_str (pa_cons pe_str pa_nil)))) (pe_ix ixL (pv 4) pe_int (fun _ _ => rfl)) pe_non) pa_nil))))))))))))))), ?_⟩
  have hN0 := hN
  obtain ⟨hd, hq, hne, hgg⟩ := hN
  by_cases hc : w' = "close"
  · subst hc
    simp only [tSeq, tAsg, tRet, tRetN, tIfS, tDrop, tNext, tBreak, tCont, tVar, tC, tOp, tUn, tB, tTest, tAnd, tOr, tNot, tAndV, tOrV, tNotV, tIf, tNil, tCons, tTup, tLst, tCB, tCallR, tMethR, tPropR, StX.tMakeR, tFld, sFld, sFldAug, tPar, tPar3, gName, gNil, gCons, gTup, gSub, rI, rI0, rU, rEq, rNe, mIxL, mIxT, mLenL, mLenT, mLenS, mLenD, mLenK, mList, mTupL, mInt, mAbs, mMax, mMin, mStr, mAddS, mIsN, mNotN, rIxS, rIxL, rSetL, rAppend, rExtendT, rPopAt, rCat, rIn, tBM, tBM0, tChain, tNever, scal, L2.start, cxK, iRng1, iRng2, tDNewK, tDGet, tDGet2, sDPut, tDIn, tDNotIn, DGet_dk, DPut_dk, IsD_dk, tyV_list, isLst_lst, isDk_dk, dkOf_dk, atI_0, atI_1, atI_2, atI_3, ixN_30, ixN_31, ixN_32, List.map, List.replicate, List.length_cons, List.length_nil, List.nil_append, List.cons_append, List.append_nil, Nat.reduceSub, Nat.reduceAdd, List.getElem?_cons_zero, List.getElem?_cons_succ, List.set_cons_zero, List.set_cons_succ, List.cons.injEq, Option.some.injEq, V.int.injEq, V.str.injEq, V.bl.injEq, V.ref.injEq, HO.ins.injEq, HO.lst.injEq, HO.tup.injEq, HO.dK.injEq, exists_eq_left, exists_eq_left', exists_eq_right, exists_eq_right', exists_and_left, exists_and_right, true_and, and_true, and_self, if_true, if_false, Bool.false_eq_true, Bool.true_eq_false, eq_self, reduceCtorEq, false_and, and_false, upd_same, upd_upd, and_assoc, Int.reduceToNat, Int.reducePow, Int.reduceMul, Int.reduceAdd, Int.reduceNeg, mIsi, mIsi2, kdV_non, kdV_bl, kdV_int, kdV_str, kdV_ref, kdO_lst, kdO_tup, kdO_dK, V.ty.injEq, mAll, mAny, kit_NoneType_bool, kit_NoneType_int, kit_NoneType_str, kit_NoneType_list, kit_NoneType_tuple, kit_NoneType_dict, kit_bool_bool, kit_bool_int, kit_bool_str, kit_bool_list, kit_bool_tuple, kit_bool_dict, kit_int_bool, kit_int_int, kit_int_str, kit_int_list, kit_int_tuple, kit_int_dict, kit_str_bool, kit_str_int, kit_str_str, kit_str_list, kit_str_tuple, kit_str_dict, kit_list_bool, kit_list_int, kit_list_str, kit_list_list, kit_list_tuple, kit_list_dict, kit_tuple_bool, kit_tuple_int, kit_tuple_str, kit_tuple_list, kit_tuple_tuple, kit_tuple_dict, kit_dict_bool, kit_dict_int, kit_dict_str, kit_dict_list, kit_dict_tuple, kit_dict_dict, String.reduceEq, String.reduceNe, ne_eq, not_false_eq_true, not_true_eq_false, decide_false, decide_true, Bool.not_false, Bool.not_true, Bool.or_false, Bool.false_or, Bool.or_true, Bool.true_or, gTupH, wipe, tYes, exists_eq', exists_eq, exists_const, tFor_eq, tLc_eq, tCallX, tMethX, tRaiseOw, tMkOw, tFldOw, mIxA, mLenA, rInO, rNotInO, mLenO, rSetD, tM1, false_or, or_false, tInT, inV_nil, inV_str, flatV_str, flatV_int, flatV_non, mIntB, List.all_cons, List.all_nil, Bool.and_true, Bool.true_and, Bool.and_self, tDisp, tPairs, exk_nil, exk_str, leS0, leS1, leS2, leS3, leS4, leS5, leS6, leS7, leS8, leS9, leS10, leS11, leS12, Nat.reduceLeDiff, mBoolB, rEqNil, hd, hq, ht, nl_number, nl_mark, nl_queue, nl_begun, nl_cause, np_mark, np_queue, np_begun, np_cause, nl_len, five, ofS_eq, sp_l_fault, sp_l_mark, List.length_map]
    refine ite_b (fun h => ?_) (fun h => ?_)
    · have h' : ¬ S.m = "closed" := by simpa using h
      intro p hp p1 hp1
      have e1 : d ≠ p := ne_of_none hd hp
      have e2 : d ≠ p1 := fun e => by rw [← e, upd_ne e1, hd] at hp1; cases hp1
      have e3 : p ≠ p1 := fun e => by rw [← e, upd_same] at hp1; cases hp1
      have hp1' : H p1 = none := by rw [upd_ne e3.symm] at hp1; exact hp1
      simp only [tSeq, tAsg, tRet, tRetN, tIfS, tDrop, tNext, tBreak, tCont, tVar, tC, tOp, tUn, tB, tTest, tAnd, tOr, tNot, tAndV, tOrV, tNotV, tIf, tNil, tCons, tTup, tLst, tCB, tCallR, tMethR, tPropR, StX.tMakeR, tFld, sFld, sFldAug, tPar, tPar3, gName, gNil, gCons, gTup, gSub, rI, rI0, rU, rEq, rNe, mIxL, mIxT, mLenL, mLenT, mLenS, mLenD, mLenK, mList, mTupL, mInt, mAbs, mMax, mMin, mStr, mAddS, mIsN, mNotN, rIxS, rIxL, rSetL, rAppend, rExtendT, rPopAt, rCat, rIn, tBM, tBM0, tChain, tNever, scal, L2.start, cxK, iRng1, iRng2, tDNewK, tDGet, tDGet2, sDPut, tDIn, tDNotIn, DGet_dk, DPut_dk, IsD_dk, tyV_list, isLst_lst, isDk_dk, dkOf_dk, atI_0, atI_1, atI_2, atI_3, ixN_30, ixN_31, ixN_32, List.map, List.replicate, List.length_cons, List.length_nil, List.nil_append, List.cons_append, List.append_nil, Nat.reduceSub, Nat.reduceAdd, List.getElem?_cons_zero, List.getElem?_cons_succ, List.set_cons_zero, List.set_cons_succ, List.cons.injEq, Option.some.injEq, V.int.injEq, V.str.injEq, V.bl.injEq, V.ref.injEq, HO.ins.injEq, HO.lst.injEq, HO.tup.injEq, HO.dK.injEq, exists_eq_left, exists_eq_left', exists_eq_right, exists_eq_right', exists_and_left, exists_and_right, true_and, and_true, and_self, if_true, if_false, Bool.false_eq_true, Bool.true_eq_false, eq_self, reduceCtorEq, false_and, and_false, upd_same, upd_upd, and_assoc, Int.reduceToNat, Int.reducePow, Int.reduceMul, Int.reduceAdd, Int.reduceNeg, mIsi, mIsi2, kdV_non, kdV_bl, kdV_int, kdV_str, kdV_ref, kdO_lst, kdO_tup, kdO_dK, V.ty.injEq, mAll, mAny, kit_NoneType_bool, kit_NoneType_int, kit_NoneType_str, kit_NoneType_list, kit_NoneType_tuple, kit_NoneType_dict, kit_bool_bool, kit_bool_int, kit_bool_str, kit_bool_list, kit_bool_tuple, kit_bool_dict, kit_int_bool, kit_int_int, kit_int_str, kit_int_list, kit_int_tuple, kit_int_dict, kit_str_bool, kit_str_int, kit_str_str, kit_str_list, kit_str_tuple, kit_str_dict, kit_list_bool, kit_list_int, kit_list_str, kit_list_list, kit_list_tuple, kit_list_dict, kit_tuple_bool, kit_tuple_int, kit_tuple_str, kit_tuple_list, kit_tuple_tuple, kit_tuple_dict, kit_dict_bool, kit_dict_int, kit_dict_str, kit_dict_list, kit_dict_tuple, kit_dict_dict, String.reduceEq, String.reduceNe, ne_eq, not_false_eq_true, not_true_eq_false, decide_false, decide_true, Bool.not_false, Bool.not_true, Bool.or_false, Bool.false_or, Bool.or_true, Bool.true_or, gTupH, wipe, tYes, exists_eq', exists_eq, exists_const, tFor_eq, tLc_eq, tCallX, tMethX, tRaiseOw, tMkOw, tFldOw, mIxA, mLenA, rInO, rNotInO, mLenO, rSetD, tM1, false_or, or_false, tInT, inV_nil, inV_str, flatV_str, flatV_int, flatV_non, mIntB, List.all_cons, List.all_nil, Bool.and_true, Bool.true_and, Bool.and_self, tDisp, tPairs, exk_nil, exk_str, leS0, leS1, leS2, leS3, leS4, leS5, leS6, leS7, leS8, leS9, leS10, leS11, leS12, Nat.reduceLeDiff, mBoolB, rEqNil, upd_ne e1, upd_ne e2, hd, nl_number, nl_mark, nl_queue, nl_begun, nl_cause, np_mark, np_queue, np_begun, np_cause, nl_len, five]
      intro p2 hp2
      have e4 : p2 ≠ d := fun e => by rw [e, upd_same] at hp2; cases hp2
      have e5 : p2 ≠ p := fun e => by rw [upd_ne e4, e, upd_ne e3, upd_same] at hp2; cases hp2
      have e6 : H p2 = none := by
        rw [upd_ne e4] at hp2
        cases q : H p2 with
        | none => rfl
        | some o => rw [Same.upd_new (Same.new hp) hp1 _ _ q] at hp2; cases hp2
      refine k _ _ p g ⟨?_, ?_, e1, ?_⟩ (fun H'' hf => .tup (hf p2 _ e6 upd_same) (.cons (.str _) (.cons .non .nil))) (fun b o n h => ?_) (.inr hp)
      · rw [upd_ne e4.symm, upd_same, show stepS "close" ts why S = closeS why S from if_pos rfl, closeS, if_neg h']
      · rw [upd_ne e5.symm, upd_ne e1.symm, upd_ne e3, upd_same, show stepS "close" ts why S = closeS why S from if_pos rfl, closeS, if_neg h']; rfl
      · rw [show stepS "close" ts why S = closeS why S from if_pos rfl, closeS, if_neg h']; intro z; cases z
      · rw [upd_ne (ne_of_none h e6), upd_ne n, upd_ne (ne_of_none h hp1'), upd_ne (ne_of_none h hp)]; exact h
    · have h' : S.m = "closed" := by simpa using h
      intro p hp
      have s1 : Same H (upd H p (.tup [.str "told", .non])) := Same.new hp
      refine k _ _ lq g ?_ (fun H'' hf => .tup (hf p _ hp upd_same) (.cons (.str _) (.cons .non .nil))) (fun b o n h => s1 _ _ h) (.inl rfl)
      rw [show stepS "close" ts why S = closeS why S from if_pos rfl, closeS, if_pos h']; exact hN0.same s1
  by_cases hdr : w' = "drain"
  · subst hdr
    simp only [tSeq, tAsg, tRet, tRetN, tIfS, tDrop, tNext, tBreak, tCont, tVar, tC, tOp, tUn, tB, tTest, tAnd, tOr, tNot, tAndV, tOrV, tNotV, tIf, tNil, tCons, tTup, tLst, tCB, tCallR, tMethR, tPropR, StX.tMakeR, tFld, sFld, sFldAug, tPar, tPar3, gName, gNil, gCons, gTup, gSub, rI, rI0, rU, rEq, rNe, mIxL, mIxT, mLenL, mLenT, mLenS, mLenD, mLenK, mList, mTupL, mInt, mAbs, mMax, mMin, mStr, mAddS, mIsN, mNotN, rIxS, rIxL, rSetL, rAppend, rExtendT, rPopAt, rCat, rIn, tBM, tBM0, tChain, tNever, scal, L2.start, cxK, iRng1, iRng2, tDNewK, tDGet, tDGet2, sDPut, tDIn, tDNotIn, DGet_dk, DPut_dk, IsD_dk, tyV_list, isLst_lst, isDk_dk, dkOf_dk, atI_0, atI_1, atI_2, atI_3, ixN_30, ixN_31, ixN_32, List.map, List.replicate, List.length_cons, List.length_nil, List.nil_append, List.cons_append, List.append_nil, Nat.reduceSub, Nat.reduceAdd, List.getElem?_cons_zero, List.getElem?_cons_succ, List.set_cons_zero, List.set_cons_succ, List.cons.injEq, Option.some.injEq, V.int.injEq, V.str.injEq, V.bl.injEq, V.ref.injEq, HO.ins.injEq, HO.lst.injEq, HO.tup.injEq, HO.dK.injEq, exists_eq_left, exists_eq_left', exists_eq_right, exists_eq_right', exists_and_left, exists_and_right, true_and, and_true, and_self, if_true, if_false, Bool.false_eq_true, Bool.true_eq_false, eq_self, reduceCtorEq, false_and, and_false, upd_same, upd_upd, and_assoc, Int.reduceToNat, Int.reducePow, Int.reduceMul, Int.reduceAdd, Int.reduceNeg, mIsi, mIsi2, kdV_non, kdV_bl, kdV_int, kdV_str, kdV_ref, kdO_lst, kdO_tup, kdO_dK, V.ty.injEq, mAll, mAny, kit_NoneType_bool, kit_NoneType_int, kit_NoneType_str, kit_NoneType_list, kit_NoneType_tuple, kit_NoneType_dict, kit_bool_bool, kit_bool_int, kit_bool_str, kit_bool_list, kit_bool_tuple, kit_bool_dict, kit_int_bool, kit_int_int, kit_int_str, kit_int_list, kit_int_tuple, kit_int_dict, kit_str_bool, kit_str_int, kit_str_str, kit_str_list, kit_str_tuple, kit_str_dict, kit_list_bool, kit_list_int, kit_list_str, kit_list_list, kit_list_tuple, kit_list_dict, kit_tuple_bool, kit_tuple_int, kit_tuple_str, kit_tuple_list, kit_tuple_tuple, kit_tuple_dict, kit_dict_bool, kit_dict_int, kit_dict_str, kit_dict_list, kit_dict_tuple, kit_dict_dict, String.reduceEq, String.reduceNe, ne_eq, not_false_eq_true, not_true_eq_false, decide_false, decide_true, Bool.not_false, Bool.not_true, Bool.or_false, Bool.false_or, Bool.or_true, Bool.true_or, gTupH, wipe, tYes, exists_eq', exists_eq, exists_const, tFor_eq, tLc_eq, tCallX, tMethX, tRaiseOw, tMkOw, tFldOw, mIxA, mLenA, rInO, rNotInO, mLenO, rSetD, tM1, false_or, or_false, tInT, inV_nil, inV_str, flatV_str, flatV_int, flatV_non, mIntB, List.all_cons, List.all_nil, Bool.and_true, Bool.true_and, Bool.and_self, tDisp, tPairs, exk_nil, exk_str, leS0, leS1, leS2, leS3, leS4, leS5, leS6, leS7, leS8, leS9, leS10, leS11, leS12, Nat.reduceLeDiff, mBoolB, rEqNil, hd, hq, ht, nl_number, nl_mark, nl_queue, nl_begun, nl_cause, np_mark, np_queue, np_begun, np_cause, nl_len, five, ofS_eq, sp_l_fault, sp_l_mark, List.length_map]
    refine ⟨hG.mm, fun H1 s1 p hp p1 hp1 => ?_⟩
    have hd1 := s1 _ _ hd
    have hq1 := s1 _ _ hq
    have e1 : d ≠ p := ne_of_none hd1 hp
    have e2 : d ≠ p1 := fun e => by rw [← e, upd_ne e1, hd1] at hp1; cases hp1
    have e3 : p ≠ p1 := fun e => by rw [← e, upd_same] at hp1; cases hp1
    have hp1' : H1 p1 = none := by rw [upd_ne e3.symm] at hp1; exact hp1
    have f1 : lq ≠ p := ne_of_none hq1 hp
    have f2 : lq ≠ p1 := ne_of_none hq1 hp1'
    simp only [tSeq, tAsg, tRet, tRetN, tIfS, tDrop, tNext, tBreak, tCont, tVar, tC, tOp, tUn, tB, tTest, tAnd, tOr, tNot, tAndV, tOrV, tNotV, tIf, tNil, tCons, tTup, tLst, tCB, tCallR, tMethR, tPropR, StX.tMakeR, tFld, sFld, sFldAug, tPar, tPar3, gName, gNil, gCons, gTup, gSub, rI, rI0, rU, rEq, rNe, mIxL, mIxT, mLenL, mLenT, mLenS, mLenD, mLenK, mList, mTupL, mInt, mAbs, mMax, mMin, mStr, mAddS, mIsN, mNotN, rIxS, rIxL, rSetL, rAppend, rExtendT, rPopAt, rCat, rIn, tBM, tBM0, tChain, tNever, scal, L2.start, cxK, iRng1, iRng2, tDNewK, tDGet, tDGet2, sDPut, tDIn, tDNotIn, DGet_dk, DPut_dk, IsD_dk, tyV_list, isLst_lst, isDk_dk, dkOf_dk, atI_0, atI_1, atI_2, atI_3, ixN_30, ixN_31, ixN_32, List.map, List.replicate, List.length_cons, List.length_nil, List.nil_append, List.cons_append, List.append_nil, Nat.reduceSub, Nat.reduceAdd, List.getElem?_cons_zero, List.getElem?_cons_succ, List.set_cons_zero, List.set_cons_succ, List.cons.injEq, Option.some.injEq, V.int.injEq, V.str.injEq, V.bl.injEq, V.ref.injEq, HO.ins.injEq, HO.lst.injEq, HO.tup.injEq, HO.dK.injEq, exists_eq_left, exists_eq_left', exists_eq_right, exists_eq_right', exists_and_left, exists_and_right, true_and, and_true, and_self, if_true, if_false, Bool.false_eq_true, Bool.true_eq_false, eq_self, reduceCtorEq, false_and, and_false, upd_same, upd_upd, and_assoc, Int.reduceToNat, Int.reducePow, Int.reduceMul, Int.reduceAdd, Int.reduceNeg, mIsi, mIsi2, kdV_non, kdV_bl, kdV_int, kdV_str, kdV_ref, kdO_lst, kdO_tup, kdO_dK, V.ty.injEq, mAll, mAny, kit_NoneType_bool, kit_NoneType_int, kit_NoneType_str, kit_NoneType_list, kit_NoneType_tuple, kit_NoneType_dict, kit_bool_bool, kit_bool_int, kit_bool_str, kit_bool_list, kit_bool_tuple, kit_bool_dict, kit_int_bool, kit_int_int, kit_int_str, kit_int_list, kit_int_tuple, kit_int_dict, kit_str_bool, kit_str_int, kit_str_str, kit_str_list, kit_str_tuple, kit_str_dict, kit_list_bool, kit_list_int, kit_list_str, kit_list_list, kit_list_tuple, kit_list_dict, kit_tuple_bool, kit_tuple_int, kit_tuple_str, kit_tuple_list, kit_tuple_tuple, kit_tuple_dict, kit_dict_bool, kit_dict_int, kit_dict_str, kit_dict_list, kit_dict_tuple, kit_dict_dict, String.reduceEq, String.reduceNe, ne_eq, not_false_eq_true, not_true_eq_false, decide_false, decide_true, Bool.not_false, Bool.not_true, Bool.or_false, Bool.false_or, Bool.or_true, Bool.true_or, gTupH, wipe, tYes, exists_eq', exists_eq, exists_const, tFor_eq, tLc_eq, tCallX, tMethX, tRaiseOw, tMkOw, tFldOw, mIxA, mLenA, rInO, rNotInO, mLenO, rSetD, tM1, false_or, or_false, tInT, inV_nil, inV_str, flatV_str, flatV_int, flatV_non, mIntB, List.all_cons, List.all_nil, Bool.and_true, Bool.true_and, Bool.and_self, tDisp, tPairs, exk_nil, exk_str, leS0, leS1, leS2, leS3, leS4, leS5, leS6, leS7, leS8, leS9, leS10, leS11, leS12, Nat.reduceLeDiff, mBoolB, rEqNil, upd_ne e1, upd_ne e2, upd_ne f1, upd_ne f2, upd_ne hne.symm, hd1, hq1, nl_number, nl_mark, nl_queue, nl_begun, nl_cause, np_mark, np_queue, np_begun, np_cause, nl_len, five]
    have s1k : Kp d H H1 := fun b o _ h => s1 _ _ h
    have hk : Kp d H (upd (upd (upd H1 p (.lst [])) p1 (.tup [V.str (markAfter "drain" S.m), V.ref p])) d (.dK (nowL (V.int S.n) S.c (V.str (markAfter "drain" S.m)) (V.ref p) g))) := ((s1k.new hp).new hp1).upd
    have hN' : NowAt (upd (upd (upd H1 p (.lst [])) p1 (.tup [V.str (markAfter "drain" S.m), V.ref p])) d (.dK (nowL (V.int S.n) S.c (V.str (markAfter "drain" S.m)) (V.ref p) g))) d p (stepS "drain" ts why S) g := by
      rw [show stepS "drain" ts why S = { S with m := markAfter "drain" S.m, q := [] } from by unfold stepS; rw [if_neg (by decide), if_pos rfl]]
      exact ⟨upd_same, by rw [upd_ne e1.symm, upd_ne e3, upd_same]; rfl, e1, fun z => hgg (out_after hG.mm hw (by decide) z)⟩
    intro l hl
    refine dueFin (dx := .list (S.q.map .str)) k (hN'.same (Same.new hl)) (fun H'' hf => .lst (hf l _ (none_kp hk upd_same hl) upd_same) (DaAll.strs _)) (hk.new hl) (.inr (none_of s1 hp))
  have hw6 : W6 w' := by rcases hw with h | h | h | h | h | h | h | h <;> first | exact absurd h hc | exact absurd h hdr | simp [W6, h]
  have hfault : ¬ rowFault w' S.m (S.q.length : Int) = .non → ∀ H1, Same H H1 → ∀ p v, H1 p = none → (∀ H'', H'' p = some (.tup [rowFault w' S.m (S.q.length : Int), v]) → Da H'' (.ref p) (fauR S (rowFault w' S.m (S.q.length : Int)))) → Q (.ref p) (upd H1 p (.tup [rowFault w' S.m (S.q.length : Int), v])) := fun hf H1 s1 p v hp hD => by
    obtain ⟨t1, t2⟩ := step_fault (ts := ts) (why := why) hc hdr hf
    rw [t1, t2] at k
    have s3 : Same H (upd H1 p (.tup [rowFault w' S.m (S.q.length : Int), v])) := Same.upd_new s1 hp
    exact k _ _ lq g (hN0.same s3) (fun H'' hf2 => hD H'' (hf2 p _ (none_of s1 hp) upd_same)) (fun b o _ h => s3 _ _ h) (.inl rfl)
  rcases hw6 with rfl | rfl | rfl | rfl | rfl | rfl
  · simp only [tSeq, tAsg, tRet, tRetN, tIfS, tDrop, tNext, tBreak, tCont, tVar, tC, tOp, tUn, tB, tTest, tAnd, tOr, tNot, tAndV, tOrV, tNotV, tIf, tNil, tCons, tTup, tLst, tCB, tCallR, tMethR, tPropR, StX.tMakeR, tFld, sFld, sFldAug, tPar, tPar3, gName, gNil, gCons, gTup, gSub, rI, rI0, rU, rEq, rNe, mIxL, mIxT, mLenL, mLenT, mLenS, mLenD, mLenK, mList, mTupL, mInt, mAbs, mMax, mMin, mStr, mAddS, mIsN, mNotN, rIxS, rIxL, rSetL, rAppend, rExtendT, rPopAt, rCat, rIn, tBM, tBM0, tChain, tNever, scal, L2.start, cxK, iRng1, iRng2, tDNewK, tDGet, tDGet2, sDPut, tDIn, tDNotIn, DGet_dk, DPut_dk, IsD_dk, tyV_list, isLst_lst, isDk_dk, dkOf_dk, atI_0, atI_1, atI_2, atI_3, ixN_30, ixN_31, ixN_32, List.map, List.replicate, List.length_cons, List.length_nil, List.nil_append, List.cons_append, List.append_nil, Nat.reduceSub, Nat.reduceAdd, List.getElem?_cons_zero, List.getElem?_cons_succ, List.set_cons_zero, List.set_cons_succ, List.cons.injEq, Option.some.injEq, V.int.injEq, V.str.injEq, V.bl.injEq, V.ref.injEq, HO.ins.injEq, HO.lst.injEq, HO.tup.injEq, HO.dK.injEq, exists_eq_left, exists_eq_left', exists_eq_right, exists_eq_right', exists_and_left, exists_and_right, true_and, and_true, and_self, if_true, if_false, Bool.false_eq_true, Bool.true_eq_false, eq_self, reduceCtorEq, false_and, and_false, upd_same, upd_upd, and_assoc, Int.reduceToNat, Int.reducePow, Int.reduceMul, Int.reduceAdd, Int.reduceNeg, mIsi, mIsi2, kdV_non, kdV_bl, kdV_int, kdV_str, kdV_ref, kdO_lst, kdO_tup, kdO_dK, V.ty.injEq, mAll, mAny, kit_NoneType_bool, kit_NoneType_int, kit_NoneType_str, kit_NoneType_list, kit_NoneType_tuple, kit_NoneType_dict, kit_bool_bool, kit_bool_int, kit_bool_str, kit_bool_list, kit_bool_tuple, kit_bool_dict, kit_int_bool, kit_int_int, kit_int_str, kit_int_list, kit_int_tuple, kit_int_dict, kit_str_bool, kit_str_int, kit_str_str, kit_str_list, kit_str_tuple, kit_str_dict, kit_list_bool, kit_list_int, kit_list_str, kit_list_list, kit_list_tuple, kit_list_dict, kit_tuple_bool, kit_tuple_int, kit_tuple_str, kit_tuple_list, kit_tuple_tuple, kit_tuple_dict, kit_dict_bool, kit_dict_int, kit_dict_str, kit_dict_list, kit_dict_tuple, kit_dict_dict, String.reduceEq, String.reduceNe, ne_eq, not_false_eq_true, not_true_eq_false, decide_false, decide_true, Bool.not_false, Bool.not_true, Bool.or_false, Bool.false_or, Bool.or_true, Bool.true_or, gTupH, wipe, tYes, exists_eq', exists_eq, exists_const, tFor_eq, tLc_eq, tCallX, tMethX, tRaiseOw, tMkOw, tFldOw, mIxA, mLenA, rInO, rNotInO, mLenO, rSetD, tM1, false_or, or_false, tInT, inV_nil, inV_str, flatV_str, flatV_int, flatV_non, mIntB, List.all_cons, List.all_nil, Bool.and_true, Bool.true_and, Bool.and_self, tDisp, tPairs, exk_nil, exk_str, leS0, leS1, leS2, leS3, leS4, leS5, leS6, leS7, leS8, leS9, leS10, leS11, leS12, Nat.reduceLeDiff, mBoolB, rEqNil, hd, hq, ht, nl_number, nl_mark, nl_queue, nl_begun, nl_cause, np_mark, np_queue, np_begun, np_cause, nl_len, five, ofS_eq, sp_l_fault, List.length_map]
    refine ⟨by simp [W6], Int.natCast_nonneg _, fun H1 s1 => due_if (s1 _ _ hd) (fun hf => hfault hf H1 s1) fun hf => ?_⟩
    simp only [tSeq, tAsg, tRet, tRetN, tIfS, tDrop, tNext, tBreak, tCont, tVar, tC, tOp, tUn, tB, tTest, tAnd, tOr, tNot, tAndV, tOrV, tNotV, tIf, tNil, tCons, tTup, tLst, tCB, tCallR, tMethR, tPropR, StX.tMakeR, tFld, sFld, sFldAug, tPar, tPar3, gName, gNil, gCons, gTup, gSub, rI, rI0, rU, rEq, rNe, mIxL, mIxT, mLenL, mLenT, mLenS, mLenD, mLenK, mList, mTupL, mInt, mAbs, mMax, mMin, mStr, mAddS, mIsN, mNotN, rIxS, rIxL, rSetL, rAppend, rExtendT, rPopAt, rCat, rIn, tBM, tBM0, tChain, tNever, scal, L2.start, cxK, iRng1, iRng2, tDNewK, tDGet, tDGet2, sDPut, tDIn, tDNotIn, DGet_dk, DPut_dk, IsD_dk, tyV_list, isLst_lst, isDk_dk, dkOf_dk, atI_0, atI_1, atI_2, atI_3, ixN_30, ixN_31, ixN_32, List.map, List.replicate, List.length_cons, List.length_nil, List.nil_append, List.cons_append, List.append_nil, Nat.reduceSub, Nat.reduceAdd, List.getElem?_cons_zero, List.getElem?_cons_succ, List.set_cons_zero, List.set_cons_succ, List.cons.injEq, Option.some.injEq, V.int.injEq, V.str.injEq, V.bl.injEq, V.ref.injEq, HO.ins.injEq, HO.lst.injEq, HO.tup.injEq, HO.dK.injEq, exists_eq_left, exists_eq_left', exists_eq_right, exists_eq_right', exists_and_left, exists_and_right, true_and, and_true, and_self, if_true, if_false, Bool.false_eq_true, Bool.true_eq_false, eq_self, reduceCtorEq, false_and, and_false, upd_same, upd_upd, and_assoc, Int.reduceToNat, Int.reducePow, Int.reduceMul, Int.reduceAdd, Int.reduceNeg, mIsi, mIsi2, kdV_non, kdV_bl, kdV_int, kdV_str, kdV_ref, kdO_lst, kdO_tup, kdO_dK, V.ty.injEq, mAll, mAny, kit_NoneType_bool, kit_NoneType_int, kit_NoneType_str, kit_NoneType_list, kit_NoneType_tuple, kit_NoneType_dict, kit_bool_bool, kit_bool_int, kit_bool_str, kit_bool_list, kit_bool_tuple, kit_bool_dict, kit_int_bool, kit_int_int, kit_int_str, kit_int_list, kit_int_tuple, kit_int_dict, kit_str_bool, kit_str_int, kit_str_str, kit_str_list, kit_str_tuple, kit_str_dict, kit_list_bool, kit_list_int, kit_list_str, kit_list_list, kit_list_tuple, kit_list_dict, kit_tuple_bool, kit_tuple_int, kit_tuple_str, kit_tuple_list, kit_tuple_tuple, kit_tuple_dict, kit_dict_bool, kit_dict_int, kit_dict_str, kit_dict_list, kit_dict_tuple, kit_dict_dict, String.reduceEq, String.reduceNe, ne_eq, not_false_eq_true, not_true_eq_false, decide_false, decide_true, Bool.not_false, Bool.not_true, Bool.or_false, Bool.false_or, Bool.or_true, Bool.true_or, gTupH, wipe, tYes, exists_eq', exists_eq, exists_const, tFor_eq, tLc_eq, tCallX, tMethX, tRaiseOw, tMkOw, tFldOw, mIxA, mLenA, rInO, rNotInO, mLenO, rSetD, tM1, false_or, or_false, tInT, inV_nil, inV_str, flatV_str, flatV_int, flatV_non, mIntB, List.all_cons, List.all_nil, Bool.and_true, Bool.true_and, Bool.and_self, tDisp, tPairs, exk_nil, exk_str, leS0, leS1, leS2, leS3, leS4, leS5, leS6, leS7, leS8, leS9, leS10, leS11, leS12, Nat.reduceLeDiff, mBoolB, rEqNil, sp_l_mark]
    refine ⟨hG.mm, fun H2 s2 => ?_⟩
    have s02 := s1.trans s2
    have hd2 := s02 _ _ hd
    have hq2 := s02 _ _ hq
    have ht2 := s02 _ _ ht
    obtain ⟨t1, t2⟩ := step_ok (ts := ts) (why := why) hc hdr hf
    rw [t1, t2] at k
    simp only [stepQ, ofS_eq, String.reduceEq, if_false, if_true, or_self, or_true, true_or, or_false, false_or] at k
    have htd : tl ≠ d := fun e => by rw [e, hd] at ht; cases ht
    have s2k : Kp d H H2 := fun b o _ h => s02 _ _ h
    simp only [tSeq, tAsg, tRet, tRetN, tIfS, tDrop, tNext, tBreak, tCont, tVar, tC, tOp, tUn, tB, tTest, tAnd, tOr, tNot, tAndV, tOrV, tNotV, tIf, tNil, tCons, tTup, tLst, tCB, tCallR, tMethR, tPropR, StX.tMakeR, tFld, sFld, sFldAug, tPar, tPar3, gName, gNil, gCons, gTup, gSub, rI, rI0, rU, rEq, rNe, mIxL, mIxT, mLenL, mLenT, mLenS, mLenD, mLenK, mList, mTupL, mInt, mAbs, mMax, mMin, mStr, mAddS, mIsN, mNotN, rIxS, rIxL, rSetL, rAppend, rExtendT, rPopAt, rCat, rIn, tBM, tBM0, tChain, tNever, scal, L2.start, cxK, iRng1, iRng2, tDNewK, tDGet, tDGet2, sDPut, tDIn, tDNotIn, DGet_dk, DPut_dk, IsD_dk, tyV_list, isLst_lst, isDk_dk, dkOf_dk, atI_0, atI_1, atI_2, atI_3, ixN_30, ixN_31, ixN_32, List.map, List.replicate, List.length_cons, List.length_nil, List.nil_append, List.cons_append, List.append_nil, Nat.reduceSub, Nat.reduceAdd, List.getElem?_cons_zero, List.getElem?_cons_succ, List.set_cons_zero, List.set_cons_succ, List.cons.injEq, Option.some.injEq, V.int.injEq, V.str.injEq, V.bl.injEq, V.ref.injEq, HO.ins.injEq, HO.lst.injEq, HO.tup.injEq, HO.dK.injEq, exists_eq_left, exists_eq_left', exists_eq_right, exists_eq_right', exists_and_left, exists_and_right, true_and, and_true, and_self, if_true, if_false, Bool.false_eq_true, Bool.true_eq_false, eq_self, reduceCtorEq, false_and, and_false, upd_same, upd_upd, and_assoc, Int.reduceToNat, Int.reducePow, Int.reduceMul, Int.reduceAdd, Int.reduceNeg, mIsi, mIsi2, kdV_non, kdV_bl, kdV_int, kdV_str, kdV_ref, kdO_lst, kdO_tup, kdO_dK, V.ty.injEq, mAll, mAny, kit_NoneType_bool, kit_NoneType_int, kit_NoneType_str, kit_NoneType_list, kit_NoneType_tuple, kit_NoneType_dict, kit_bool_bool, kit_bool_int, kit_bool_str, kit_bool_list, kit_bool_tuple, kit_bool_dict, kit_int_bool, kit_int_int, kit_int_str, kit_int_list, kit_int_tuple, kit_int_dict, kit_str_bool, kit_str_int, kit_str_str, kit_str_list, kit_str_tuple, kit_str_dict, kit_list_bool, kit_list_int, kit_list_str, kit_list_list, kit_list_tuple, kit_list_dict, kit_tuple_bool, kit_tuple_int, kit_tuple_str, kit_tuple_list, kit_tuple_tuple, kit_tuple_dict, kit_dict_bool, kit_dict_int, kit_dict_str, kit_dict_list, kit_dict_tuple, kit_dict_dict, String.reduceEq, String.reduceNe, ne_eq, not_false_eq_true, not_true_eq_false, decide_false, decide_true, Bool.not_false, Bool.not_true, Bool.or_false, Bool.false_or, Bool.or_true, Bool.true_or, gTupH, wipe, tYes, exists_eq', exists_eq, exists_const, tFor_eq, tLc_eq, tCallX, tMethX, tRaiseOw, tMkOw, tFldOw, mIxA, mLenA, rInO, rNotInO, mLenO, rSetD, tM1, false_or, or_false, tInT, inV_nil, inV_str, flatV_str, flatV_int, flatV_non, mIntB, List.all_cons, List.all_nil, Bool.and_true, Bool.true_and, Bool.and_self, tDisp, tPairs, exk_nil, exk_str, leS0, leS1, leS2, leS3, leS4, leS5, leS6, leS7, leS8, leS9, leS10, leS11, leS12, Nat.reduceLeDiff, mBoolB, rEqNil, hd2, hq2, ht2, upd_ne hne.symm, nl_number, nl_mark, nl_queue, nl_begun, nl_cause, np_mark, np_queue, np_begun, np_cause, nl_len, five, ofS_eq]
    refine ⟨ts.map V.str, by rw [upd_ne htd]; exact ht2, ?_, fun p hp => ?_⟩
    · rw [List.length_map, List.length_map]; exact Nat.le_trans (by omega) (show 100000 ≤ sizeLine by decide)
    have ep : p ≠ d := fun e => by rw [e, upd_same] at hp; cases hp
    have hp2 : H2 p = none := by rw [upd_ne ep] at hp; exact hp
    simp only [tSeq, tAsg, tRet, tRetN, tIfS, tDrop, tNext, tBreak, tCont, tVar, tC, tOp, tUn, tB, tTest, tAnd, tOr, tNot, tAndV, tOrV, tNotV, tIf, tNil, tCons, tTup, tLst, tCB, tCallR, tMethR, tPropR, StX.tMakeR, tFld, sFld, sFldAug, tPar, tPar3, gName, gNil, gCons, gTup, gSub, rI, rI0, rU, rEq, rNe, mIxL, mIxT, mLenL, mLenT, mLenS, mLenD, mLenK, mList, mTupL, mInt, mAbs, mMax, mMin, mStr, mAddS, mIsN, mNotN, rIxS, rIxL, rSetL, rAppend, rExtendT, rPopAt, rCat, rIn, tBM, tBM0, tChain, tNever, scal, L2.start, cxK, iRng1, iRng2, tDNewK, tDGet, tDGet2, sDPut, tDIn, tDNotIn, DGet_dk, DPut_dk, IsD_dk, tyV_list, isLst_lst, isDk_dk, dkOf_dk, atI_0, atI_1, atI_2, atI_3, ixN_30, ixN_31, ixN_32, List.map, List.replicate, List.length_cons, List.length_nil, List.nil_append, List.cons_append, List.append_nil, Nat.reduceSub, Nat.reduceAdd, List.getElem?_cons_zero, List.getElem?_cons_succ, List.set_cons_zero, List.set_cons_succ, List.cons.injEq, Option.some.injEq, V.int.injEq, V.str.injEq, V.bl.injEq, V.ref.injEq, HO.ins.injEq, HO.lst.injEq, HO.tup.injEq, HO.dK.injEq, exists_eq_left, exists_eq_left', exists_eq_right, exists_eq_right', exists_and_left, exists_and_right, true_and, and_true, and_self, if_true, if_false, Bool.false_eq_true, Bool.true_eq_false, eq_self, reduceCtorEq, false_and, and_false, upd_same, upd_upd, and_assoc, Int.reduceToNat, Int.reducePow, Int.reduceMul, Int.reduceAdd, Int.reduceNeg, mIsi, mIsi2, kdV_non, kdV_bl, kdV_int, kdV_str, kdV_ref, kdO_lst, kdO_tup, kdO_dK, V.ty.injEq, mAll, mAny, kit_NoneType_bool, kit_NoneType_int, kit_NoneType_str, kit_NoneType_list, kit_NoneType_tuple, kit_NoneType_dict, kit_bool_bool, kit_bool_int, kit_bool_str, kit_bool_list, kit_bool_tuple, kit_bool_dict, kit_int_bool, kit_int_int, kit_int_str, kit_int_list, kit_int_tuple, kit_int_dict, kit_str_bool, kit_str_int, kit_str_str, kit_str_list, kit_str_tuple, kit_str_dict, kit_list_bool, kit_list_int, kit_list_str, kit_list_list, kit_list_tuple, kit_list_dict, kit_tuple_bool, kit_tuple_int, kit_tuple_str, kit_tuple_list, kit_tuple_tuple, kit_tuple_dict, kit_dict_bool, kit_dict_int, kit_dict_str, kit_dict_list, kit_dict_tuple, kit_dict_dict, String.reduceEq, String.reduceNe, ne_eq, not_false_eq_true, not_true_eq_false, decide_false, decide_true, Bool.not_false, Bool.not_true, Bool.or_false, Bool.false_or, Bool.or_true, Bool.true_or, gTupH, wipe, tYes, exists_eq', exists_eq, exists_const, tFor_eq, tLc_eq, tCallX, tMethX, tRaiseOw, tMkOw, tFldOw, mIxA, mLenA, rInO, rNotInO, mLenO, rSetD, tM1, false_or, or_false, tInT, inV_nil, inV_str, flatV_str, flatV_int, flatV_non, mIntB, List.all_cons, List.all_nil, Bool.and_true, Bool.true_and, Bool.and_self, tDisp, tPairs, exk_nil, exk_str, leS0, leS1, leS2, leS3, leS4, leS5, leS6, leS7, leS8, leS9, leS10, leS11, leS12, Nat.reduceLeDiff, mBoolB, rEqNil, upd_ne ep.symm, nl_number, nl_mark, nl_queue, nl_begun, nl_cause, np_mark, np_queue, np_begun, np_cause, nl_len, five, ofS_eq]
    exact dueFin k ⟨upd_same, by rw [upd_ne ep, upd_same, List.map_append], ep.symm, fun z => hgg (out_after hG.mm hw (by decide) z)⟩ (fun _ _ => .non) ((s2k.upd.new hp).upd) (.inr (none_of s02 hp2))
  · simp only [tSeq, tAsg, tRet, tRetN, tIfS, tDrop, tNext, tBreak, tCont, tVar, tC, tOp, tUn, tB, tTest, tAnd, tOr, tNot, tAndV, tOrV, tNotV, tIf, tNil, tCons, tTup, tLst, tCB, tCallR, tMethR, tPropR, StX.tMakeR, tFld, sFld, sFldAug, tPar, tPar3, gName, gNil, gCons, gTup, gSub, rI, rI0, rU, rEq, rNe, mIxL, mIxT, mLenL, mLenT, mLenS, mLenD, mLenK, mList, mTupL, mInt, mAbs, mMax, mMin, mStr, mAddS, mIsN, mNotN, rIxS, rIxL, rSetL, rAppend, rExtendT, rPopAt, rCat, rIn, tBM, tBM0, tChain, tNever, scal, L2.start, cxK, iRng1, iRng2, tDNewK, tDGet, tDGet2, sDPut, tDIn, tDNotIn, DGet_dk, DPut_dk, IsD_dk, tyV_list, isLst_lst, isDk_dk, dkOf_dk, atI_0, atI_1, atI_2, atI_3, ixN_30, ixN_31, ixN_32, List.map, List.replicate, List.length_cons, List.length_nil, List.nil_append, List.cons_append, List.append_nil, Nat.reduceSub, Nat.reduceAdd, List.getElem?_cons_zero, List.getElem?_cons_succ, List.set_cons_zero, List.set_cons_succ, List.cons.injEq, Option.some.injEq, V.int.injEq, V.str.injEq, V.bl.injEq, V.ref.injEq, HO.ins.injEq, HO.lst.injEq, HO.tup.injEq, HO.dK.injEq, exists_eq_left, exists_eq_left', exists_eq_right, exists_eq_right', exists_and_left, exists_and_right, true_and, and_true, and_self, if_true, if_false, Bool.false_eq_true, Bool.true_eq_false, eq_self, reduceCtorEq, false_and, and_false, upd_same, upd_upd, and_assoc, Int.reduceToNat, Int.reducePow, Int.reduceMul, Int.reduceAdd, Int.reduceNeg, mIsi, mIsi2, kdV_non, kdV_bl, kdV_int, kdV_str, kdV_ref, kdO_lst, kdO_tup, kdO_dK, V.ty.injEq, mAll, mAny, kit_NoneType_bool, kit_NoneType_int, kit_NoneType_str, kit_NoneType_list, kit_NoneType_tuple, kit_NoneType_dict, kit_bool_bool, kit_bool_int, kit_bool_str, kit_bool_list, kit_bool_tuple, kit_bool_dict, kit_int_bool, kit_int_int, kit_int_str, kit_int_list, kit_int_tuple, kit_int_dict, kit_str_bool, kit_str_int, kit_str_str, kit_str_list, kit_str_tuple, kit_str_dict, kit_list_bool, kit_list_int, kit_list_str, kit_list_list, kit_list_tuple, kit_list_dict, kit_tuple_bool, kit_tuple_int, kit_tuple_str, kit_tuple_list, kit_tuple_tuple, kit_tuple_dict, kit_dict_bool, kit_dict_int, kit_dict_str, kit_dict_list, kit_dict_tuple, kit_dict_dict, String.reduceEq, String.reduceNe, ne_eq, not_false_eq_true, not_true_eq_false, decide_false, decide_true, Bool.not_false, Bool.not_true, Bool.or_false, Bool.false_or, Bool.or_true, Bool.true_or, gTupH, wipe, tYes, exists_eq', exists_eq, exists_const, tFor_eq, tLc_eq, tCallX, tMethX, tRaiseOw, tMkOw, tFldOw, mIxA, mLenA, rInO, rNotInO, mLenO, rSetD, tM1, false_or, or_false, tInT, inV_nil, inV_str, flatV_str, flatV_int, flatV_non, mIntB, List.all_cons, List.all_nil, Bool.and_true, Bool.true_and, Bool.and_self, tDisp, tPairs, exk_nil, exk_str, leS0, leS1, leS2, leS3, leS4, leS5, leS6, leS7, leS8, leS9, leS10, leS11, leS12, Nat.reduceLeDiff, mBoolB, rEqNil, hd, hq, ht, nl_number, nl_mark, nl_queue, nl_begun, nl_cause, np_mark, np_queue, np_begun, np_cause, nl_len, five, ofS_eq, sp_l_fault, List.length_map]
    refine ⟨by simp [W6], Int.natCast_nonneg _, fun H1 s1 => due_if (s1 _ _ hd) (fun hf => hfault hf H1 s1) fun hf => ?_⟩
    simp only [tSeq, tAsg, tRet, tRetN, tIfS, tDrop, tNext, tBreak, tCont, tVar, tC, tOp, tUn, tB, tTest, tAnd, tOr, tNot, tAndV, tOrV, tNotV, tIf, tNil, tCons, tTup, tLst, tCB, tCallR, tMethR, tPropR, StX.tMakeR, tFld, sFld, sFldAug, tPar, tPar3, gName, gNil, gCons, gTup, gSub, rI, rI0, rU, rEq, rNe, mIxL, mIxT, mLenL, mLenT, mLenS, mLenD, mLenK, mList, mTupL, mInt, mAbs, mMax, mMin, mStr, mAddS, mIsN, mNotN, rIxS, rIxL, rSetL, rAppend, rExtendT, rPopAt, rCat, rIn, tBM, tBM0, tChain, tNever, scal, L2.start, cxK, iRng1, iRng2, tDNewK, tDGet, tDGet2, sDPut, tDIn, tDNotIn, DGet_dk, DPut_dk, IsD_dk, tyV_list, isLst_lst, isDk_dk, dkOf_dk, atI_0, atI_1, atI_2, atI_3, ixN_30, ixN_31, ixN_32, List.map, List.replicate, List.length_cons, List.length_nil, List.nil_append, List.cons_append, List.append_nil, Nat.reduceSub, Nat.reduceAdd, List.getElem?_cons_zero, List.getElem?_cons_succ, List.set_cons_zero, List.set_cons_succ, List.cons.injEq, Option.some.injEq, V.int.injEq, V.str.injEq, V.bl.injEq, V.ref.injEq, HO.ins.injEq, HO.lst.injEq, HO.tup.injEq, HO.dK.injEq, exists_eq_left, exists_eq_left', exists_eq_right, exists_eq_right', exists_and_left, exists_and_right, true_and, and_true, and_self, if_true, if_false, Bool.false_eq_true, Bool.true_eq_false, eq_self, reduceCtorEq, false_and, and_false, upd_same, upd_upd, and_assoc, Int.reduceToNat, Int.reducePow, Int.reduceMul, Int.reduceAdd, Int.reduceNeg, mIsi, mIsi2, kdV_non, kdV_bl, kdV_int, kdV_str, kdV_ref, kdO_lst, kdO_tup, kdO_dK, V.ty.injEq, mAll, mAny, kit_NoneType_bool, kit_NoneType_int, kit_NoneType_str, kit_NoneType_list, kit_NoneType_tuple, kit_NoneType_dict, kit_bool_bool, kit_bool_int, kit_bool_str, kit_bool_list, kit_bool_tuple, kit_bool_dict, kit_int_bool, kit_int_int, kit_int_str, kit_int_list, kit_int_tuple, kit_int_dict, kit_str_bool, kit_str_int, kit_str_str, kit_str_list, kit_str_tuple, kit_str_dict, kit_list_bool, kit_list_int, kit_list_str, kit_list_list, kit_list_tuple, kit_list_dict, kit_tuple_bool, kit_tuple_int, kit_tuple_str, kit_tuple_list, kit_tuple_tuple, kit_tuple_dict, kit_dict_bool, kit_dict_int, kit_dict_str, kit_dict_list, kit_dict_tuple, kit_dict_dict, String.reduceEq, String.reduceNe, ne_eq, not_false_eq_true, not_true_eq_false, decide_false, decide_true, Bool.not_false, Bool.not_true, Bool.or_false, Bool.false_or, Bool.or_true, Bool.true_or, gTupH, wipe, tYes, exists_eq', exists_eq, exists_const, tFor_eq, tLc_eq, tCallX, tMethX, tRaiseOw, tMkOw, tFldOw, mIxA, mLenA, rInO, rNotInO, mLenO, rSetD, tM1, false_or, or_false, tInT, inV_nil, inV_str, flatV_str, flatV_int, flatV_non, mIntB, List.all_cons, List.all_nil, Bool.and_true, Bool.true_and, Bool.and_self, tDisp, tPairs, exk_nil, exk_str, leS0, leS1, leS2, leS3, leS4, leS5, leS6, leS7, leS8, leS9, leS10, leS11, leS12, Nat.reduceLeDiff, mBoolB, rEqNil, sp_l_mark]
    refine ⟨hG.mm, fun H2 s2 => ?_⟩
    have s02 := s1.trans s2
    have hd2 := s02 _ _ hd
    have hq2 := s02 _ _ hq
    have ht2 := s02 _ _ ht
    obtain ⟨t1, t2⟩ := step_ok (ts := ts) (why := why) hc hdr hf
    rw [t1, t2] at k
    simp only [stepQ, ofS_eq, String.reduceEq, if_false, if_true, or_self, or_true, true_or, or_false, false_or] at k
    have htd : tl ≠ d := fun e => by rw [e, hd] at ht; cases ht
    have s2k : Kp d H H2 := fun b o _ h => s02 _ _ h
    simp only [tSeq, tAsg, tRet, tRetN, tIfS, tDrop, tNext, tBreak, tCont, tVar, tC, tOp, tUn, tB, tTest, tAnd, tOr, tNot, tAndV, tOrV, tNotV, tIf, tNil, tCons, tTup, tLst, tCB, tCallR, tMethR, tPropR, StX.tMakeR, tFld, sFld, sFldAug, tPar, tPar3, gName, gNil, gCons, gTup, gSub, rI, rI0, rU, rEq, rNe, mIxL, mIxT, mLenL, mLenT, mLenS, mLenD, mLenK, mList, mTupL, mInt, mAbs, mMax, mMin, mStr, mAddS, mIsN, mNotN, rIxS, rIxL, rSetL, rAppend, rExtendT, rPopAt, rCat, rIn, tBM, tBM0, tChain, tNever, scal, L2.start, cxK, iRng1, iRng2, tDNewK, tDGet, tDGet2, sDPut, tDIn, tDNotIn, DGet_dk, DPut_dk, IsD_dk, tyV_list, isLst_lst, isDk_dk, dkOf_dk, atI_0, atI_1, atI_2, atI_3, ixN_30, ixN_31, ixN_32, List.map, List.replicate, List.length_cons, List.length_nil, List.nil_append, List.cons_append, List.append_nil, Nat.reduceSub, Nat.reduceAdd, List.getElem?_cons_zero, List.getElem?_cons_succ, List.set_cons_zero, List.set_cons_succ, List.cons.injEq, Option.some.injEq, V.int.injEq, V.str.injEq, V.bl.injEq, V.ref.injEq, HO.ins.injEq, HO.lst.injEq, HO.tup.injEq, HO.dK.injEq, exists_eq_left, exists_eq_left', exists_eq_right, exists_eq_right', exists_and_left, exists_and_right, true_and, and_true, and_self, if_true, if_false, Bool.false_eq_true, Bool.true_eq_false, eq_self, reduceCtorEq, false_and, and_false, upd_same, upd_upd, and_assoc, Int.reduceToNat, Int.reducePow, Int.reduceMul, Int.reduceAdd, Int.reduceNeg, mIsi, mIsi2, kdV_non, kdV_bl, kdV_int, kdV_str, kdV_ref, kdO_lst, kdO_tup, kdO_dK, V.ty.injEq, mAll, mAny, kit_NoneType_bool, kit_NoneType_int, kit_NoneType_str, kit_NoneType_list, kit_NoneType_tuple, kit_NoneType_dict, kit_bool_bool, kit_bool_int, kit_bool_str, kit_bool_list, kit_bool_tuple, kit_bool_dict, kit_int_bool, kit_int_int, kit_int_str, kit_int_list, kit_int_tuple, kit_int_dict, kit_str_bool, kit_str_int, kit_str_str, kit_str_list, kit_str_tuple, kit_str_dict, kit_list_bool, kit_list_int, kit_list_str, kit_list_list, kit_list_tuple, kit_list_dict, kit_tuple_bool, kit_tuple_int, kit_tuple_str, kit_tuple_list, kit_tuple_tuple, kit_tuple_dict, kit_dict_bool, kit_dict_int, kit_dict_str, kit_dict_list, kit_dict_tuple, kit_dict_dict, String.reduceEq, String.reduceNe, ne_eq, not_false_eq_true, not_true_eq_false, decide_false, decide_true, Bool.not_false, Bool.not_true, Bool.or_false, Bool.false_or, Bool.or_true, Bool.true_or, gTupH, wipe, tYes, exists_eq', exists_eq, exists_const, tFor_eq, tLc_eq, tCallX, tMethX, tRaiseOw, tMkOw, tFldOw, mIxA, mLenA, rInO, rNotInO, mLenO, rSetD, tM1, false_or, or_false, tInT, inV_nil, inV_str, flatV_str, flatV_int, flatV_non, mIntB, List.all_cons, List.all_nil, Bool.and_true, Bool.true_and, Bool.and_self, tDisp, tPairs, exk_nil, exk_str, leS0, leS1, leS2, leS3, leS4, leS5, leS6, leS7, leS8, leS9, leS10, leS11, leS12, Nat.reduceLeDiff, mBoolB, rEqNil, hd2, hq2, ht2, upd_ne hne.symm, nl_number, nl_mark, nl_queue, nl_begun, nl_cause, np_mark, np_queue, np_begun, np_cause, nl_len, five, ofS_eq]
    refine ⟨ts.map V.str, by rw [upd_ne htd]; exact ht2, ?_⟩
    cases ts with
    | nil => exact absurd rfl (hb rfl)
    | cons t ts =>
      refine ⟨.str t, atI_0, ?_⟩
      exact dueFin k ⟨upd_same, by rw [upd_ne hne.symm]; exact hq2, hne, fun z => rfl⟩ (fun _ _ => .non) s2k.upd (.inl rfl)
  · simp only [tSeq, tAsg, tRet, tRetN, tIfS, tDrop, tNext, tBreak, tCont, tVar, tC, tOp, tUn, tB, tTest, tAnd, tOr, tNot, tAndV, tOrV, tNotV, tIf, tNil, tCons, tTup, tLst, tCB, tCallR, tMethR, tPropR, StX.tMakeR, tFld, sFld, sFldAug, tPar, tPar3, gName, gNil, gCons, gTup, gSub, rI, rI0, rU, rEq, rNe, mIxL, mIxT, mLenL, mLenT, mLenS, mLenD, mLenK, mList, mTupL, mInt, mAbs, mMax, mMin, mStr, mAddS, mIsN, mNotN, rIxS, rIxL, rSetL, rAppend, rExtendT, rPopAt, rCat, rIn, tBM, tBM0, tChain, tNever, scal, L2.start, cxK, iRng1, iRng2, tDNewK, tDGet, tDGet2, sDPut, tDIn, tDNotIn, DGet_dk, DPut_dk, IsD_dk, tyV_list, isLst_lst, isDk_dk, dkOf_dk, atI_0, atI_1, atI_2, atI_3, ixN_30, ixN_31, ixN_32, List.map, List.replicate, List.length_cons, List.length_nil, List.nil_append, List.cons_append, List.append_nil, Nat.reduceSub, Nat.reduceAdd, List.getElem?_cons_zero, List.getElem?_cons_succ, List.set_cons_zero, List.set_cons_succ, List.cons.injEq, Option.some.injEq, V.int.injEq, V.str.injEq, V.bl.injEq, V.ref.injEq, HO.ins.injEq, HO.lst.injEq, HO.tup.injEq, HO.dK.injEq, exists_eq_left, exists_eq_left', exists_eq_right, exists_eq_right', exists_and_left, exists_and_right, true_and, and_true, and_self, if_true, if_false, Bool.false_eq_true, Bool.true_eq_false, eq_self, reduceCtorEq, false_and, and_false, upd_same, upd_upd, and_assoc, Int.reduceToNat, Int.reducePow, Int.reduceMul, Int.reduceAdd, Int.reduceNeg, mIsi, mIsi2, kdV_non, kdV_bl, kdV_int, kdV_str, kdV_ref, kdO_lst, kdO_tup, kdO_dK, V.ty.injEq, mAll, mAny, kit_NoneType_bool, kit_NoneType_int, kit_NoneType_str, kit_NoneType_list, kit_NoneType_tuple, kit_NoneType_dict, kit_bool_bool, kit_bool_int, kit_bool_str, kit_bool_list, kit_bool_tuple, kit_bool_dict, kit_int_bool, kit_int_int, kit_int_str, kit_int_list, kit_int_tuple, kit_int_dict, kit_str_bool, kit_str_int, kit_str_str, kit_str_list, kit_str_tuple, kit_str_dict, kit_list_bool, kit_list_int, kit_list_str, kit_list_list, kit_list_tuple, kit_list_dict, kit_tuple_bool, kit_tuple_int, kit_tuple_str, kit_tuple_list, kit_tuple_tuple, kit_tuple_dict, kit_dict_bool, kit_dict_int, kit_dict_str, kit_dict_list, kit_dict_tuple, kit_dict_dict, String.reduceEq, String.reduceNe, ne_eq, not_false_eq_true, not_true_eq_false, decide_false, decide_true, Bool.not_false, Bool.not_true, Bool.or_false, Bool.false_or, Bool.or_true, Bool.true_or, gTupH, wipe, tYes, exists_eq', exists_eq, exists_const, tFor_eq, tLc_eq, tCallX, tMethX, tRaiseOw, tMkOw, tFldOw, mIxA, mLenA, rInO, rNotInO, mLenO, rSetD, tM1, false_or, or_false, tInT, inV_nil, inV_str, flatV_str, flatV_int, flatV_non, mIntB, List.all_cons, List.all_nil, Bool.and_true, Bool.true_and, Bool.and_self, tDisp, tPairs, exk_nil, exk_str, leS0, leS1, leS2, leS3, leS4, leS5, leS6, leS7, leS8, leS9, leS10, leS11, leS12, Nat.reduceLeDiff, mBoolB, rEqNil, hd, hq, ht, nl_number, nl_mark, nl_queue, nl_begun, nl_cause, np_mark, np_queue, np_begun, np_cause, nl_len, five, ofS_eq, sp_l_fault, List.length_map]
    refine ⟨by simp [W6], Int.natCast_nonneg _, fun H1 s1 => due_if (s1 _ _ hd) (fun hf => hfault hf H1 s1) fun hf => ?_⟩
    simp only [tSeq, tAsg, tRet, tRetN, tIfS, tDrop, tNext, tBreak, tCont, tVar, tC, tOp, tUn, tB, tTest, tAnd, tOr, tNot, tAndV, tOrV, tNotV, tIf, tNil, tCons, tTup, tLst, tCB, tCallR, tMethR, tPropR, StX.tMakeR, tFld, sFld, sFldAug, tPar, tPar3, gName, gNil, gCons, gTup, gSub, rI, rI0, rU, rEq, rNe, mIxL, mIxT, mLenL, mLenT, mLenS, mLenD, mLenK, mList, mTupL, mInt, mAbs, mMax, mMin, mStr, mAddS, mIsN, mNotN, rIxS, rIxL, rSetL, rAppend, rExtendT, rPopAt, rCat, rIn, tBM, tBM0, tChain, tNever, scal, L2.start, cxK, iRng1, iRng2, tDNewK, tDGet, tDGet2, sDPut, tDIn, tDNotIn, DGet_dk, DPut_dk, IsD_dk, tyV_list, isLst_lst, isDk_dk, dkOf_dk, atI_0, atI_1, atI_2, atI_3, ixN_30, ixN_31, ixN_32, List.map, List.replicate, List.length_cons, List.length_nil, List.nil_append, List.cons_append, List.append_nil, Nat.reduceSub, Nat.reduceAdd, List.getElem?_cons_zero, List.getElem?_cons_succ, List.set_cons_zero, List.set_cons_succ, List.cons.injEq, Option.some.injEq, V.int.injEq, V.str.injEq, V.bl.injEq, V.ref.injEq, HO.ins.injEq, HO.lst.injEq, HO.tup.injEq, HO.dK.injEq, exists_eq_left, exists_eq_left', exists_eq_right, exists_eq_right', exists_and_left, exists_and_right, true_and, and_true, and_self, if_true, if_false, Bool.false_eq_true, Bool.true_eq_false, eq_self, reduceCtorEq, false_and, and_false, upd_same, upd_upd, and_assoc, Int.reduceToNat, Int.reducePow, Int.reduceMul, Int.reduceAdd, Int.reduceNeg, mIsi, mIsi2, kdV_non, kdV_bl, kdV_int, kdV_str, kdV_ref, kdO_lst, kdO_tup, kdO_dK, V.ty.injEq, mAll, mAny, kit_NoneType_bool, kit_NoneType_int, kit_NoneType_str, kit_NoneType_list, kit_NoneType_tuple, kit_NoneType_dict, kit_bool_bool, kit_bool_int, kit_bool_str, kit_bool_list, kit_bool_tuple, kit_bool_dict, kit_int_bool, kit_int_int, kit_int_str, kit_int_list, kit_int_tuple, kit_int_dict, kit_str_bool, kit_str_int, kit_str_str, kit_str_list, kit_str_tuple, kit_str_dict, kit_list_bool, kit_list_int, kit_list_str, kit_list_list, kit_list_tuple, kit_list_dict, kit_tuple_bool, kit_tuple_int, kit_tuple_str, kit_tuple_list, kit_tuple_tuple, kit_tuple_dict, kit_dict_bool, kit_dict_int, kit_dict_str, kit_dict_list, kit_dict_tuple, kit_dict_dict, String.reduceEq, String.reduceNe, ne_eq, not_false_eq_true, not_true_eq_false, decide_false, decide_true, Bool.not_false, Bool.not_true, Bool.or_false, Bool.false_or, Bool.or_true, Bool.true_or, gTupH, wipe, tYes, exists_eq', exists_eq, exists_const, tFor_eq, tLc_eq, tCallX, tMethX, tRaiseOw, tMkOw, tFldOw, mIxA, mLenA, rInO, rNotInO, mLenO, rSetD, tM1, false_or, or_false, tInT, inV_nil, inV_str, flatV_str, flatV_int, flatV_non, mIntB, List.all_cons, List.all_nil, Bool.and_true, Bool.true_and, Bool.and_self, tDisp, tPairs, exk_nil, exk_str, leS0, leS1, leS2, leS3, leS4, leS5, leS6, leS7, leS8, leS9, leS10, leS11, leS12, Nat.reduceLeDiff, mBoolB, rEqNil, sp_l_mark]
    refine ⟨hG.mm, fun H2 s2 => ?_⟩
    have s02 := s1.trans s2
    have hd2 := s02 _ _ hd
    have hq2 := s02 _ _ hq
    have ht2 := s02 _ _ ht
    obtain ⟨t1, t2⟩ := step_ok (ts := ts) (why := why) hc hdr hf
    rw [t1, t2] at k
    simp only [stepQ, ofS_eq, String.reduceEq, if_false, if_true, or_self, or_true, true_or, or_false, false_or] at k
    have htd : tl ≠ d := fun e => by rw [e, hd] at ht; cases ht
    have s2k : Kp d H H2 := fun b o _ h => s02 _ _ h
    simp only [tSeq, tAsg, tRet, tRetN, tIfS, tDrop, tNext, tBreak, tCont, tVar, tC, tOp, tUn, tB, tTest, tAnd, tOr, tNot, tAndV, tOrV, tNotV, tIf, tNil, tCons, tTup, tLst, tCB, tCallR, tMethR, tPropR, StX.tMakeR, tFld, sFld, sFldAug, tPar, tPar3, gName, gNil, gCons, gTup, gSub, rI, rI0, rU, rEq, rNe, mIxL, mIxT, mLenL, mLenT, mLenS, mLenD, mLenK, mList, mTupL, mInt, mAbs, mMax, mMin, mStr, mAddS, mIsN, mNotN, rIxS, rIxL, rSetL, rAppend, rExtendT, rPopAt, rCat, rIn, tBM, tBM0, tChain, tNever, scal, L2.start, cxK, iRng1, iRng2, tDNewK, tDGet, tDGet2, sDPut, tDIn, tDNotIn, DGet_dk, DPut_dk, IsD_dk, tyV_list, isLst_lst, isDk_dk, dkOf_dk, atI_0, atI_1, atI_2, atI_3, ixN_30, ixN_31, ixN_32, List.map, List.replicate, List.length_cons, List.length_nil, List.nil_append, List.cons_append, List.append_nil, Nat.reduceSub, Nat.reduceAdd, List.getElem?_cons_zero, List.getElem?_cons_succ, List.set_cons_zero, List.set_cons_succ, List.cons.injEq, Option.some.injEq, V.int.injEq, V.str.injEq, V.bl.injEq, V.ref.injEq, HO.ins.injEq, HO.lst.injEq, HO.tup.injEq, HO.dK.injEq, exists_eq_left, exists_eq_left', exists_eq_right, exists_eq_right', exists_and_left, exists_and_right, true_and, and_true, and_self, if_true, if_false, Bool.false_eq_true, Bool.true_eq_false, eq_self, reduceCtorEq, false_and, and_false, upd_same, upd_upd, and_assoc, Int.reduceToNat, Int.reducePow, Int.reduceMul, Int.reduceAdd, Int.reduceNeg, mIsi, mIsi2, kdV_non, kdV_bl, kdV_int, kdV_str, kdV_ref, kdO_lst, kdO_tup, kdO_dK, V.ty.injEq, mAll, mAny, kit_NoneType_bool, kit_NoneType_int, kit_NoneType_str, kit_NoneType_list, kit_NoneType_tuple, kit_NoneType_dict, kit_bool_bool, kit_bool_int, kit_bool_str, kit_bool_list, kit_bool_tuple, kit_bool_dict, kit_int_bool, kit_int_int, kit_int_str, kit_int_list, kit_int_tuple, kit_int_dict, kit_str_bool, kit_str_int, kit_str_str, kit_str_list, kit_str_tuple, kit_str_dict, kit_list_bool, kit_list_int, kit_list_str, kit_list_list, kit_list_tuple, kit_list_dict, kit_tuple_bool, kit_tuple_int, kit_tuple_str, kit_tuple_list, kit_tuple_tuple, kit_tuple_dict, kit_dict_bool, kit_dict_int, kit_dict_str, kit_dict_list, kit_dict_tuple, kit_dict_dict, String.reduceEq, String.reduceNe, ne_eq, not_false_eq_true, not_true_eq_false, decide_false, decide_true, Bool.not_false, Bool.not_true, Bool.or_false, Bool.false_or, Bool.or_true, Bool.true_or, gTupH, wipe, tYes, exists_eq', exists_eq, exists_const, tFor_eq, tLc_eq, tCallX, tMethX, tRaiseOw, tMkOw, tFldOw, mIxA, mLenA, rInO, rNotInO, mLenO, rSetD, tM1, false_or, or_false, tInT, inV_nil, inV_str, flatV_str, flatV_int, flatV_non, mIntB, List.all_cons, List.all_nil, Bool.and_true, Bool.true_and, Bool.and_self, tDisp, tPairs, exk_nil, exk_str, leS0, leS1, leS2, leS3, leS4, leS5, leS6, leS7, leS8, leS9, leS10, leS11, leS12, Nat.reduceLeDiff, mBoolB, rEqNil, hd2, hq2, ht2, upd_ne hne.symm, nl_number, nl_mark, nl_queue, nl_begun, nl_cause, np_mark, np_queue, np_begun, np_cause, nl_len, five, ofS_eq]
    intro p hp
    have ep : p ≠ d := fun e => by rw [e, upd_same] at hp; cases hp
    have hp2 : H2 p = none := by rw [upd_ne ep] at hp; exact hp
    refine ⟨S.q.map V.str, by rw [upd_ne (ne_of_none hq2 hp2), upd_ne hne.symm]; exact hq2, ?_, fun p1 hp1 => ?_⟩
    · rw [List.length_map]; exact Nat.le_trans (show S.q.length + 1 ≤ 100000 by omega) (show 100000 ≤ sizeLine by decide)
    have ep1 : p1 ≠ d := fun e => by rw [e, upd_ne ep.symm, upd_same] at hp1; cases hp1
    have hp12 : H2 p1 = none := by
      cases q : H2 p1 with
      | none => rfl
      | some o => rw [upd_ne (ne_of_none q hp2), upd_ne ep1, q] at hp1; cases hp1
    simp only [tSeq, tAsg, tRet, tRetN, tIfS, tDrop, tNext, tBreak, tCont, tVar, tC, tOp, tUn, tB, tTest, tAnd, tOr, tNot, tAndV, tOrV, tNotV, tIf, tNil, tCons, tTup, tLst, tCB, tCallR, tMethR, tPropR, StX.tMakeR, tFld, sFld, sFldAug, tPar, tPar3, gName, gNil, gCons, gTup, gSub, rI, rI0, rU, rEq, rNe, mIxL, mIxT, mLenL, mLenT, mLenS, mLenD, mLenK, mList, mTupL, mInt, mAbs, mMax, mMin, mStr, mAddS, mIsN, mNotN, rIxS, rIxL, rSetL, rAppend, rExtendT, rPopAt, rCat, rIn, tBM, tBM0, tChain, tNever, scal, L2.start, cxK, iRng1, iRng2, tDNewK, tDGet, tDGet2, sDPut, tDIn, tDNotIn, DGet_dk, DPut_dk, IsD_dk, tyV_list, isLst_lst, isDk_dk, dkOf_dk, atI_0, atI_1, atI_2, atI_3, ixN_30, ixN_31, ixN_32, List.map, List.replicate, List.length_cons, List.length_nil, List.nil_append, List.cons_append, List.append_nil, Nat.reduceSub, Nat.reduceAdd, List.getElem?_cons_zero, List.getElem?_cons_succ, List.set_cons_zero, List.set_cons_succ, List.cons.injEq, Option.some.injEq, V.int.injEq, V.str.injEq, V.bl.injEq, V.ref.injEq, HO.ins.injEq, HO.lst.injEq, HO.tup.injEq, HO.dK.injEq, exists_eq_left, exists_eq_left', exists_eq_right, exists_eq_right', exists_and_left, exists_and_right, true_and, and_true, and_self, if_true, if_false, Bool.false_eq_true, Bool.true_eq_false, eq_self, reduceCtorEq, false_and, and_false, upd_same, upd_upd, and_assoc, Int.reduceToNat, Int.reducePow, Int.reduceMul, Int.reduceAdd, Int.reduceNeg, mIsi, mIsi2, kdV_non, kdV_bl, kdV_int, kdV_str, kdV_ref, kdO_lst, kdO_tup, kdO_dK, V.ty.injEq, mAll, mAny, kit_NoneType_bool, kit_NoneType_int, kit_NoneType_str, kit_NoneType_list, kit_NoneType_tuple, kit_NoneType_dict, kit_bool_bool, kit_bool_int, kit_bool_str, kit_bool_list, kit_bool_tuple, kit_bool_dict, kit_int_bool, kit_int_int, kit_int_str, kit_int_list, kit_int_tuple, kit_int_dict, kit_str_bool, kit_str_int, kit_str_str, kit_str_list, kit_str_tuple, kit_str_dict, kit_list_bool, kit_list_int, kit_list_str, kit_list_list, kit_list_tuple, kit_list_dict, kit_tuple_bool, kit_tuple_int, kit_tuple_str, kit_tuple_list, kit_tuple_tuple, kit_tuple_dict, kit_dict_bool, kit_dict_int, kit_dict_str, kit_dict_list, kit_dict_tuple, kit_dict_dict, String.reduceEq, String.reduceNe, ne_eq, not_false_eq_true, not_true_eq_false, decide_false, decide_true, Bool.not_false, Bool.not_true, Bool.or_false, Bool.false_or, Bool.or_true, Bool.true_or, gTupH, wipe, tYes, exists_eq', exists_eq, exists_const, tFor_eq, tLc_eq, tCallX, tMethX, tRaiseOw, tMkOw, tFldOw, mIxA, mLenA, rInO, rNotInO, mLenO, rSetD, tM1, false_or, or_false, tInT, inV_nil, inV_str, flatV_str, flatV_int, flatV_non, mIntB, List.all_cons, List.all_nil, Bool.and_true, Bool.true_and, Bool.and_self, tDisp, tPairs, exk_nil, exk_str, leS0, leS1, leS2, leS3, leS4, leS5, leS6, leS7, leS8, leS9, leS10, leS11, leS12, Nat.reduceLeDiff, mBoolB, rEqNil, upd_ne ep.symm, upd_ne ep1.symm, nl_number, nl_mark, nl_queue, nl_begun, nl_cause, np_mark, np_queue, np_begun, np_cause, nl_len, five, ofS_eq]
    have hg : g = .str S.g := hgg (rf_fin hf)
    refine dueFin k ⟨upd_same, ?_, ep1.symm, fun z => hg⟩ (fun _ _ => .non) ((((s2k.upd).new hp).new hp1).upd) (.inr (none_of s02 hp12))
    rw [upd_ne ep1, upd_same, hg, List.map_append]; rfl
  · simp only [tSeq, tAsg, tRet, tRetN, tIfS, tDrop, tNext, tBreak, tCont, tVar, tC, tOp, tUn, tB, tTest, tAnd, tOr, tNot, tAndV, tOrV, tNotV, tIf, tNil, tCons, tTup, tLst, tCB, tCallR, tMethR, tPropR, StX.tMakeR, tFld, sFld, sFldAug, tPar, tPar3, gName, gNil, gCons, gTup, gSub, rI, rI0, rU, rEq, rNe, mIxL, mIxT, mLenL, mLenT, mLenS, mLenD, mLenK, mList, mTupL, mInt, mAbs, mMax, mMin, mStr, mAddS, mIsN, mNotN, rIxS, rIxL, rSetL, rAppend, rExtendT, rPopAt, rCat, rIn, tBM, tBM0, tChain, tNever, scal, L2.start, cxK, iRng1, iRng2, tDNewK, tDGet, tDGet2, sDPut, tDIn, tDNotIn, DGet_dk, DPut_dk, IsD_dk, tyV_list, isLst_lst, isDk_dk, dkOf_dk, atI_0, atI_1, atI_2, atI_3, ixN_30, ixN_31, ixN_32, List.map, List.replicate, List.length_cons, List.length_nil, List.nil_append, List.cons_append, List.append_nil, Nat.reduceSub, Nat.reduceAdd, List.getElem?_cons_zero, List.getElem?_cons_succ, List.set_cons_zero, List.set_cons_succ, List.cons.injEq, Option.some.injEq, V.int.injEq, V.str.injEq, V.bl.injEq, V.ref.injEq, HO.ins.injEq, HO.lst.injEq, HO.tup.injEq, HO.dK.injEq, exists_eq_left, exists_eq_left', exists_eq_right, exists_eq_right', exists_and_left, exists_and_right, true_and, and_true, and_self, if_true, if_false, Bool.false_eq_true, Bool.true_eq_false, eq_self, reduceCtorEq, false_and, and_false, upd_same, upd_upd, and_assoc, Int.reduceToNat, Int.reducePow, Int.reduceMul, Int.reduceAdd, Int.reduceNeg, mIsi, mIsi2, kdV_non, kdV_bl, kdV_int, kdV_str, kdV_ref, kdO_lst, kdO_tup, kdO_dK, V.ty.injEq, mAll, mAny, kit_NoneType_bool, kit_NoneType_int, kit_NoneType_str, kit_NoneType_list, kit_NoneType_tuple, kit_NoneType_dict, kit_bool_bool, kit_bool_int, kit_bool_str, kit_bool_list, kit_bool_tuple, kit_bool_dict, kit_int_bool, kit_int_int, kit_int_str, kit_int_list, kit_int_tuple, kit_int_dict, kit_str_bool, kit_str_int, kit_str_str, kit_str_list, kit_str_tuple, kit_str_dict, kit_list_bool, kit_list_int, kit_list_str, kit_list_list, kit_list_tuple, kit_list_dict, kit_tuple_bool, kit_tuple_int, kit_tuple_str, kit_tuple_list, kit_tuple_tuple, kit_tuple_dict, kit_dict_bool, kit_dict_int, kit_dict_str, kit_dict_list, kit_dict_tuple, kit_dict_dict, String.reduceEq, String.reduceNe, ne_eq, not_false_eq_true, not_true_eq_false, decide_false, decide_true, Bool.not_false, Bool.not_true, Bool.or_false, Bool.false_or, Bool.or_true, Bool.true_or, gTupH, wipe, tYes, exists_eq', exists_eq, exists_const, tFor_eq, tLc_eq, tCallX, tMethX, tRaiseOw, tMkOw, tFldOw, mIxA, mLenA, rInO, rNotInO, mLenO, rSetD, tM1, false_or, or_false, tInT, inV_nil, inV_str, flatV_str, flatV_int, flatV_non, mIntB, List.all_cons, List.all_nil, Bool.and_true, Bool.true_and, Bool.and_self, tDisp, tPairs, exk_nil, exk_str, leS0, leS1, leS2, leS3, leS4, leS5, leS6, leS7, leS8, leS9, leS10, leS11, leS12, Nat.reduceLeDiff, mBoolB, rEqNil, hd, hq, ht, nl_number, nl_mark, nl_queue, nl_begun, nl_cause, np_mark, np_queue, np_begun, np_cause, nl_len, five, ofS_eq, sp_l_fault, List.length_map]
    refine ⟨by simp [W6], Int.natCast_nonneg _, fun H1 s1 => due_if (s1 _ _ hd) (fun hf => hfault hf H1 s1) fun hf => ?_⟩
    simp only [tSeq, tAsg, tRet, tRetN, tIfS, tDrop, tNext, tBreak, tCont, tVar, tC, tOp, tUn, tB, tTest, tAnd, tOr, tNot, tAndV, tOrV, tNotV, tIf, tNil, tCons, tTup, tLst, tCB, tCallR, tMethR, tPropR, StX.tMakeR, tFld, sFld, sFldAug, tPar, tPar3, gName, gNil, gCons, gTup, gSub, rI, rI0, rU, rEq, rNe, mIxL, mIxT, mLenL, mLenT, mLenS, mLenD, mLenK, mList, mTupL, mInt, mAbs, mMax, mMin, mStr, mAddS, mIsN, mNotN, rIxS, rIxL, rSetL, rAppend, rExtendT, rPopAt, rCat, rIn, tBM, tBM0, tChain, tNever, scal, L2.start, cxK, iRng1, iRng2, tDNewK, tDGet, tDGet2, sDPut, tDIn, tDNotIn, DGet_dk, DPut_dk, IsD_dk, tyV_list, isLst_lst, isDk_dk, dkOf_dk, atI_0, atI_1, atI_2, atI_3, ixN_30, ixN_31, ixN_32, List.map, List.replicate, List.length_cons, List.length_nil, List.nil_append, List.cons_append, List.append_nil, Nat.reduceSub, Nat.reduceAdd, List.getElem?_cons_zero, List.getElem?_cons_succ, List.set_cons_zero, List.set_cons_succ, List.cons.injEq, Option.some.injEq, V.int.injEq, V.str.injEq, V.bl.injEq, V.ref.injEq, HO.ins.injEq, HO.lst.injEq, HO.tup.injEq, HO.dK.injEq, exists_eq_left, exists_eq_left', exists_eq_right, exists_eq_right', exists_and_left, exists_and_right, true_and, and_true, and_self, if_true, if_false, Bool.false_eq_true, Bool.true_eq_false, eq_self, reduceCtorEq, false_and, and_false, upd_same, upd_upd, and_assoc, Int.reduceToNat, Int.reducePow, Int.reduceMul, Int.reduceAdd, Int.reduceNeg, mIsi, mIsi2, kdV_non, kdV_bl, kdV_int, kdV_str, kdV_ref, kdO_lst, kdO_tup, kdO_dK, V.ty.injEq, mAll, mAny, kit_NoneType_bool, kit_NoneType_int, kit_NoneType_str, kit_NoneType_list, kit_NoneType_tuple, kit_NoneType_dict, kit_bool_bool, kit_bool_int, kit_bool_str, kit_bool_list, kit_bool_tuple, kit_bool_dict, kit_int_bool, kit_int_int, kit_int_str, kit_int_list, kit_int_tuple, kit_int_dict, kit_str_bool, kit_str_int, kit_str_str, kit_str_list, kit_str_tuple, kit_str_dict, kit_list_bool, kit_list_int, kit_list_str, kit_list_list, kit_list_tuple, kit_list_dict, kit_tuple_bool, kit_tuple_int, kit_tuple_str, kit_tuple_list, kit_tuple_tuple, kit_tuple_dict, kit_dict_bool, kit_dict_int, kit_dict_str, kit_dict_list, kit_dict_tuple, kit_dict_dict, String.reduceEq, String.reduceNe, ne_eq, not_false_eq_true, not_true_eq_false, decide_false, decide_true, Bool.not_false, Bool.not_true, Bool.or_false, Bool.false_or, Bool.or_true, Bool.true_or, gTupH, wipe, tYes, exists_eq', exists_eq, exists_const, tFor_eq, tLc_eq, tCallX, tMethX, tRaiseOw, tMkOw, tFldOw, mIxA, mLenA, rInO, rNotInO, mLenO, rSetD, tM1, false_or, or_false, tInT, inV_nil, inV_str, flatV_str, flatV_int, flatV_non, mIntB, List.all_cons, List.all_nil, Bool.and_true, Bool.true_and, Bool.and_self, tDisp, tPairs, exk_nil, exk_str, leS0, leS1, leS2, leS3, leS4, leS5, leS6, leS7, leS8, leS9, leS10, leS11, leS12, Nat.reduceLeDiff, mBoolB, rEqNil, sp_l_mark]
    refine ⟨hG.mm, fun H2 s2 => ?_⟩
    have s02 := s1.trans s2
    have hd2 := s02 _ _ hd
    have hq2 := s02 _ _ hq
    have ht2 := s02 _ _ ht
    obtain ⟨t1, t2⟩ := step_ok (ts := ts) (why := why) hc hdr hf
    rw [t1, t2] at k
    simp only [stepQ, ofS_eq, String.reduceEq, if_false, if_true, or_self, or_true, true_or, or_false, false_or] at k
    have htd : tl ≠ d := fun e => by rw [e, hd] at ht; cases ht
    have s2k : Kp d H H2 := fun b o _ h => s02 _ _ h
    simp only [tSeq, tAsg, tRet, tRetN, tIfS, tDrop, tNext, tBreak, tCont, tVar, tC, tOp, tUn, tB, tTest, tAnd, tOr, tNot, tAndV, tOrV, tNotV, tIf, tNil, tCons, tTup, tLst, tCB, tCallR, tMethR, tPropR, StX.tMakeR, tFld, sFld, sFldAug, tPar, tPar3, gName, gNil, gCons, gTup, gSub, rI, rI0, rU, rEq, rNe, mIxL, mIxT, mLenL, mLenT, mLenS, mLenD, mLenK, mList, mTupL, mInt, mAbs, mMax, mMin, mStr, mAddS, mIsN, mNotN, rIxS, rIxL, rSetL, rAppend, rExtendT, rPopAt, rCat, rIn, tBM, tBM0, tChain, tNever, scal, L2.start, cxK, iRng1, iRng2, tDNewK, tDGet, tDGet2, sDPut, tDIn, tDNotIn, DGet_dk, DPut_dk, IsD_dk, tyV_list, isLst_lst, isDk_dk, dkOf_dk, atI_0, atI_1, atI_2, atI_3, ixN_30, ixN_31, ixN_32, List.map, List.replicate, List.length_cons, List.length_nil, List.nil_append, List.cons_append, List.append_nil, Nat.reduceSub, Nat.reduceAdd, List.getElem?_cons_zero, List.getElem?_cons_succ, List.set_cons_zero, List.set_cons_succ, List.cons.injEq, Option.some.injEq, V.int.injEq, V.str.injEq, V.bl.injEq, V.ref.injEq, HO.ins.injEq, HO.lst.injEq, HO.tup.injEq, HO.dK.injEq, exists_eq_left, exists_eq_left', exists_eq_right, exists_eq_right', exists_and_left, exists_and_right, true_and, and_true, and_self, if_true, if_false, Bool.false_eq_true, Bool.true_eq_false, eq_self, reduceCtorEq, false_and, and_false, upd_same, upd_upd, and_assoc, Int.reduceToNat, Int.reducePow, Int.reduceMul, Int.reduceAdd, Int.reduceNeg, mIsi, mIsi2, kdV_non, kdV_bl, kdV_int, kdV_str, kdV_ref, kdO_lst, kdO_tup, kdO_dK, V.ty.injEq, mAll, mAny, kit_NoneType_bool, kit_NoneType_int, kit_NoneType_str, kit_NoneType_list, kit_NoneType_tuple, kit_NoneType_dict, kit_bool_bool, kit_bool_int, kit_bool_str, kit_bool_list, kit_bool_tuple, kit_bool_dict, kit_int_bool, kit_int_int, kit_int_str, kit_int_list, kit_int_tuple, kit_int_dict, kit_str_bool, kit_str_int, kit_str_str, kit_str_list, kit_str_tuple, kit_str_dict, kit_list_bool, kit_list_int, kit_list_str, kit_list_list, kit_list_tuple, kit_list_dict, kit_tuple_bool, kit_tuple_int, kit_tuple_str, kit_tuple_list, kit_tuple_tuple, kit_tuple_dict, kit_dict_bool, kit_dict_int, kit_dict_str, kit_dict_list, kit_dict_tuple, kit_dict_dict, String.reduceEq, String.reduceNe, ne_eq, not_false_eq_true, not_true_eq_false, decide_false, decide_true, Bool.not_false, Bool.not_true, Bool.or_false, Bool.false_or, Bool.or_true, Bool.true_or, gTupH, wipe, tYes, exists_eq', exists_eq, exists_const, tFor_eq, tLc_eq, tCallX, tMethX, tRaiseOw, tMkOw, tFldOw, mIxA, mLenA, rInO, rNotInO, mLenO, rSetD, tM1, false_or, or_false, tInT, inV_nil, inV_str, flatV_str, flatV_int, flatV_non, mIntB, List.all_cons, List.all_nil, Bool.and_true, Bool.true_and, Bool.and_self, tDisp, tPairs, exk_nil, exk_str, leS0, leS1, leS2, leS3, leS4, leS5, leS6, leS7, leS8, leS9, leS10, leS11, leS12, Nat.reduceLeDiff, mBoolB, rEqNil, hd2, hq2, ht2, upd_ne hne.symm, nl_number, nl_mark, nl_queue, nl_begun, nl_cause, np_mark, np_queue, np_begun, np_cause, nl_len, five, ofS_eq]
    obtain ⟨t, q, eq⟩ : ∃ t q, S.q = t :: q := by
      cases e : S.q with
      | nil => exact absurd e (rf_read_ne (.inl rfl) hf)
      | cons t q => exact ⟨t, q, rfl⟩
    rw [eq] at k hq2 ⊢
    simp only [tSeq, tAsg, tRet, tRetN, tIfS, tDrop, tNext, tBreak, tCont, tVar, tC, tOp, tUn, tB, tTest, tAnd, tOr, tNot, tAndV, tOrV, tNotV, tIf, tNil, tCons, tTup, tLst, tCB, tCallR, tMethR, tPropR, StX.tMakeR, tFld, sFld, sFldAug, tPar, tPar3, gName, gNil, gCons, gTup, gSub, rI, rI0, rU, rEq, rNe, mIxL, mIxT, mLenL, mLenT, mLenS, mLenD, mLenK, mList, mTupL, mInt, mAbs, mMax, mMin, mStr, mAddS, mIsN, mNotN, rIxS, rIxL, rSetL, rAppend, rExtendT, rPopAt, rCat, rIn, tBM, tBM0, tChain, tNever, scal, L2.start, cxK, iRng1, iRng2, tDNewK, tDGet, tDGet2, sDPut, tDIn, tDNotIn, DGet_dk, DPut_dk, IsD_dk, tyV_list, isLst_lst, isDk_dk, dkOf_dk, atI_0, atI_1, atI_2, atI_3, ixN_30, ixN_31, ixN_32, List.map, List.replicate, List.length_cons, List.length_nil, List.nil_append, List.cons_append, List.append_nil, Nat.reduceSub, Nat.reduceAdd, List.getElem?_cons_zero, List.getElem?_cons_succ, List.set_cons_zero, List.set_cons_succ, List.cons.injEq, Option.some.injEq, V.int.injEq, V.str.injEq, V.bl.injEq, V.ref.injEq, HO.ins.injEq, HO.lst.injEq, HO.tup.injEq, HO.dK.injEq, exists_eq_left, exists_eq_left', exists_eq_right, exists_eq_right', exists_and_left, exists_and_right, true_and, and_true, and_self, if_true, if_false, Bool.false_eq_true, Bool.true_eq_false, eq_self, reduceCtorEq, false_and, and_false, upd_same, upd_upd, and_assoc, Int.reduceToNat, Int.reducePow, Int.reduceMul, Int.reduceAdd, Int.reduceNeg, mIsi, mIsi2, kdV_non, kdV_bl, kdV_int, kdV_str, kdV_ref, kdO_lst, kdO_tup, kdO_dK, V.ty.injEq, mAll, mAny, kit_NoneType_bool, kit_NoneType_int, kit_NoneType_str, kit_NoneType_list, kit_NoneType_tuple, kit_NoneType_dict, kit_bool_bool, kit_bool_int, kit_bool_str, kit_bool_list, kit_bool_tuple, kit_bool_dict, kit_int_bool, kit_int_int, kit_int_str, kit_int_list, kit_int_tuple, kit_int_dict, kit_str_bool, kit_str_int, kit_str_str, kit_str_list, kit_str_tuple, kit_str_dict, kit_list_bool, kit_list_int, kit_list_str, kit_list_list, kit_list_tuple, kit_list_dict, kit_tuple_bool, kit_tuple_int, kit_tuple_str, kit_tuple_list, kit_tuple_tuple, kit_tuple_dict, kit_dict_bool, kit_dict_int, kit_dict_str, kit_dict_list, kit_dict_tuple, kit_dict_dict, String.reduceEq, String.reduceNe, ne_eq, not_false_eq_true, not_true_eq_false, decide_false, decide_true, Bool.not_false, Bool.not_true, Bool.or_false, Bool.false_or, Bool.or_true, Bool.true_or, gTupH, wipe, tYes, exists_eq', exists_eq, exists_const, tFor_eq, tLc_eq, tCallX, tMethX, tRaiseOw, tMkOw, tFldOw, mIxA, mLenA, rInO, rNotInO, mLenO, rSetD, tM1, false_or, or_false, tInT, inV_nil, inV_str, flatV_str, flatV_int, flatV_non, mIntB, List.all_cons, List.all_nil, Bool.and_true, Bool.true_and, Bool.and_self, tDisp, tPairs, exk_nil, exk_str, leS0, leS1, leS2, leS3, leS4, leS5, leS6, leS7, leS8, leS9, leS10, leS11, leS12, Nat.reduceLeDiff, mBoolB, rEqNil, hd2, hq2, upd_ne hne.symm, tSl, tPart, tNoPart, mSlL, nl_number, nl_mark, nl_queue, nl_begun, nl_cause, np_mark, np_queue, np_begun, np_cause, nl_len, five, ofS_eq]
    intro p hp
    have ep : p ≠ d := fun e => by rw [e, upd_same] at hp; cases hp
    have hp2 : H2 p = none := by rw [upd_ne ep] at hp; exact hp
    have el : lq ≠ p := ne_of_none hq2 hp2
    simp only [tSeq, tAsg, tRet, tRetN, tIfS, tDrop, tNext, tBreak, tCont, tVar, tC, tOp, tUn, tB, tTest, tAnd, tOr, tNot, tAndV, tOrV, tNotV, tIf, tNil, tCons, tTup, tLst, tCB, tCallR, tMethR, tPropR, StX.tMakeR, tFld, sFld, sFldAug, tPar, tPar3, gName, gNil, gCons, gTup, gSub, rI, rI0, rU, rEq, rNe, mIxL, mIxT, mLenL, mLenT, mLenS, mLenD, mLenK, mList, mTupL, mInt, mAbs, mMax, mMin, mStr, mAddS, mIsN, mNotN, rIxS, rIxL, rSetL, rAppend, rExtendT, rPopAt, rCat, rIn, tBM, tBM0, tChain, tNever, scal, L2.start, cxK, iRng1, iRng2, tDNewK, tDGet, tDGet2, sDPut, tDIn, tDNotIn, DGet_dk, DPut_dk, IsD_dk, tyV_list, isLst_lst, isDk_dk, dkOf_dk, atI_0, atI_1, atI_2, atI_3, ixN_30, ixN_31, ixN_32, List.map, List.replicate, List.length_cons, List.length_nil, List.nil_append, List.cons_append, List.append_nil, Nat.reduceSub, Nat.reduceAdd, List.getElem?_cons_zero, List.getElem?_cons_succ, List.set_cons_zero, List.set_cons_succ, List.cons.injEq, Option.some.injEq, V.int.injEq, V.str.injEq, V.bl.injEq, V.ref.injEq, HO.ins.injEq, HO.lst.injEq, HO.tup.injEq, HO.dK.injEq, exists_eq_left, exists_eq_left', exists_eq_right, exists_eq_right', exists_and_left, exists_and_right, true_and, and_true, and_self, if_true, if_false, Bool.false_eq_true, Bool.true_eq_false, eq_self, reduceCtorEq, false_and, and_false, upd_same, upd_upd, and_assoc, Int.reduceToNat, Int.reducePow, Int.reduceMul, Int.reduceAdd, Int.reduceNeg, mIsi, mIsi2, kdV_non, kdV_bl, kdV_int, kdV_str, kdV_ref, kdO_lst, kdO_tup, kdO_dK, V.ty.injEq, mAll, mAny, kit_NoneType_bool, kit_NoneType_int, kit_NoneType_str, kit_NoneType_list, kit_NoneType_tuple, kit_NoneType_dict, kit_bool_bool, kit_bool_int, kit_bool_str, kit_bool_list, kit_bool_tuple, kit_bool_dict, kit_int_bool, kit_int_int, kit_int_str, kit_int_list, kit_int_tuple, kit_int_dict, kit_str_bool, kit_str_int, kit_str_str, kit_str_list, kit_str_tuple, kit_str_dict, kit_list_bool, kit_list_int, kit_list_str, kit_list_list, kit_list_tuple, kit_list_dict, kit_tuple_bool, kit_tuple_int, kit_tuple_str, kit_tuple_list, kit_tuple_tuple, kit_tuple_dict, kit_dict_bool, kit_dict_int, kit_dict_str, kit_dict_list, kit_dict_tuple, kit_dict_dict, String.reduceEq, String.reduceNe, ne_eq, not_false_eq_true, not_true_eq_false, decide_false, decide_true, Bool.not_false, Bool.not_true, Bool.or_false, Bool.false_or, Bool.or_true, Bool.true_or, gTupH, wipe, tYes, exists_eq', exists_eq, exists_const, tFor_eq, tLc_eq, tCallX, tMethX, tRaiseOw, tMkOw, tFldOw, mIxA, mLenA, rInO, rNotInO, mLenO, rSetD, tM1, false_or, or_false, tInT, inV_nil, inV_str, flatV_str, flatV_int, flatV_non, mIntB, List.all_cons, List.all_nil, Bool.and_true, Bool.true_and, Bool.and_self, tDisp, tPairs, exk_nil, exk_str, leS0, leS1, leS2, leS3, leS4, leS5, leS6, leS7, leS8, leS9, leS10, leS11, leS12, Nat.reduceLeDiff, mBoolB, rEqNil, upd_ne ep.symm, upd_ne el, upd_ne hne.symm, hq2, nl_number, nl_mark, nl_queue, nl_begun, nl_cause, np_mark, np_queue, np_begun, np_cause, nl_len, five, ofS_eq]
    exact dueFin k ⟨upd_same, by rw [upd_ne ep, upd_same, cut1]; rfl, ep.symm, fun z => hgg (out_after hG.mm hw (by decide) z)⟩ (fun _ _ => .str _) ((s2k.upd.new hp).upd) (.inr (none_of s02 hp2))
  · simp only [tSeq, tAsg, tRet, tRetN, tIfS, tDrop, tNext, tBreak, tCont, tVar, tC, tOp, tUn, tB, tTest, tAnd, tOr, tNot, tAndV, tOrV, tNotV, tIf, tNil, tCons, tTup, tLst, tCB, tCallR, tMethR, tPropR, StX.tMakeR, tFld, sFld, sFldAug, tPar, tPar3, gName, gNil, gCons, gTup, gSub, rI, rI0, rU, rEq, rNe, mIxL, mIxT, mLenL, mLenT, mLenS, mLenD, mLenK, mList, mTupL, mInt, mAbs, mMax, mMin, mStr, mAddS, mIsN, mNotN, rIxS, rIxL, rSetL, rAppend, rExtendT, rPopAt, rCat, rIn, tBM, tBM0, tChain, tNever, scal, L2.start, cxK, iRng1, iRng2, tDNewK, tDGet, tDGet2, sDPut, tDIn, tDNotIn, DGet_dk, DPut_dk, IsD_dk, tyV_list, isLst_lst, isDk_dk, dkOf_dk, atI_0, atI_1, atI_2, atI_3, ixN_30, ixN_31, ixN_32, List.map, List.replicate, List.length_cons, List.length_nil, List.nil_append, List.cons_append, List.append_nil, Nat.reduceSub, Nat.reduceAdd, List.getElem?_cons_zero, List.getElem?_cons_succ, List.set_cons_zero, List.set_cons_succ, List.cons.injEq, Option.some.injEq, V.int.injEq, V.str.injEq, V.bl.injEq, V.ref.injEq, HO.ins.injEq, HO.lst.injEq, HO.tup.injEq, HO.dK.injEq, exists_eq_left, exists_eq_left', exists_eq_right, exists_eq_right', exists_and_left, exists_and_right, true_and, and_true, and_self, if_true, if_false, Bool.false_eq_true, Bool.true_eq_false, eq_self, reduceCtorEq, false_and, and_false, upd_same, upd_upd, and_assoc, Int.reduceToNat, Int.reducePow, Int.reduceMul, Int.reduceAdd, Int.reduceNeg, mIsi, mIsi2, kdV_non, kdV_bl, kdV_int, kdV_str, kdV_ref, kdO_lst, kdO_tup, kdO_dK, V.ty.injEq, mAll, mAny, kit_NoneType_bool, kit_NoneType_int, kit_NoneType_str, kit_NoneType_list, kit_NoneType_tuple, kit_NoneType_dict, kit_bool_bool, kit_bool_int, kit_bool_str, kit_bool_list, kit_bool_tuple, kit_bool_dict, kit_int_bool, kit_int_int, kit_int_str, kit_int_list, kit_int_tuple, kit_int_dict, kit_str_bool, kit_str_int, kit_str_str, kit_str_list, kit_str_tuple, kit_str_dict, kit_list_bool, kit_list_int, kit_list_str, kit_list_list, kit_list_tuple, kit_list_dict, kit_tuple_bool, kit_tuple_int, kit_tuple_str, kit_tuple_list, kit_tuple_tuple, kit_tuple_dict, kit_dict_bool, kit_dict_int, kit_dict_str, kit_dict_list, kit_dict_tuple, kit_dict_dict, String.reduceEq, String.reduceNe, ne_eq, not_false_eq_true, not_true_eq_false, decide_false, decide_true, Bool.not_false, Bool.not_true, Bool.or_false, Bool.false_or, Bool.or_true, Bool.true_or, gTupH, wipe, tYes, exists_eq', exists_eq, exists_const, tFor_eq, tLc_eq, tCallX, tMethX, tRaiseOw, tMkOw, tFldOw, mIxA, mLenA, rInO, rNotInO, mLenO, rSetD, tM1, false_or, or_false, tInT, inV_nil, inV_str, flatV_str, flatV_int, flatV_non, mIntB, List.all_cons, List.all_nil, Bool.and_true, Bool.true_and, Bool.and_self, tDisp, tPairs, exk_nil, exk_str, leS0, leS1, leS2, leS3, leS4, leS5, leS6, leS7, leS8, leS9, leS10, leS11, leS12, Nat.reduceLeDiff, mBoolB, rEqNil, hd, hq, ht, nl_number, nl_mark, nl_queue, nl_begun, nl_cause, np_mark, np_queue, np_begun, np_cause, nl_len, five, ofS_eq, sp_l_fault, List.length_map]
    refine ⟨by simp [W6], Int.natCast_nonneg _, fun H1 s1 => due_if (s1 _ _ hd) (fun hf => hfault hf H1 s1) fun hf => ?_⟩
    simp only [tSeq, tAsg, tRet, tRetN, tIfS, tDrop, tNext, tBreak, tCont, tVar, tC, tOp, tUn, tB, tTest, tAnd, tOr, tNot, tAndV, tOrV, tNotV, tIf, tNil, tCons, tTup, tLst, tCB, tCallR, tMethR, tPropR, StX.tMakeR, tFld, sFld, sFldAug, tPar, tPar3, gName, gNil, gCons, gTup, gSub, rI, rI0, rU, rEq, rNe, mIxL, mIxT, mLenL, mLenT, mLenS, mLenD, mLenK, mList, mTupL, mInt, mAbs, mMax, mMin, mStr, mAddS, mIsN, mNotN, rIxS, rIxL, rSetL, rAppend, rExtendT, rPopAt, rCat, rIn, tBM, tBM0, tChain, tNever, scal, L2.start, cxK, iRng1, iRng2, tDNewK, tDGet, tDGet2, sDPut, tDIn, tDNotIn, DGet_dk, DPut_dk, IsD_dk, tyV_list, isLst_lst, isDk_dk, dkOf_dk, atI_0, atI_1, atI_2, atI_3, ixN_30, ixN_31, ixN_32, List.map, List.replicate, List.length_cons, List.length_nil, List.nil_append, List.cons_append, List.append_nil, Nat.reduceSub, Nat.reduceAdd, List.getElem?_cons_zero, List.getElem?_cons_succ, List.set_cons_zero, List.set_cons_succ, List.cons.injEq, Option.some.injEq, V.int.injEq, V.str.injEq, V.bl.injEq, V.ref.injEq, HO.ins.injEq, HO.lst.injEq, HO.tup.injEq, HO.dK.injEq, exists_eq_left, exists_eq_left', exists_eq_right, exists_eq_right', exists_and_left, exists_and_right, true_and, and_true, and_self, if_true, if_false, Bool.false_eq_true, Bool.true_eq_false, eq_self, reduceCtorEq, false_and, and_false, upd_same, upd_upd, and_assoc, Int.reduceToNat, Int.reducePow, Int.reduceMul, Int.reduceAdd, Int.reduceNeg, mIsi, mIsi2, kdV_non, kdV_bl, kdV_int, kdV_str, kdV_ref, kdO_lst, kdO_tup, kdO_dK, V.ty.injEq, mAll, mAny, kit_NoneType_bool, kit_NoneType_int, kit_NoneType_str, kit_NoneType_list, kit_NoneType_tuple, kit_NoneType_dict, kit_bool_bool, kit_bool_int, kit_bool_str, kit_bool_list, kit_bool_tuple, kit_bool_dict, kit_int_bool, kit_int_int, kit_int_str, kit_int_list, kit_int_tuple, kit_int_dict, kit_str_bool, kit_str_int, kit_str_str, kit_str_list, kit_str_tuple, kit_str_dict, kit_list_bool, kit_list_int, kit_list_str, kit_list_list, kit_list_tuple, kit_list_dict, kit_tuple_bool, kit_tuple_int, kit_tuple_str, kit_tuple_list, kit_tuple_tuple, kit_tuple_dict, kit_dict_bool, kit_dict_int, kit_dict_str, kit_dict_list, kit_dict_tuple, kit_dict_dict, String.reduceEq, String.reduceNe, ne_eq, not_false_eq_true, not_true_eq_false, decide_false, decide_true, Bool.not_false, Bool.not_true, Bool.or_false, Bool.false_or, Bool.or_true, Bool.true_or, gTupH, wipe, tYes, exists_eq', exists_eq, exists_const, tFor_eq, tLc_eq, tCallX, tMethX, tRaiseOw, tMkOw, tFldOw, mIxA, mLenA, rInO, rNotInO, mLenO, rSetD, tM1, false_or, or_false, tInT, inV_nil, inV_str, flatV_str, flatV_int, flatV_non, mIntB, List.all_cons, List.all_nil, Bool.and_true, Bool.true_and, Bool.and_self, tDisp, tPairs, exk_nil, exk_str, leS0, leS1, leS2, leS3, leS4, leS5, leS6, leS7, leS8, leS9, leS10, leS11, leS12, Nat.reduceLeDiff, mBoolB, rEqNil, sp_l_mark]
    refine ⟨hG.mm, fun H2 s2 => ?_⟩
    have s02 := s1.trans s2
    have hd2 := s02 _ _ hd
    have hq2 := s02 _ _ hq
    have ht2 := s02 _ _ ht
    obtain ⟨t1, t2⟩ := step_ok (ts := ts) (why := why) hc hdr hf
    rw [t1, t2] at k
    simp only [stepQ, ofS_eq, String.reduceEq, if_false, if_true, or_self, or_true, true_or, or_false, false_or] at k
    have htd : tl ≠ d := fun e => by rw [e, hd] at ht; cases ht
    have s2k : Kp d H H2 := fun b o _ h => s02 _ _ h
    simp only [tSeq, tAsg, tRet, tRetN, tIfS, tDrop, tNext, tBreak, tCont, tVar, tC, tOp, tUn, tB, tTest, tAnd, tOr, tNot, tAndV, tOrV, tNotV, tIf, tNil, tCons, tTup, tLst, tCB, tCallR, tMethR, tPropR, StX.tMakeR, tFld, sFld, sFldAug, tPar, tPar3, gName, gNil, gCons, gTup, gSub, rI, rI0, rU, rEq, rNe, mIxL, mIxT, mLenL, mLenT, mLenS, mLenD, mLenK, mList, mTupL, mInt, mAbs, mMax, mMin, mStr, mAddS, mIsN, mNotN, rIxS, rIxL, rSetL, rAppend, rExtendT, rPopAt, rCat, rIn, tBM, tBM0, tChain, tNever, scal, L2.start, cxK, iRng1, iRng2, tDNewK, tDGet, tDGet2, sDPut, tDIn, tDNotIn, DGet_dk, DPut_dk, IsD_dk, tyV_list, isLst_lst, isDk_dk, dkOf_dk, atI_0, atI_1, atI_2, atI_3, ixN_30, ixN_31, ixN_32, List.map, List.replicate, List.length_cons, List.length_nil, List.nil_append, List.cons_append, List.append_nil, Nat.reduceSub, Nat.reduceAdd, List.getElem?_cons_zero, List.getElem?_cons_succ, List.set_cons_zero, List.set_cons_succ, List.cons.injEq, Option.some.injEq, V.int.injEq, V.str.injEq, V.bl.injEq, V.ref.injEq, HO.ins.injEq, HO.lst.injEq, HO.tup.injEq, HO.dK.injEq, exists_eq_left, exists_eq_left', exists_eq_right, exists_eq_right', exists_and_left, exists_and_right, true_and, and_true, and_self, if_true, if_false, Bool.false_eq_true, Bool.true_eq_false, eq_self, reduceCtorEq, false_and, and_false, upd_same, upd_upd, and_assoc, Int.reduceToNat, Int.reducePow, Int.reduceMul, Int.reduceAdd, Int.reduceNeg, mIsi, mIsi2, kdV_non, kdV_bl, kdV_int, kdV_str, kdV_ref, kdO_lst, kdO_tup, kdO_dK, V.ty.injEq, mAll, mAny, kit_NoneType_bool, kit_NoneType_int, kit_NoneType_str, kit_NoneType_list, kit_NoneType_tuple, kit_NoneType_dict, kit_bool_bool, kit_bool_int, kit_bool_str, kit_bool_list, kit_bool_tuple, kit_bool_dict, kit_int_bool, kit_int_int, kit_int_str, kit_int_list, kit_int_tuple, kit_int_dict, kit_str_bool, kit_str_int, kit_str_str, kit_str_list, kit_str_tuple, kit_str_dict, kit_list_bool, kit_list_int, kit_list_str, kit_list_list, kit_list_tuple, kit_list_dict, kit_tuple_bool, kit_tuple_int, kit_tuple_str, kit_tuple_list, kit_tuple_tuple, kit_tuple_dict, kit_dict_bool, kit_dict_int, kit_dict_str, kit_dict_list, kit_dict_tuple, kit_dict_dict, String.reduceEq, String.reduceNe, ne_eq, not_false_eq_true, not_true_eq_false, decide_false, decide_true, Bool.not_false, Bool.not_true, Bool.or_false, Bool.false_or, Bool.or_true, Bool.true_or, gTupH, wipe, tYes, exists_eq', exists_eq, exists_const, tFor_eq, tLc_eq, tCallX, tMethX, tRaiseOw, tMkOw, tFldOw, mIxA, mLenA, rInO, rNotInO, mLenO, rSetD, tM1, false_or, or_false, tInT, inV_nil, inV_str, flatV_str, flatV_int, flatV_non, mIntB, List.all_cons, List.all_nil, Bool.and_true, Bool.true_and, Bool.and_self, tDisp, tPairs, exk_nil, exk_str, leS0, leS1, leS2, leS3, leS4, leS5, leS6, leS7, leS8, leS9, leS10, leS11, leS12, Nat.reduceLeDiff, mBoolB, rEqNil, hd2, hq2, ht2, upd_ne hne.symm, nl_number, nl_mark, nl_queue, nl_begun, nl_cause, np_mark, np_queue, np_begun, np_cause, nl_len, five, ofS_eq]
    obtain ⟨t, q, eq⟩ : ∃ t q, S.q = t :: q := by
      cases e : S.q with
      | nil => exact absurd e (rf_read_ne (.inr rfl) hf)
      | cons t q => exact ⟨t, q, rfl⟩
    refine ⟨.str t, by rw [eq]; exact atI_0, ?_⟩
    refine dueFin k ⟨upd_same, by rw [upd_ne hne.symm]; exact hq2, hne, fun z => hgg (out_after hG.mm hw (by decide) z)⟩ ?_ s2k.upd (.inl rfl)
    rw [eq]; exact fun _ _ => .str _
  · simp only [tSeq, tAsg, tRet, tRetN, tIfS, tDrop, tNext, tBreak, tCont, tVar, tC, tOp, tUn, tB, tTest, tAnd, tOr, tNot, tAndV, tOrV, tNotV, tIf, tNil, tCons, tTup, tLst, tCB, tCallR, tMethR, tPropR, StX.tMakeR, tFld, sFld, sFldAug, tPar, tPar3, gName, gNil, gCons, gTup, gSub, rI, rI0, rU, rEq, rNe, mIxL, mIxT, mLenL, mLenT, mLenS, mLenD, mLenK, mList, mTupL, mInt, mAbs, mMax, mMin, mStr, mAddS, mIsN, mNotN, rIxS, rIxL, rSetL, rAppend, rExtendT, rPopAt, rCat, rIn, tBM, tBM0, tChain, tNever, scal, L2.start, cxK, iRng1, iRng2, tDNewK, tDGet, tDGet2, sDPut, tDIn, tDNotIn, DGet_dk, DPut_dk, IsD_dk, tyV_list, isLst_lst, isDk_dk, dkOf_dk, atI_0, atI_1, atI_2, atI_3, ixN_30, ixN_31, ixN_32, List.map, List.replicate, List.length_cons, List.length_nil, List.nil_append, List.cons_append, List.append_nil, Nat.reduceSub, Nat.reduceAdd, List.getElem?_cons_zero, List.getElem?_cons_succ, List.set_cons_zero, List.set_cons_succ, List.cons.injEq, Option.some.injEq, V.int.injEq, V.str.injEq, V.bl.injEq, V.ref.injEq, HO.ins.injEq, HO.lst.injEq, HO.tup.injEq, HO.dK.injEq, exists_eq_left, exists_eq_left', exists_eq_right, exists_eq_right', exists_and_left, exists_and_right, true_and, and_true, and_self, if_true, if_false, Bool.false_eq_true, Bool.true_eq_false, eq_self, reduceCtorEq, false_and, and_false, upd_same, upd_upd, and_assoc, Int.reduceToNat, Int.reducePow, Int.reduceMul, Int.reduceAdd, Int.reduceNeg, mIsi, mIsi2, kdV_non, kdV_bl, kdV_int, kdV_str, kdV_ref, kdO_lst, kdO_tup, kdO_dK, V.ty.injEq, mAll, mAny, kit_NoneType_bool, kit_NoneType_int, kit_NoneType_str, kit_NoneType_list, kit_NoneType_tuple, kit_NoneType_dict, kit_bool_bool, kit_bool_int, kit_bool_str, kit_bool_list, kit_bool_tuple, kit_bool_dict, kit_int_bool, kit_int_int, kit_int_str, kit_int_list, kit_int_tuple, kit_int_dict, kit_str_bool, kit_str_int, kit_str_str, kit_str_list, kit_str_tuple, kit_str_dict, kit_list_bool, kit_list_int, kit_list_str, kit_list_list, kit_list_tuple, kit_list_dict, kit_tuple_bool, kit_tuple_int, kit_tuple_str, kit_tuple_list, kit_tuple_tuple, kit_tuple_dict, kit_dict_bool, kit_dict_int, kit_dict_str, kit_dict_list, kit_dict_tuple, kit_dict_dict, String.reduceEq, String.reduceNe, ne_eq, not_false_eq_true, not_true_eq_false, decide_false, decide_true, Bool.not_false, Bool.not_true, Bool.or_false, Bool.false_or, Bool.or_true, Bool.true_or, gTupH, wipe, tYes, exists_eq', exists_eq, exists_const, tFor_eq, tLc_eq, tCallX, tMethX, tRaiseOw, tMkOw, tFldOw, mIxA, mLenA, rInO, rNotInO, mLenO, rSetD, tM1, false_or, or_false, tInT, inV_nil, inV_str, flatV_str, flatV_int, flatV_non, mIntB, List.all_cons, List.all_nil, Bool.and_true, Bool.true_and, Bool.and_self, tDisp, tPairs, exk_nil, exk_str, leS0, leS1, leS2, leS3, leS4, leS5, leS6, leS7, leS8, leS9, leS10, leS11, leS12, Nat.reduceLeDiff, mBoolB, rEqNil, hd, hq, ht, nl_number, nl_mark, nl_queue, nl_begun, nl_cause, np_mark, np_queue, np_begun, np_cause, nl_len, five, ofS_eq, sp_l_fault, List.length_map]
    refine ⟨by simp [W6], Int.natCast_nonneg _, fun H1 s1 => due_if (s1 _ _ hd) (fun hf => hfault hf H1 s1) fun hf => ?_⟩
    simp only [tSeq, tAsg, tRet, tRetN, tIfS, tDrop, tNext, tBreak, tCont, tVar, tC, tOp, tUn, tB, tTest, tAnd, tOr, tNot, tAndV, tOrV, tNotV, tIf, tNil, tCons, tTup, tLst, tCB, tCallR, tMethR, tPropR, StX.tMakeR, tFld, sFld, sFldAug, tPar, tPar3, gName, gNil, gCons, gTup, gSub, rI, rI0, rU, rEq, rNe, mIxL, mIxT, mLenL, mLenT, mLenS, mLenD, mLenK, mList, mTupL, mInt, mAbs, mMax, mMin, mStr, mAddS, mIsN, mNotN, rIxS, rIxL, rSetL, rAppend, rExtendT, rPopAt, rCat, rIn, tBM, tBM0, tChain, tNever, scal, L2.start, cxK, iRng1, iRng2, tDNewK, tDGet, tDGet2, sDPut, tDIn, tDNotIn, DGet_dk, DPut_dk, IsD_dk, tyV_list, isLst_lst, isDk_dk, dkOf_dk, atI_0, atI_1, atI_2, atI_3, ixN_30, ixN_31, ixN_32, List.map, List.replicate, List.length_cons, List.length_nil, List.nil_append, List.cons_append, List.append_nil, Nat.reduceSub, Nat.reduceAdd, List.getElem?_cons_zero, List.getElem?_cons_succ, List.set_cons_zero, List.set_cons_succ, List.cons.injEq, Option.some.injEq, V.int.injEq, V.str.injEq, V.bl.injEq, V.ref.injEq, HO.ins.injEq, HO.lst.injEq, HO.tup.injEq, HO.dK.injEq, exists_eq_left, exists_eq_left', exists_eq_right, exists_eq_right', exists_and_left, exists_and_right, true_and, and_true, and_self, if_true, if_false, Bool.false_eq_true, Bool.true_eq_false, eq_self, reduceCtorEq, false_and, and_false, upd_same, upd_upd, and_assoc, Int.reduceToNat, Int.reducePow, Int.reduceMul, Int.reduceAdd, Int.reduceNeg, mIsi, mIsi2, kdV_non, kdV_bl, kdV_int, kdV_str, kdV_ref, kdO_lst, kdO_tup, kdO_dK, V.ty.injEq, mAll, mAny, kit_NoneType_bool, kit_NoneType_int, kit_NoneType_str, kit_NoneType_list, kit_NoneType_tuple, kit_NoneType_dict, kit_bool_bool, kit_bool_int, kit_bool_str, kit_bool_list, kit_bool_tuple, kit_bool_dict, kit_int_bool, kit_int_int, kit_int_str, kit_int_list, kit_int_tuple, kit_int_dict, kit_str_bool, kit_str_int, kit_str_str, kit_str_list, kit_str_tuple, kit_str_dict, kit_list_bool, kit_list_int, kit_list_str, kit_list_list, kit_list_tuple, kit_list_dict, kit_tuple_bool, kit_tuple_int, kit_tuple_str, kit_tuple_list, kit_tuple_tuple, kit_tuple_dict, kit_dict_bool, kit_dict_int, kit_dict_str, kit_dict_list, kit_dict_tuple, kit_dict_dict, String.reduceEq, String.reduceNe, ne_eq, not_false_eq_true, not_true_eq_false, decide_false, decide_true, Bool.not_false, Bool.not_true, Bool.or_false, Bool.false_or, Bool.or_true, Bool.true_or, gTupH, wipe, tYes, exists_eq', exists_eq, exists_const, tFor_eq, tLc_eq, tCallX, tMethX, tRaiseOw, tMkOw, tFldOw, mIxA, mLenA, rInO, rNotInO, mLenO, rSetD, tM1, false_or, or_false, tInT, inV_nil, inV_str, flatV_str, flatV_int, flatV_non, mIntB, List.all_cons, List.all_nil, Bool.and_true, Bool.true_and, Bool.and_self, tDisp, tPairs, exk_nil, exk_str, leS0, leS1, leS2, leS3, leS4, leS5, leS6, leS7, leS8, leS9, leS10, leS11, leS12, Nat.reduceLeDiff, mBoolB, rEqNil, sp_l_mark]
    refine ⟨hG.mm, fun H2 s2 => ?_⟩
    have s02 := s1.trans s2
    have hd2 := s02 _ _ hd
    have hq2 := s02 _ _ hq
    have ht2 := s02 _ _ ht
    obtain ⟨t1, t2⟩ := step_ok (ts := ts) (why := why) hc hdr hf
    rw [t1, t2] at k
    simp only [stepQ, ofS_eq, String.reduceEq, if_false, if_true, or_self, or_true, true_or, or_false, false_or] at k
    have htd : tl ≠ d := fun e => by rw [e, hd] at ht; cases ht
    have s2k : Kp d H H2 := fun b o _ h => s02 _ _ h
    simp only [tSeq, tAsg, tRet, tRetN, tIfS, tDrop, tNext, tBreak, tCont, tVar, tC, tOp, tUn, tB, tTest, tAnd, tOr, tNot, tAndV, tOrV, tNotV, tIf, tNil, tCons, tTup, tLst, tCB, tCallR, tMethR, tPropR, StX.tMakeR, tFld, sFld, sFldAug, tPar, tPar3, gName, gNil, gCons, gTup, gSub, rI, rI0, rU, rEq, rNe, mIxL, mIxT, mLenL, mLenT, mLenS, mLenD, mLenK, mList, mTupL, mInt, mAbs, mMax, mMin, mStr, mAddS, mIsN, mNotN, rIxS, rIxL, rSetL, rAppend, rExtendT, rPopAt, rCat, rIn, tBM, tBM0, tChain, tNever, scal, L2.start, cxK, iRng1, iRng2, tDNewK, tDGet, tDGet2, sDPut, tDIn, tDNotIn, DGet_dk, DPut_dk, IsD_dk, tyV_list, isLst_lst, isDk_dk, dkOf_dk, atI_0, atI_1, atI_2, atI_3, ixN_30, ixN_31, ixN_32, List.map, List.replicate, List.length_cons, List.length_nil, List.nil_append, List.cons_append, List.append_nil, Nat.reduceSub, Nat.reduceAdd, List.getElem?_cons_zero, List.getElem?_cons_succ, List.set_cons_zero, List.set_cons_succ, List.cons.injEq, Option.some.injEq, V.int.injEq, V.str.injEq, V.bl.injEq, V.ref.injEq, HO.ins.injEq, HO.lst.injEq, HO.tup.injEq, HO.dK.injEq, exists_eq_left, exists_eq_left', exists_eq_right, exists_eq_right', exists_and_left, exists_and_right, true_and, and_true, and_self, if_true, if_false, Bool.false_eq_true, Bool.true_eq_false, eq_self, reduceCtorEq, false_and, and_false, upd_same, upd_upd, and_assoc, Int.reduceToNat, Int.reducePow, Int.reduceMul, Int.reduceAdd, Int.reduceNeg, mIsi, mIsi2, kdV_non, kdV_bl, kdV_int, kdV_str, kdV_ref, kdO_lst, kdO_tup, kdO_dK, V.ty.injEq, mAll, mAny, kit_NoneType_bool, kit_NoneType_int, kit_NoneType_str, kit_NoneType_list, kit_NoneType_tuple, kit_NoneType_dict, kit_bool_bool, kit_bool_int, kit_bool_str, kit_bool_list, kit_bool_tuple, kit_bool_dict, kit_int_bool, kit_int_int, kit_int_str, kit_int_list, kit_int_tuple, kit_int_dict, kit_str_bool, kit_str_int, kit_str_str, kit_str_list, kit_str_tuple, kit_str_dict, kit_list_bool, kit_list_int, kit_list_str, kit_list_list, kit_list_tuple, kit_list_dict, kit_tuple_bool, kit_tuple_int, kit_tuple_str, kit_tuple_list, kit_tuple_tuple, kit_tuple_dict, kit_dict_bool, kit_dict_int, kit_dict_str, kit_dict_list, kit_dict_tuple, kit_dict_dict, String.reduceEq, String.reduceNe, ne_eq, not_false_eq_true, not_true_eq_false, decide_false, decide_true, Bool.not_false, Bool.not_true, Bool.or_false, Bool.false_or, Bool.or_true, Bool.true_or, gTupH, wipe, tYes, exists_eq', exists_eq, exists_const, tFor_eq, tLc_eq, tCallX, tMethX, tRaiseOw, tMkOw, tFldOw, mIxA, mLenA, rInO, rNotInO, mLenO, rSetD, tM1, false_or, or_false, tInT, inV_nil, inV_str, flatV_str, flatV_int, flatV_non, mIntB, List.all_cons, List.all_nil, Bool.and_true, Bool.true_and, Bool.and_self, tDisp, tPairs, exk_nil, exk_str, leS0, leS1, leS2, leS3, leS4, leS5, leS6, leS7, leS8, leS9, leS10, leS11, leS12, Nat.reduceLeDiff, mBoolB, rEqNil, hd2, hq2, ht2, upd_ne hne.symm, nl_number, nl_mark, nl_queue, nl_begun, nl_cause, np_mark, np_queue, np_begun, np_cause, nl_len, five, ofS_eq]
    obtain ⟨t, q, eq⟩ : ∃ t q, S.q = t :: q := by
      cases e : S.q with
      | nil => exact absurd e (hG.hd (rf_body hf))
      | cons t q => exact ⟨t, q, rfl⟩
    rw [eq] at k hq2 ⊢
    simp only [tSeq, tAsg, tRet, tRetN, tIfS, tDrop, tNext, tBreak, tCont, tVar, tC, tOp, tUn, tB, tTest, tAnd, tOr, tNot, tAndV, tOrV, tNotV, tIf, tNil, tCons, tTup, tLst, tCB, tCallR, tMethR, tPropR, StX.tMakeR, tFld, sFld, sFldAug, tPar, tPar3, gName, gNil, gCons, gTup, gSub, rI, rI0, rU, rEq, rNe, mIxL, mIxT, mLenL, mLenT, mLenS, mLenD, mLenK, mList, mTupL, mInt, mAbs, mMax, mMin, mStr, mAddS, mIsN, mNotN, rIxS, rIxL, rSetL, rAppend, rExtendT, rPopAt, rCat, rIn, tBM, tBM0, tChain, tNever, scal, L2.start, cxK, iRng1, iRng2, tDNewK, tDGet, tDGet2, sDPut, tDIn, tDNotIn, DGet_dk, DPut_dk, IsD_dk, tyV_list, isLst_lst, isDk_dk, dkOf_dk, atI_0, atI_1, atI_2, atI_3, ixN_30, ixN_31, ixN_32, List.map, List.replicate, List.length_cons, List.length_nil, List.nil_append, List.cons_append, List.append_nil, Nat.reduceSub, Nat.reduceAdd, List.getElem?_cons_zero, List.getElem?_cons_succ, List.set_cons_zero, List.set_cons_succ, List.cons.injEq, Option.some.injEq, V.int.injEq, V.str.injEq, V.bl.injEq, V.ref.injEq, HO.ins.injEq, HO.lst.injEq, HO.tup.injEq, HO.dK.injEq, exists_eq_left, exists_eq_left', exists_eq_right, exists_eq_right', exists_and_left, exists_and_right, true_and, and_true, and_self, if_true, if_false, Bool.false_eq_true, Bool.true_eq_false, eq_self, reduceCtorEq, false_and, and_false, upd_same, upd_upd, and_assoc, Int.reduceToNat, Int.reducePow, Int.reduceMul, Int.reduceAdd, Int.reduceNeg, mIsi, mIsi2, kdV_non, kdV_bl, kdV_int, kdV_str, kdV_ref, kdO_lst, kdO_tup, kdO_dK, V.ty.injEq, mAll, mAny, kit_NoneType_bool, kit_NoneType_int, kit_NoneType_str, kit_NoneType_list, kit_NoneType_tuple, kit_NoneType_dict, kit_bool_bool, kit_bool_int, kit_bool_str, kit_bool_list, kit_bool_tuple, kit_bool_dict, kit_int_bool, kit_int_int, kit_int_str, kit_int_list, kit_int_tuple, kit_int_dict, kit_str_bool, kit_str_int, kit_str_str, kit_str_list, kit_str_tuple, kit_str_dict, kit_list_bool, kit_list_int, kit_list_str, kit_list_list, kit_list_tuple, kit_list_dict, kit_tuple_bool, kit_tuple_int, kit_tuple_str, kit_tuple_list, kit_tuple_tuple, kit_tuple_dict, kit_dict_bool, kit_dict_int, kit_dict_str, kit_dict_list, kit_dict_tuple, kit_dict_dict, String.reduceEq, String.reduceNe, ne_eq, not_false_eq_true, not_true_eq_false, decide_false, decide_true, Bool.not_false, Bool.not_true, Bool.or_false, Bool.false_or, Bool.or_true, Bool.true_or, gTupH, wipe, tYes, exists_eq', exists_eq, exists_const, tFor_eq, tLc_eq, tCallX, tMethX, tRaiseOw, tMkOw, tFldOw, mIxA, mLenA, rInO, rNotInO, mLenO, rSetD, tM1, false_or, or_false, tInT, inV_nil, inV_str, flatV_str, flatV_int, flatV_non, mIntB, List.all_cons, List.all_nil, Bool.and_true, Bool.true_and, Bool.and_self, tDisp, tPairs, exk_nil, exk_str, leS0, leS1, leS2, leS3, leS4, leS5, leS6, leS7, leS8, leS9, leS10, leS11, leS12, Nat.reduceLeDiff, mBoolB, rEqNil, hd2, hq2, upd_ne hne.symm, tSl, tPart, tNoPart, mSlL, nl_number, nl_mark, nl_queue, nl_begun, nl_cause, np_mark, np_queue, np_begun, np_cause, nl_len, five, ofS_eq]
    intro p hp
    have ep : p ≠ d := fun e => by rw [e, upd_same] at hp; cases hp
    have hp2 : H2 p = none := by rw [upd_ne ep] at hp; exact hp
    have el : lq ≠ p := ne_of_none hq2 hp2
    simp only [tSeq, tAsg, tRet, tRetN, tIfS, tDrop, tNext, tBreak, tCont, tVar, tC, tOp, tUn, tB, tTest, tAnd, tOr, tNot, tAndV, tOrV, tNotV, tIf, tNil, tCons, tTup, tLst, tCB, tCallR, tMethR, tPropR, StX.tMakeR, tFld, sFld, sFldAug, tPar, tPar3, gName, gNil, gCons, gTup, gSub, rI, rI0, rU, rEq, rNe, mIxL, mIxT, mLenL, mLenT, mLenS, mLenD, mLenK, mList, mTupL, mInt, mAbs, mMax, mMin, mStr, mAddS, mIsN, mNotN, rIxS, rIxL, rSetL, rAppend, rExtendT, rPopAt, rCat, rIn, tBM, tBM0, tChain, tNever, scal, L2.start, cxK, iRng1, iRng2, tDNewK, tDGet, tDGet2, sDPut, tDIn, tDNotIn, DGet_dk, DPut_dk, IsD_dk, tyV_list, isLst_lst, isDk_dk, dkOf_dk, atI_0, atI_1, atI_2, atI_3, ixN_30, ixN_31, ixN_32, List.map, List.replicate, List.length_cons, List.length_nil, List.nil_append, List.cons_append, List.append_nil, Nat.reduceSub, Nat.reduceAdd, List.getElem?_cons_zero, List.getElem?_cons_succ, List.set_cons_zero, List.set_cons_succ, List.cons.injEq, Option.some.injEq, V.int.injEq, V.str.injEq, V.bl.injEq, V.ref.injEq, HO.ins.injEq, HO.lst.injEq, HO.tup.injEq, HO.dK.injEq, exists_eq_left, exists_eq_left', exists_eq_right, exists_eq_right', exists_and_left, exists_and_right, true_and, and_true, and_self, if_true, if_false, Bool.false_eq_true, Bool.true_eq_false, eq_self, reduceCtorEq, false_and, and_false, upd_same, upd_upd, and_assoc, Int.reduceToNat, Int.reducePow, Int.reduceMul, Int.reduceAdd, Int.reduceNeg, mIsi, mIsi2, kdV_non, kdV_bl, kdV_int, kdV_str, kdV_ref, kdO_lst, kdO_tup, kdO_dK, V.ty.injEq, mAll, mAny, kit_NoneType_bool, kit_NoneType_int, kit_NoneType_str, kit_NoneType_list, kit_NoneType_tuple, kit_NoneType_dict, kit_bool_bool, kit_bool_int, kit_bool_str, kit_bool_list, kit_bool_tuple, kit_bool_dict, kit_int_bool, kit_int_int, kit_int_str, kit_int_list, kit_int_tuple, kit_int_dict, kit_str_bool, kit_str_int, kit_str_str, kit_str_list, kit_str_tuple, kit_str_dict, kit_list_bool, kit_list_int, kit_list_str, kit_list_list, kit_list_tuple, kit_list_dict, kit_tuple_bool, kit_tuple_int, kit_tuple_str, kit_tuple_list, kit_tuple_tuple, kit_tuple_dict, kit_dict_bool, kit_dict_int, kit_dict_str, kit_dict_list, kit_dict_tuple, kit_dict_dict, String.reduceEq, String.reduceNe, ne_eq, not_false_eq_true, not_true_eq_false, decide_false, decide_true, Bool.not_false, Bool.not_true, Bool.or_false, Bool.false_or, Bool.or_true, Bool.true_or, gTupH, wipe, tYes, exists_eq', exists_eq, exists_const, tFor_eq, tLc_eq, tCallX, tMethX, tRaiseOw, tMkOw, tFldOw, mIxA, mLenA, rInO, rNotInO, mLenO, rSetD, tM1, false_or, or_false, tInT, inV_nil, inV_str, flatV_str, flatV_int, flatV_non, mIntB, List.all_cons, List.all_nil, Bool.and_true, Bool.true_and, Bool.and_self, tDisp, tPairs, exk_nil, exk_str, leS0, leS1, leS2, leS3, leS4, leS5, leS6, leS7, leS8, leS9, leS10, leS11, leS12, Nat.reduceLeDiff, mBoolB, rEqNil, upd_ne ep.symm, upd_ne el, upd_ne hne.symm, hq2, nl_number, nl_mark, nl_queue, nl_begun, nl_cause, np_mark, np_queue, np_begun, np_cause, nl_len, five, ofS_eq]
    exact dueFin k ⟨upd_same, by rw [upd_ne ep, upd_same, cut1]; rfl, ep.symm, fun z => hgg (out_after hG.mm hw (by decide) z)⟩ (fun _ _ => .str _) ((s2k.upd.new hp).upd) (.inr (none_of s02 hp2))

end K31

set_option Elab.async false
set_option linter.all false
set_option maxRecDepth 100000
set_option maxHeartbeats 4000000
namespace K31
open PySem PySem.Spec PyProof.Rows L2 My
theorem rf_n {w m : Str} {n n' : Int} (h1 : ¬ (w = "read" ∨ w = "head")) : rowFault w m n = rowFault w m n' := by
  unfold rowFault
  rw [if_neg (fun z => h1 z.1 : ¬ ((w = "read" ∨ w = "head") ∧ n < 1)), if_neg (fun z => h1 z.1 : ¬ ((w = "read" ∨ w = "head") ∧ n' < 1))]
def sp_l_ask (K : PySem.W.Frag) : Sp := fun vs H Q E => ∃ (a l tl : Addr) (S : LS) (ts : List Str), vs = [.ref a, .ref tl] ∧ LineAt K H a l S ∧ H tl = some (.lst (ts.map V.str)) ∧ ts.length ≤ 3 ∧ S.q.length + ts.length < 100000 ∧
  (rowFault "ask" S.m 0 = .non → ∀ H', LineAt K H' a l { S with q := S.q ++ ts } → Kp2 a l H H' → Q .non H') ∧ Rz K H E S (rowFault "ask" S.m 0)
theorem R_l_ask {w : World} {K : PySem.W.Frag} {mg : Str → Option Value} {base : Heap} (T : Tx K mg) : FnR Pg w K mg base (L2.CX Pg w) 11 (He.ga K "_law_ask") (sp_l_ask K) := by
  obtain ⟨fd, F⟩ := T.d_l_ask
  refine My.FunD.RX F sc_l_ask (fun vs H Q E h => by obtain ⟨a, l, tl, S, ts, rfl, hL, ht, h3, hz, k, r⟩ := h; rfl) (fun _ _ _ _ _ _ us hl => match us, hl with | [_, _], _ => rfl) (fun cdv A outer s H vs Q E hr h => ?_)
  obtain ⟨a, l, tl, S, ts, rfl, hL, ht, h3, hz, k, r⟩ := h
  refine ⟨_, (pss_one (ps_if (pt_cmpR op_eq (pe_callB lenL (by rfl) T.n_len (by decide +kernel) (pa_cons (pv 1) pa_nil)) pe_int (nomark _)) (pss_one (ps_expr (pe_methX0 (pv 0) T.c_Line T.m_Line_ask (R_Line_ask T) (hr.mono (by decide)) (passAt (takes_of rfl rfl rfl rfl))))) (pss_one (ps_if (pt_cmpR op_eq (pe_callB lenL (by rfl) T.n_len (by decide +kernel) (pa_cons (pv 1) pa_nil)) pe_int (nomark _)) (pss_one (ps_expr (pe_methX (pv 0) T.c_Line T.m_Line_ask (R_Line_ask T) (hr.mono (by decide)) (passAt (takes_of rfl rfl rfl rfl)) (pa_cons (pe_ix ixL (pv 1) pe_int (fun _ _ => rfl)) pa_nil)))) (pss_one (ps_if (pt_cmpR op_eq (pe_callB lenL (by rfl) T.n_len (by decide +kernel) (pa_cons (pv 1) pa_nil)) pe_int (nomark _)) (pss_one (ps_expr (pe_methX (pv 0) T.c_Line T.m_Line_ask (R_Line_ask T) (hr.mono (by decide)) (passAt (takes_of rfl rfl rfl rfl)) (pa_cons (pe_ix ixL (pv 1) pe_int (fun _ _ => rfl)) (pa_cons (pe_ix ixL (pv 1) pe_int (fun _ _ => rfl)) pa_nil))))) (pss_one (ps_expr (pe_methX (pv 0) T.c_Line T.m_Line_ask (R_Line_ask T) (hr.mono (by decide)) (passAt (takes_of rfl rfl rfl rfl)) (pa_cons (pe_ix ixL (pv 1) pe_int (fun _ _ => rfl)) (pa_cons (pe_ix ixL (pv 1) pe_int (fun _ _ => rfl)) (pa_cons (pe_ix ixL (pv 1) pe_int (fun _ _ => rfl)) pa_nil)))))))))))), ?_⟩
  obtain ⟨dx, ha⟩ := hL.ob
  match ts, h3 with
  | [], _ =>
    simp only [tSeq, tAsg, tRet, tRetN, tIfS, tDrop, tNext, tBreak, tCont, tVar, tC, tOp, tUn, tB, tTest, tAnd, tOr, tNot, tAndV, tOrV, tNotV, tIf, tNil, tCons, tTup, tLst, tCB, tCallR, tMethR, tPropR, StX.tMakeR, tFld, sFld, sFldAug, tPar, tPar3, gName, gNil, gCons, gTup, gSub, rI, rI0, rU, rEq, rNe, mIxL, mIxT, mLenL, mLenT, mLenS, mLenD, mLenK, mList, mTupL, mInt, mAbs, mMax, mMin, mStr, mAddS, mIsN, mNotN, rIxS, rIxL, rSetL, rAppend, rExtendT, rPopAt, rCat, rIn, tBM, tBM0, tChain, tNever, scal, L2.start, cxK, iRng1, iRng2, tDNewK, tDGet, tDGet2, sDPut, tDIn, tDNotIn, DGet_dk, DPut_dk, IsD_dk, tyV_list, isLst_lst, isDk_dk, dkOf_dk, atI_0, atI_1, atI_2, atI_3, ixN_30, ixN_31, ixN_32, List.map, List.replicate, List.length_cons, List.length_nil, List.nil_append, List.cons_append, List.append_nil, Nat.reduceSub, Nat.reduceAdd, List.getElem?_cons_zero, List.getElem?_cons_succ, List.set_cons_zero, List.set_cons_succ, List.cons.injEq, Option.some.injEq, V.int.injEq, V.str.injEq, V.bl.injEq, V.ref.injEq, HO.ins.injEq, HO.lst.injEq, HO.tup.injEq, HO.dK.injEq, exists_eq_left, exists_eq_left', exists_eq_right, exists_eq_right', exists_and_left, exists_and_right, true_and, and_true, and_self, if_true, if_false, Bool.false_eq_true, Bool.true_eq_false, eq_self, reduceCtorEq, false_and, and_false, upd_same, upd_upd, and_assoc, Int.reduceToNat, Int.reducePow, Int.reduceMul, Int.reduceAdd, Int.reduceNeg, mIsi, mIsi2, kdV_non, kdV_bl, kdV_int, kdV_str, kdV_ref, kdO_lst, kdO_tup, kdO_dK, V.ty.injEq, mAll, mAny, kit_NoneType_bool, kit_NoneType_int, kit_NoneType_str, kit_NoneType_list, kit_NoneType_tuple, kit_NoneType_dict, kit_bool_bool, kit_bool_int, kit_bool_str, kit_bool_list, kit_bool_tuple, kit_bool_dict, kit_int_bool, kit_int_int, kit_int_str, kit_int_list, kit_int_tuple, kit_int_dict, kit_str_bool, kit_str_int, kit_str_str, kit_str_list, kit_str_tuple, kit_str_dict, kit_list_bool, kit_list_int, kit_list_str, kit_list_list, kit_list_tuple, kit_list_dict, kit_tuple_bool, kit_tuple_int, kit_tuple_str, kit_tuple_list, kit_tuple_tuple, kit_tuple_dict, kit_dict_bool, kit_dict_int, kit_dict_str, kit_dict_list, kit_dict_tuple, kit_dict_dict, String.reduceEq, String.reduceNe, ne_eq, not_false_eq_true, not_true_eq_false, decide_false, decide_true, Bool.not_false, Bool.not_true, Bool.or_false, Bool.false_or, Bool.or_true, Bool.true_or, gTupH, wipe, tYes, exists_eq', exists_eq, exists_const, tFor_eq, tLc_eq, tCallX, tMethX, tRaiseOw, tMkOw, tFldOw, mIxA, mLenA, rInO, rNotInO, mLenO, rSetD, tM1, false_or, or_false, tInT, inV_nil, inV_str, flatV_str, flatV_int, flatV_non, mIntB, List.all_cons, List.all_nil, Bool.and_true, Bool.true_and, Bool.and_self, tDisp, tPairs, exk_nil, exk_str, leS0, leS1, leS2, leS3, leS4, leS5, leS6, leS7, leS8, leS9, leS10, leS11, leS12, Nat.reduceLeDiff, mBoolB, rEqNil, ht, ha, ln_ask, Int.reduceEq, Int.cast_ofNat_Int]
    exact ⟨a, l, S, [], rfl, hL, Nat.le_of_lt hz, k, r⟩
  | [t1], _ =>
    simp only [tSeq, tAsg, tRet, tRetN, tIfS, tDrop, tNext, tBreak, tCont, tVar, tC, tOp, tUn, tB, tTest, tAnd, tOr, tNot, tAndV, tOrV, tNotV, tIf, tNil, tCons, tTup, tLst, tCB, tCallR, tMethR, tPropR, StX.tMakeR, tFld, sFld, sFldAug, tPar, tPar3, gName, gNil, gCons, gTup, gSub, rI, rI0, rU, rEq, rNe, mIxL, mIxT, mLenL, mLenT, mLenS, mLenD, mLenK, mList, mTupL, mInt, mAbs, mMax, mMin, mStr, mAddS, mIsN, mNotN, rIxS, rIxL, rSetL, rAppend, rExtendT, rPopAt, rCat, rIn, tBM, tBM0, tChain, tNever, scal, L2.start, cxK, iRng1, iRng2, tDNewK, tDGet, tDGet2, sDPut, tDIn, tDNotIn, DGet_dk, DPut_dk, IsD_dk, tyV_list, isLst_lst, isDk_dk, dkOf_dk, atI_0, atI_1, atI_2, atI_3, ixN_30, ixN_31, ixN_32, List.map, List.replicate, List.length_cons, List.length_nil, List.nil_append, List.cons_append, List.append_nil, Nat.reduceSub, Nat.reduceAdd, List.getElem?_cons_zero, List.getElem?_cons_succ, List.set_cons_zero, List.set_cons_succ, List.cons.injEq, Option.some.injEq, V.int.injEq, V.str.injEq, V.bl.injEq, V.ref.injEq, HO.ins.injEq, HO.lst.injEq, HO.tup.injEq, HO.dK.injEq, exists_eq_left, exists_eq_left', exists_eq_right, exists_eq_right', exists_and_left, exists_and_right, true_and, and_true, and_self, if_true, if_false, Bool.false_eq_true, Bool.true_eq_false, eq_self, reduceCtorEq, false_and, and_false, upd_same, upd_upd, and_assoc, Int.reduceToNat, Int.reducePow, Int.reduceMul, Int.reduceAdd, Int.reduceNeg, mIsi, mIsi2, kdV_non, kdV_bl, kdV_int, kdV_str, kdV_ref, kdO_lst, kdO_tup, kdO_dK, V.ty.injEq, mAll, mAny, kit_NoneType_bool, kit_NoneType_int, kit_NoneType_str, kit_NoneType_list, kit_NoneType_tuple, kit_NoneType_dict, kit_bool_bool, kit_bool_int, kit_bool_str, kit_bool_list, kit_bool_tuple, kit_bool_dict, kit_int_bool, kit_int_int, kit_int_str, kit_int_list, kit_int_tuple, kit_int_dict, kit_str_bool, kit_str_int, kit_str_str, kit_str_list, kit_str_tuple, kit_str_dict, kit_list_bool, kit_list_int, kit_list_str, kit_list_list, kit_list_tuple, kit_list_dict, kit_tuple_bool, kit_tuple_int, kit_tuple_str, kit_tuple_list, kit_tuple_tuple, kit_tuple_dict, kit_dict_bool, kit_dict_int, kit_dict_str, kit_dict_list, kit_dict_tuple, kit_dict_dict, String.reduceEq, String.reduceNe, ne_eq, not_false_eq_true, not_true_eq_false, decide_false, decide_true, Bool.not_false, Bool.not_true, Bool.or_false, Bool.false_or, Bool.or_true, Bool.true_or, gTupH, wipe, tYes, exists_eq', exists_eq, exists_const, tFor_eq, tLc_eq, tCallX, tMethX, tRaiseOw, tMkOw, tFldOw, mIxA, mLenA, rInO, rNotInO, mLenO, rSetD, tM1, false_or, or_false, tInT, inV_nil, inV_str, flatV_str, flatV_int, flatV_non, mIntB, List.all_cons, List.all_nil, Bool.and_true, Bool.true_and, Bool.and_self, tDisp, tPairs, exk_nil, exk_str, leS0, leS1, leS2, leS3, leS4, leS5, leS6, leS7, leS8, leS9, leS10, leS11, leS12, Nat.reduceLeDiff, mBoolB, rEqNil, ht, ha, ln_ask, Int.reduceEq]
    exact ⟨a, l, S, [t1], rfl, hL, Nat.le_of_lt hz, k, r⟩
  | [t1, t2], _ =>
    simp only [tSeq, tAsg, tRet, tRetN, tIfS, tDrop, tNext, tBreak, tCont, tVar, tC, tOp, tUn, tB, tTest, tAnd, tOr, tNot, tAndV, tOrV, tNotV, tIf, tNil, tCons, tTup, tLst, tCB, tCallR, tMethR, tPropR, StX.tMakeR, tFld, sFld, sFldAug, tPar, tPar3, gName, gNil, gCons, gTup, gSub, rI, rI0, rU, rEq, rNe, mIxL, mIxT, mLenL, mLenT, mLenS, mLenD, mLenK, mList, mTupL, mInt, mAbs, mMax, mMin, mStr, mAddS, mIsN, mNotN, rIxS, rIxL, rSetL, rAppend, rExtendT, rPopAt, rCat, rIn, tBM, tBM0, tChain, tNever, scal, L2.start, cxK, iRng1, iRng2, tDNewK, tDGet, tDGet2, sDPut, tDIn, tDNotIn, DGet_dk, DPut_dk, IsD_dk, tyV_list, isLst_lst, isDk_dk, dkOf_dk, atI_0, atI_1, atI_2, atI_3, ixN_30, ixN_31, ixN_32, List.map, List.replicate, List.length_cons, List.length_nil, List.nil_append, List.cons_append, List.append_nil, Nat.reduceSub, Nat.reduceAdd, List.getElem?_cons_zero, List.getElem?_cons_succ, List.set_cons_zero, List.set_cons_succ, List.cons.injEq, Option.some.injEq, V.int.injEq, V.str.injEq, V.bl.injEq, V.ref.injEq, HO.ins.injEq, HO.lst.injEq, HO.tup.injEq, HO.dK.injEq, exists_eq_left, exists_eq_left', exists_eq_right, exists_eq_right', exists_and_left, exists_and_right, true_and, and_true, and_self, if_true, if_false, Bool.false_eq_true, Bool.true_eq_false, eq_self, reduceCtorEq, false_and, and_false, upd_same, upd_upd, and_assoc, Int.reduceToNat, Int.reducePow, Int.reduceMul, Int.reduceAdd, Int.reduceNeg, mIsi, mIsi2, kdV_non, kdV_bl, kdV_int, kdV_str, kdV_ref, kdO_lst, kdO_tup, kdO_dK, V.ty.injEq, mAll, mAny, kit_NoneType_bool, kit_NoneType_int, kit_NoneType_str, kit_NoneType_list, kit_NoneType_tuple, kit_NoneType_dict, kit_bool_bool, kit_bool_int, kit_bool_str, kit_bool_list, kit_bool_tuple, kit_bool_dict, kit_int_bool, kit_int_int, kit_int_str, kit_int_list, kit_int_tuple, kit_int_dict, kit_str_bool, kit_str_int, kit_str_str, kit_str_list, kit_str_tuple, kit_str_dict, kit_list_bool, kit_list_int, kit_list_str, kit_list_list, kit_list_tuple, kit_list_dict, kit_tuple_bool, kit_tuple_int, kit_tuple_str, kit_tuple_list, kit_tuple_tuple, kit_tuple_dict, kit_dict_bool, kit_dict_int, kit_dict_str, kit_dict_list, kit_dict_tuple, kit_dict_dict, String.reduceEq, String.reduceNe, ne_eq, not_false_eq_true, not_true_eq_false, decide_false, decide_true, Bool.not_false, Bool.not_true, Bool.or_false, Bool.false_or, Bool.or_true, Bool.true_or, gTupH, wipe, tYes, exists_eq', exists_eq, exists_const, tFor_eq, tLc_eq, tCallX, tMethX, tRaiseOw, tMkOw, tFldOw, mIxA, mLenA, rInO, rNotInO, mLenO, rSetD, tM1, false_or, or_false, tInT, inV_nil, inV_str, flatV_str, flatV_int, flatV_non, mIntB, List.all_cons, List.all_nil, Bool.and_true, Bool.true_and, Bool.and_self, tDisp, tPairs, exk_nil, exk_str, leS0, leS1, leS2, leS3, leS4, leS5, leS6, leS7, leS8, leS9, leS10, leS11, leS12, Nat.reduceLeDiff, mBoolB, rEqNil, ht, ha, ln_ask, Int.reduceEq]
    exact ⟨a, l, S, [t1, t2], rfl, hL, Nat.le_of_lt hz, k, r⟩
  | [t1, t2, t3], _ =>
    simp only [tSeq, tAsg, tRet, tRetN, tIfS, tDrop, tNext, tBreak, tCont, tVar, tC, tOp, tUn, tB, tTest, tAnd, tOr, tNot, tAndV, tOrV, tNotV, tIf, tNil, tCons, tTup, tLst, tCB, tCallR, tMethR, tPropR, StX.tMakeR, tFld, sFld, sFldAug, tPar, tPar3, gName, gNil, gCons, gTup, gSub, rI, rI0, rU, rEq, rNe, mIxL, mIxT, mLenL, mLenT, mLenS, mLenD, mLenK, mList, mTupL, mInt, mAbs, mMax, mMin, mStr, mAddS, mIsN, mNotN, rIxS, rIxL, rSetL, rAppend, rExtendT, rPopAt, rCat, rIn, tBM, tBM0, tChain, tNever, scal, L2.start, cxK, iRng1, iRng2, tDNewK, tDGet, tDGet2, sDPut, tDIn, tDNotIn, DGet_dk, DPut_dk, IsD_dk, tyV_list, isLst_lst, isDk_dk, dkOf_dk, atI_0, atI_1, atI_2, atI_3, ixN_30, ixN_31, ixN_32, List.map, List.replicate, List.length_cons, List.length_nil, List.nil_append, List.cons_append, List.append_nil, Nat.reduceSub, Nat.reduceAdd, List.getElem?_cons_zero, List.getElem?_cons_succ, List.set_cons_zero, List.set_cons_succ, List.cons.injEq, Option.some.injEq, V.int.injEq, V.str.injEq, V.bl.injEq, V.ref.injEq, HO.ins.injEq, HO.lst.injEq, HO.tup.injEq, HO.dK.injEq, exists_eq_left, exists_eq_left', exists_eq_right, exists_eq_right', exists_and_left, exists_and_right, true_and, and_true, and_self, if_true, if_false, Bool.false_eq_true, Bool.true_eq_false, eq_self, reduceCtorEq, false_and, and_false, upd_same, upd_upd, and_assoc, Int.reduceToNat, Int.reducePow, Int.reduceMul, Int.reduceAdd, Int.reduceNeg, mIsi, mIsi2, kdV_non, kdV_bl, kdV_int, kdV_str, kdV_ref, kdO_lst, kdO_tup, kdO_dK, V.ty.injEq, mAll, mAny, kit_NoneType_bool, kit_NoneType_int, kit_NoneType_str, kit_NoneType_list, kit_NoneType_tuple, kit_NoneType_dict, kit_bool_bool, kit_bool_int, kit_bool_str, kit_bool_list, kit_bool_tuple, kit_bool_dict, kit_int_bool, kit_int_int, kit_int_str, kit_int_list, kit_int_tuple, kit_int_dict, kit_str_bool, kit_str_int, kit_str_str, kit_str_list, kit_str_tuple, kit_str_dict, kit_list_bool, kit_list_int, kit_list_str, kit_list_list, kit_list_tuple, kit_list_dict, kit_tuple_bool, kit_tuple_int, kit_tuple_str, kit_tuple_list, kit_tuple_tuple, kit_tuple_dict, kit_dict_bool, kit_dict_int, kit_dict_str, kit_dict_list, kit_dict_tuple, kit_dict_dict, String.reduceEq, String.reduceNe, ne_eq, not_false_eq_true, not_true_eq_false, decide_false, decide_true, Bool.not_false, Bool.not_true, Bool.or_false, Bool.false_or, Bool.or_true, Bool.true_or, gTupH, wipe, tYes, exists_eq', exists_eq, exists_const, tFor_eq, tLc_eq, tCallX, tMethX, tRaiseOw, tMkOw, tFldOw, mIxA, mLenA, rInO, rNotInO, mLenO, rSetD, tM1, false_or, or_false, tInT, inV_nil, inV_str, flatV_str, flatV_int, flatV_non, mIntB, List.all_cons, List.all_nil, Bool.and_true, Bool.true_and, Bool.and_self, tDisp, tPairs, exk_nil, exk_str, leS0, leS1, leS2, leS3, leS4, leS5, leS6, leS7, leS8, leS9, leS10, leS11, leS12, Nat.reduceLeDiff, mBoolB, rEqNil, ht, ha, ln_ask, Int.reduceEq]
    exact ⟨a, l, S, [t1, t2, t3], rfl, hL, Nat.le_of_lt hz, k, r⟩
def noF (w : Str) (S : LS) : Prop := w = "drain" ∨ w = "close" ∨ rowFault w S.m (S.q.length : Int) = .non
def valD (w : Str) (S : LS) : PyData := if w = "drain" then .list (S.q.map .str) else if w = "read" ∨ w = "head" ∨ w = "body" then .str (S.q.headD "") else .none
def sp_l_do (K : PySem.W.Frag) : Sp := fun vs H Q E => ∃ (a l tl : Addr) (S : LS) (w : Str) (ts : List Str) (why : V), vs = [.ref a, .str w, .ref tl, why] ∧ LineAt K H a l S ∧ H tl = some (.lst (ts.map V.str)) ∧ W8 w ∧ GoodS S ∧ (w = "ask" → ts.length ≤ 3) ∧ (w = "begin" → ts ≠ []) ∧ S.q.length + ts.length < 100000 ∧
  (noF w S → ∀ H' l' r, LineAt K H' a l' (stepS w ts why S) → Da H' r (valD w S) → Kp2 a l H H' → (l' = l ∨ H l' = none) → Q r H') ∧ (W6 w → Rz K H E S (rowFault w S.m (S.q.length : Int)))
theorem rf_open {w m : Str} {n : Int} (h : rowFault w m n = .non) : ¬ m = "closed" := by
  intro e
  unfold rowFault at h
  rw [if_pos e] at h
  cases h
theorem ma_id {w m : Str} (hw : w = "ask" ∨ w = "read") (h : ¬ m = "closed") : markAfter w m = m := by
  rcases hw with rfl | rfl <;> simp [markAfter, h, ofS_eq]
section
variable {ts : List Str} {why : V} {S : LS}
theorem S_ask (hf : rowFault "ask" S.m (S.q.length : Int) = .non) : stepS "ask" ts why S = { S with q := S.q ++ ts } := by
  rw [(step_ok (by decide) (by decide) hf).1, ma_id (.inl rfl) (rf_open hf)]
  simp [stepQ, ofS_eq]
theorem S_begin {t : Str} (hf : rowFault "begin" S.m (S.q.length : Int) = .non) : stepS "begin" (t :: ts) why S = { S with m := markAfter "begin" S.m, g := t } := by
  rw [(step_ok (by decide) (by decide) hf).1]
  simp [stepQ, ofS_eq]
theorem S_finish (hf : rowFault "finish" S.m (S.q.length : Int) = .non) : stepS "finish" ts why S = { S with m := markAfter "finish" S.m, q := S.q ++ [S.g] } := by
  rw [(step_ok (by decide) (by decide) hf).1]
  simp [stepQ, ofS_eq]
theorem S_read {t : Str} {q : List Str} (e : S.q = t :: q) (hf : rowFault "read" S.m (S.q.length : Int) = .non) : stepS "read" ts why S = { S with q := q } := by
  rw [(step_ok (by decide) (by decide) hf).1, ma_id (.inr rfl) (rf_open hf)]
  simp [stepQ, ofS_eq, e]
theorem S_head (hf : rowFault "head" S.m (S.q.length : Int) = .non) : stepS "head" ts why S = { S with m := markAfter "head" S.m } := by
  rw [(step_ok (by decide) (by decide) hf).1]
  simp [stepQ, ofS_eq]
theorem S_body {t : Str} {q : List Str} (e : S.q = t :: q) (hf : rowFault "body" S.m (S.q.length : Int) = .non) : stepS "body" ts why S = { S with m := markAfter "body" S.m, q := q } := by
  rw [(step_ok (by decide) (by decide) hf).1]
  simp [stepQ, ofS_eq, e]
theorem S_drain : stepS "drain" ts why S = { S with m := markAfter "drain" S.m, q := [] } := by
  unfold stepS; rw [if_neg (by decide), if_pos rfl]
theorem S_close : stepS "close" ts why S = closeS why S := by
  unfold stepS; rw [if_pos rfl]
end
theorem v_hd {w : Str} {S : LS} {t : Str} {q : List Str} (hw : w = "read" ∨ w = "head" ∨ w = "body") (e : S.q = t :: q) : valD w S = .str t := by
  unfold valD
  rw [if_neg (by rcases hw with rfl | rfl | rfl <;> decide), if_pos hw, e]; rfl
theorem Kp2.of {a l : Addr} {H H1 : Hp} (x : Kp a H H1) : Kp2 a l H H1 := fun b o n _ h => x b o n h
theorem R_l_do {w : World} {K : PySem.W.Frag} {mg : Str → Option Value} {base : Heap} (T : Tx K mg) : FnR Pg w K mg base (L2.CX Pg w) 13 (He.ga K "_law_do") (sp_l_do K) := by
  obtain ⟨fd, F⟩ := T.d_l_do
  refine My.FunD.RX F sc_l_do (fun vs H Q E h => by obtain ⟨a, l, tl, S, w', ts, why, rfl, hL, ht, hw, hG, h3, hb, hz, k, r⟩ := h; rfl) (fun _ _ _ _ _ _ us hl => match us, hl with | [_, _, _, _], _ => rfl) (fun cdv A outer s H vs Q E hr h => ?_)
  obtain ⟨a, l, tl, S, w', ts, why, rfl, hL, ht, hw, hG, h3, hb, hz, k, r⟩ := h
  refine ⟨_, (pss_cons (ps_if (pt_cmpR op_eq (pv 1) pe_str (nomark _)) (pss_one (ps_ret (pe_methR0 (pv 0) T.c_Line T.m_Line_drain (R_Line_drain T) (hr.mono (by decide)) pass0))) pss_nil)
      (pss_cons (ps_if (pt_cmpR op_eq (pv 1) pe_str (nomark _)) (pss_one (ps_ret (pe_methX0 (pv 0) T.c_Line T.m_Line_read (R_Line_read T) (hr.mono (by decide)) (passAt (takes_of rfl rfl rfl rfl))))) pss_nil)
      (pss_cons (ps_if (pt_cmpR op_eq (pv 1) pe_str (nomark _)) (pss_one (ps_ret (pe_methX0 (pv 0) T.c_Line T.m_Line_head (R_Line_head T) (hr.mono (by decide)) (passAt (takes_of rfl rfl rfl rfl))))) pss_nil)
      (pss_cons (ps_if (pt_cmpR op_eq (pv 1) pe_str (nomark _)) (pss_one (ps_ret (pe_methX0 (pv 0) T.c_Line T.m_Line_body (R_Line_body T) (hr.mono (by decide)) (passAt (takes_of rfl rfl rfl rfl))))) pss_nil)
      (pss_cons (ps_if (pt_cmpR op_eq (pv 1) pe_str (nomark _)) (pss_one (ps_expr (pe_callX (R_l_ask T) (hr.mono (by decide)) rfl T.g__law_ask T.k__law_ask (passAt (takes_of rfl rfl rfl rfl)) (pa_cons (pv 0) (pa_cons (pv 2) pa_nil))))) (pss_one (ps_if (pt_cmpR op_eq (pv 1) pe_str (nomark _)) (pss_one (ps_expr (pe_methX (pv 0) T.c_Line T.m_Line_begin (R_Line_begin T) (hr.mono (by decide)) (passAt (takes_of rfl rfl rfl rfl)) (pa_cons (pe_ix ixL (pv 2) pe_int (fun _ _ => rfl)) pa_nil)))) (pss_one (ps_if (pt_cmpR op_eq (pv 1) pe_str (nomark _)) (pss_one (ps_expr (pe_methX0 (pv 0) T.c_Line T.m_Line_finish (R_Line_finish T) (hr.mono (by decide)) (passAt (takes_of rfl rfl rfl rfl))))) (pss_one (ps_if (pt_cmpR isN (pv 3) pe_non (nomark _)) (pss_one (ps_expr (pe_methR0 (pv 0) T.c_Line T.m_Line_close (R_Line_close0 T) (hr.mono (by decide)) pass0))) (pss_one (ps_expr (pe_methR (pv 0) T.c_Line T.m_Line_close (R_Line_close1 T) (hr.mono (by decide)) pass0 (pa_cons (pv 3) pa_nil)))))))))))
      (pss_one (ps_ret pe_non))))))), ?_⟩
  obtain ⟨dx, ha⟩ := hL.ob
  rcases hw with rfl | rfl | rfl | rfl | rfl | rfl | rfl | rfl
  · simp only [tSeq, tAsg, tRet, tRetN, tIfS, tDrop, tNext, tBreak, tCont, tVar, tC, tOp, tUn, tB, tTest, tAnd, tOr, tNot, tAndV, tOrV, tNotV, tIf, tNil, tCons, tTup, tLst, tCB, tCallR, tMethR, tPropR, StX.tMakeR, tFld, sFld, sFldAug, tPar, tPar3, gName, gNil, gCons, gTup, gSub, rI, rI0, rU, rEq, rNe, mIxL, mIxT, mLenL, mLenT, mLenS, mLenD, mLenK, mList, mTupL, mInt, mAbs, mMax, mMin, mStr, mAddS, mIsN, mNotN, rIxS, rIxL, rSetL, rAppend, rExtendT, rPopAt, rCat, rIn, tBM, tBM0, tChain, tNever, scal, L2.start, cxK, iRng1, iRng2, tDNewK, tDGet, tDGet2, sDPut, tDIn, tDNotIn, DGet_dk, DPut_dk, IsD_dk, tyV_list, isLst_lst, isDk_dk, dkOf_dk, atI_0, atI_1, atI_2, atI_3, ixN_30, ixN_31, ixN_32, List.map, List.replicate, List.length_cons, List.length_nil, List.nil_append, List.cons_append, List.append_nil, Nat.reduceSub, Nat.reduceAdd, List.getElem?_cons_zero, List.getElem?_cons_succ, List.set_cons_zero, List.set_cons_succ, List.cons.injEq, Option.some.injEq, V.int.injEq, V.str.injEq, V.bl.injEq, V.ref.injEq, HO.ins.injEq, HO.lst.injEq, HO.tup.injEq, HO.dK.injEq, exists_eq_left, exists_eq_left', exists_eq_right, exists_eq_right', exists_and_left, exists_and_right, true_and, and_true, and_self, if_true, if_false, Bool.false_eq_true, Bool.true_eq_false, eq_self, reduceCtorEq, false_and, and_false, upd_same, upd_upd, and_assoc, Int.reduceToNat, Int.reducePow, Int.reduceMul, Int.reduceAdd, Int.reduceNeg, mIsi, mIsi2, kdV_non, kdV_bl, kdV_int, kdV_str, kdV_ref, kdO_lst, kdO_tup, kdO_dK, V.ty.injEq, mAll, mAny, kit_NoneType_bool, kit_NoneType_int, kit_NoneType_str, kit_NoneType_list, kit_NoneType_tuple, kit_NoneType_dict, kit_bool_bool, kit_bool_int, kit_bool_str, kit_bool_list, kit_bool_tuple, kit_bool_dict, kit_int_bool, kit_int_int, kit_int_str, kit_int_list, kit_int_tuple, kit_int_dict, kit_str_bool, kit_str_int, kit_str_str, kit_str_list, kit_str_tuple, kit_str_dict, kit_list_bool, kit_list_int, kit_list_str, kit_list_list, kit_list_tuple, kit_list_dict, kit_tuple_bool, kit_tuple_int, kit_tuple_str, kit_tuple_list, kit_tuple_tuple, kit_tuple_dict, kit_dict_bool, kit_dict_int, kit_dict_str, kit_dict_list, kit_dict_tuple, kit_dict_dict, String.reduceEq, String.reduceNe, ne_eq, not_false_eq_true, not_true_eq_false, decide_false, decide_true, Bool.not_false, Bool.not_true, Bool.or_false, Bool.false_or, Bool.or_true, Bool.true_or, gTupH, wipe, tYes, exists_eq', exists_eq, exists_const, tFor_eq, tLc_eq, tCallX, tMethX, tRaiseOw, tMkOw, tFldOw, mIxA, mLenA, rInO, rNotInO, mLenO, rSetD, tM1, false_or, or_false, tInT, inV_nil, inV_str, flatV_str, flatV_int, flatV_non, mIntB, List.all_cons, List.all_nil, Bool.and_true, Bool.true_and, Bool.and_self, tDisp, tPairs, exk_nil, exk_str, leS0, leS1, leS2, leS3, leS4, leS5, leS6, leS7, leS8, leS9, leS10, leS11, leS12, Nat.reduceLeDiff, mBoolB, rEqNil, ha, ofS_eq]
    have r := r (by simp [W6])
    have e := rf_n (w := "ask") (m := S.m) (n := (S.q.length : Int)) (n' := 0) (by decide)
    rw [e] at r
    refine ⟨a, l, tl, S, ts, rfl, hL, ht, h3 rfl, hz, fun hf H' h1 h2 => ?_, r⟩
    have hf' := e.trans hf
    exact k (.inr (.inr hf')) H' l _ (by rw [S_ask hf']; exact h1) .non h2 (.inl rfl)
  · simp only [tSeq, tAsg, tRet, tRetN, tIfS, tDrop, tNext, tBreak, tCont, tVar, tC, tOp, tUn, tB, tTest, tAnd, tOr, tNot, tAndV, tOrV, tNotV, tIf, tNil, tCons, tTup, tLst, tCB, tCallR, tMethR, tPropR, StX.tMakeR, tFld, sFld, sFldAug, tPar, tPar3, gName, gNil, gCons, gTup, gSub, rI, rI0, rU, rEq, rNe, mIxL, mIxT, mLenL, mLenT, mLenS, mLenD, mLenK, mList, mTupL, mInt, mAbs, mMax, mMin, mStr, mAddS, mIsN, mNotN, rIxS, rIxL, rSetL, rAppend, rExtendT, rPopAt, rCat, rIn, tBM, tBM0, tChain, tNever, scal, L2.start, cxK, iRng1, iRng2, tDNewK, tDGet, tDGet2, sDPut, tDIn, tDNotIn, DGet_dk, DPut_dk, IsD_dk, tyV_list, isLst_lst, isDk_dk, dkOf_dk, atI_0, atI_1, atI_2, atI_3, ixN_30, ixN_31, ixN_32, List.map, List.replicate, List.length_cons, List.length_nil, List.nil_append, List.cons_append, List.append_nil, Nat.reduceSub, Nat.reduceAdd, List.getElem?_cons_zero, List.getElem?_cons_succ, List.set_cons_zero, List.set_cons_succ, List.cons.injEq, Option.some.injEq, V.int.injEq, V.str.injEq, V.bl.injEq, V.ref.injEq, HO.ins.injEq, HO.lst.injEq, HO.tup.injEq, HO.dK.injEq, exists_eq_left, exists_eq_left', exists_eq_right, exists_eq_right', exists_and_left, exists_and_right, true_and, and_true, and_self, if_true, if_false, Bool.false_eq_true, Bool.true_eq_false, eq_self, reduceCtorEq, false_and, and_false, upd_same, upd_upd, and_assoc, Int.reduceToNat, Int.reducePow, Int.reduceMul, Int.reduceAdd, Int.reduceNeg, mIsi, mIsi2, kdV_non, kdV_bl, kdV_int, kdV_str, kdV_ref, kdO_lst, kdO_tup, kdO_dK, V.ty.injEq, mAll, mAny, kit_NoneType_bool, kit_NoneType_int, kit_NoneType_str, kit_NoneType_list, kit_NoneType_tuple, kit_NoneType_dict, kit_bool_bool, kit_bool_int, kit_bool_str, kit_bool_list, kit_bool_tuple, kit_bool_dict, kit_int_bool, kit_int_int, kit_int_str, kit_int_list, kit_int_tuple, kit_int_dict, kit_str_bool, kit_str_int, kit_str_str, kit_str_list, kit_str_tuple, kit_str_dict, kit_list_bool, kit_list_int, kit_list_str, kit_list_list, kit_list_tuple, kit_list_dict, kit_tuple_bool, kit_tuple_int, kit_tuple_str, kit_tuple_list, kit_tuple_tuple, kit_tuple_dict, kit_dict_bool, kit_dict_int, kit_dict_str, kit_dict_list, kit_dict_tuple, kit_dict_dict, String.reduceEq, String.reduceNe, ne_eq, not_false_eq_true, not_true_eq_false, decide_false, decide_true, Bool.not_false, Bool.not_true, Bool.or_false, Bool.false_or, Bool.or_true, Bool.true_or, gTupH, wipe, tYes, exists_eq', exists_eq, exists_const, tFor_eq, tLc_eq, tCallX, tMethX, tRaiseOw, tMkOw, tFldOw, mIxA, mLenA, rInO, rNotInO, mLenO, rSetD, tM1, false_or, or_false, tInT, inV_nil, inV_str, flatV_str, flatV_int, flatV_non, mIntB, List.all_cons, List.all_nil, Bool.and_true, Bool.true_and, Bool.and_self, tDisp, tPairs, exk_nil, exk_str, leS0, leS1, leS2, leS3, leS4, leS5, leS6, leS7, leS8, leS9, leS10, leS11, leS12, Nat.reduceLeDiff, mBoolB, rEqNil, ha, ht, ofS_eq, ln_begin]
    have r := r (by simp [W6])
    have e := rf_n (w := "begin") (m := S.m) (n := (S.q.length : Int)) (n' := 0) (by decide)
    rw [e] at r
    cases ts with
    | nil => exact absurd rfl (hb rfl)
    | cons t ts =>
      refine ⟨.str t, atI_0, a, l, S, t, rfl, hL, fun hf H' h1 h2 => ?_, r⟩
      have hf' := e.trans hf
      exact k (.inr (.inr hf')) H' l _ (by rw [S_begin hf']; exact h1) .non h2 (.inl rfl)
  · simp only [tSeq, tAsg, tRet, tRetN, tIfS, tDrop, tNext, tBreak, tCont, tVar, tC, tOp, tUn, tB, tTest, tAnd, tOr, tNot, tAndV, tOrV, tNotV, tIf, tNil, tCons, tTup, tLst, tCB, tCallR, tMethR, tPropR, StX.tMakeR, tFld, sFld, sFldAug, tPar, tPar3, gName, gNil, gCons, gTup, gSub, rI, rI0, rU, rEq, rNe, mIxL, mIxT, mLenL, mLenT, mLenS, mLenD, mLenK, mList, mTupL, mInt, mAbs, mMax, mMin, mStr, mAddS, mIsN, mNotN, rIxS, rIxL, rSetL, rAppend, rExtendT, rPopAt, rCat, rIn, tBM, tBM0, tChain, tNever, scal, L2.start, cxK, iRng1, iRng2, tDNewK, tDGet, tDGet2, sDPut, tDIn, tDNotIn, DGet_dk, DPut_dk, IsD_dk, tyV_list, isLst_lst, isDk_dk, dkOf_dk, atI_0, atI_1, atI_2, atI_3, ixN_30, ixN_31, ixN_32, List.map, List.replicate, List.length_cons, List.length_nil, List.nil_append, List.cons_append, List.append_nil, Nat.reduceSub, Nat.reduceAdd, List.getElem?_cons_zero, List.getElem?_cons_succ, List.set_cons_zero, List.set_cons_succ, List.cons.injEq, Option.some.injEq, V.int.injEq, V.str.injEq, V.bl.injEq, V.ref.injEq, HO.ins.injEq, HO.lst.injEq, HO.tup.injEq, HO.dK.injEq, exists_eq_left, exists_eq_left', exists_eq_right, exists_eq_right', exists_and_left, exists_and_right, true_and, and_true, and_self, if_true, if_false, Bool.false_eq_true, Bool.true_eq_false, eq_self, reduceCtorEq, false_and, and_false, upd_same, upd_upd, and_assoc, Int.reduceToNat, Int.reducePow, Int.reduceMul, Int.reduceAdd, Int.reduceNeg, mIsi, mIsi2, kdV_non, kdV_bl, kdV_int, kdV_str, kdV_ref, kdO_lst, kdO_tup, kdO_dK, V.ty.injEq, mAll, mAny, kit_NoneType_bool, kit_NoneType_int, kit_NoneType_str, kit_NoneType_list, kit_NoneType_tuple, kit_NoneType_dict, kit_bool_bool, kit_bool_int, kit_bool_str, kit_bool_list, kit_bool_tuple, kit_bool_dict, kit_int_bool, kit_int_int, kit_int_str, kit_int_list, kit_int_tuple, kit_int_dict, kit_str_bool, kit_str_int, kit_str_str, kit_str_list, kit_str_tuple, kit_str_dict, kit_list_bool, kit_list_int, kit_list_str, kit_list_list, kit_list_tuple, kit_list_dict, kit_tuple_bool, kit_tuple_int, kit_tuple_str, kit_tuple_list, kit_tuple_tuple, kit_tuple_dict, kit_dict_bool, kit_dict_int, kit_dict_str, kit_dict_list, kit_dict_tuple, kit_dict_dict, String.reduceEq, String.reduceNe, ne_eq, not_false_eq_true, not_true_eq_false, decide_false, decide_true, Bool.not_false, Bool.not_true, Bool.or_false, Bool.false_or, Bool.or_true, Bool.true_or, gTupH, wipe, tYes, exists_eq', exists_eq, exists_const, tFor_eq, tLc_eq, tCallX, tMethX, tRaiseOw, tMkOw, tFldOw, mIxA, mLenA, rInO, rNotInO, mLenO, rSetD, tM1, false_or, or_false, tInT, inV_nil, inV_str, flatV_str, flatV_int, flatV_non, mIntB, List.all_cons, List.all_nil, Bool.and_true, Bool.true_and, Bool.and_self, tDisp, tPairs, exk_nil, exk_str, leS0, leS1, leS2, leS3, leS4, leS5, leS6, leS7, leS8, leS9, leS10, leS11, leS12, Nat.reduceLeDiff, mBoolB, rEqNil, ha, ht, ofS_eq, ln_finish]
    have r := r (by simp [W6])
    have e := rf_n (w := "finish") (m := S.m) (n := (S.q.length : Int)) (n' := 0) (by decide)
    rw [e] at r
    refine ⟨a, l, S, rfl, hL, by omega, fun hf H' h1 h2 => ?_, r⟩
    have hf' := e.trans hf
    exact k (.inr (.inr hf')) H' l _ (by rw [S_finish hf']; exact h1) .non h2 (.inl rfl)
  · simp only [tSeq, tAsg, tRet, tRetN, tIfS, tDrop, tNext, tBreak, tCont, tVar, tC, tOp, tUn, tB, tTest, tAnd, tOr, tNot, tAndV, tOrV, tNotV, tIf, tNil, tCons, tTup, tLst, tCB, tCallR, tMethR, tPropR, StX.tMakeR, tFld, sFld, sFldAug, tPar, tPar3, gName, gNil, gCons, gTup, gSub, rI, rI0, rU, rEq, rNe, mIxL, mIxT, mLenL, mLenT, mLenS, mLenD, mLenK, mList, mTupL, mInt, mAbs, mMax, mMin, mStr, mAddS, mIsN, mNotN, rIxS, rIxL, rSetL, rAppend, rExtendT, rPopAt, rCat, rIn, tBM, tBM0, tChain, tNever, scal, L2.start, cxK, iRng1, iRng2, tDNewK, tDGet, tDGet2, sDPut, tDIn, tDNotIn, DGet_dk, DPut_dk, IsD_dk, tyV_list, isLst_lst, isDk_dk, dkOf_dk, atI_0, atI_1, atI_2, atI_3, ixN_30, ixN_31, ixN_32, List.map, List.replicate, List.length_cons, List.length_nil, List.nil_append, List.cons_append, List.append_nil, Nat.reduceSub, Nat.reduceAdd, List.getElem?_cons_zero, List.getElem?_cons_succ, List.set_cons_zero, List.set_cons_succ, List.cons.injEq, Option.some.injEq, V.int.injEq, V.str.injEq, V.bl.injEq, V.ref.injEq, HO.ins.injEq, HO.lst.injEq, HO.tup.injEq, HO.dK.injEq, exists_eq_left, exists_eq_left', exists_eq_right, exists_eq_right', exists_and_left, exists_and_right, true_and, and_true, and_self, if_true, if_false, Bool.false_eq_true, Bool.true_eq_false, eq_self, reduceCtorEq, false_and, and_false, upd_same, upd_upd, and_assoc, Int.reduceToNat, Int.reducePow, Int.reduceMul, Int.reduceAdd, Int.reduceNeg, mIsi, mIsi2, kdV_non, kdV_bl, kdV_int, kdV_str, kdV_ref, kdO_lst, kdO_tup, kdO_dK, V.ty.injEq, mAll, mAny, kit_NoneType_bool, kit_NoneType_int, kit_NoneType_str, kit_NoneType_list, kit_NoneType_tuple, kit_NoneType_dict, kit_bool_bool, kit_bool_int, kit_bool_str, kit_bool_list, kit_bool_tuple, kit_bool_dict, kit_int_bool, kit_int_int, kit_int_str, kit_int_list, kit_int_tuple, kit_int_dict, kit_str_bool, kit_str_int, kit_str_str, kit_str_list, kit_str_tuple, kit_str_dict, kit_list_bool, kit_list_int, kit_list_str, kit_list_list, kit_list_tuple, kit_list_dict, kit_tuple_bool, kit_tuple_int, kit_tuple_str, kit_tuple_list, kit_tuple_tuple, kit_tuple_dict, kit_dict_bool, kit_dict_int, kit_dict_str, kit_dict_list, kit_dict_tuple, kit_dict_dict, String.reduceEq, String.reduceNe, ne_eq, not_false_eq_true, not_true_eq_false, decide_false, decide_true, Bool.not_false, Bool.not_true, Bool.or_false, Bool.false_or, Bool.or_true, Bool.true_or, gTupH, wipe, tYes, exists_eq', exists_eq, exists_const, tFor_eq, tLc_eq, tCallX, tMethX, tRaiseOw, tMkOw, tFldOw, mIxA, mLenA, rInO, rNotInO, mLenO, rSetD, tM1, false_or, or_false, tInT, inV_nil, inV_str, flatV_str, flatV_int, flatV_non, mIntB, List.all_cons, List.all_nil, Bool.and_true, Bool.true_and, Bool.and_self, tDisp, tPairs, exk_nil, exk_str, leS0, leS1, leS2, leS3, leS4, leS5, leS6, leS7, leS8, leS9, leS10, leS11, leS12, Nat.reduceLeDiff, mBoolB, rEqNil, ha, ht, ofS_eq, ln_read]
    exact ⟨a, l, S, rfl, hL, fun hf t q H' eq h1 h2 => k (.inr (.inr hf)) H' l _ (by rw [S_read eq hf]; exact h1) (by rw [v_hd (.inl rfl) eq]; exact .str _) h2 (.inl rfl), r (by simp [W6])⟩
  · simp only [tSeq, tAsg, tRet, tRetN, tIfS, tDrop, tNext, tBreak, tCont, tVar, tC, tOp, tUn, tB, tTest, tAnd, tOr, tNot, tAndV, tOrV, tNotV, tIf, tNil, tCons, tTup, tLst, tCB, tCallR, tMethR, tPropR, StX.tMakeR, tFld, sFld, sFldAug, tPar, tPar3, gName, gNil, gCons, gTup, gSub, rI, rI0, rU, rEq, rNe, mIxL, mIxT, mLenL, mLenT, mLenS, mLenD, mLenK, mList, mTupL, mInt, mAbs, mMax, mMin, mStr, mAddS, mIsN, mNotN, rIxS, rIxL, rSetL, rAppend, rExtendT, rPopAt, rCat, rIn, tBM, tBM0, tChain, tNever, scal, L2.start, cxK, iRng1, iRng2, tDNewK, tDGet, tDGet2, sDPut, tDIn, tDNotIn, DGet_dk, DPut_dk, IsD_dk, tyV_list, isLst_lst, isDk_dk, dkOf_dk, atI_0, atI_1, atI_2, atI_3, ixN_30, ixN_31, ixN_32, List.map, List.replicate, List.length_cons, List.length_nil, List.nil_append, List.cons_append, List.append_nil, Nat.reduceSub, Nat.reduceAdd, List.getElem?_cons_zero, List.getElem?_cons_succ, List.set_cons_zero, List.set_cons_succ, List.cons.injEq, Option.some.injEq, V.int.injEq, V.str.injEq, V.bl.injEq, V.ref.injEq, HO.ins.injEq, HO.lst.injEq, HO.tup.injEq, HO.dK.injEq, exists_eq_left, exists_eq_left', exists_eq_right, exists_eq_right', exists_and_left, exists_and_right, true_and, and_true, and_self, if_true, if_false, Bool.false_eq_true, Bool.true_eq_false, eq_self, reduceCtorEq, false_and, and_false, upd_same, upd_upd, and_assoc, Int.reduceToNat, Int.reducePow, Int.reduceMul, Int.reduceAdd, Int.reduceNeg, mIsi, mIsi2, kdV_non, kdV_bl, kdV_int, kdV_str, kdV_ref, kdO_lst, kdO_tup, kdO_dK, V.ty.injEq, mAll, mAny, kit_NoneType_bool, kit_NoneType_int, kit_NoneType_str, kit_NoneType_list, kit_NoneType_tuple, kit_NoneType_dict, kit_bool_bool, kit_bool_int, kit_bool_str, kit_bool_list, kit_bool_tuple, kit_bool_dict, kit_int_bool, kit_int_int, kit_int_str, kit_int_list, kit_int_tuple, kit_int_dict, kit_str_bool, kit_str_int, kit_str_str, kit_str_list, kit_str_tuple, kit_str_dict, kit_list_bool, kit_list_int, kit_list_str, kit_list_list, kit_list_tuple, kit_list_dict, kit_tuple_bool, kit_tuple_int, kit_tuple_str, kit_tuple_list, kit_tuple_tuple, kit_tuple_dict, kit_dict_bool, kit_dict_int, kit_dict_str, kit_dict_list, kit_dict_tuple, kit_dict_dict, String.reduceEq, String.reduceNe, ne_eq, not_false_eq_true, not_true_eq_false, decide_false, decide_true, Bool.not_false, Bool.not_true, Bool.or_false, Bool.false_or, Bool.or_true, Bool.true_or, gTupH, wipe, tYes, exists_eq', exists_eq, exists_const, tFor_eq, tLc_eq, tCallX, tMethX, tRaiseOw, tMkOw, tFldOw, mIxA, mLenA, rInO, rNotInO, mLenO, rSetD, tM1, false_or, or_false, tInT, inV_nil, inV_str, flatV_str, flatV_int, flatV_non, mIntB, List.all_cons, List.all_nil, Bool.and_true, Bool.true_and, Bool.and_self, tDisp, tPairs, exk_nil, exk_str, leS0, leS1, leS2, leS3, leS4, leS5, leS6, leS7, leS8, leS9, leS10, leS11, leS12, Nat.reduceLeDiff, mBoolB, rEqNil, ha, ht, ofS_eq, ln_head]
    exact ⟨a, l, S, rfl, hL, fun hf t q H' eq h1 h2 => k (.inr (.inr hf)) H' l _ (by rw [S_head hf]; exact h1) (by rw [v_hd (.inr (.inl rfl)) eq]; exact .str _) h2 (.inl rfl), r (by simp [W6])⟩
  · simp only [tSeq, tAsg, tRet, tRetN, tIfS, tDrop, tNext, tBreak, tCont, tVar, tC, tOp, tUn, tB, tTest, tAnd, tOr, tNot, tAndV, tOrV, tNotV, tIf, tNil, tCons, tTup, tLst, tCB, tCallR, tMethR, tPropR, StX.tMakeR, tFld, sFld, sFldAug, tPar, tPar3, gName, gNil, gCons, gTup, gSub, rI, rI0, rU, rEq, rNe, mIxL, mIxT, mLenL, mLenT, mLenS, mLenD, mLenK, mList, mTupL, mInt, mAbs, mMax, mMin, mStr, mAddS, mIsN, mNotN, rIxS, rIxL, rSetL, rAppend, rExtendT, rPopAt, rCat, rIn, tBM, tBM0, tChain, tNever, scal, L2.start, cxK, iRng1, iRng2, tDNewK, tDGet, tDGet2, sDPut, tDIn, tDNotIn, DGet_dk, DPut_dk, IsD_dk, tyV_list, isLst_lst, isDk_dk, dkOf_dk, atI_0, atI_1, atI_2, atI_3, ixN_30, ixN_31, ixN_32, List.map, List.replicate, List.length_cons, List.length_nil, List.nil_append, List.cons_append, List.append_nil, Nat.reduceSub, Nat.reduceAdd, List.getElem?_cons_zero, List.getElem?_cons_succ, List.set_cons_zero, List.set_cons_succ, List.cons.injEq, Option.some.injEq, V.int.injEq, V.str.injEq, V.bl.injEq, V.ref.injEq, HO.ins.injEq, HO.lst.injEq, HO.tup.injEq, HO.dK.injEq, exists_eq_left, exists_eq_left', exists_eq_right, exists_eq_right', exists_and_left, exists_and_right, true_and, and_true, and_self, if_true, if_false, Bool.false_eq_true, Bool.true_eq_false, eq_self, reduceCtorEq, false_and, and_false, upd_same, upd_upd, and_assoc, Int.reduceToNat, Int.reducePow, Int.reduceMul, Int.reduceAdd, Int.reduceNeg, mIsi, mIsi2, kdV_non, kdV_bl, kdV_int, kdV_str, kdV_ref, kdO_lst, kdO_tup, kdO_dK, V.ty.injEq, mAll, mAny, kit_NoneType_bool, kit_NoneType_int, kit_NoneType_str, kit_NoneType_list, kit_NoneType_tuple, kit_NoneType_dict, kit_bool_bool, kit_bool_int, kit_bool_str, kit_bool_list, kit_bool_tuple, kit_bool_dict, kit_int_bool, kit_int_int, kit_int_str, kit_int_list, kit_int_tuple, kit_int_dict, kit_str_bool, kit_str_int, kit_str_str, kit_str_list, kit_str_tuple, kit_str_dict, kit_list_bool, kit_list_int, kit_list_str, kit_list_list, kit_list_tuple, kit_list_dict, kit_tuple_bool, kit_tuple_int, kit_tuple_str, kit_tuple_list, kit_tuple_tuple, kit_tuple_dict, kit_dict_bool, kit_dict_int, kit_dict_str, kit_dict_list, kit_dict_tuple, kit_dict_dict, String.reduceEq, String.reduceNe, ne_eq, not_false_eq_true, not_true_eq_false, decide_false, decide_true, Bool.not_false, Bool.not_true, Bool.or_false, Bool.false_or, Bool.or_true, Bool.true_or, gTupH, wipe, tYes, exists_eq', exists_eq, exists_const, tFor_eq, tLc_eq, tCallX, tMethX, tRaiseOw, tMkOw, tFldOw, mIxA, mLenA, rInO, rNotInO, mLenO, rSetD, tM1, false_or, or_false, tInT, inV_nil, inV_str, flatV_str, flatV_int, flatV_non, mIntB, List.all_cons, List.all_nil, Bool.and_true, Bool.true_and, Bool.and_self, tDisp, tPairs, exk_nil, exk_str, leS0, leS1, leS2, leS3, leS4, leS5, leS6, leS7, leS8, leS9, leS10, leS11, leS12, Nat.reduceLeDiff, mBoolB, rEqNil, ha, ht, ofS_eq, ln_body]
    exact ⟨a, l, S, rfl, hL, hG.hd, fun hf t q H' eq h1 h2 => k (.inr (.inr hf)) H' l _ (by rw [S_body eq hf]; exact h1) (by rw [v_hd (.inr (.inr rfl)) eq]; exact .str _) h2 (.inl rfl), r (by simp [W6])⟩
  · simp only [tSeq, tAsg, tRet, tRetN, tIfS, tDrop, tNext, tBreak, tCont, tVar, tC, tOp, tUn, tB, tTest, tAnd, tOr, tNot, tAndV, tOrV, tNotV, tIf, tNil, tCons, tTup, tLst, tCB, tCallR, tMethR, tPropR, StX.tMakeR, tFld, sFld, sFldAug, tPar, tPar3, gName, gNil, gCons, gTup, gSub, rI, rI0, rU, rEq, rNe, mIxL, mIxT, mLenL, mLenT, mLenS, mLenD, mLenK, mList, mTupL, mInt, mAbs, mMax, mMin, mStr, mAddS, mIsN, mNotN, rIxS, rIxL, rSetL, rAppend, rExtendT, rPopAt, rCat, rIn, tBM, tBM0, tChain, tNever, scal, L2.start, cxK, iRng1, iRng2, tDNewK, tDGet, tDGet2, sDPut, tDIn, tDNotIn, DGet_dk, DPut_dk, IsD_dk, tyV_list, isLst_lst, isDk_dk, dkOf_dk, atI_0, atI_1, atI_2, atI_3, ixN_30, ixN_31, ixN_32, List.map, List.replicate, List.length_cons, List.length_nil, List.nil_append, List.cons_append, List.append_nil, Nat.reduceSub, Nat.reduceAdd, List.getElem?_cons_zero, List.getElem?_cons_succ, List.set_cons_zero, List.set_cons_succ, List.cons.injEq, Option.some.injEq, V.int.injEq, V.str.injEq, V.bl.injEq, V.ref.injEq, HO.ins.injEq, HO.lst.injEq, HO.tup.injEq, HO.dK.injEq, exists_eq_left, exists_eq_left', exists_eq_right, exists_eq_right', exists_and_left, exists_and_right, true_and, and_true, and_self, if_true, if_false, Bool.false_eq_true, Bool.true_eq_false, eq_self, reduceCtorEq, false_and, and_false, upd_same, upd_upd, and_assoc, Int.reduceToNat, Int.reducePow, Int.reduceMul, Int.reduceAdd, Int.reduceNeg, mIsi, mIsi2, kdV_non, kdV_bl, kdV_int, kdV_str, kdV_ref, kdO_lst, kdO_tup, kdO_dK, V.ty.injEq, mAll, mAny, kit_NoneType_bool, kit_NoneType_int, kit_NoneType_str, kit_NoneType_list, kit_NoneType_tuple, kit_NoneType_dict, kit_bool_bool, kit_bool_int, kit_bool_str, kit_bool_list, kit_bool_tuple, kit_bool_dict, kit_int_bool, kit_int_int, kit_int_str, kit_int_list, kit_int_tuple, kit_int_dict, kit_str_bool, kit_str_int, kit_str_str, kit_str_list, kit_str_tuple, kit_str_dict, kit_list_bool, kit_list_int, kit_list_str, kit_list_list, kit_list_tuple, kit_list_dict, kit_tuple_bool, kit_tuple_int, kit_tuple_str, kit_tuple_list, kit_tuple_tuple, kit_tuple_dict, kit_dict_bool, kit_dict_int, kit_dict_str, kit_dict_list, kit_dict_tuple, kit_dict_dict, String.reduceEq, String.reduceNe, ne_eq, not_false_eq_true, not_true_eq_false, decide_false, decide_true, Bool.not_false, Bool.not_true, Bool.or_false, Bool.false_or, Bool.or_true, Bool.true_or, gTupH, wipe, tYes, exists_eq', exists_eq, exists_const, tFor_eq, tLc_eq, tCallX, tMethX, tRaiseOw, tMkOw, tFldOw, mIxA, mLenA, rInO, rNotInO, mLenO, rSetD, tM1, false_or, or_false, tInT, inV_nil, inV_str, flatV_str, flatV_int, flatV_non, mIntB, List.all_cons, List.all_nil, Bool.and_true, Bool.true_and, Bool.and_self, tDisp, tPairs, exk_nil, exk_str, leS0, leS1, leS2, leS3, leS4, leS5, leS6, leS7, leS8, leS9, leS10, leS11, leS12, Nat.reduceLeDiff, mBoolB, rEqNil, ha, ht, ofS_eq, ln_drain]
    exact ⟨a, l, S, rfl, hL, fun H' p l' hp hl' np hP h1 h2 => k (.inl rfl) H' l' _ (by rw [S_drain]; exact h1) (.lst hP (DaAll.strs _)) (Kp2.of h2) (.inr hl')⟩
  · simp only [tSeq, tAsg, tRet, tRetN, tIfS, tDrop, tNext, tBreak, tCont, tVar, tC, tOp, tUn, tB, tTest, tAnd, tOr, tNot, tAndV, tOrV, tNotV, tIf, tNil, tCons, tTup, tLst, tCB, tCallR, tMethR, tPropR, StX.tMakeR, tFld, sFld, sFldAug, tPar, tPar3, gName, gNil, gCons, gTup, gSub, rI, rI0, rU, rEq, rNe, mIxL, mIxT, mLenL, mLenT, mLenS, mLenD, mLenK, mList, mTupL, mInt, mAbs, mMax, mMin, mStr, mAddS, mIsN, mNotN, rIxS, rIxL, rSetL, rAppend, rExtendT, rPopAt, rCat, rIn, tBM, tBM0, tChain, tNever, scal, L2.start, cxK, iRng1, iRng2, tDNewK, tDGet, tDGet2, sDPut, tDIn, tDNotIn, DGet_dk, DPut_dk, IsD_dk, tyV_list, isLst_lst, isDk_dk, dkOf_dk, atI_0, atI_1, atI_2, atI_3, ixN_30, ixN_31, ixN_32, List.map, List.replicate, List.length_cons, List.length_nil, List.nil_append, List.cons_append, List.append_nil, Nat.reduceSub, Nat.reduceAdd, List.getElem?_cons_zero, List.getElem?_cons_succ, List.set_cons_zero, List.set_cons_succ, List.cons.injEq, Option.some.injEq, V.int.injEq, V.str.injEq, V.bl.injEq, V.ref.injEq, HO.ins.injEq, HO.lst.injEq, HO.tup.injEq, HO.dK.injEq, exists_eq_left, exists_eq_left', exists_eq_right, exists_eq_right', exists_and_left, exists_and_right, true_and, and_true, and_self, if_true, if_false, Bool.false_eq_true, Bool.true_eq_false, eq_self, reduceCtorEq, false_and, and_false, upd_same, upd_upd, and_assoc, Int.reduceToNat, Int.reducePow, Int.reduceMul, Int.reduceAdd, Int.reduceNeg, mIsi, mIsi2, kdV_non, kdV_bl, kdV_int, kdV_str, kdV_ref, kdO_lst, kdO_tup, kdO_dK, V.ty.injEq, mAll, mAny, kit_NoneType_bool, kit_NoneType_int, kit_NoneType_str, kit_NoneType_list, kit_NoneType_tuple, kit_NoneType_dict, kit_bool_bool, kit_bool_int, kit_bool_str, kit_bool_list, kit_bool_tuple, kit_bool_dict, kit_int_bool, kit_int_int, kit_int_str, kit_int_list, kit_int_tuple, kit_int_dict, kit_str_bool, kit_str_int, kit_str_str, kit_str_list, kit_str_tuple, kit_str_dict, kit_list_bool, kit_list_int, kit_list_str, kit_list_list, kit_list_tuple, kit_list_dict, kit_tuple_bool, kit_tuple_int, kit_tuple_str, kit_tuple_list, kit_tuple_tuple, kit_tuple_dict, kit_dict_bool, kit_dict_int, kit_dict_str, kit_dict_list, kit_dict_tuple, kit_dict_dict, String.reduceEq, String.reduceNe, ne_eq, not_false_eq_true, not_true_eq_false, decide_false, decide_true, Bool.not_false, Bool.not_true, Bool.or_false, Bool.false_or, Bool.or_true, Bool.true_or, gTupH, wipe, tYes, exists_eq', exists_eq, exists_const, tFor_eq, tLc_eq, tCallX, tMethX, tRaiseOw, tMkOw, tFldOw, mIxA, mLenA, rInO, rNotInO, mLenO, rSetD, tM1, false_or, or_false, tInT, inV_nil, inV_str, flatV_str, flatV_int, flatV_non, mIntB, List.all_cons, List.all_nil, Bool.and_true, Bool.true_and, Bool.and_self, tDisp, tPairs, exk_nil, exk_str, leS0, leS1, leS2, leS3, leS4, leS5, leS6, leS7, leS8, leS9, leS10, leS11, leS12, Nat.reduceLeDiff, mBoolB, rEqNil, ha, ht, ofS_eq, ln_close]
    refine ite_dec (fun h => ?_) (fun h => ?_)
    · subst h
      exact ⟨a, l, S, .non, rfl, hL, fun H' l' hl' h1 h2 => k (.inr (.inl rfl)) H' l' _ (by rw [S_close]; exact h1) .non (Kp2.of h2) hl'⟩
    · exact ⟨a, l, S, why, rfl, hL, fun H' l' hl' h1 h2 => k (.inr (.inl rfl)) H' l' _ (by rw [S_close]; exact h1) .non (Kp2.of h2) hl'⟩
theorem R_noF {w : Str} {S : LS} (hw : W8 w) (h : noF w S) : stepR w S = .tuple [.str "told", valD w S] := by
  unfold stepR valD
  rcases h with rfl | rfl | h
  · rw [if_neg (by decide), if_pos rfl, if_pos rfl]
  · rw [if_pos rfl, if_neg (by decide), if_neg (by decide)]
  · by_cases hc : w = "close"
    · subst hc; rw [if_pos rfl, if_neg (by decide), if_neg (by decide)]
    by_cases hd : w = "drain"
    · subst hd; rw [if_neg (by decide), if_pos rfl, if_pos rfl]
    rw [if_neg hc, if_neg hd, if_pos h, if_neg hd]
def sp_l_call (K : PySem.W.Frag) : Sp := fun vs H Q _ => ∃ (a l tl : Addr) (S : LS) (w : Str) (ts : List Str) (why : V), vs = [.ref a, .str w, .ref tl, why] ∧ LineAt K H a l S ∧ H tl = some (.lst (ts.map V.str)) ∧ W8 w ∧ GoodS S ∧ (w = "ask" → ts.length ≤ 3) ∧ (w = "begin" → ts ≠ []) ∧ S.q.length + ts.length < 100000 ∧
  ∀ H' l' r, LineAt K H' a l' (stepS w ts why S) → Da H' r (stepR w S) → Kp2 a l H H' → (l' = l ∨ H l' = none) → Q r H'
theorem R_l_call {w : World} {K : PySem.W.Frag} {mg : Str → Option Value} {base : Heap} (T : Tx K mg) : FnR Pg w K mg base CX0 15 (He.ga K "_law_call") (sp_l_call K) := by
  obtain ⟨fd, F⟩ := T.d_l_call
  refine My.FunD.R F sc_l_call (fun vs H Q E h => by obtain ⟨a, l, tl, S, w', ts, why, rfl, hL, ht, hw, hG, h3, hb, hz, k⟩ := h; rfl) (fun _ _ _ _ _ _ us hl => match us, hl with | [_, _, _, _], _ => rfl) (fun cdv A outer s H vs Q E hr h => ?_)
  obtain ⟨a, l, tl, S, w', ts, why, rfl, hL, ht, hw, hG, h3, hb, hz, k⟩ := h
  refine ⟨_, (pss_cons (ps_tryC rfl rfl sc_l_call.nd takes_none5 (fun W pn xe tk po => by exact (pss_one (ps_set (i := 4) sc_l_call.nd rfl (by first | exact Or.inl rfl | exact Or.inr rfl) (pe_tup (pa_cons pe_str (pa_cons (pe_callX (R_l_do T) (hr.mono (by decide)) rfl T.g__law_do T.k__law_do (passAt tk) (pa_cons (pv 0) (pa_cons (pv 1) (pa_cons (pv 2) (pa_cons (pv 3) pa_nil))))) pa_nil)))))) (ClsOk.as (i := 5) ⟨rfl, by decide, .inl T.g_Closed⟩ rfl rfl (fun a oe cls d pn hz hf => by exact (pss_one (ps_set (i := 4) sc_l_call.nd rfl (by first | exact Or.inl rfl | exact Or.inr rfl) (pe_tup (pa_cons pe_str (pa_cons (pe_fldOw T.ow_Closed hz hf (pv 5) rfl) pa_nil)))))) (ClsOk.as (i := 5) ⟨rfl, by decide, .inl T.g_Amid⟩ rfl rfl (fun a oe cls d pn hz hf => by exact (pss_one (ps_set (i := 4) sc_l_call.nd rfl (by first | exact Or.inl rfl | exact Or.inr rfl) (pe_tup (pa_cons pe_str (pa_cons (pe_fldOw T.ow_Amid hz hf (pv 5) rfl) pa_nil)))))) (ClsOk.as (i := 5) ⟨rfl, by decide, .inl T.g_Starved⟩ rfl rfl (fun a oe cls d pn hz hf => by exact (pss_one (ps_set (i := 4) sc_l_call.nd rfl (by first | exact Or.inl rfl | exact Or.inr rfl) (pe_tup (pa_cons pe_str (pa_cons (pe_fldOw T.ow_Starved hz hf (pv 5) rfl) pa_nil)))))) ClsOk.nil))))
      (pss_one (ps_ret (pv 4)))), ?_⟩
  simp only [tSeq, tAsg, tRet, tRetN, tIfS, tDrop, tNext, tBreak, tCont, tVar, tC, tOp, tUn, tB, tTest, tAnd, tOr, tNot, tAndV, tOrV, tNotV, tIf, tNil, tCons, tTup, tLst, tCB, tCallR, tMethR, tPropR, StX.tMakeR, tFld, sFld, sFldAug, tPar, tPar3, gName, gNil, gCons, gTup, gSub, rI, rI0, rU, rEq, rNe, mIxL, mIxT, mLenL, mLenT, mLenS, mLenD, mLenK, mList, mTupL, mInt, mAbs, mMax, mMin, mStr, mAddS, mIsN, mNotN, rIxS, rIxL, rSetL, rAppend, rExtendT, rPopAt, rCat, rIn, tBM, tBM0, tChain, tNever, scal, L2.start, cxK, iRng1, iRng2, tDNewK, tDGet, tDGet2, sDPut, tDIn, tDNotIn, DGet_dk, DPut_dk, IsD_dk, tyV_list, isLst_lst, isDk_dk, dkOf_dk, atI_0, atI_1, atI_2, atI_3, ixN_30, ixN_31, ixN_32, List.map, List.replicate, List.length_cons, List.length_nil, List.nil_append, List.cons_append, List.append_nil, Nat.reduceSub, Nat.reduceAdd, List.getElem?_cons_zero, List.getElem?_cons_succ, List.set_cons_zero, List.set_cons_succ, List.cons.injEq, Option.some.injEq, V.int.injEq, V.str.injEq, V.bl.injEq, V.ref.injEq, HO.ins.injEq, HO.lst.injEq, HO.tup.injEq, HO.dK.injEq, exists_eq_left, exists_eq_left', exists_eq_right, exists_eq_right', exists_and_left, exists_and_right, true_and, and_true, and_self, if_true, if_false, Bool.false_eq_true, Bool.true_eq_false, eq_self, reduceCtorEq, false_and, and_false, upd_same, upd_upd, and_assoc, Int.reduceToNat, Int.reducePow, Int.reduceMul, Int.reduceAdd, Int.reduceNeg, mIsi, mIsi2, kdV_non, kdV_bl, kdV_int, kdV_str, kdV_ref, kdO_lst, kdO_tup, kdO_dK, V.ty.injEq, mAll, mAny, kit_NoneType_bool, kit_NoneType_int, kit_NoneType_str, kit_NoneType_list, kit_NoneType_tuple, kit_NoneType_dict, kit_bool_bool, kit_bool_int, kit_bool_str, kit_bool_list, kit_bool_tuple, kit_bool_dict, kit_int_bool, kit_int_int, kit_int_str, kit_int_list, kit_int_tuple, kit_int_dict, kit_str_bool, kit_str_int, kit_str_str, kit_str_list, kit_str_tuple, kit_str_dict, kit_list_bool, kit_list_int, kit_list_str, kit_list_list, kit_list_tuple, kit_list_dict, kit_tuple_bool, kit_tuple_int, kit_tuple_str, kit_tuple_list, kit_tuple_tuple, kit_tuple_dict, kit_dict_bool, kit_dict_int, kit_dict_str, kit_dict_list, kit_dict_tuple, kit_dict_dict, String.reduceEq, String.reduceNe, ne_eq, not_false_eq_true, not_true_eq_false, decide_false, decide_true, Bool.not_false, Bool.not_true, Bool.or_false, Bool.false_or, Bool.or_true, Bool.true_or, gTupH, wipe, tYes, exists_eq', exists_eq, exists_const, tFor_eq, tLc_eq, tCallX, tMethX, tRaiseOw, tMkOw, tFldOw, mIxA, mLenA, rInO, rNotInO, mLenO, rSetD, tM1, false_or, or_false, tInT, inV_nil, inV_str, flatV_str, flatV_int, flatV_non, mIntB, List.all_cons, List.all_nil, Bool.and_true, Bool.true_and, Bool.and_self, tDisp, tPairs, exk_nil, exk_str, leS0, leS1, leS2, leS3, leS4, leS5, leS6, leS7, leS8, leS9, leS10, leS11, leS12, Nat.reduceLeDiff, mBoolB, rEqNil, wCls, endsA, putA]
  refine ⟨a, l, tl, S, w', ts, why, rfl, hL, ht, hw, hG, h3, hb, hz, fun hn H1 l1 r1 hL1 hD1 k1 hl1 p hp => ?_, fun h6 H1 d s1 => ?_⟩
  · have s : Same H1 (upd H1 p (.tup [.str "told", r1])) := Same.new hp
    refine k _ l1 _ (hL1.same s) ?_ (k1.trans (Kp2.same s)) hl1
    rw [R_noF hw hn]
    exact .tup upd_same (.cons (.str _) (.cons (Da.same s _ _ hD1) .nil))
  · have hc : ¬ w' = "close" := by rcases h6 with rfl | rfl | rfl | rfl | rfl | rfl <;> decide
    have hdr : ¬ w' = "drain" := by rcases h6 with rfl | rfl | rfl | rfl | rfl | rfl <;> decide
    have fin : ¬ rowFault w' S.m (S.q.length : Int) = .non → ∀ f x p, H1 p = none → Da (upd H1 p (.tup [.str f, x])) (.ref p) (fauR S (rowFault w' S.m (S.q.length : Int))) → Q (.ref p) (upd H1 p (.tup [.str f, x])) := fun hf f x p hp hD => by
      obtain ⟨t1, t2⟩ := step_fault (ts := ts) (why := why) hc hdr hf
      have s : Same H (upd H1 p (.tup [.str f, x])) := Same.upd_new s1 hp
      exact k _ l _ (by rw [t1]; exact hL.same s) (by rw [t2]; exact hD) (Kp2.same s) (.inl rfl)
    refine ⟨fun hf hd => ?_, fun hf hd => ?_, fun hf hd => ?_⟩
    · have fin := fin (by rw [hf]; intro z; cases z)
      rw [hf] at fin
      exact ⟨true, T.x_Closed_Closed, fun _ e he => ⟨_, rfl, rfl, rfl, d, rfl, _, hd, fun p hp => ⟨_, rfl, fin _ _ p hp (.tup upd_same (.cons (.str _) (.cons (.int _) .nil)))⟩⟩, fun z => by cases z⟩
    · have fin := fin (by rw [hf]; intro z; cases z)
      rw [hf] at fin
      exact ⟨false, T.x_Amid_Closed, (fun z => by cases z), fun _ => ⟨true, T.x_Amid_Amid, fun _ e he => ⟨_, rfl, rfl, rfl, d, rfl, _, hd, fun p hp => ⟨_, rfl, fin _ _ p hp (.tup upd_same (.cons (.str _) (.cons (.str _) .nil)))⟩⟩, fun z => by cases z⟩⟩
    · have fin := fin (by rw [hf]; intro z; cases z)
      rw [hf] at fin
      exact ⟨false, T.x_Starved_Closed, (fun z => by cases z), fun _ => ⟨false, T.x_Starved_Amid, (fun z => by cases z), fun _ => ⟨true, T.x_Starved_Starved, fun _ e he => ⟨_, rfl, rfl, rfl, d, rfl, _, hd, fun p hp => ⟨_, rfl, fin _ _ p hp (.tup upd_same (.cons (.str _) (.cons (.int _) .nil)))⟩⟩, fun z => by cases z⟩⟩⟩
/-- a good state stays good -/
theorem good_step {w : Str} {ts : List Str} {why : V} {S : LS} (hG : GoodS S) (hw : W8 w) : GoodS (stepS w ts why S) := by
  by_cases hc : w = "close"
  · subst hc
    rw [S_close]; unfold closeS
    split
    · exact hG
    · exact ⟨.inr (.inr (.inr (.inr rfl))), fun z => by cases z⟩
  by_cases hd : w = "drain"
  · subst hd
    rw [S_drain]
    refine ⟨?_, fun z => ?_⟩
    · show Mk (markAfter "drain" S.m)
      rcases hG.mm with h | h | h | h | h <;> rw [h] <;> simp [Mk, markAfter, isOut, isIn, markOf, ofS_eq]
    · exfalso
      have z' : isIn (markAfter "drain" S.m) = true := z
      rcases hG.mm with h | h | h | h | h <;> rw [h] at z' <;> revert z' <;> decide
  by_cases hf : rowFault w S.m (S.q.length : Int) = .non
  · have ho := rf_open hf
    rcases hw with rfl | rfl | rfl | rfl | rfl | rfl | h | h
    · rw [S_ask hf]
      exact ⟨hG.mm, fun z => by simp [hG.hd z]⟩
    · rw [(step_ok hc hd hf).1]
      refine ⟨?_, fun z => ?_⟩
      · show Mk (markAfter "begin" S.m)
        rcases hG.mm with h | h | h | h | h <;> rw [h] <;> simp [Mk, markAfter, isOut, isIn, markOf, ofS_eq]
      · have z' : isIn (markAfter "begin" S.m) = true := z
        have : isIn S.m = true := by
          rcases hG.mm with h | h | h | h | h <;> rw [h] at z' ⊢ <;> revert z' <;> decide
        simpa [stepQ, ofS_eq] using hG.hd this
    · rw [S_finish hf]
      refine ⟨?_, fun z => by simp⟩
      show Mk (markAfter "finish" S.m)
      rcases hG.mm with h | h | h | h | h <;> rw [h] <;> simp [Mk, markAfter, isOut, isIn, markOf, ofS_eq]
    · obtain ⟨t, q, e⟩ : ∃ t q, S.q = t :: q := by
        cases e : S.q with
        | nil => exact absurd e (rf_read_ne (.inl rfl) hf)
        | cons t q => exact ⟨t, q, rfl⟩
      rw [S_read e hf]
      refine ⟨hG.mm, fun z => ?_⟩
      exfalso
      have e2 : isAmid "read" S.m = true := by
        unfold isAmid
        rw [if_neg (by decide), if_neg (by decide), if_pos (by decide)]; exact z
      unfold rowFault at hf
      rw [if_neg ho, if_pos e2] at hf
      cases hf
    · rw [S_head hf]
      refine ⟨?_, fun z => rf_read_ne (.inr rfl) hf⟩
      show Mk (markAfter "head" S.m)
      rcases hG.mm with h | h | h | h | h <;> rw [h] <;> simp [Mk, markAfter, isOut, isIn, markOf, ofS_eq]
    · obtain ⟨t, q, e⟩ : ∃ t q, S.q = t :: q := by
        cases e : S.q with
        | nil => exact absurd e (hG.hd (rf_body hf))
        | cons t q => exact ⟨t, q, rfl⟩
      rw [S_body e hf]
      refine ⟨?_, fun z => ?_⟩
      · show Mk (markAfter "body" S.m)
        rcases hG.mm with h | h | h | h | h <;> rw [h] <;> simp [Mk, markAfter, isOut, isIn, markOf, ofS_eq]
      · exfalso
        have z' : isIn (markAfter "body" S.m) = true := z
        rcases hG.mm with h | h | h | h | h <;> rw [h] at z' <;> revert z' <;> decide
    · exact absurd h hd
    · exact absurd h hc
  · rw [(step_fault hc hd hf).1]; exact hG
theorem len_step {w : Str} {ts : List Str} {why : V} {S : LS} : (stepS w ts why S).q.length ≤ S.q.length + ts.length + 1 := by
  unfold stepS
  split
  · unfold closeS
    split
    · omega
    · exact Nat.zero_le _
  split
  · simp
  split
  · show (stepQ w ts S).length ≤ _
    unfold stepQ
    repeat' split
    all_goals first | omega | (simp only [List.length_append, List.length_tail, List.length_cons, List.length_nil]; omega)
  · omega
theorem num_step {w : Str} {ts : List Str} {why : V} {S : LS} : (stepS w ts why S).n = S.n := by
  unfold stepS closeS
  repeat' split
  all_goals rfl
theorem cause_step {w : Str} {ts : List Str} {why : V} {S : LS} : (stepS w ts why S).c = S.c ∨ (stepS w ts why S).c = why := by
  unfold stepS closeS
  repeat' split
  all_goals simp

end K31

set_option Elab.async false
set_option linter.all false
set_option maxRecDepth 100000
set_option maxHeartbeats 4000000
namespace K31
open PySem PySem.Spec PyProof.Rows L2 My
theorem dpts_strs : ∀ (n : Nat) (q : List Str), dpts n (q.map PyData.str) = true
  | n, [] => by rw [List.map_nil, dpts]
  | n, x :: q => by rw [List.map_cons, dpts, dpts_strs n q, dpt]; rfl
theorem dpt_strs {q : List Str} (n : Nat) (h : q.length ≤ 100000) : dpt (n + 1) (.list (q.map PyData.str)) = true := by
  rw [dpt, dpts_strs, List.length_map, decide_eq_true h]; rfl
theorem use_same {H : Hp} {x y : V} {d : PyData} {F G : Hp → Prop} {E : XK} (hx : Da H x d) (hy : Da H y d) (hd : dpt 4 d = true) (k : ∀ H', Same H H' → G H') : sp_l_same 4 [x, y] H (fun v H1 => ∃ c, v = .bl c ∧ if (!c) = true then F H1 else G H1) E :=
  ⟨x, y, d, rfl, hx, hy, hd, fun H' s => ⟨true, rfl, iteF (k H' s)⟩⟩
theorem use_same_and {H : Hp} {x y : V} {d : PyData} {F G : Hp → Prop} {E : XK} (hx : Da H x d) (hy : Da H y d) (hd : dpt 4 d = true) (k : ∀ H', Same H H' → G H') : sp_l_same 4 [x, y] H (fun v H1 => ∃ c, v = .bl c ∧ if c = true then G H1 else F H1) E :=
  ⟨x, y, d, rfl, hx, hy, hd, fun H' s => ⟨true, rfl, iteT (k H' s)⟩⟩
def sp_l_stands (K : PySem.W.Frag) : Sp := fun vs H Q _ => ∃ (a l d lq : Addr) (S : LS) (g : V) (t : Str) (dc : PyData), vs = [.ref a, .ref d, .str t] ∧ LineAt K H a l S ∧ NowAt H d lq S g ∧ Da H S.c dc ∧ dpt 4 dc = true ∧ ∀ H', Same H H' → Q (.bl true) H'
theorem R_l_stands {w : World} {K : PySem.W.Frag} {mg : Str → Option Value} {base : Heap} (T : Tx K mg) : FnR Pg w K mg base CX0 7 (He.ga K "_law_stands") (sp_l_stands K) := by
  obtain ⟨fd, F⟩ := T.d_l_stands
  refine My.FunD.R F sc_l_stands (fun vs H Q E h => by obtain ⟨a, l, d, lq, S, g, t, dc, rfl, hL, hN, hD, hp, k⟩ := h; rfl) (fun _ _ _ _ _ _ us hl => match us, hl with | [_, _, _], _ => rfl) (fun cdv A outer s H vs Q E hr h => ?_)
  obtain ⟨a, l, d, lq, S, g, t, dc, rfl, hL, hN, hD, hp, k⟩ := h
  refine ⟨_, (pss_cons (ps_par (i := 3) (j := 4) (by rfl) sc_l_stands.nd rfl rfl (by decide) rfl rfl (pa_cons (pe_dget (hu_of hr) (pv 1) pe_str (fun _ _ => rfl)) (pa_cons (pe_dget (hu_of hr) (pv 1) pe_str (fun _ _ => rfl)) pa_nil)) (by rfl))
      (pss_cons (ps_if (PW.pt (pw_or (pt_not (pt_val (pe_callR (R_l_same T) (hr.mono (by decide)) rfl T.g__law_same T.k__law_same pass0 (pa_cons (pe_propR (pv 0) T.c_Line T.p_Line_mark (R_Line_mark T) (hr.mono (by decide)) pass0 rfl) (pa_cons (pv 4) pa_nil))))) (pw_or1 (pt_not (pt_val (pe_callR (R_l_same T) (hr.mono (by decide)) rfl T.g__law_same T.k__law_same pass0 (pa_cons (pe_methR0 (pv 0) T.c_Line T.m_Line_tags (R_Line_tags T) (hr.mono (by decide)) pass0) (pa_cons (pv 3) pa_nil)))))))) (pss_one (ps_ret pe_bl)) pss_nil)
      (pss_cons (ps_if (PW.pt (pw_or (pt_not (pt_val (pe_callR (R_l_same T) (hr.mono (by decide)) rfl T.g__law_same T.k__law_same pass0 (pa_cons (pe_propR (pv 0) T.c_Line T.p_Line_owed (R_Line_owed T) (hr.mono (by decide)) pass0 rfl) (pa_cons (pe_callB lenL (by rfl) T.n_len (by decide +kernel) (pa_cons (pv 3) pa_nil)) pa_nil))))) (pw_or1 (pt_not (pt_val (pe_callR (R_l_same T) (hr.mono (by decide)) rfl T.g__law_same T.k__law_same pass0 (pa_cons (pe_callB (lenO (R_Line___len__ T) (hr.mono (by decide)) T.s_Line___len__) (by rfl) T.n_len (by decide +kernel) (pa_cons (pv 0) pa_nil)) (pa_cons (pe_callB lenL (by rfl) T.n_len (by decide +kernel) (pa_cons (pv 3) pa_nil)) pa_nil)))))))) (pss_one (ps_ret pe_bl)) pss_nil)
      (pss_cons (ps_if (PW.pt (pw_or (pt_not (pt_val (pe_callR (R_l_same T) (hr.mono (by decide)) rfl T.g__law_same T.k__law_same pass0 (pa_cons (pe_fld (pv 0) rfl) (pa_cons (pe_dget (hu_of hr) (pv 1) pe_str (fun _ _ => rfl)) pa_nil))))) (pw_or1 (pt_not (pt_val (pe_callR (R_l_same T) (hr.mono (by decide)) rfl T.g__law_same T.k__law_same pass0 (pa_cons (pe_fld (pv 0) rfl) (pa_cons (pe_dget (hu_of hr) (pv 1) pe_str (fun _ _ => rfl)) pa_nil)))))))) (pss_one (ps_ret pe_bl)) pss_nil)
      (pss_cons (ps_if (pt_cmpR op_ne (pe_callTy boolB (by rfl) T.n_bool (by decide +kernel) (pa_cons (pe_cmpR (op_inO (R_Line___contains__ T) (hr.mono (by decide)) T.s_Line___contains__) (pv 2) (pv 0) rfl) pa_nil)) (pe_cmpR op_in_seq (pv 2) (pv 3) rfl) (nomark _)) (pss_one (ps_ret pe_bl)) pss_nil)
      (pss_one (ps_ret (pe_and (pe_callR (R_l_same T) (hr.mono (by decide)) rfl T.g__law_same T.k__law_same pass0 (pa_cons (pe_propR (pv 0) T.c_Line T.p_Line_is_open (R_Line_is_open T) (hr.mono (by decide)) pass0 rfl) (pa_cons (pe_cmpR op_ne (pv 4) pe_str (nomark _)) pa_nil))) (pe_one (pe_callR (R_l_same T) (hr.mono (by decide)) rfl T.g__law_same T.k__law_same pass0 (pa_cons (pe_propR (pv 0) T.c_Line T.p_Line_is_clean (R_Line_is_clean T) (hr.mono (by decide)) pass0 rfl) (pa_cons (pe_and (pe_cmpR op_eq (pv 4) pe_str (nomark _)) (pe_one (pe_cmpR (op_eqNil hr.units) (pv 3) (pe_lst pa_nil) (nomark _)))) pa_nil)))))))))))), ?_⟩
  obtain ⟨dx, ha⟩ := hL.ob
  have hd := hN.ob
  have hq := hN.qu
  have hz := hL.sz
  simp only [tSeq, tAsg, tRet, tRetN, tIfS, tDrop, tNext, tBreak, tCont, tVar, tC, tOp, tUn, tB, tTest, tAnd, tOr, tNot, tAndV, tOrV, tNotV, tIf, tNil, tCons, tTup, tLst, tCB, tCallR, tMethR, tPropR, StX.tMakeR, tFld, sFld, sFldAug, tPar, tPar3, gName, gNil, gCons, gTup, gSub, rI, rI0, rU, rEq, rNe, mIxL, mIxT, mLenL, mLenT, mLenS, mLenD, mLenK, mList, mTupL, mInt, mAbs, mMax, mMin, mStr, mAddS, mIsN, mNotN, rIxS, rIxL, rSetL, rAppend, rExtendT, rPopAt, rCat, rIn, tBM, tBM0, tChain, tNever, scal, L2.start, cxK, iRng1, iRng2, tDNewK, tDGet, tDGet2, sDPut, tDIn, tDNotIn, DGet_dk, DPut_dk, IsD_dk, tyV_list, isLst_lst, isDk_dk, dkOf_dk, atI_0, atI_1, atI_2, atI_3, ixN_30, ixN_31, ixN_32, List.map, List.replicate, List.length_cons, List.length_nil, List.nil_append, List.cons_append, List.append_nil, Nat.reduceSub, Nat.reduceAdd, List.getElem?_cons_zero, List.getElem?_cons_succ, List.set_cons_zero, List.set_cons_succ, List.cons.injEq, Option.some.injEq, V.int.injEq, V.str.injEq, V.bl.injEq, V.ref.injEq, HO.ins.injEq, HO.lst.injEq, HO.tup.injEq, HO.dK.injEq, exists_eq_left, exists_eq_left', exists_eq_right, exists_eq_right', exists_and_left, exists_and_right, true_and, and_true, and_self, if_true, if_false, Bool.false_eq_true, Bool.true_eq_false, eq_self, reduceCtorEq, false_and, and_false, upd_same, upd_upd, and_assoc, Int.reduceToNat, Int.reducePow, Int.reduceMul, Int.reduceAdd, Int.reduceNeg, mIsi, mIsi2, kdV_non, kdV_bl, kdV_int, kdV_str, kdV_ref, kdO_lst, kdO_tup, kdO_dK, V.ty.injEq, mAll, mAny, kit_NoneType_bool, kit_NoneType_int, kit_NoneType_str, kit_NoneType_list, kit_NoneType_tuple, kit_NoneType_dict, kit_bool_bool, kit_bool_int, kit_bool_str, kit_bool_list, kit_bool_tuple, kit_bool_dict, kit_int_bool, kit_int_int, kit_int_str, kit_int_list, kit_int_tuple, kit_int_dict, kit_str_bool, kit_str_int, kit_str_str, kit_str_list, kit_str_tuple, kit_str_dict, kit_list_bool, kit_list_int, kit_list_str, kit_list_list, kit_list_tuple, kit_list_dict, kit_tuple_bool, kit_tuple_int, kit_tuple_str, kit_tuple_list, kit_tuple_tuple, kit_tuple_dict, kit_dict_bool, kit_dict_int, kit_dict_str, kit_dict_list, kit_dict_tuple, kit_dict_dict, String.reduceEq, String.reduceNe, ne_eq, not_false_eq_true, not_true_eq_false, decide_false, decide_true, Bool.not_false, Bool.not_true, Bool.or_false, Bool.false_or, Bool.or_true, Bool.true_or, gTupH, wipe, tYes, exists_eq', exists_eq, exists_const, tFor_eq, tLc_eq, tCallX, tMethX, tRaiseOw, tMkOw, tFldOw, mIxA, mLenA, rInO, rNotInO, mLenO, rSetD, tM1, false_or, or_false, tInT, inV_nil, inV_str, flatV_str, flatV_int, flatV_non, mIntB, List.all_cons, List.all_nil, Bool.and_true, Bool.true_and, Bool.and_self, tDisp, tPairs, exk_nil, exk_str, leS0, leS1, leS2, leS3, leS4, leS5, leS6, leS7, leS8, leS9, leS10, leS11, leS12, Nat.reduceLeDiff, mBoolB, rEqNil, ha, hd, hq, nl_number, nl_mark, nl_queue, nl_begun, nl_cause, ofS_eq, sp_Line_mark]
  refine ⟨l, S, hL, use_same (.str _) (.str _) rfl fun H1 s1 => ?_⟩
  have L1 := hL.same s1
  have N1 := hN.same s1
  obtain ⟨dx1, ha1⟩ := L1.ob
  refine ⟨_, _, ha1, rfl, a, l, S, rfl, L1, fun p hp1 => use_same (.lst upd_same (DaAll.strs _)) (.lst ((Same.new hp1) _ _ N1.qu) (DaAll.strs _)) (dpt_strs 3 hz) fun H2 s2 => ?_⟩
  have t2 : Same H H2 := s1.trans ((Same.new hp1).trans s2)
  have L2' := hL.same t2
  have N2 := hN.same t2
  obtain ⟨dx2, ha2⟩ := L2'.ob
  refine ⟨⟨_, _, ha2⟩, a, l, S, rfl, L2', _, N2.qu, ?_⟩
  rw [List.length_map]
  refine use_same (.int _) (.int _) rfl fun H3 s3 => ?_
  have t3 := t2.trans s3
  have L3 := hL.same t3
  have N3 := hN.same t3
  obtain ⟨dx3, ha3⟩ := L3.ob
  refine ⟨⟨_, _, ha3⟩, a, l, S, rfl, L3, _, rfl, Int.natCast_nonneg _, by omega, _, N3.qu, ?_⟩
  rw [List.length_map]
  refine use_same (.int _) (.int _) rfl fun H4 s4 => ?_
  have t4 := t3.trans s4
  have L4 := hL.same t4
  have N4 := hN.same t4
  obtain ⟨dx4, ha4⟩ := L4.ob
  have hd4 := N4.ob
  have hq4 := N4.qu
  simp only [tSeq, tAsg, tRet, tRetN, tIfS, tDrop, tNext, tBreak, tCont, tVar, tC, tOp, tUn, tB, tTest, tAnd, tOr, tNot, tAndV, tOrV, tNotV, tIf, tNil, tCons, tTup, tLst, tCB, tCallR, tMethR, tPropR, StX.tMakeR, tFld, sFld, sFldAug, tPar, tPar3, gName, gNil, gCons, gTup, gSub, rI, rI0, rU, rEq, rNe, mIxL, mIxT, mLenL, mLenT, mLenS, mLenD, mLenK, mList, mTupL, mInt, mAbs, mMax, mMin, mStr, mAddS, mIsN, mNotN, rIxS, rIxL, rSetL, rAppend, rExtendT, rPopAt, rCat, rIn, tBM, tBM0, tChain, tNever, scal, L2.start, cxK, iRng1, iRng2, tDNewK, tDGet, tDGet2, sDPut, tDIn, tDNotIn, DGet_dk, DPut_dk, IsD_dk, tyV_list, isLst_lst, isDk_dk, dkOf_dk, atI_0, atI_1, atI_2, atI_3, ixN_30, ixN_31, ixN_32, List.map, List.replicate, List.length_cons, List.length_nil, List.nil_append, List.cons_append, List.append_nil, Nat.reduceSub, Nat.reduceAdd, List.getElem?_cons_zero, List.getElem?_cons_succ, List.set_cons_zero, List.set_cons_succ, List.cons.injEq, Option.some.injEq, V.int.injEq, V.str.injEq, V.bl.injEq, V.ref.injEq, HO.ins.injEq, HO.lst.injEq, HO.tup.injEq, HO.dK.injEq, exists_eq_left, exists_eq_left', exists_eq_right, exists_eq_right', exists_and_left, exists_and_right, true_and, and_true, and_self, if_true, if_false, Bool.false_eq_true, Bool.true_eq_false, eq_self, reduceCtorEq, false_and, and_false, upd_same, upd_upd, and_assoc, Int.reduceToNat, Int.reducePow, Int.reduceMul, Int.reduceAdd, Int.reduceNeg, mIsi, mIsi2, kdV_non, kdV_bl, kdV_int, kdV_str, kdV_ref, kdO_lst, kdO_tup, kdO_dK, V.ty.injEq, mAll, mAny, kit_NoneType_bool, kit_NoneType_int, kit_NoneType_str, kit_NoneType_list, kit_NoneType_tuple, kit_NoneType_dict, kit_bool_bool, kit_bool_int, kit_bool_str, kit_bool_list, kit_bool_tuple, kit_bool_dict, kit_int_bool, kit_int_int, kit_int_str, kit_int_list, kit_int_tuple, kit_int_dict, kit_str_bool, kit_str_int, kit_str_str, kit_str_list, kit_str_tuple, kit_str_dict, kit_list_bool, kit_list_int, kit_list_str, kit_list_list, kit_list_tuple, kit_list_dict, kit_tuple_bool, kit_tuple_int, kit_tuple_str, kit_tuple_list, kit_tuple_tuple, kit_tuple_dict, kit_dict_bool, kit_dict_int, kit_dict_str, kit_dict_list, kit_dict_tuple, kit_dict_dict, String.reduceEq, String.reduceNe, ne_eq, not_false_eq_true, not_true_eq_false, decide_false, decide_true, Bool.not_false, Bool.not_true, Bool.or_false, Bool.false_or, Bool.or_true, Bool.true_or, gTupH, wipe, tYes, exists_eq', exists_eq, exists_const, tFor_eq, tLc_eq, tCallX, tMethX, tRaiseOw, tMkOw, tFldOw, mIxA, mLenA, rInO, rNotInO, mLenO, rSetD, tM1, false_or, or_false, tInT, inV_nil, inV_str, flatV_str, flatV_int, flatV_non, mIntB, List.all_cons, List.all_nil, Bool.and_true, Bool.true_and, Bool.and_self, tDisp, tPairs, exk_nil, exk_str, leS0, leS1, leS2, leS3, leS4, leS5, leS6, leS7, leS8, leS9, leS10, leS11, leS12, Nat.reduceLeDiff, mBoolB, rEqNil, ha4, hd4, hq4, nl_number, nl_mark, nl_queue, nl_begun, nl_cause, ofS_eq, T.c_Line, T.f_Line_number, T.f_Line_cause, lf_number, lf_cause]
  refine use_same (.int _) (.int _) rfl fun H5 s5 => ?_
  have t5 := t4.trans s5
  have L5 := hL.same t5
  have N5 := hN.same t5
  obtain ⟨dx5, ha5⟩ := L5.ob
  have hc5 : DGet H5 d (.str "cause") (some S.c) := by rw [DGet_dk (by rw [N5.ob]; rfl), N5.ob]; rfl
  refine ⟨_, _, _, ha5, T.c_Line, T.f_Line_cause, _, rfl, _, hc5, use_same (Da.same t5 _ _ hD) (Da.same t5 _ _ hD) hp fun H6 s6 => ?_⟩
  have t6 := t5.trans s6
  have L6 := hL.same t6
  have N6 := hN.same t6
  obtain ⟨dx6, ha6⟩ := L6.ob
  refine ⟨⟨_, _, ha6⟩, a, l, S, t, rfl, L6, _, rfl, _, .inl (SqL.of N6.qu), ?_, ?_⟩
  · exact List.all_eq_true.mpr fun x hx => by obtain ⟨z, _, rfl⟩ := List.mem_map.mp hx; rfl
  rw [inV_strs, if_neg (by simp)]
  refine ⟨⟨_, _, ha6⟩, a, l, S, rfl, L6, use_same_and (.bl _) (.bl _) rfl fun H7 s7 => ?_⟩
  have t7 := t6.trans s7
  have L7 := hL.same t7
  have N7 := hN.same t7
  obtain ⟨dx7, ha7⟩ := L7.ob
  refine ⟨⟨_, _, ha7⟩, a, l, S, rfl, L7, ?_⟩
  refine ite_dec (fun h => ?_) (fun h => ?_)
  · intro p8 hp8
    have s8 : Same H7 (upd H7 p8 (.lst [])) := Same.new hp8
    refine ⟨_, s8 _ _ N7.qu, ?_⟩
    rw [show (S.q.map V.str).isEmpty = decide (S.q = []) by cases S.q <;> rfl]
    refine ⟨_, _, .bool (decide (S.q = [])), rfl, ?_, .bl _, rfl, fun H' s' => k H' (t7.trans (s8.trans s'))⟩
    rw [decide_eq_true h, Bool.true_and]; exact .bl _
  · refine ⟨_, _, .bool false, rfl, ?_, .bl _, rfl, fun H' s' => k H' (t7.trans s')⟩
    rw [decide_eq_false h, Bool.false_and]; exact .bl _

end K31

set_option Elab.async false
set_option linter.all false
set_option maxRecDepth 100000
set_option maxHeartbeats 4000000
namespace K31
open PySem PySem.Spec PyProof.Rows L2 My
theorem sum_ones : ∀ (cs : List Str), (∀ c ∈ cs, c.length = 1) → (cs.map (fun x => x.length)).sum = cs.length
  | [], _ => rfl
  | c :: cs, h => by
    rw [List.map_cons, List.sum_cons, sum_ones cs (fun x hx => h x (List.mem_cons_of_mem _ hx)), h c List.mem_cons_self, List.length_cons]; omega
def sp_l_tag (_ : PySem.W.Frag) : Sp := fun vs H Q _ => ∃ (b : Addr) (n : Nat) (l : List V), vs = [.ref b] ∧ H b = some (.lst l) ∧ BagL l n ∧ n ≤ 900000 ∧ ∀ (t : Str) (l' : List V) (H' : Hp), BagL l' (n + 6) → H' b = some (.lst l') → Kp b H H' → Q (.str t) H'
theorem R_l_tag {w : World} {K : PySem.W.Frag} {mg : Str → Option Value} {base : Heap} (T : Tx K mg) : FnR Pg w K mg base CX0 5 (He.ga K "_law_tag") (sp_l_tag K) := by
  obtain ⟨fd, F⟩ := T.d_l_tag
  refine My.FunD.R F sc_l_tag (fun vs H Q E h => by obtain ⟨b, n, l, rfl, hb, hB, hn, k⟩ := h; rfl) (fun _ _ _ _ _ _ us hl => match us, hl with | [_], _ => rfl) (fun cdv A outer s H vs Q E hr h => ?_)
  obtain ⟨b, n, l, rfl, hb, hB, hn, k⟩ := h
  refine ⟨_, (pss_cons (ps_set (i := 1) sc_l_tag.nd rfl (by first | exact Or.inl rfl | exact Or.inr rfl) pe_str)
      (pss_one (ps_ret (pe_join pe_str (pe_lc (own := [("_law_turn", 2)]) (g := gName 2) (tt := tYes) rfl sc_l_tag.nd (pi_range1 rfl T.n_range (pa_cons (pe_callR (R_l_draw T) (hr.mono (by decide)) rfl T.g__law_draw T.k__law_draw pass0 (pa_cons (pv 0) (pa_cons pe_int pa_nil))) pa_nil)) (blkOk_by (own := [("_law_turn", 2)]) (N := ["_law_source_here", "_law_signs", "_law_turn"]) (sc := defScope s_l_tag) (by decide +kernel)) (fun _ _ _ _ _ => by exact (pg_name (i := 2) sc_l_tag.nd rfl (by first | exact Or.inl rfl | exact Or.inr rfl))) (fun _ _ _ _ _ => by exact pts_nil) (fun _ _ _ _ _ => by exact (pe_callR (R_l_of T) (hr.mono (by decide)) rfl T.g__law_of T.k__law_of pass0 (pa_cons (pv 0) (pa_cons (pv 1) pa_nil))))))))), ?_⟩
  simp only [tSeq, tAsg, tRet, tRetN, tIfS, tDrop, tNext, tBreak, tCont, tVar, tC, tOp, tUn, tB, tTest, tAnd, tOr, tNot, tAndV, tOrV, tNotV, tIf, tNil, tCons, tTup, tLst, tCB, tCallR, tMethR, tPropR, StX.tMakeR, tFld, sFld, sFldAug, tPar, tPar3, gName, gNil, gCons, gTup, gSub, rI, rI0, rU, rEq, rNe, mIxL, mIxT, mLenL, mLenT, mLenS, mLenD, mLenK, mList, mTupL, mInt, mAbs, mMax, mMin, mStr, mAddS, mIsN, mNotN, rIxS, rIxL, rSetL, rAppend, rExtendT, rPopAt, rCat, rIn, tBM, tBM0, tChain, tNever, scal, L2.start, cxK, iRng1, iRng2, tDNewK, tDGet, tDGet2, sDPut, tDIn, tDNotIn, DGet_dk, DPut_dk, IsD_dk, tyV_list, isLst_lst, isDk_dk, dkOf_dk, atI_0, atI_1, atI_2, atI_3, ixN_30, ixN_31, ixN_32, List.map, List.replicate, List.length_cons, List.length_nil, List.nil_append, List.cons_append, List.append_nil, Nat.reduceSub, Nat.reduceAdd, List.getElem?_cons_zero, List.getElem?_cons_succ, List.set_cons_zero, List.set_cons_succ, List.cons.injEq, Option.some.injEq, V.int.injEq, V.str.injEq, V.bl.injEq, V.ref.injEq, HO.ins.injEq, HO.lst.injEq, HO.tup.injEq, HO.dK.injEq, exists_eq_left, exists_eq_left', exists_eq_right, exists_eq_right', exists_and_left, exists_and_right, true_and, and_true, and_self, if_true, if_false, Bool.false_eq_true, Bool.true_eq_false, eq_self, reduceCtorEq, false_and, and_false, upd_same, upd_upd, and_assoc, Int.reduceToNat, Int.reducePow, Int.reduceMul, Int.reduceAdd, Int.reduceNeg, mIsi, mIsi2, kdV_non, kdV_bl, kdV_int, kdV_str, kdV_ref, kdO_lst, kdO_tup, kdO_dK, V.ty.injEq, mAll, mAny, kit_NoneType_bool, kit_NoneType_int, kit_NoneType_str, kit_NoneType_list, kit_NoneType_tuple, kit_NoneType_dict, kit_bool_bool, kit_bool_int, kit_bool_str, kit_bool_list, kit_bool_tuple, kit_bool_dict, kit_int_bool, kit_int_int, kit_int_str, kit_int_list, kit_int_tuple, kit_int_dict, kit_str_bool, kit_str_int, kit_str_str, kit_str_list, kit_str_tuple, kit_str_dict, kit_list_bool, kit_list_int, kit_list_str, kit_list_list, kit_list_tuple, kit_list_dict, kit_tuple_bool, kit_tuple_int, kit_tuple_str, kit_tuple_list, kit_tuple_tuple, kit_tuple_dict, kit_dict_bool, kit_dict_int, kit_dict_str, kit_dict_list, kit_dict_tuple, kit_dict_dict, String.reduceEq, String.reduceNe, ne_eq, not_false_eq_true, not_true_eq_false, decide_false, decide_true, Bool.not_false, Bool.not_true, Bool.or_false, Bool.false_or, Bool.or_true, Bool.true_or, gTupH, wipe, tYes, exists_eq', exists_eq, exists_const, tFor_eq, tLc_eq, tCallX, tMethX, tRaiseOw, tMkOw, tFldOw, mIxA, mLenA, rInO, rNotInO, mLenO, rSetD, tM1, false_or, or_false, tInT, inV_nil, inV_str, flatV_str, flatV_int, flatV_non, mIntB, List.all_cons, List.all_nil, Bool.and_true, Bool.true_and, Bool.and_self, tDisp, tPairs, exk_nil, exk_str, leS0, leS1, leS2, leS3, leS4, leS5, leS6, leS7, leS8, leS9, leS10, leS11, leS12, Nat.reduceLeDiff, mBoolB, rEqNil]
  refine ⟨b, 5, n, l, rfl, hb, hB, by decide, by decide, by omega, fun r l1 r0 r1 hB1 => ?_⟩
  refine ⟨r, rfl, by omega, by omega, fun D hD => ?_⟩
  have nD : b ≠ D := ne_of_none upd_same hD
  have hD0 : H D = none := by rw [upd_ne nD.symm] at hD; exact hD
  refine loopC_it (n := r.toNat) walk_range (fun j H' => ∃ (cs : List Str) (lb' : List V), H' b = some (.lst lb') ∧ BagL lb' (n + 1 + j) ∧ H' D = some (.lst (cs.map V.str)) ∧ cs.length = j ∧ (∀ c ∈ cs, c.length = 1) ∧ Kp b H H') ⟨[], l1, ?_, hB1, upd_same, rfl, (fun c hc => nomatch hc), fun c o n h => ?_⟩ (fun _ _ _ _ => trivial) (fun j y H' H'' hj h hy => ?_) (fun H' h => ?_)
  · rw [upd_ne nD, upd_same]
  · rw [upd_ne (ne_of_none h hD0), upd_ne n]; exact h
  · obtain ⟨rfl, rfl⟩ := hy
    obtain ⟨cs, lb', hb', hB', hD', hc, h1, hk⟩ := h
    simp only [tSeq, tAsg, tRet, tRetN, tIfS, tDrop, tNext, tBreak, tCont, tVar, tC, tOp, tUn, tB, tTest, tAnd, tOr, tNot, tAndV, tOrV, tNotV, tIf, tNil, tCons, tTup, tLst, tCB, tCallR, tMethR, tPropR, StX.tMakeR, tFld, sFld, sFldAug, tPar, tPar3, gName, gNil, gCons, gTup, gSub, rI, rI0, rU, rEq, rNe, mIxL, mIxT, mLenL, mLenT, mLenS, mLenD, mLenK, mList, mTupL, mInt, mAbs, mMax, mMin, mStr, mAddS, mIsN, mNotN, rIxS, rIxL, rSetL, rAppend, rExtendT, rPopAt, rCat, rIn, tBM, tBM0, tChain, tNever, scal, L2.start, cxK, iRng1, iRng2, tDNewK, tDGet, tDGet2, sDPut, tDIn, tDNotIn, DGet_dk, DPut_dk, IsD_dk, tyV_list, isLst_lst, isDk_dk, dkOf_dk, atI_0, atI_1, atI_2, atI_3, ixN_30, ixN_31, ixN_32, List.map, List.replicate, List.length_cons, List.length_nil, List.nil_append, List.cons_append, List.append_nil, Nat.reduceSub, Nat.reduceAdd, List.getElem?_cons_zero, List.getElem?_cons_succ, List.set_cons_zero, List.set_cons_succ, List.cons.injEq, Option.some.injEq, V.int.injEq, V.str.injEq, V.bl.injEq, V.ref.injEq, HO.ins.injEq, HO.lst.injEq, HO.tup.injEq, HO.dK.injEq, exists_eq_left, exists_eq_left', exists_eq_right, exists_eq_right', exists_and_left, exists_and_right, true_and, and_true, and_self, if_true, if_false, Bool.false_eq_true, Bool.true_eq_false, eq_self, reduceCtorEq, false_and, and_false, upd_same, upd_upd, and_assoc, Int.reduceToNat, Int.reducePow, Int.reduceMul, Int.reduceAdd, Int.reduceNeg, mIsi, mIsi2, kdV_non, kdV_bl, kdV_int, kdV_str, kdV_ref, kdO_lst, kdO_tup, kdO_dK, V.ty.injEq, mAll, mAny, kit_NoneType_bool, kit_NoneType_int, kit_NoneType_str, kit_NoneType_list, kit_NoneType_tuple, kit_NoneType_dict, kit_bool_bool, kit_bool_int, kit_bool_str, kit_bool_list, kit_bool_tuple, kit_bool_dict, kit_int_bool, kit_int_int, kit_int_str, kit_int_list, kit_int_tuple, kit_int_dict, kit_str_bool, kit_str_int, kit_str_str, kit_str_list, kit_str_tuple, kit_str_dict, kit_list_bool, kit_list_int, kit_list_str, kit_list_list, kit_list_tuple, kit_list_dict, kit_tuple_bool, kit_tuple_int, kit_tuple_str, kit_tuple_list, kit_tuple_tuple, kit_tuple_dict, kit_dict_bool, kit_dict_int, kit_dict_str, kit_dict_list, kit_dict_tuple, kit_dict_dict, String.reduceEq, String.reduceNe, ne_eq, not_false_eq_true, not_true_eq_false, decide_false, decide_true, Bool.not_false, Bool.not_true, Bool.or_false, Bool.false_or, Bool.or_true, Bool.true_or, gTupH, wipe, tYes, exists_eq', exists_eq, exists_const, tFor_eq, tLc_eq, tCallX, tMethX, tRaiseOw, tMkOw, tFldOw, mIxA, mLenA, rInO, rNotInO, mLenO, rSetD, tM1, false_or, or_false, tInT, inV_nil, inV_str, flatV_str, flatV_int, flatV_non, mIntB, List.all_cons, List.all_nil, Bool.and_true, Bool.true_and, Bool.and_self, tDisp, tPairs, exk_nil, exk_str, leS0, leS1, leS2, leS3, leS4, leS5, leS6, leS7, leS8, leS9, leS10, leS11, leS12, Nat.reduceLeDiff, mBoolB, rEqNil]
    refine ⟨_, lb', hb', hB', by omega, by decide, by decide, fun c l2 hB2 => ?_⟩
    refine ⟨cs.map V.str, by rw [upd_ne nD.symm]; exact hD', ?_, cs ++ [⟨#[c]⟩], l2, by rw [upd_ne nD, upd_same], hB2, by rw [List.map_append]; rfl, by simp [hc], ?_, fun c o n h => ?_⟩
    · rw [List.length_map]; exact Nat.lt_of_lt_of_le (show cs.length < 100 by omega) (by decide)
    · intro c' hc'
      rcases List.mem_append.mp hc' with h | h
      · exact h1 _ h
      · rw [List.mem_singleton.mp h]; rfl
    · rw [upd_ne (ne_of_none h hD0), upd_ne n]; exact hk _ _ n h
  · obtain ⟨cs, lb', hb', hB', hD', hc, h1, hk⟩ := h
    refine ⟨cs, .inl (SqL.of hD'), ?_, k _ _ H' (bag_up hB' (by omega)) hb' hk⟩
    rw [sum_ones cs h1, show (Str.ofString "").length = 0 from rfl]; omega
mutual
def noL : PyData → Bool
  | .list _ => false
  | .dict _ => false
  | .tuple ds => noLs ds
  | .none => true
  | .bool _ => true
  | .int _ => true
  | .str _ => true
def noLs : List PyData → Bool
  | [] => true
  | d :: ds => noL d && noLs ds
end
/-- tuples are kept -/
def TupK (H H' : Hp) : Prop := ∀ t xs, H t = some (.tup xs) → H' t = some (.tup xs)
mutual
theorem Da_tk {H H' : Hp} (s : TupK H H') : ∀ (d : PyData) (v : V), noL d = true → Da H v d → Da H' v d
  | .none, _, _, h => by cases h; exact .non
  | .bool b, _, _, h => by cases h; exact .bl b
  | .int i, _, _, h => by cases h; exact .int i
  | .str x, _, _, h => by cases h; exact .str x
  | .list ds, _, n, h => by cases n
  | .tuple ds, _, n, h => by
    cases h with
    | tup e k => exact .tup (s _ _ e) (DaAll_tk s ds _ (by rw [noL] at n; exact n) k)
  | .dict _, _, n, h => by cases n
theorem DaAll_tk {H H' : Hp} (s : TupK H H') : ∀ (ds : List PyData) (vs : List V), noLs ds = true → DaAll H vs ds → DaAll H' vs ds
  | [], _, _, h => by cases h; exact .nil
  | d :: ds, _, n, h => by
    rw [noLs] at n
    obtain ⟨n1, n2⟩ := Bool.and_eq_true_iff.mp n
    cases h with
    | cons a b => exact .cons (Da_tk s d _ n1 a) (DaAll_tk s ds _ n2 b)
end
theorem TupK.kp {b : Addr} {H H' : Hp} {l : List V} (hb : H b = some (.lst l)) (k : Kp b H H') : TupK H H' := fun t xs h => k _ _ (fun e => by rw [e, hb] at h; cases h) h
theorem TupK.kpd {b : Addr} {H H' : Hp} {l : List (Key × V)} (hb : H b = some (.dK l)) (k : Kp b H H') : TupK H H' := fun t xs h => k _ _ (fun e => by rw [e, hb] at h; cases h) h
theorem TupK.line {K : PySem.W.Frag} {a l : Addr} {H H' : Hp} {S : LS} (hL : LineAt K H a l S) (k : Kp2 a l H H') : TupK H H' := fun t xs h => by
  obtain ⟨dx, ha⟩ := hL.ob
  exact k _ _ (fun e => by rw [e, ha] at h; cases h) (fun e => by rw [e, hL.qu] at h; cases h) h
/-- a line, its book, the source b -/
structure Wd (K : PySem.W.Frag) (H0 H : Hp) (b a l d lq : Addr) (S : LS) (g : V) (n : Nat) : Prop where
  L : LineAt K H a l S
  N : NowAt H d lq S g
  G : GoodS S
  dc : ∃ dc, Da H S.c dc ∧ dpt 4 dc = true ∧ noL dc = true
  bag : ∃ lb, H b = some (.lst lb) ∧ BagL lb n
  nl : b ≠ l
  nq : b ≠ lq
  lq' : l ≠ lq
  fr : Kp b H0 H
  fa : H0 a = none
  fl : H0 l = none
  fd : H0 d = none
theorem Wd.na {K : PySem.W.Frag} {H0 H : Hp} {b a l d lq : Addr} {S : LS} {g : V} {n : Nat} (W : Wd K H0 H b a l d lq S g n) : b ≠ a ∧ b ≠ d ∧ a ≠ d ∧ a ≠ lq ∧ d ≠ l := by
  obtain ⟨dx, ha⟩ := W.L.ob
  obtain ⟨lb, hb, _⟩ := W.bag
  refine ⟨fun e => ?_, fun e => ?_, fun e => ?_, fun e => ?_, fun e => ?_⟩
  · rw [e, ha] at hb; cases hb
  · have := W.N.ob; rw [← e, hb] at this; cases this
  · have := W.N.ob; rw [← e, ha] at this; cases this
  · have := W.N.qu; rw [← e, ha] at this; cases this
  · have := W.N.ob; rw [e, W.L.qu] at this; cases this
/-- the source moves, all else is kept -/
theorem Wd.kp {K : PySem.W.Frag} {H0 H H' : Hp} {b a l d lq : Addr} {S : LS} {g : V} {n m : Nat} {lb : List V} (W : Wd K H0 H b a l d lq S g n) (k : Kp b H H') (hb : H' b = some (.lst lb)) (hB : BagL lb m) : Wd K H0 H' b a l d lq S g m := by
  obtain ⟨e1, e2, e3, e4, e5⟩ := W.na
  obtain ⟨dx, ha⟩ := W.L.ob
  obtain ⟨lb0, hb0, _⟩ := W.bag
  obtain ⟨dc, c1, c2, c3⟩ := W.dc
  exact ⟨⟨⟨dx, k _ _ e1.symm ha⟩, k _ _ W.nl.symm W.L.qu, W.L.ne, W.L.sz⟩, ⟨k _ _ e2.symm W.N.ob, k _ _ W.nq.symm W.N.qu, W.N.ne, W.N.gg⟩, W.G, ⟨dc, Da_tk (TupK.kp hb0 k) _ _ c3 c1, c2, c3⟩, ⟨lb, hb, hB⟩, W.nl, W.nq, W.lq', W.fr.trans k, W.fa, W.fl, W.fd⟩
theorem Wd.same {K : PySem.W.Frag} {H0 H H' : Hp} {b a l d lq : Addr} {S : LS} {g : V} {n : Nat} (W : Wd K H0 H b a l d lq S g n) (s : Same H H') : Wd K H0 H' b a l d lq S g n := by
  obtain ⟨lb, hb, hB⟩ := W.bag
  exact W.kp (Kp.of s) (s _ _ hb) hB
/-- what the book said must be said by the line, too: the two steps -/
theorem Wd.step {K : PySem.W.Frag} {H0 H H1 H2 : Hp} {b a l d lq l' lq2 : Addr} {S S' : LS} {g g' : V} {n : Nat} (W : Wd K H0 H b a l d lq S g n) (hN : NowAt H1 d lq2 S' g') (k1 : Kp d H H1) (q1 : lq2 = lq ∨ H lq2 = none) (hL : LineAt K H2 a l' S') (k2 : Kp2 a l H1 H2) (q2 : l' = l ∨ H1 l' = none) (hG : GoodS S')
    (hc : ∃ dc, Da H S'.c dc ∧ dpt 4 dc = true ∧ noL dc = true) : Wd K H0 H2 b a l' d lq2 S' g' n := by
  obtain ⟨e1, e2, e3, e4, e5⟩ := W.na
  obtain ⟨dx, ha⟩ := W.L.ob
  obtain ⟨lb0, hb0, hB0⟩ := W.bag
  obtain ⟨dc, c1, c2, c3⟩ := hc
  have hb1 := k1 _ _ e2 hb0
  have L1 : LineAt K H1 a l S := ⟨⟨dx, k1 _ _ e3 ha⟩, k1 _ _ e5.symm W.L.qu, W.L.ne, W.L.sz⟩
  have na2 : lq2 ≠ a := by
    rcases q1 with rfl | q1
    · exact e4.symm
    · exact (ne_of_none ha q1).symm
  have nl2 : lq2 ≠ l := by
    rcases q1 with rfl | q1
    · exact W.lq'.symm
    · exact (ne_of_none W.L.qu q1).symm
  have hN2 : NowAt H2 d lq2 S' g' := ⟨k2 _ _ e3.symm e5 hN.ob, k2 _ _ na2 nl2 hN.qu, hN.ne, hN.gg⟩
  refine ⟨hL, hN2, hG, ⟨dc, Da_tk (TupK.line L1 k2) _ _ c3 (Da_tk (TupK.kpd W.N.ob k1) _ _ c3 c1), c2, c3⟩, ⟨lb0, k2 _ _ e1 W.nl hb1, hB0⟩, ?_, ?_, ?_, fun c o n h => ?_, W.fa, ?_, W.fd⟩
  · rcases q2 with rfl | q2
    · exact W.nl
    · exact ne_of_none hb1 q2
  · rcases q1 with rfl | q1
    · exact W.nq
    · exact ne_of_none hb0 q1
  · rcases q2 with rfl | q2
    · exact nl2.symm
    · exact (ne_of_none hN.qu q2).symm
  · exact k2 _ _ (ne_of_none h W.fa) (ne_of_none h W.fl) (k1 _ _ (ne_of_none h W.fd) (W.fr _ _ n h))
  · rcases q2 with rfl | q2
    · exact W.fl
    · cases q : H0 l' with
      | none => rfl
      | some o =>
        have nb : l' ≠ b := (ne_of_none hb1 q2).symm
        have hh := W.fr _ _ nb q
        rw [k1 _ _ (ne_of_none q W.fd) hh] at q2; cases q2

end K31

set_option Elab.async false
set_option linter.all false
set_option maxRecDepth 100000
set_option maxHeartbeats 4000000
namespace K31
open PySem PySem.Spec PyProof.Rows L2 My
def wds : List V := [.str "ask", .str "ask", .str "ask", .str "begin", .str "finish", .str "read", .str "read", .str "head", .str "body", .str "drain", .str "read", .str "ask"]
theorem wds_W8 {v : V} (h : v ∈ wds) : ∃ w, v = .str w ∧ W8 w := by
  simp only [wds, List.mem_cons, List.not_mem_nil, or_false] at h
  rcases h with rfl | rfl | rfl | rfl | rfl | rfl | rfl | rfl | rfl | rfl | rfl | rfl <;> exact ⟨_, rfl, by simp [W8]⟩
def HInv (K : PySem.W.Frag) (H0 : Hp) (b a d wl : Addr) (nn : Int) (i : Nat) (σ : L2.St) (H' : Hp) : Prop := ∃ (l lq : Addr) (S : LS) (g : V) (v5 v6 v7 v8 v9 v10 : Option V), σ = [some (.ref b), some (.int nn), some (.ref a), some (.ref d), some (.ref wl), v5, v6, v7, v8, v9, v10] ∧
  Wd K H0 H' b a l d lq S g (10 + 50 * i) ∧ H' wl = some (.lst wds) ∧ wl ≠ b ∧ wl ≠ l ∧ S.q.length ≤ 10 * i
def sp_l_holds (K : PySem.W.Frag) : Sp := fun vs H Q _ => ∃ (b : Addr) (l : List V), vs = [.ref b] ∧ H b = some (.lst l) ∧ BagL l 0 ∧ ∀ H', Kp b H H' → Q (.bl true) H'
theorem start_ok {K : PySem.W.Frag} {H H2 H3 H4 : Hp} {b x d q l : Addr} {nn : Int} {lb : List V} {dx : Addr} {o1 o2 : HO} (hb2 : H2 b = some (.lst lb)) (hB : BagL lb 2) (hk : Kp b H H2) (hx : H2 x = none) (hdx : H2 dx = none)
    (hl : upd (upd H2 dx o1) x o2 l = none) (L3 : LineAt K H3 x l (newS nn)) (k3 : Kp x (upd (upd H2 dx o1) x o2) H3) (hd : H3 d = none) (hq : H3 q = none) (hdq : d ≠ q) (N4 : H4 d = some (.dK (nowL (.int nn) .non (.str "whole") (.ref q) .non))) (Q4 : H4 q = some (.lst [])) (s4 : Same H3 H4) :
    Wd K H H4 b x l d q (newS nn) .non 2 := by
  have s2 : Same H2 (upd (upd H2 dx o1) x o2) := by
    by_cases e : x = dx
    · subst e
      intro c o h
      rw [upd_ne (ne_of_none h hx), upd_ne (ne_of_none h hx)]; exact h
    · exact Same.upd_new (Same.new hdx) (by rw [upd_ne e]; exact hx)
  have nbx : b ≠ x := ne_of_none hb2 hx
  have hb3 : H3 b = some (.lst lb) := k3 _ _ nbx (s2 _ _ hb2)
  obtain ⟨dx', hx'⟩ := L3.ob
  have none0 : ∀ c, H2 c = none → c ≠ b → H c = none := fun c h n => by
    cases e : H c with
    | none => rfl
    | some o => rw [hk _ _ n e] at h; cases h
  have l2 : H2 l = none := none_of s2 hl
  have d2 : H2 d = none := by
    cases e : H2 d with
    | none => rfl
    | some o =>
      have : d ≠ x := fun z => by rw [z, hx'] at hd; cases hd
      rw [k3 _ _ this (s2 _ _ e)] at hd; cases hd
  refine ⟨L3.same s4, ⟨N4, Q4, hdq, fun z => by cases z⟩, ⟨.inl rfl, fun z => by cases z⟩, ⟨.none, .non, rfl, rfl⟩, ⟨lb, s4 _ _ hb3, hB⟩, ne_of_none hb2 l2, ne_of_none hb3 hq, ne_of_none L3.qu hq, fun c o n h => ?_, none0 _ hx nbx.symm, none0 _ l2 (ne_of_none hb2 l2).symm, none0 _ d2 (ne_of_none hb2 d2).symm⟩
  have h2 := hk _ _ n h
  exact s4 _ _ (k3 _ _ (ne_of_none h2 hx) (s2 _ _ h2))
theorem Wd.up {K : PySem.W.Frag} {H0 H : Hp} {b a l d lq : Addr} {S : LS} {g : V} {n m : Nat} (W : Wd K H0 H b a l d lq S g n) (h : n ≤ m) : Wd K H0 H b a l d lq S g m := by
  obtain ⟨lb, hb, hB⟩ := W.bag
  exact W.kp (Kp.refl H) hb (bag_up hB h)
theorem Wd.put {K : PySem.W.Frag} {H0 H : Hp} {b a l d lq D : Addr} {S : LS} {g : V} {n : Nat} {xs ys : List V} (W : Wd K H0 H b a l d lq S g n) (hD : H D = some (.lst xs)) (n1 : D ≠ b) (n2 : D ≠ l) (n3 : D ≠ lq) (h0 : H0 D = none) : Wd K H0 (upd H D (.lst ys)) b a l d lq S g n := by
  obtain ⟨dx, ha⟩ := W.L.ob
  obtain ⟨lb, hb, hB⟩ := W.bag
  obtain ⟨dc, c1, c2, c3⟩ := W.dc
  have na : D ≠ a := fun e => by rw [e, ha] at hD; cases hD
  have nd : D ≠ d := fun e => by rw [e, W.N.ob] at hD; cases hD
  refine ⟨W.L.frame na n2, ⟨by rw [upd_ne nd.symm]; exact W.N.ob, by rw [upd_ne n3.symm]; exact W.N.qu, W.N.ne, W.N.gg⟩, W.G, ⟨dc, Da_tk (fun t xs h => ?_) _ _ c3 c1, c2, c3⟩, ⟨lb, by rw [upd_ne n1.symm]; exact hb, hB⟩, W.nl, W.nq, W.lq', fun c o n h => ?_, W.fa, W.fl, W.fd⟩
  · rw [upd_ne (fun e => by rw [e, hD] at h; cases h)]; exact h
  · rw [upd_ne (ne_of_none h h0)]; exact W.fr _ _ n h
theorem dpt_tup2 {a : Str} {d : PyData} (h : dpt 3 d = true) : dpt 4 (.tuple [.str a, d]) = true := by
  rw [dpt, dpts, dpts, dpts, h, dpt]; rfl
theorem dpt_step {w : Str} {S : LS} (hz : S.q.length ≤ 100000) : dpt 4 (stepR w S) = true := by
  unfold stepR
  split
  · exact dpt_tup2 (by rw [dpt])
  split
  · exact dpt_tup2 (dpt_strs 2 hz)
  split
  · refine dpt_tup2 ?_
    split <;> rw [dpt]
  · rename_i h
    rcases rf_cases w S.m (S.q.length : Int) with e | e | e | e
    · exact absurd e h
    all_goals
      rw [e]
      refine dpt_tup2 ?_
      split <;> rw [dpt]
theorem R_l_holds {w : World} {K : PySem.W.Frag} {mg : Str → Option Value} {base : Heap} (T : Tx K mg) : FnR Pg w K mg base CX0 17 (He.ga K "_law_holds") (sp_l_holds K) := by
  obtain ⟨fd, F⟩ := T.d_l_holds
  refine My.FunD.R F sc_l_holds (fun vs H Q E h => by obtain ⟨b, lb, rfl, hb, hB, k⟩ := h; rfl) (fun _ _ _ _ _ _ us hl => match us, hl with | [_], _ => rfl) (fun cdv A outer s H vs Q E hr h => ?_)
  obtain ⟨b, lb, rfl, hb, hB, k⟩ := h
  refine ⟨_, (pss_cons (ps_set (i := 1) sc_l_holds.nd rfl (by first | exact Or.inl rfl | exact Or.inr rfl) (pe_op op_mul (pe_callR (R_l_draw T) (hr.mono (by decide)) rfl T.g__law_draw T.k__law_draw pass0 (pa_cons (pv 0) (pa_cons (pe_op op_powW pe_int pe_int) pa_nil))) (pe_callR (R_l_draw T) (hr.mono (by decide)) rfl T.g__law_draw T.k__law_draw pass0 (pa_cons (pv 0) (pa_cons pe_int pa_nil)))))
      (pss_cons (ps_par (i := 2) (j := 3) (by rfl) sc_l_holds.nd rfl rfl (by decide) rfl rfl (pa_cons (pe_ifExp (pt_cmpR op_gt (pv 1) pe_int (nomark _)) (StX.pe_makeR T.m_Line (R_Line_init1 T) (hr.mono (by decide)) rfl T.g_Line pass0 (pa_cons (pv 1) pa_nil)) (pe_makeR0 T.m_Line (R_Line_init0 T) (hr.mono (by decide)) rfl T.g_Line pass0)) (pa_cons (pe_callR (R_l_new T) (hr.mono (by decide)) rfl T.g__law_new T.k__law_new pass0 (pa_cons (pv 1) pa_nil)) pa_nil)) (by rfl))
      (pss_cons (ps_set (i := 4) sc_l_holds.nd rfl (by first | exact Or.inl rfl | exact Or.inr rfl) (pe_lst (pa_cons pe_str (pa_cons pe_str (pa_cons pe_str (pa_cons pe_str (pa_cons pe_str (pa_cons pe_str (pa_cons pe_str (pa_cons pe_str (pa_cons pe_str (pa_cons pe_str (pa_cons pe_str (pa_cons pe_str pa_nil))))))))))))))
      (pss_cons (ps_for PassesOwn.never rfl (pi_range1 rfl T.n_range (pa_cons (pe_op op_add pe_int (pe_callR (R_l_draw T) (hr.mono (by decide)) rfl T.g__law_draw T.k__law_draw pass0 (pa_cons (pv 0) (pa_cons pe_int pa_nil)))) pa_nil)) (pg_name (i := 5) sc_l_holds.nd rfl (by first | exact Or.inl rfl | exact Or.inr rfl)) (pss_cons (ps_set (i := 6) sc_l_holds.nd rfl (by first | exact Or.inl rfl | exact Or.inr rfl) (pe_ifExp (pt_cmpR op_eq (pe_callR (R_l_draw T) (hr.mono (by decide)) rfl T.g__law_draw T.k__law_draw pass0 (pa_cons (pv 0) (pa_cons pe_int pa_nil))) pe_int (nomark _)) pe_str (pe_callR (R_l_of T) (hr.mono (by decide)) rfl T.g__law_of T.k__law_of pass0 (pa_cons (pv 0) (pa_cons (pv 4) pa_nil)))))
      (pss_cons (ps_set (i := 7) sc_l_holds.nd rfl (by first | exact Or.inl rfl | exact Or.inr rfl) (pe_op op_cat (pe_lc (own := [("_law_place", 10)]) (g := gName 10) (tt := tYes) rfl sc_l_holds.nd (pi_range1 rfl T.n_range (pa_cons (pe_callR (R_l_draw T) (hr.mono (by decide)) rfl T.g__law_draw T.k__law_draw pass0 (pa_cons (pv 0) (pa_cons pe_int pa_nil))) pa_nil)) (blkOk_by (own := [("_law_place", 10)]) (N := ["_law_source_here", "_law_number", "_law_line", "_law_now", "_law_words", "_law_turn", "_law_word", "_law_tags", "_law_why", "_law_due_here", "_law_place"]) (sc := defScope s_l_holds) (by decide +kernel)) (fun _ _ _ _ _ => by exact (pg_name (i := 10) sc_l_holds.nd rfl (by first | exact Or.inl rfl | exact Or.inr rfl))) (fun _ _ _ _ _ => by exact pts_nil) (fun _ _ _ _ _ => by exact (pe_callR (R_l_tag T) (hr.mono (by decide)) rfl T.g__law_tag T.k__law_tag pass0 (pa_cons (pv 0) pa_nil)))) (pe_op op_rep (pe_lst (pa_cons (pe_callR (R_l_tag T) (hr.mono (by decide)) rfl T.g__law_tag T.k__law_tag pass0 (pa_cons (pv 0) pa_nil)) pa_nil)) (pe_callTy intB (by rfl) T.n_int (by decide +kernel) (pa_cons (pe_cmpR op_eq (pv 6) pe_str (nomark _)) pa_nil)))))
      (pss_cons (ps_set (i := 8) sc_l_holds.nd rfl (by first | exact Or.inl rfl | exact Or.inr rfl) (pe_callR (R_l_of T) (hr.mono (by decide)) rfl T.g__law_of T.k__law_of pass0 (pa_cons (pv 0) (pa_cons (pe_lst (pa_cons pe_non (pa_cons pe_str (pa_cons (pe_tup (pa_cons pe_str (pa_cons (pv 5) pa_nil))) pa_nil)))) pa_nil))))
      (pss_cons (ps_set (i := 9) sc_l_holds.nd rfl (by first | exact Or.inl rfl | exact Or.inr rfl) (pe_callR (R_l_due T) (hr.mono (by decide)) rfl T.g__law_due T.k__law_due pass0 (pa_cons (pv 3) (pa_cons (pv 6) (pa_cons (pv 7) (pa_cons (pv 8) pa_nil))))))
      (pss_cons (ps_if (pt_not (pt_val (pe_callR (R_l_same T) (hr.mono (by decide)) rfl T.g__law_same T.k__law_same pass0 (pa_cons (pe_callR (R_l_call T) (hr.mono (by decide)) rfl T.g__law_call T.k__law_call pass0 (pa_cons (pv 2) (pa_cons (pv 6) (pa_cons (pv 7) (pa_cons (pv 8) pa_nil))))) (pa_cons (pv 9) pa_nil))))) (pss_one (ps_ret pe_bl)) pss_nil)
      (pss_one (ps_if (pt_not (pt_val (pe_callR (R_l_stands T) (hr.mono (by decide)) rfl T.g__law_stands T.k__law_stands pass0 (pa_cons (pv 2) (pa_cons (pv 3) (pa_cons (pe_callR (R_l_of T) (hr.mono (by decide)) rfl T.g__law_of T.k__law_of pass0 (pa_cons (pv 0) (pa_cons (pe_op op_cat (pe_dget (hu_of hr) (pv 3) pe_str (fun _ _ => rfl)) (pe_lst (pa_cons (pe_callR (R_l_tag T) (hr.mono (by decide)) rfl T.g__law_tag T.k__law_tag pass0 (pa_cons (pv 0) pa_nil)) pa_nil))) pa_nil))) pa_nil)))))) (pss_one (ps_ret pe_bl)) pss_nil))))))))
      (pss_one (ps_ret pe_bl)))))), ?_⟩
  simp only [tSeq, tAsg, tRet, tRetN, tIfS, tDrop, tNext, tBreak, tCont, tVar, tC, tOp, tUn, tB, tTest, tAnd, tOr, tNot, tAndV, tOrV, tNotV, tIf, tNil, tCons, tTup, tLst, tCB, tCallR, tMethR, tPropR, StX.tMakeR, tFld, sFld, sFldAug, tPar, tPar3, gName, gNil, gCons, gTup, gSub, rI, rI0, rU, rEq, rNe, mIxL, mIxT, mLenL, mLenT, mLenS, mLenD, mLenK, mList, mTupL, mInt, mAbs, mMax, mMin, mStr, mAddS, mIsN, mNotN, rIxS, rIxL, rSetL, rAppend, rExtendT, rPopAt, rCat, rIn, tBM, tBM0, tChain, tNever, scal, L2.start, cxK, iRng1, iRng2, tDNewK, tDGet, tDGet2, sDPut, tDIn, tDNotIn, DGet_dk, DPut_dk, IsD_dk, tyV_list, isLst_lst, isDk_dk, dkOf_dk, atI_0, atI_1, atI_2, atI_3, ixN_30, ixN_31, ixN_32, List.map, List.replicate, List.length_cons, List.length_nil, List.nil_append, List.cons_append, List.append_nil, Nat.reduceSub, Nat.reduceAdd, List.getElem?_cons_zero, List.getElem?_cons_succ, List.set_cons_zero, List.set_cons_succ, List.cons.injEq, Option.some.injEq, V.int.injEq, V.str.injEq, V.bl.injEq, V.ref.injEq, HO.ins.injEq, HO.lst.injEq, HO.tup.injEq, HO.dK.injEq, exists_eq_left, exists_eq_left', exists_eq_right, exists_eq_right', exists_and_left, exists_and_right, true_and, and_true, and_self, if_true, if_false, Bool.false_eq_true, Bool.true_eq_false, eq_self, reduceCtorEq, false_and, and_false, upd_same, upd_upd, and_assoc, Int.reduceToNat, Int.reducePow, Int.reduceMul, Int.reduceAdd, Int.reduceNeg, mIsi, mIsi2, kdV_non, kdV_bl, kdV_int, kdV_str, kdV_ref, kdO_lst, kdO_tup, kdO_dK, V.ty.injEq, mAll, mAny, kit_NoneType_bool, kit_NoneType_int, kit_NoneType_str, kit_NoneType_list, kit_NoneType_tuple, kit_NoneType_dict, kit_bool_bool, kit_bool_int, kit_bool_str, kit_bool_list, kit_bool_tuple, kit_bool_dict, kit_int_bool, kit_int_int, kit_int_str, kit_int_list, kit_int_tuple, kit_int_dict, kit_str_bool, kit_str_int, kit_str_str, kit_str_list, kit_str_tuple, kit_str_dict, kit_list_bool, kit_list_int, kit_list_str, kit_list_list, kit_list_tuple, kit_list_dict, kit_tuple_bool, kit_tuple_int, kit_tuple_str, kit_tuple_list, kit_tuple_tuple, kit_tuple_dict, kit_dict_bool, kit_dict_int, kit_dict_str, kit_dict_list, kit_dict_tuple, kit_dict_dict, String.reduceEq, String.reduceNe, ne_eq, not_false_eq_true, not_true_eq_false, decide_false, decide_true, Bool.not_false, Bool.not_true, Bool.or_false, Bool.false_or, Bool.or_true, Bool.true_or, gTupH, wipe, tYes, exists_eq', exists_eq, exists_const, tFor_eq, tLc_eq, tCallX, tMethX, tRaiseOw, tMkOw, tFldOw, mIxA, mLenA, rInO, rNotInO, mLenO, rSetD, tM1, false_or, or_false, tInT, inV_nil, inV_str, flatV_str, flatV_int, flatV_non, mIntB, List.all_cons, List.all_nil, Bool.and_true, Bool.true_and, Bool.and_self, tDisp, tPairs, exk_nil, exk_str, leS0, leS1, leS2, leS3, leS4, leS5, leS6, leS7, leS8, leS9, leS10, leS11, leS12, Nat.reduceLeDiff, mBoolB, rEqNil]
  refine ⟨cpow (by decide) (by decide) (by decide) (by decide), b, _, 0, lb, rfl, hb, hB, by decide, by decide, by decide, fun r1 lb1 r10 r11 hB1 => ?_⟩
  refine ⟨b, _, 1, lb1, rfl, upd_same, hB1, by decide, by decide, by decide, fun r2 lb2 r20 r21 hB2 => ?_⟩
  simp only [tSeq, tAsg, tRet, tRetN, tIfS, tDrop, tNext, tBreak, tCont, tVar, tC, tOp, tUn, tB, tTest, tAnd, tOr, tNot, tAndV, tOrV, tNotV, tIf, tNil, tCons, tTup, tLst, tCB, tCallR, tMethR, tPropR, StX.tMakeR, tFld, sFld, sFldAug, tPar, tPar3, gName, gNil, gCons, gTup, gSub, rI, rI0, rU, rEq, rNe, mIxL, mIxT, mLenL, mLenT, mLenS, mLenD, mLenK, mList, mTupL, mInt, mAbs, mMax, mMin, mStr, mAddS, mIsN, mNotN, rIxS, rIxL, rSetL, rAppend, rExtendT, rPopAt, rCat, rIn, tBM, tBM0, tChain, tNever, scal, L2.start, cxK, iRng1, iRng2, tDNewK, tDGet, tDGet2, sDPut, tDIn, tDNotIn, DGet_dk, DPut_dk, IsD_dk, tyV_list, isLst_lst, isDk_dk, dkOf_dk, atI_0, atI_1, atI_2, atI_3, ixN_30, ixN_31, ixN_32, List.map, List.replicate, List.length_cons, List.length_nil, List.nil_append, List.cons_append, List.append_nil, Nat.reduceSub, Nat.reduceAdd, List.getElem?_cons_zero, List.getElem?_cons_succ, List.set_cons_zero, List.set_cons_succ, List.cons.injEq, Option.some.injEq, V.int.injEq, V.str.injEq, V.bl.injEq, V.ref.injEq, HO.ins.injEq, HO.lst.injEq, HO.tup.injEq, HO.dK.injEq, exists_eq_left, exists_eq_left', exists_eq_right, exists_eq_right', exists_and_left, exists_and_right, true_and, and_true, and_self, if_true, if_false, Bool.false_eq_true, Bool.true_eq_false, eq_self, reduceCtorEq, false_and, and_false, upd_same, upd_upd, and_assoc, Int.reduceToNat, Int.reducePow, Int.reduceMul, Int.reduceAdd, Int.reduceNeg, mIsi, mIsi2, kdV_non, kdV_bl, kdV_int, kdV_str, kdV_ref, kdO_lst, kdO_tup, kdO_dK, V.ty.injEq, mAll, mAny, kit_NoneType_bool, kit_NoneType_int, kit_NoneType_str, kit_NoneType_list, kit_NoneType_tuple, kit_NoneType_dict, kit_bool_bool, kit_bool_int, kit_bool_str, kit_bool_list, kit_bool_tuple, kit_bool_dict, kit_int_bool, kit_int_int, kit_int_str, kit_int_list, kit_int_tuple, kit_int_dict, kit_str_bool, kit_str_int, kit_str_str, kit_str_list, kit_str_tuple, kit_str_dict, kit_list_bool, kit_list_int, kit_list_str, kit_list_list, kit_list_tuple, kit_list_dict, kit_tuple_bool, kit_tuple_int, kit_tuple_str, kit_tuple_list, kit_tuple_tuple, kit_tuple_dict, kit_dict_bool, kit_dict_int, kit_dict_str, kit_dict_list, kit_dict_tuple, kit_dict_dict, String.reduceEq, String.reduceNe, ne_eq, not_false_eq_true, not_true_eq_false, decide_false, decide_true, Bool.not_false, Bool.not_true, Bool.or_false, Bool.false_or, Bool.or_true, Bool.true_or, gTupH, wipe, tYes, exists_eq', exists_eq, exists_const, tFor_eq, tLc_eq, tCallX, tMethX, tRaiseOw, tMkOw, tFldOw, mIxA, mLenA, rInO, rNotInO, mLenO, rSetD, tM1, false_or, or_false, tInT, inV_nil, inV_str, flatV_str, flatV_int, flatV_non, mIntB, List.all_cons, List.all_nil, Bool.and_true, Bool.true_and, Bool.and_self, tDisp, tPairs, exk_nil, exk_str, leS0, leS1, leS2, leS3, leS4, leS5, leS6, leS7, leS8, leS9, leS10, leS11, leS12, Nat.reduceLeDiff, mBoolB, rEqNil]
  refine ⟨cmulR r20 (by omega), ?_⟩
  have hnn : 0 ≤ r1 * r2 := Int.mul_nonneg r10 r20
  generalize r1 * r2 = nn at hnn ⊢
  have hb2 : upd H b (.lst lb2) b = some (.lst lb2) := upd_same
  have hk2 : Kp b H (upd H b (.lst lb2)) := Kp.put
  generalize upd H b (.lst lb2) = H2 at hb2 hk2 ⊢
  refine ite_dec (fun h0 => ?_) (fun h0 => ?_)
  rotate_left
  · obtain rfl : nn = 0 := by omega
    intro x dx hx hdx hne
    refine ⟨x, dx, 0, rfl, upd_same, fun H3 l hl L3 k3 => ⟨rfl, 0, rfl, fun H4 d q hd hq hdq N4 Q4 s4 p hp => ?_⟩⟩
    have W := start_ok hb2 hB2 hk2 hx hdx hl L3 k3 hd hq hdq N4 Q4 s4
    have Wp := W.same (Same.new hp (o := .lst wds))
    obtain ⟨lb5, hb5, hB5⟩ := Wp.bag
    have npb : p ≠ b := by
      obtain ⟨lb5, hb5, hB5⟩ := W.bag
      exact (ne_of_none hb5 hp).symm
    have npl : p ≠ l := (ne_of_none W.L.qu hp).symm
    refine ⟨b, 44, 2, lb5, rfl, hb5, hB5, by decide, by decide, by decide, fun r3 lb6 r30 r31 hB6 => ?_⟩
    refine ⟨r3, rfl, by omega, by omega, loop_it (n := (4 + r3).toNat) walk_range (HInv K H b x d p 0) ?_ (fun _ _ _ _ _ => trivial) (fun i y σ H6 H7 hi hI hy => ?_) (fun σ H6 hI => ?_)⟩
    · exact ⟨l, q, newS 0, .non, none, none, none, none, none, none, rfl, Wp.kp Kp.put upd_same (bag_up hB6 (by decide)), by rw [upd_ne npb, upd_same]; rfl, npb, npl, Nat.zero_le _⟩
    · clear hb hB hB1 hB2 hb2 hk2 hx hdx hne hl L3 k3 hd hq hdq N4 Q4 s4 hp W Wp hb5 hB5 npb npl hB6
      obtain ⟨rfl, rfl⟩ := hy
      obtain ⟨l, lq, S, g, v5, v6, v7, v8, v9, v10, rfl, W, hwl, nwb, nwl, hsz⟩ := hI
      have hi4 : i < 48 := by omega
      simp only [gName, List.set_cons_succ, List.set_cons_zero]
      refine seq_cut (P := fun σ' H' => ∃ w, σ' = [some (.ref b), some (.int 0), some (.ref x), some (.ref d), some (.ref p), some (.int (0 + (i : Int))), some (.str w), v7, v8, v9, v10] ∧ W8 w ∧ Wd K H H' b x l d lq S g (10 + 50 * i + 2) ∧ H' p = some (.lst wds)) (fun R hR => ?_) (fun σ1 H1 hP => ?_)
      · simp only [tSeq, tAsg, tRet, tRetN, tIfS, tDrop, tNext, tBreak, tCont, tVar, tC, tOp, tUn, tB, tTest, tAnd, tOr, tNot, tAndV, tOrV, tNotV, tIf, tNil, tCons, tTup, tLst, tCB, tCallR, tMethR, tPropR, StX.tMakeR, tFld, sFld, sFldAug, tPar, tPar3, gName, gNil, gCons, gTup, gSub, rI, rI0, rU, rEq, rNe, mIxL, mIxT, mLenL, mLenT, mLenS, mLenD, mLenK, mList, mTupL, mInt, mAbs, mMax, mMin, mStr, mAddS, mIsN, mNotN, rIxS, rIxL, rSetL, rAppend, rExtendT, rPopAt, rCat, rIn, tBM, tBM0, tChain, tNever, scal, L2.start, cxK, iRng1, iRng2, tDNewK, tDGet, tDGet2, sDPut, tDIn, tDNotIn, DGet_dk, DPut_dk, IsD_dk, tyV_list, isLst_lst, isDk_dk, dkOf_dk, atI_0, atI_1, atI_2, atI_3, ixN_30, ixN_31, ixN_32, List.map, List.replicate, List.length_cons, List.length_nil, List.nil_append, List.cons_append, List.append_nil, Nat.reduceSub, Nat.reduceAdd, List.getElem?_cons_zero, List.getElem?_cons_succ, List.set_cons_zero, List.set_cons_succ, List.cons.injEq, Option.some.injEq, V.int.injEq, V.str.injEq, V.bl.injEq, V.ref.injEq, HO.ins.injEq, HO.lst.injEq, HO.tup.injEq, HO.dK.injEq, exists_eq_left, exists_eq_left', exists_eq_right, exists_eq_right', exists_and_left, exists_and_right, true_and, and_true, and_self, if_true, if_false, Bool.false_eq_true, Bool.true_eq_false, eq_self, reduceCtorEq, false_and, and_false, upd_same, upd_upd, and_assoc, Int.reduceToNat, Int.reducePow, Int.reduceMul, Int.reduceAdd, Int.reduceNeg, mIsi, mIsi2, kdV_non, kdV_bl, kdV_int, kdV_str, kdV_ref, kdO_lst, kdO_tup, kdO_dK, V.ty.injEq, mAll, mAny, kit_NoneType_bool, kit_NoneType_int, kit_NoneType_str, kit_NoneType_list, kit_NoneType_tuple, kit_NoneType_dict, kit_bool_bool, kit_bool_int, kit_bool_str, kit_bool_list, kit_bool_tuple, kit_bool_dict, kit_int_bool, kit_int_int, kit_int_str, kit_int_list, kit_int_tuple, kit_int_dict, kit_str_bool, kit_str_int, kit_str_str, kit_str_list, kit_str_tuple, kit_str_dict, kit_list_bool, kit_list_int, kit_list_str, kit_list_list, kit_list_tuple, kit_list_dict, kit_tuple_bool, kit_tuple_int, kit_tuple_str, kit_tuple_list, kit_tuple_tuple, kit_tuple_dict, kit_dict_bool, kit_dict_int, kit_dict_str, kit_dict_list, kit_dict_tuple, kit_dict_dict, String.reduceEq, String.reduceNe, ne_eq, not_false_eq_true, not_true_eq_false, decide_false, decide_true, Bool.not_false, Bool.not_true, Bool.or_false, Bool.false_or, Bool.or_true, Bool.true_or, gTupH, wipe, tYes, exists_eq', exists_eq, exists_const, tFor_eq, tLc_eq, tCallX, tMethX, tRaiseOw, tMkOw, tFldOw, mIxA, mLenA, rInO, rNotInO, mLenO, rSetD, tM1, false_or, or_false, tInT, inV_nil, inV_str, flatV_str, flatV_int, flatV_non, mIntB, List.all_cons, List.all_nil, Bool.and_true, Bool.true_and, Bool.and_self, tDisp, tPairs, exk_nil, exk_str, leS0, leS1, leS2, leS3, leS4, leS5, leS6, leS7, leS8, leS9, leS10, leS11, leS12, Nat.reduceLeDiff, mBoolB, rEqNil]
        obtain ⟨lb, hb, hB⟩ := W.bag
        refine ⟨b, 25, _, lb, rfl, hb, hB, by decide, by decide, by omega, fun r lb1 r0 r1 hB1 => ⟨rfl, ite_dec (fun h => ?_) (fun h => ?_)⟩⟩
        · exact hR _ _ ⟨"close", rfl, by simp [W8], W.kp Kp.put upd_same (bag_up hB1 (by omega)), by rw [upd_ne nwb]; exact hwl⟩
        · refine ⟨b, _, lb1, .ref p, rfl, upd_same, hB1, by omega, .inl ⟨p, wds, rfl, nwb, by rw [upd_ne nwb]; exact hwl, (fun z => by cases z), by decide, fun v lb2 hv hB2 => ?_⟩⟩
          obtain ⟨w, rfl, hw⟩ := wds_W8 hv
          exact hR _ _ ⟨w, rfl, hw, (W.kp Kp.put upd_same hB1).kp Kp.put upd_same (bag_up hB2 (by omega)), by rw [upd_ne nwb, upd_ne nwb]; exact hwl⟩
      clear W hwl
      obtain ⟨w, rfl, hw, W, hwl⟩ := hP
      refine seq_cut (P := fun σ' H' => ∃ (tl : Addr) (ts : List Str), σ' = [some (.ref b), some (.int 0), some (.ref x), some (.ref d), some (.ref p), some (.int (0 + (i : Int))), some (.str w), some (.ref tl), v8, v9, v10] ∧ H' tl = some (.lst (ts.map V.str)) ∧ ts.length ≤ 5 ∧ (w = "ask" → ts.length ≤ 3) ∧ (w = "begin" → ts ≠ []) ∧ tl ≠ b ∧ tl ≠ l ∧ Wd K H H' b x l d lq S g (10 + 50 * i + 34) ∧ H' p = some (.lst wds)) (fun R hR => ?_) (fun σ1 H1 hP => ?_)
      · simp only [tSeq, tAsg, tRet, tRetN, tIfS, tDrop, tNext, tBreak, tCont, tVar, tC, tOp, tUn, tB, tTest, tAnd, tOr, tNot, tAndV, tOrV, tNotV, tIf, tNil, tCons, tTup, tLst, tCB, tCallR, tMethR, tPropR, StX.tMakeR, tFld, sFld, sFldAug, tPar, tPar3, gName, gNil, gCons, gTup, gSub, rI, rI0, rU, rEq, rNe, mIxL, mIxT, mLenL, mLenT, mLenS, mLenD, mLenK, mList, mTupL, mInt, mAbs, mMax, mMin, mStr, mAddS, mIsN, mNotN, rIxS, rIxL, rSetL, rAppend, rExtendT, rPopAt, rCat, rIn, tBM, tBM0, tChain, tNever, scal, L2.start, cxK, iRng1, iRng2, tDNewK, tDGet, tDGet2, sDPut, tDIn, tDNotIn, DGet_dk, DPut_dk, IsD_dk, tyV_list, isLst_lst, isDk_dk, dkOf_dk, atI_0, atI_1, atI_2, atI_3, ixN_30, ixN_31, ixN_32, List.map, List.replicate, List.length_cons, List.length_nil, List.nil_append, List.cons_append, List.append_nil, Nat.reduceSub, Nat.reduceAdd, List.getElem?_cons_zero, List.getElem?_cons_succ, List.set_cons_zero, List.set_cons_succ, List.cons.injEq, Option.some.injEq, V.int.injEq, V.str.injEq, V.bl.injEq, V.ref.injEq, HO.ins.injEq, HO.lst.injEq, HO.tup.injEq, HO.dK.injEq, exists_eq_left, exists_eq_left', exists_eq_right, exists_eq_right', exists_and_left, exists_and_right, true_and, and_true, and_self, if_true, if_false, Bool.false_eq_true, Bool.true_eq_false, eq_self, reduceCtorEq, false_and, and_false, upd_same, upd_upd, and_assoc, Int.reduceToNat, Int.reducePow, Int.reduceMul, Int.reduceAdd, Int.reduceNeg, mIsi, mIsi2, kdV_non, kdV_bl, kdV_int, kdV_str, kdV_ref, kdO_lst, kdO_tup, kdO_dK, V.ty.injEq, mAll, mAny, kit_NoneType_bool, kit_NoneType_int, kit_NoneType_str, kit_NoneType_list, kit_NoneType_tuple, kit_NoneType_dict, kit_bool_bool, kit_bool_int, kit_bool_str, kit_bool_list, kit_bool_tuple, kit_bool_dict, kit_int_bool, kit_int_int, kit_int_str, kit_int_list, kit_int_tuple, kit_int_dict, kit_str_bool, kit_str_int, kit_str_str, kit_str_list, kit_str_tuple, kit_str_dict, kit_list_bool, kit_list_int, kit_list_str, kit_list_list, kit_list_tuple, kit_list_dict, kit_tuple_bool, kit_tuple_int, kit_tuple_str, kit_tuple_list, kit_tuple_tuple, kit_tuple_dict, kit_dict_bool, kit_dict_int, kit_dict_str, kit_dict_list, kit_dict_tuple, kit_dict_dict, String.reduceEq, String.reduceNe, ne_eq, not_false_eq_true, not_true_eq_false, decide_false, decide_true, Bool.not_false, Bool.not_true, Bool.or_false, Bool.false_or, Bool.or_true, Bool.true_or, gTupH, wipe, tYes, exists_eq', exists_eq, exists_const, tFor_eq, tLc_eq, tCallX, tMethX, tRaiseOw, tMkOw, tFldOw, mIxA, mLenA, rInO, rNotInO, mLenO, rSetD, tM1, false_or, or_false, tInT, inV_nil, inV_str, flatV_str, flatV_int, flatV_non, mIntB, List.all_cons, List.all_nil, Bool.and_true, Bool.true_and, Bool.and_self, tDisp, tPairs, exk_nil, exk_str, leS0, leS1, leS2, leS3, leS4, leS5, leS6, leS7, leS8, leS9, leS10, leS11, leS12, Nat.reduceLeDiff, mBoolB, rEqNil]
        obtain ⟨lb, hb, hB⟩ := W.bag
        refine ⟨b, 4, _, lb, rfl, hb, hB, by decide, by decide, by omega, fun r lb1 r0 r1 hB1 => ⟨r, rfl, by omega, by omega, fun D hD => ?_⟩⟩
        have W1 := W.kp Kp.put upd_same hB1
        have hp1 : upd H1 b (.lst lb1) p = some (.lst wds) := by rw [upd_ne nwb]; exact hwl
        generalize upd H1 b (.lst lb1) = G at hD W1 hp1 ⊢
        obtain ⟨lbG, hbG, hBG⟩ := W1.bag
        have nDb : D ≠ b := (ne_of_none hbG hD).symm
        have nDl : D ≠ l := (ne_of_none W1.L.qu hD).symm
        have nDq : D ≠ lq := (ne_of_none W1.N.qu hD).symm
        have nDp : D ≠ p := (ne_of_none hp1 hD).symm
        have hD0 : H D = none := by
          cases e : H D with
          | none => rfl
          | some o => rw [W1.fr _ _ nDb e] at hD; cases hD
        refine loopC_it (n := r.toNat) walk_range (fun j H' => ∃ ts : List Str, Wd K H H' b x l d lq S g (10 + 50 * i + 3 + 6 * j) ∧ H' p = some (.lst wds) ∧ H' D = some (.lst (ts.map V.str)) ∧ ts.length = j) ⟨[], W1.same (Same.new hD), Same.new hD _ _ hp1, upd_same, rfl⟩ (fun _ _ _ _ => trivial) (fun j y H' H'' hj h hy => ?_) (fun H' h => ?_)
        · obtain ⟨rfl, rfl⟩ := hy
          obtain ⟨ts, Wj, hpj, hDj, hl⟩ := h
          simp only [tSeq, tAsg, tRet, tRetN, tIfS, tDrop, tNext, tBreak, tCont, tVar, tC, tOp, tUn, tB, tTest, tAnd, tOr, tNot, tAndV, tOrV, tNotV, tIf, tNil, tCons, tTup, tLst, tCB, tCallR, tMethR, tPropR, StX.tMakeR, tFld, sFld, sFldAug, tPar, tPar3, gName, gNil, gCons, gTup, gSub, rI, rI0, rU, rEq, rNe, mIxL, mIxT, mLenL, mLenT, mLenS, mLenD, mLenK, mList, mTupL, mInt, mAbs, mMax, mMin, mStr, mAddS, mIsN, mNotN, rIxS, rIxL, rSetL, rAppend, rExtendT, rPopAt, rCat, rIn, tBM, tBM0, tChain, tNever, scal, L2.start, cxK, iRng1, iRng2, tDNewK, tDGet, tDGet2, sDPut, tDIn, tDNotIn, DGet_dk, DPut_dk, IsD_dk, tyV_list, isLst_lst, isDk_dk, dkOf_dk, atI_0, atI_1, atI_2, atI_3, ixN_30, ixN_31, ixN_32, List.map, List.replicate, List.length_cons, List.length_nil, List.nil_append, List.cons_append, List.append_nil, Nat.reduceSub, Nat.reduceAdd, List.getElem?_cons_zero, List.getElem?_cons_succ, List.set_cons_zero, List.set_cons_succ, List.cons.injEq, Option.some.injEq, V.int.injEq, V.str.injEq, V.bl.injEq, V.ref.injEq, HO.ins.injEq, HO.lst.injEq, HO.tup.injEq, HO.dK.injEq, exists_eq_left, exists_eq_left', exists_eq_right, exists_eq_right', exists_and_left, exists_and_right, true_and, and_true, and_self, if_true, if_false, Bool.false_eq_true, Bool.true_eq_false, eq_self, reduceCtorEq, false_and, and_false, upd_same, upd_upd, and_assoc, Int.reduceToNat, Int.reducePow, Int.reduceMul, Int.reduceAdd, Int.reduceNeg, mIsi, mIsi2, kdV_non, kdV_bl, kdV_int, kdV_str, kdV_ref, kdO_lst, kdO_tup, kdO_dK, V.ty.injEq, mAll, mAny, kit_NoneType_bool, kit_NoneType_int, kit_NoneType_str, kit_NoneType_list, kit_NoneType_tuple, kit_NoneType_dict, kit_bool_bool, kit_bool_int, kit_bool_str, kit_bool_list, kit_bool_tuple, kit_bool_dict, kit_int_bool, kit_int_int, kit_int_str, kit_int_list, kit_int_tuple, kit_int_dict, kit_str_bool, kit_str_int, kit_str_str, kit_str_list, kit_str_tuple, kit_str_dict, kit_list_bool, kit_list_int, kit_list_str, kit_list_list, kit_list_tuple, kit_list_dict, kit_tuple_bool, kit_tuple_int, kit_tuple_str, kit_tuple_list, kit_tuple_tuple, kit_tuple_dict, kit_dict_bool, kit_dict_int, kit_dict_str, kit_dict_list, kit_dict_tuple, kit_dict_dict, String.reduceEq, String.reduceNe, ne_eq, not_false_eq_true, not_true_eq_false, decide_false, decide_true, Bool.not_false, Bool.not_true, Bool.or_false, Bool.false_or, Bool.or_true, Bool.true_or, gTupH, wipe, tYes, exists_eq', exists_eq, exists_const, tFor_eq, tLc_eq, tCallX, tMethX, tRaiseOw, tMkOw, tFldOw, mIxA, mLenA, rInO, rNotInO, mLenO, rSetD, tM1, false_or, or_false, tInT, inV_nil, inV_str, flatV_str, flatV_int, flatV_non, mIntB, List.all_cons, List.all_nil, Bool.and_true, Bool.true_and, Bool.and_self, tDisp, tPairs, exk_nil, exk_str, leS0, leS1, leS2, leS3, leS4, leS5, leS6, leS7, leS8, leS9, leS10, leS11, leS12, Nat.reduceLeDiff, mBoolB, rEqNil]
          obtain ⟨lbj, hbj, hBj⟩ := Wj.bag
          refine ⟨_, lbj, hbj, hBj, by omega, fun t lbk Hk hBk hbk kk => ⟨ts.map V.str, kk _ _ nDb hDj, ?_, ?_, ?_, ts ++ [t], ?_, ?_⟩⟩
          · rw [List.length_map, hl]; exact Nat.lt_of_lt_of_le (show j < 100 by omega) (by decide)
          · exact ((Wj.kp kk hbk hBk).put (kk _ _ nDb hDj) nDb nDl nDq hD0).up (by omega)
          · rw [upd_ne nDp.symm]; exact kk _ _ nwb hpj
          · rw [List.map_append]; rfl
          · simp [hl]
        · obtain ⟨ts, Wn, hpn, hDn, hl⟩ := h
          obtain ⟨lbn, hbn, hBn⟩ := Wn.bag
          refine ⟨b, _, lbn, rfl, hbn, hBn, by omega, fun t lbk Hk hBk hbk kk p1 hp1 => ?_⟩
          have Wk := Wn.kp kk hbk hBk
          have hDk := kk _ _ nDb hDn
          have hpk := kk _ _ nwb hpn
          have s1 : Same Hk (upd Hk p1 (.lst [.str t])) := Same.new hp1
          refine ⟨p1, _, [.str t], rfl, rfl, upd_same, by split <;> decide, by split <;> decide, ?_, fun p2 hp2 => ?_⟩
          · split
            · show 1 ≤ sizeLine; decide
            · show 0 ≤ sizeLine; decide
          have s2 := fun o => Same.upd_new (o := o) s1 hp2
          refine ⟨p2, rfl, _, s2 _ _ _ hDk, _, upd_same, ?_, fun p3 hp3 => ?_⟩
          · split
            · show (ts.map V.str).length + 1 ≤ sizeLine
              rw [List.length_map, hl]; exact Nat.le_trans (show r.toNat + 1 ≤ 100 by omega) (by decide)
            · show (ts.map V.str).length + 0 ≤ sizeLine
              rw [List.length_map, hl]; exact Nat.le_trans (show r.toNat + 0 ≤ 100 by omega) (by decide)
          have s3 := fun o2 => Same.upd_new (o := o2) (s2 _) hp3
          have e3 : p3 ≠ b := (ne_of_none (s2 _ _ _ hbk) hp3).symm
          have e4 : p3 ≠ l := (ne_of_none (s2 _ _ _ Wk.L.qu) hp3).symm
          by_cases hbw : w = "begin"
          · refine hR _ _ ⟨p3, ts ++ [t], rfl, ?_, ?_, ?_, (fun _ => by simp), e3, e4, (Wk.same (s3 _)).up (by omega), s3 _ _ _ hpk⟩
            · rw [upd_same, if_pos (decide_eq_true hbw), List.map_append]; rfl
            · simp [hl]; omega
            · intro z; rw [hbw] at z; exact absurd z (by decide)
          · refine hR _ _ ⟨p3, ts, rfl, ?_, by omega, (fun _ => by omega), (fun z => absurd z hbw), e3, e4, (Wk.same (s3 _)).up (by omega), s3 _ _ _ hpk⟩
            rw [upd_same, if_neg (by rw [decide_eq_false hbw]; decide)]
            show some (HO.lst (ts.map V.str ++ [])) = _
            rw [List.append_nil]
      clear W hwl
      obtain ⟨tl, ts, rfl, ht, t5, t3, tb, ntb, ntl, W, hwl⟩ := hP
      refine seq_cut (P := fun σ' H' => ∃ (why : V), σ' = [some (.ref b), some (.int 0), some (.ref x), some (.ref d), some (.ref p), some (.int (0 + (i : Int))), some (.str w), some (.ref tl), some why, v9, v10] ∧ H' tl = some (.lst (ts.map V.str)) ∧ (∃ dc, Da H' why dc ∧ dpt 4 dc = true ∧ noL dc = true) ∧ Wd K H H' b x l d lq S g (10 + 50 * i + 35) ∧ H' p = some (.lst wds)) (fun R hR => ?_) (fun σ1 H1 hP => ?_)
      · simp only [tSeq, tAsg, tRet, tRetN, tIfS, tDrop, tNext, tBreak, tCont, tVar, tC, tOp, tUn, tB, tTest, tAnd, tOr, tNot, tAndV, tOrV, tNotV, tIf, tNil, tCons, tTup, tLst, tCB, tCallR, tMethR, tPropR, StX.tMakeR, tFld, sFld, sFldAug, tPar, tPar3, gName, gNil, gCons, gTup, gSub, rI, rI0, rU, rEq, rNe, mIxL, mIxT, mLenL, mLenT, mLenS, mLenD, mLenK, mList, mTupL, mInt, mAbs, mMax, mMin, mStr, mAddS, mIsN, mNotN, rIxS, rIxL, rSetL, rAppend, rExtendT, rPopAt, rCat, rIn, tBM, tBM0, tChain, tNever, scal, L2.start, cxK, iRng1, iRng2, tDNewK, tDGet, tDGet2, sDPut, tDIn, tDNotIn, DGet_dk, DPut_dk, IsD_dk, tyV_list, isLst_lst, isDk_dk, dkOf_dk, atI_0, atI_1, atI_2, atI_3, ixN_30, ixN_31, ixN_32, List.map, List.replicate, List.length_cons, List.length_nil, List.nil_append, List.cons_append, List.append_nil, Nat.reduceSub, Nat.reduceAdd, List.getElem?_cons_zero, List.getElem?_cons_succ, List.set_cons_zero, List.set_cons_succ, List.cons.injEq, Option.some.injEq, V.int.injEq, V.str.injEq, V.bl.injEq, V.ref.injEq, HO.ins.injEq, HO.lst.injEq, HO.tup.injEq, HO.dK.injEq, exists_eq_left, exists_eq_left', exists_eq_right, exists_eq_right', exists_and_left, exists_and_right, true_and, and_true, and_self, if_true, if_false, Bool.false_eq_true, Bool.true_eq_false, eq_self, reduceCtorEq, false_and, and_false, upd_same, upd_upd, and_assoc, Int.reduceToNat, Int.reducePow, Int.reduceMul, Int.reduceAdd, Int.reduceNeg, mIsi, mIsi2, kdV_non, kdV_bl, kdV_int, kdV_str, kdV_ref, kdO_lst, kdO_tup, kdO_dK, V.ty.injEq, mAll, mAny, kit_NoneType_bool, kit_NoneType_int, kit_NoneType_str, kit_NoneType_list, kit_NoneType_tuple, kit_NoneType_dict, kit_bool_bool, kit_bool_int, kit_bool_str, kit_bool_list, kit_bool_tuple, kit_bool_dict, kit_int_bool, kit_int_int, kit_int_str, kit_int_list, kit_int_tuple, kit_int_dict, kit_str_bool, kit_str_int, kit_str_str, kit_str_list, kit_str_tuple, kit_str_dict, kit_list_bool, kit_list_int, kit_list_str, kit_list_list, kit_list_tuple, kit_list_dict, kit_tuple_bool, kit_tuple_int, kit_tuple_str, kit_tuple_list, kit_tuple_tuple, kit_tuple_dict, kit_dict_bool, kit_dict_int, kit_dict_str, kit_dict_list, kit_dict_tuple, kit_dict_dict, String.reduceEq, String.reduceNe, ne_eq, not_false_eq_true, not_true_eq_false, decide_false, decide_true, Bool.not_false, Bool.not_true, Bool.or_false, Bool.false_or, Bool.or_true, Bool.true_or, gTupH, wipe, tYes, exists_eq', exists_eq, exists_const, tFor_eq, tLc_eq, tCallX, tMethX, tRaiseOw, tMkOw, tFldOw, mIxA, mLenA, rInO, rNotInO, mLenO, rSetD, tM1, false_or, or_false, tInT, inV_nil, inV_str, flatV_str, flatV_int, flatV_non, mIntB, List.all_cons, List.all_nil, Bool.and_true, Bool.true_and, Bool.and_self, tDisp, tPairs, exk_nil, exk_str, leS0, leS1, leS2, leS3, leS4, leS5, leS6, leS7, leS8, leS9, leS10, leS11, leS12, Nat.reduceLeDiff, mBoolB, rEqNil]
        intro p1 hp1 p2 hp2
        have s1 : Same H1 (upd H1 p1 (.tup [.str "cut", .int (0 + (i : Int))])) := Same.new hp1
        have s2 : Same H1 (upd (upd H1 p1 (.tup [.str "cut", .int (0 + (i : Int))])) p2 (.lst [.non, .str "why", .ref p1])) := Same.upd_new s1 hp2
        have hc1 : upd (upd H1 p1 (.tup [.str "cut", .int (0 + (i : Int))])) p2 (.lst [.non, .str "why", .ref p1]) p1 = some (.tup [.str "cut", .int (0 + (i : Int))]) := Same.new hp2 _ _ upd_same
        have hc2 : upd (upd H1 p1 (.tup [.str "cut", .int (0 + (i : Int))])) p2 (.lst [.non, .str "why", .ref p1]) p2 = some (.lst [.non, .str "why", .ref p1]) := upd_same
        have W2 := W.same s2
        have n2 : p2 ≠ b := by
          obtain ⟨lb, hb, _⟩ := W.bag
          exact (ne_of_none (s1 _ _ hb) hp2).symm
        generalize upd (upd H1 p1 (.tup [.str "cut", .int (0 + (i : Int))])) p2 (.lst [.non, .str "why", .ref p1]) = G at s2 hc1 hc2 W2 ⊢
        obtain ⟨lb, hb, hB⟩ := W2.bag
        refine ⟨b, _, lb, .ref p2, rfl, hb, hB, by omega, .inl ⟨p2, _, rfl, n2, hc2, (fun z => by cases z), by simp, fun v lb2 hv hB2 => ?_⟩⟩
        have n1 : p1 ≠ b := fun e => by rw [e, hb] at hc1; cases hc1
        refine hR _ _ ⟨v, rfl, by rw [upd_ne ntb]; exact s2 _ _ ht, ?_, W2.kp Kp.put upd_same (bag_up hB2 (by omega)), by rw [upd_ne nwb]; exact s2 _ _ hwl⟩
        simp only [List.mem_cons, List.not_mem_nil, or_false] at hv
        rcases hv with rfl | rfl | rfl
        · exact ⟨.none, .non, rfl, rfl⟩
        · exact ⟨.str _, .str _, rfl, rfl⟩
        · exact ⟨.tuple [.str _, .int _], .tup (by rw [upd_ne n1]; exact hc1) (.cons (.str _) (.cons (.int _) .nil)), rfl, rfl⟩
      clear W hwl ht
      obtain ⟨why, rfl, ht, hdc, W, hwl⟩ := hP
      have hsz2 : S.q.length + ts.length < 100000 := by omega
      refine seq_cut (P := fun σ' H' => ∃ (r : V) (lq2 : Addr) (g' : V), σ' = [some (.ref b), some (.int 0), some (.ref x), some (.ref d), some (.ref p), some (.int (0 + (i : Int))), some (.str w), some (.ref tl), some why, some r, v10] ∧ NowAt H' d lq2 (stepS w ts why S) g' ∧ DaF H1 H' r (stepR w S) ∧ Kp d H1 H' ∧ (lq2 = lq ∨ H1 lq2 = none)) (fun R hR => ?_) (fun σ1 H2 hP => ?_)
      · simp only [tSeq, tAsg, tRet, tRetN, tIfS, tDrop, tNext, tBreak, tCont, tVar, tC, tOp, tUn, tB, tTest, tAnd, tOr, tNot, tAndV, tOrV, tNotV, tIf, tNil, tCons, tTup, tLst, tCB, tCallR, tMethR, tPropR, StX.tMakeR, tFld, sFld, sFldAug, tPar, tPar3, gName, gNil, gCons, gTup, gSub, rI, rI0, rU, rEq, rNe, mIxL, mIxT, mLenL, mLenT, mLenS, mLenD, mLenK, mList, mTupL, mInt, mAbs, mMax, mMin, mStr, mAddS, mIsN, mNotN, rIxS, rIxL, rSetL, rAppend, rExtendT, rPopAt, rCat, rIn, tBM, tBM0, tChain, tNever, scal, L2.start, cxK, iRng1, iRng2, tDNewK, tDGet, tDGet2, sDPut, tDIn, tDNotIn, DGet_dk, DPut_dk, IsD_dk, tyV_list, isLst_lst, isDk_dk, dkOf_dk, atI_0, atI_1, atI_2, atI_3, ixN_30, ixN_31, ixN_32, List.map, List.replicate, List.length_cons, List.length_nil, List.nil_append, List.cons_append, List.append_nil, Nat.reduceSub, Nat.reduceAdd, List.getElem?_cons_zero, List.getElem?_cons_succ, List.set_cons_zero, List.set_cons_succ, List.cons.injEq, Option.some.injEq, V.int.injEq, V.str.injEq, V.bl.injEq, V.ref.injEq, HO.ins.injEq, HO.lst.injEq, HO.tup.injEq, HO.dK.injEq, exists_eq_left, exists_eq_left', exists_eq_right, exists_eq_right', exists_and_left, exists_and_right, true_and, and_true, and_self, if_true, if_false, Bool.false_eq_true, Bool.true_eq_false, eq_self, reduceCtorEq, false_and, and_false, upd_same, upd_upd, and_assoc, Int.reduceToNat, Int.reducePow, Int.reduceMul, Int.reduceAdd, Int.reduceNeg, mIsi, mIsi2, kdV_non, kdV_bl, kdV_int, kdV_str, kdV_ref, kdO_lst, kdO_tup, kdO_dK, V.ty.injEq, mAll, mAny, kit_NoneType_bool, kit_NoneType_int, kit_NoneType_str, kit_NoneType_list, kit_NoneType_tuple, kit_NoneType_dict, kit_bool_bool, kit_bool_int, kit_bool_str, kit_bool_list, kit_bool_tuple, kit_bool_dict, kit_int_bool, kit_int_int, kit_int_str, kit_int_list, kit_int_tuple, kit_int_dict, kit_str_bool, kit_str_int, kit_str_str, kit_str_list, kit_str_tuple, kit_str_dict, kit_list_bool, kit_list_int, kit_list_str, kit_list_list, kit_list_tuple, kit_list_dict, kit_tuple_bool, kit_tuple_int, kit_tuple_str, kit_tuple_list, kit_tuple_tuple, kit_tuple_dict, kit_dict_bool, kit_dict_int, kit_dict_str, kit_dict_list, kit_dict_tuple, kit_dict_dict, String.reduceEq, String.reduceNe, ne_eq, not_false_eq_true, not_true_eq_false, decide_false, decide_true, Bool.not_false, Bool.not_true, Bool.or_false, Bool.false_or, Bool.or_true, Bool.true_or, gTupH, wipe, tYes, exists_eq', exists_eq, exists_const, tFor_eq, tLc_eq, tCallX, tMethX, tRaiseOw, tMkOw, tFldOw, mIxA, mLenA, rInO, rNotInO, mLenO, rSetD, tM1, false_or, or_false, tInT, inV_nil, inV_str, flatV_str, flatV_int, flatV_non, mIntB, List.all_cons, List.all_nil, Bool.and_true, Bool.true_and, Bool.and_self, tDisp, tPairs, exk_nil, exk_str, leS0, leS1, leS2, leS3, leS4, leS5, leS6, leS7, leS8, leS9, leS10, leS11, leS12, Nat.reduceLeDiff, mBoolB, rEqNil]
        exact ⟨d, lq, tl, S, g, w, ts, why, rfl, W.N, ht, hw, W.G, tb, hsz2, fun H' r lq' g' h1 h2 h3 h4 => hR _ _ ⟨r, lq', g', rfl, h1, h2, h3, h4⟩⟩
      obtain ⟨r, lq2, g', rfl, N2, D2, k2, q2⟩ := hP
      obtain ⟨e1, e2, e3, e4, e5⟩ := W.na
      have nd : tl ≠ d := fun e => by rw [e, W.N.ob] at ht; cases ht
      have pd : p ≠ d := fun e => by rw [e, W.N.ob] at hwl; cases hwl
      obtain ⟨dx0, ha0⟩ := W.L.ob
      have pa : p ≠ x := fun e => by rw [e, ha0] at hwl; cases hwl
      have L2' : LineAt K H2 x l S := ⟨⟨dx0, k2 _ _ e3 ha0⟩, k2 _ _ e5.symm W.L.qu, W.L.ne, W.L.sz⟩
      have hc3 : ∃ dc, Da H1 (stepS w ts why S).c dc ∧ dpt 4 dc = true ∧ noL dc = true := by
        rcases cause_step (w := w) (ts := ts) (why := why) (S := S) with h | h <;> rw [h]
        · exact W.dc
        · exact hdc
      refine seq_cut (P := fun σ' H' => ∃ (l' : Addr), σ' = [some (.ref b), some (.int 0), some (.ref x), some (.ref d), some (.ref p), some (.int (0 + (i : Int))), some (.str w), some (.ref tl), some why, some r, v10] ∧ Wd K H H' b x l' d lq2 (stepS w ts why S) g' (10 + 50 * i + 35) ∧ H' p = some (.lst wds) ∧ p ≠ l') (fun R hR => ?_) (fun σ1 H3 hP => ?_)
      · simp only [tSeq, tAsg, tRet, tRetN, tIfS, tDrop, tNext, tBreak, tCont, tVar, tC, tOp, tUn, tB, tTest, tAnd, tOr, tNot, tAndV, tOrV, tNotV, tIf, tNil, tCons, tTup, tLst, tCB, tCallR, tMethR, tPropR, StX.tMakeR, tFld, sFld, sFldAug, tPar, tPar3, gName, gNil, gCons, gTup, gSub, rI, rI0, rU, rEq, rNe, mIxL, mIxT, mLenL, mLenT, mLenS, mLenD, mLenK, mList, mTupL, mInt, mAbs, mMax, mMin, mStr, mAddS, mIsN, mNotN, rIxS, rIxL, rSetL, rAppend, rExtendT, rPopAt, rCat, rIn, tBM, tBM0, tChain, tNever, scal, L2.start, cxK, iRng1, iRng2, tDNewK, tDGet, tDGet2, sDPut, tDIn, tDNotIn, DGet_dk, DPut_dk, IsD_dk, tyV_list, isLst_lst, isDk_dk, dkOf_dk, atI_0, atI_1, atI_2, atI_3, ixN_30, ixN_31, ixN_32, List.map, List.replicate, List.length_cons, List.length_nil, List.nil_append, List.cons_append, List.append_nil, Nat.reduceSub, Nat.reduceAdd, List.getElem?_cons_zero, List.getElem?_cons_succ, List.set_cons_zero, List.set_cons_succ, List.cons.injEq, Option.some.injEq, V.int.injEq, V.str.injEq, V.bl.injEq, V.ref.injEq, HO.ins.injEq, HO.lst.injEq, HO.tup.injEq, HO.dK.injEq, exists_eq_left, exists_eq_left', exists_eq_right, exists_eq_right', exists_and_left, exists_and_right, true_and, and_true, and_self, if_true, if_false, Bool.false_eq_true, Bool.true_eq_false, eq_self, reduceCtorEq, false_and, and_false, upd_same, upd_upd, and_assoc, Int.reduceToNat, Int.reducePow, Int.reduceMul, Int.reduceAdd, Int.reduceNeg, mIsi, mIsi2, kdV_non, kdV_bl, kdV_int, kdV_str, kdV_ref, kdO_lst, kdO_tup, kdO_dK, V.ty.injEq, mAll, mAny, kit_NoneType_bool, kit_NoneType_int, kit_NoneType_str, kit_NoneType_list, kit_NoneType_tuple, kit_NoneType_dict, kit_bool_bool, kit_bool_int, kit_bool_str, kit_bool_list, kit_bool_tuple, kit_bool_dict, kit_int_bool, kit_int_int, kit_int_str, kit_int_list, kit_int_tuple, kit_int_dict, kit_str_bool, kit_str_int, kit_str_str, kit_str_list, kit_str_tuple, kit_str_dict, kit_list_bool, kit_list_int, kit_list_str, kit_list_list, kit_list_tuple, kit_list_dict, kit_tuple_bool, kit_tuple_int, kit_tuple_str, kit_tuple_list, kit_tuple_tuple, kit_tuple_dict, kit_dict_bool, kit_dict_int, kit_dict_str, kit_dict_list, kit_dict_tuple, kit_dict_dict, String.reduceEq, String.reduceNe, ne_eq, not_false_eq_true, not_true_eq_false, decide_false, decide_true, Bool.not_false, Bool.not_true, Bool.or_false, Bool.false_or, Bool.or_true, Bool.true_or, gTupH, wipe, tYes, exists_eq', exists_eq, exists_const, tFor_eq, tLc_eq, tCallX, tMethX, tRaiseOw, tMkOw, tFldOw, mIxA, mLenA, rInO, rNotInO, mLenO, rSetD, tM1, false_or, or_false, tInT, inV_nil, inV_str, flatV_str, flatV_int, flatV_non, mIntB, List.all_cons, List.all_nil, Bool.and_true, Bool.true_and, Bool.and_self, tDisp, tPairs, exk_nil, exk_str, leS0, leS1, leS2, leS3, leS4, leS5, leS6, leS7, leS8, leS9, leS10, leS11, leS12, Nat.reduceLeDiff, mBoolB, rEqNil]
        refine ⟨x, l, tl, S, w, ts, why, rfl, L2', k2 _ _ nd ht, hw, W.G, t3, tb, hsz2, fun H3 l' r3 L3 D3 k3 q3 => ?_⟩
        refine use_same D3 (D2 H3 fun c o h1 h2 => k3 _ _ (ne_of_none ha0 h1).symm (ne_of_none W.L.qu h1).symm h2) ?_ fun H4 s4 => ?_
        · exact dpt_step W.L.sz
        · refine hR _ _ ⟨l', rfl, (W.step N2 k2 q2 L3 k3 q3 (good_step W.G hw) hc3).same s4, s4 _ _ (k3 _ _ pa nwl (k2 _ _ pd hwl)), ?_⟩
          rcases q3 with rfl | q3
          · exact nwl
          · exact ne_of_none (k2 _ _ pd hwl) q3
      obtain ⟨l', rfl, W3, hwl3, nwl3⟩ := hP
      have hN3 := W3.N
      have hd3 := W3.N.ob
      have hq3 := W3.N.qu
      simp only [tSeq, tAsg, tRet, tRetN, tIfS, tDrop, tNext, tBreak, tCont, tVar, tC, tOp, tUn, tB, tTest, tAnd, tOr, tNot, tAndV, tOrV, tNotV, tIf, tNil, tCons, tTup, tLst, tCB, tCallR, tMethR, tPropR, StX.tMakeR, tFld, sFld, sFldAug, tPar, tPar3, gName, gNil, gCons, gTup, gSub, rI, rI0, rU, rEq, rNe, mIxL, mIxT, mLenL, mLenT, mLenS, mLenD, mLenK, mList, mTupL, mInt, mAbs, mMax, mMin, mStr, mAddS, mIsN, mNotN, rIxS, rIxL, rSetL, rAppend, rExtendT, rPopAt, rCat, rIn, tBM, tBM0, tChain, tNever, scal, L2.start, cxK, iRng1, iRng2, tDNewK, tDGet, tDGet2, sDPut, tDIn, tDNotIn, DGet_dk, DPut_dk, IsD_dk, tyV_list, isLst_lst, isDk_dk, dkOf_dk, atI_0, atI_1, atI_2, atI_3, ixN_30, ixN_31, ixN_32, List.map, List.replicate, List.length_cons, List.length_nil, List.nil_append, List.cons_append, List.append_nil, Nat.reduceSub, Nat.reduceAdd, List.getElem?_cons_zero, List.getElem?_cons_succ, List.set_cons_zero, List.set_cons_succ, List.cons.injEq, Option.some.injEq, V.int.injEq, V.str.injEq, V.bl.injEq, V.ref.injEq, HO.ins.injEq, HO.lst.injEq, HO.tup.injEq, HO.dK.injEq, exists_eq_left, exists_eq_left', exists_eq_right, exists_eq_right', exists_and_left, exists_and_right, true_and, and_true, and_self, if_true, if_false, Bool.false_eq_true, Bool.true_eq_false, eq_self, reduceCtorEq, false_and, and_false, upd_same, upd_upd, and_assoc, Int.reduceToNat, Int.reducePow, Int.reduceMul, Int.reduceAdd, Int.reduceNeg, mIsi, mIsi2, kdV_non, kdV_bl, kdV_int, kdV_str, kdV_ref, kdO_lst, kdO_tup, kdO_dK, V.ty.injEq, mAll, mAny, kit_NoneType_bool, kit_NoneType_int, kit_NoneType_str, kit_NoneType_list, kit_NoneType_tuple, kit_NoneType_dict, kit_bool_bool, kit_bool_int, kit_bool_str, kit_bool_list, kit_bool_tuple, kit_bool_dict, kit_int_bool, kit_int_int, kit_int_str, kit_int_list, kit_int_tuple, kit_int_dict, kit_str_bool, kit_str_int, kit_str_str, kit_str_list, kit_str_tuple, kit_str_dict, kit_list_bool, kit_list_int, kit_list_str, kit_list_list, kit_list_tuple, kit_list_dict, kit_tuple_bool, kit_tuple_int, kit_tuple_str, kit_tuple_list, kit_tuple_tuple, kit_tuple_dict, kit_dict_bool, kit_dict_int, kit_dict_str, kit_dict_list, kit_dict_tuple, kit_dict_dict, String.reduceEq, String.reduceNe, ne_eq, not_false_eq_true, not_true_eq_false, decide_false, decide_true, Bool.not_false, Bool.not_true, Bool.or_false, Bool.false_or, Bool.or_true, Bool.true_or, gTupH, wipe, tYes, exists_eq', exists_eq, exists_const, tFor_eq, tLc_eq, tCallX, tMethX, tRaiseOw, tMkOw, tFldOw, mIxA, mLenA, rInO, rNotInO, mLenO, rSetD, tM1, false_or, or_false, tInT, inV_nil, inV_str, flatV_str, flatV_int, flatV_non, mIntB, List.all_cons, List.all_nil, Bool.and_true, Bool.true_and, Bool.and_self, tDisp, tPairs, exk_nil, exk_str, leS0, leS1, leS2, leS3, leS4, leS5, leS6, leS7, leS8, leS9, leS10, leS11, leS12, Nat.reduceLeDiff, mBoolB, rEqNil, hd3, hq3, nl_queue]
      have hlen : (stepS w ts why S).q.length ≤ 10 * i + 6 := Nat.le_trans len_step (by omega)
      obtain ⟨lb, hb, hB⟩ := W3.bag
      refine ⟨b, _, lb, rfl, hb, hB, by omega, fun t lb1 H4 hB1 hb1 k4 p1 hp1 => ?_⟩
      have W4 := W3.kp k4 hb1 hB1
      have s5 : Same H4 (upd H4 p1 (.lst [.str t])) := Same.new hp1
      refine ⟨_, s5 _ _ W4.N.qu, ?_, fun p2 hp2 => ?_⟩
      · rw [List.length_map]; exact Nat.le_trans (show (stepS w ts why S).q.length + 1 ≤ 1000 by omega) (by decide)
      have s6 := fun o => Same.upd_new (o := o) s5 hp2
      have W6 := W4.same (s6 (.lst ((stepS w ts why S).q.map V.str ++ [.str t])))
      obtain ⟨lb6, hb6, hB6⟩ := W6.bag
      have n2 : p2 ≠ b := (ne_of_none (s5 _ _ hb1) hp2).symm
      refine ⟨b, _, lb6, .ref p2, rfl, hb6, hB6, by omega, .inl ⟨p2, _, rfl, n2, upd_same, by simp, ?_, fun v lb7 hv hB7 => ?_⟩⟩
      · rw [List.length_append, List.length_map]; show (stepS w ts why S).q.length + 1 ≤ 1000000; omega
      obtain ⟨t7, rfl⟩ : ∃ t7, v = .str t7 := by
        rcases List.mem_append.mp hv with h | h
        · obtain ⟨z, _, rfl⟩ := List.mem_map.mp h; exact ⟨z, rfl⟩
        · exact ⟨t, List.mem_singleton.mp h⟩
      have W7 := W6.kp Kp.put upd_same hB7
      obtain ⟨dc, c1, c2, c3⟩ := W7.dc
      refine ⟨x, l', d, lq2, _, g', t7, dc, rfl, W7.L, W7.N, c1, c2, fun H8 s8 => ⟨true, rfl, iteF ⟨l', lq2, _, g', _, _, _, _, _, _, rfl, (W7.same s8).up (by omega), ?_, nwb, nwl3, by omega⟩⟩⟩
      exact s8 _ _ (by rw [upd_ne nwb]; exact s6 _ _ _ (k4 _ _ nwb hwl3))
    · obtain ⟨l, lq, S, g, v5, v6, v7, v8, v9, v10, rfl, W, hwl, nwb, nwl, hsz⟩ := hI
      exact k _ W.fr
  · intro x dx hx hdx hne
    refine ⟨x, dx, nn, rfl, upd_same, fun H3 l hl L3 k3 => ⟨rfl, nn, rfl, fun H4 d q hd hq hdq N4 Q4 s4 p hp => ?_⟩⟩
    have W := start_ok hb2 hB2 hk2 hx hdx hl L3 k3 hd hq hdq N4 Q4 s4
    have Wp := W.same (Same.new hp (o := .lst wds))
    obtain ⟨lb5, hb5, hB5⟩ := Wp.bag
    have npb : p ≠ b := by
      obtain ⟨lb5, hb5, hB5⟩ := W.bag
      exact (ne_of_none hb5 hp).symm
    have npl : p ≠ l := (ne_of_none W.L.qu hp).symm
    refine ⟨b, 44, 2, lb5, rfl, hb5, hB5, by decide, by decide, by decide, fun r3 lb6 r30 r31 hB6 => ?_⟩
    refine ⟨r3, rfl, by omega, by omega, loop_it (n := (4 + r3).toNat) walk_range (HInv K H b x d p nn) ?_ (fun _ _ _ _ _ => trivial) (fun i y σ H6 H7 hi hI hy => ?_) (fun σ H6 hI => ?_)⟩
    · exact ⟨l, q, newS nn, .non, none, none, none, none, none, none, rfl, Wp.kp Kp.put upd_same (bag_up hB6 (by decide)), by rw [upd_ne npb, upd_same]; rfl, npb, npl, Nat.zero_le _⟩
    · clear hb hB hB1 hB2 hb2 hk2 hx hdx hne hl L3 k3 hd hq hdq N4 Q4 s4 hp W Wp hb5 hB5 npb npl hB6
      obtain ⟨rfl, rfl⟩ := hy
      obtain ⟨l, lq, S, g, v5, v6, v7, v8, v9, v10, rfl, W, hwl, nwb, nwl, hsz⟩ := hI
      have hi4 : i < 48 := by omega
      simp only [gName, List.set_cons_succ, List.set_cons_zero]
      refine seq_cut (P := fun σ' H' => ∃ w, σ' = [some (.ref b), some (.int nn), some (.ref x), some (.ref d), some (.ref p), some (.int (0 + (i : Int))), some (.str w), v7, v8, v9, v10] ∧ W8 w ∧ Wd K H H' b x l d lq S g (10 + 50 * i + 2) ∧ H' p = some (.lst wds)) (fun R hR => ?_) (fun σ1 H1 hP => ?_)
      · simp only [tSeq, tAsg, tRet, tRetN, tIfS, tDrop, tNext, tBreak, tCont, tVar, tC, tOp, tUn, tB, tTest, tAnd, tOr, tNot, tAndV, tOrV, tNotV, tIf, tNil, tCons, tTup, tLst, tCB, tCallR, tMethR, tPropR, StX.tMakeR, tFld, sFld, sFldAug, tPar, tPar3, gName, gNil, gCons, gTup, gSub, rI, rI0, rU, rEq, rNe, mIxL, mIxT, mLenL, mLenT, mLenS, mLenD, mLenK, mList, mTupL, mInt, mAbs, mMax, mMin, mStr, mAddS, mIsN, mNotN, rIxS, rIxL, rSetL, rAppend, rExtendT, rPopAt, rCat, rIn, tBM, tBM0, tChain, tNever, scal, L2.start, cxK, iRng1, iRng2, tDNewK, tDGet, tDGet2, sDPut, tDIn, tDNotIn, DGet_dk, DPut_dk, IsD_dk, tyV_list, isLst_lst, isDk_dk, dkOf_dk, atI_0, atI_1, atI_2, atI_3, ixN_30, ixN_31, ixN_32, List.map, List.replicate, List.length_cons, List.length_nil, List.nil_append, List.cons_append, List.append_nil, Nat.reduceSub, Nat.reduceAdd, List.getElem?_cons_zero, List.getElem?_cons_succ, List.set_cons_zero, List.set_cons_succ, List.cons.injEq, Option.some.injEq, V.int.injEq, V.str.injEq, V.bl.injEq, V.ref.injEq, HO.ins.injEq, HO.lst.injEq, HO.tup.injEq, HO.dK.injEq, exists_eq_left, exists_eq_left', exists_eq_right, exists_eq_right', exists_and_left, exists_and_right, true_and, and_true, and_self, if_true, if_false, Bool.false_eq_true, Bool.true_eq_false, eq_self, reduceCtorEq, false_and, and_false, upd_same, upd_upd, and_assoc, Int.reduceToNat, Int.reducePow, Int.reduceMul, Int.reduceAdd, Int.reduceNeg, mIsi, mIsi2, kdV_non, kdV_bl, kdV_int, kdV_str, kdV_ref, kdO_lst, kdO_tup, kdO_dK, V.ty.injEq, mAll, mAny, kit_NoneType_bool, kit_NoneType_int, kit_NoneType_str, kit_NoneType_list, kit_NoneType_tuple, kit_NoneType_dict, kit_bool_bool, kit_bool_int, kit_bool_str, kit_bool_list, kit_bool_tuple, kit_bool_dict, kit_int_bool, kit_int_int, kit_int_str, kit_int_list, kit_int_tuple, kit_int_dict, kit_str_bool, kit_str_int, kit_str_str, kit_str_list, kit_str_tuple, kit_str_dict, kit_list_bool, kit_list_int, kit_list_str, kit_list_list, kit_list_tuple, kit_list_dict, kit_tuple_bool, kit_tuple_int, kit_tuple_str, kit_tuple_list, kit_tuple_tuple, kit_tuple_dict, kit_dict_bool, kit_dict_int, kit_dict_str, kit_dict_list, kit_dict_tuple, kit_dict_dict, String.reduceEq, String.reduceNe, ne_eq, not_false_eq_true, not_true_eq_false, decide_false, decide_true, Bool.not_false, Bool.not_true, Bool.or_false, Bool.false_or, Bool.or_true, Bool.true_or, gTupH, wipe, tYes, exists_eq', exists_eq, exists_const, tFor_eq, tLc_eq, tCallX, tMethX, tRaiseOw, tMkOw, tFldOw, mIxA, mLenA, rInO, rNotInO, mLenO, rSetD, tM1, false_or, or_false, tInT, inV_nil, inV_str, flatV_str, flatV_int, flatV_non, mIntB, List.all_cons, List.all_nil, Bool.and_true, Bool.true_and, Bool.and_self, tDisp, tPairs, exk_nil, exk_str, leS0, leS1, leS2, leS3, leS4, leS5, leS6, leS7, leS8, leS9, leS10, leS11, leS12, Nat.reduceLeDiff, mBoolB, rEqNil]
        obtain ⟨lb, hb, hB⟩ := W.bag
        refine ⟨b, 25, _, lb, rfl, hb, hB, by decide, by decide, by omega, fun r lb1 r0 r1 hB1 => ⟨rfl, ite_dec (fun h => ?_) (fun h => ?_)⟩⟩
        · exact hR _ _ ⟨"close", rfl, by simp [W8], W.kp Kp.put upd_same (bag_up hB1 (by omega)), by rw [upd_ne nwb]; exact hwl⟩
        · refine ⟨b, _, lb1, .ref p, rfl, upd_same, hB1, by omega, .inl ⟨p, wds, rfl, nwb, by rw [upd_ne nwb]; exact hwl, (fun z => by cases z), by decide, fun v lb2 hv hB2 => ?_⟩⟩
          obtain ⟨w, rfl, hw⟩ := wds_W8 hv
          exact hR _ _ ⟨w, rfl, hw, (W.kp Kp.put upd_same hB1).kp Kp.put upd_same (bag_up hB2 (by omega)), by rw [upd_ne nwb, upd_ne nwb]; exact hwl⟩
      clear W hwl
      obtain ⟨w, rfl, hw, W, hwl⟩ := hP
      refine seq_cut (P := fun σ' H' => ∃ (tl : Addr) (ts : List Str), σ' = [some (.ref b), some (.int nn), some (.ref x), some (.ref d), some (.ref p), some (.int (0 + (i : Int))), some (.str w), some (.ref tl), v8, v9, v10] ∧ H' tl = some (.lst (ts.map V.str)) ∧ ts.length ≤ 5 ∧ (w = "ask" → ts.length ≤ 3) ∧ (w = "begin" → ts ≠ []) ∧ tl ≠ b ∧ tl ≠ l ∧ Wd K H H' b x l d lq S g (10 + 50 * i + 34) ∧ H' p = some (.lst wds)) (fun R hR => ?_) (fun σ1 H1 hP => ?_)
      · simp only [tSeq, tAsg, tRet, tRetN, tIfS, tDrop, tNext, tBreak, tCont, tVar, tC, tOp, tUn, tB, tTest, tAnd, tOr, tNot, tAndV, tOrV, tNotV, tIf, tNil, tCons, tTup, tLst, tCB, tCallR, tMethR, tPropR, StX.tMakeR, tFld, sFld, sFldAug, tPar, tPar3, gName, gNil, gCons, gTup, gSub, rI, rI0, rU, rEq, rNe, mIxL, mIxT, mLenL, mLenT, mLenS, mLenD, mLenK, mList, mTupL, mInt, mAbs, mMax, mMin, mStr, mAddS, mIsN, mNotN, rIxS, rIxL, rSetL, rAppend, rExtendT, rPopAt, rCat, rIn, tBM, tBM0, tChain, tNever, scal, L2.start, cxK, iRng1, iRng2, tDNewK, tDGet, tDGet2, sDPut, tDIn, tDNotIn, DGet_dk, DPut_dk, IsD_dk, tyV_list, isLst_lst, isDk_dk, dkOf_dk, atI_0, atI_1, atI_2, atI_3, ixN_30, ixN_31, ixN_32, List.map, List.replicate, List.length_cons, List.length_nil, List.nil_append, List.cons_append, List.append_nil, Nat.reduceSub, Nat.reduceAdd, List.getElem?_cons_zero, List.getElem?_cons_succ, List.set_cons_zero, List.set_cons_succ, List.cons.injEq, Option.some.injEq, V.int.injEq, V.str.injEq, V.bl.injEq, V.ref.injEq, HO.ins.injEq, HO.lst.injEq, HO.tup.injEq, HO.dK.injEq, exists_eq_left, exists_eq_left', exists_eq_right, exists_eq_right', exists_and_left, exists_and_right, true_and, and_true, and_self, if_true, if_false, Bool.false_eq_true, Bool.true_eq_false, eq_self, reduceCtorEq, false_and, and_false, upd_same, upd_upd, and_assoc, Int.reduceToNat, Int.reducePow, Int.reduceMul, Int.reduceAdd, Int.reduceNeg, mIsi, mIsi2, kdV_non, kdV_bl, kdV_int, kdV_str, kdV_ref, kdO_lst, kdO_tup, kdO_dK, V.ty.injEq, mAll, mAny, kit_NoneType_bool, kit_NoneType_int, kit_NoneType_str, kit_NoneType_list, kit_NoneType_tuple, kit_NoneType_dict, kit_bool_bool, kit_bool_int, kit_bool_str, kit_bool_list, kit_bool_tuple, kit_bool_dict, kit_int_bool, kit_int_int, kit_int_str, kit_int_list, kit_int_tuple, kit_int_dict, kit_str_bool, kit_str_int, kit_str_str, kit_str_list, kit_str_tuple, kit_str_dict, kit_list_bool, kit_list_int, kit_list_str, kit_list_list, kit_list_tuple, kit_list_dict, kit_tuple_bool, kit_tuple_int, kit_tuple_str, kit_tuple_list, kit_tuple_tuple, kit_tuple_dict, kit_dict_bool, kit_dict_int, kit_dict_str, kit_dict_list, kit_dict_tuple, kit_dict_dict, String.reduceEq, String.reduceNe, ne_eq, not_false_eq_true, not_true_eq_false, decide_false, decide_true, Bool.not_false, Bool.not_true, Bool.or_false, Bool.false_or, Bool.or_true, Bool.true_or, gTupH, wipe, tYes, exists_eq', exists_eq, exists_const, tFor_eq, tLc_eq, tCallX, tMethX, tRaiseOw, tMkOw, tFldOw, mIxA, mLenA, rInO, rNotInO, mLenO, rSetD, tM1, false_or, or_false, tInT, inV_nil, inV_str, flatV_str, flatV_int, flatV_non, mIntB, List.all_cons, List.all_nil, Bool.and_true, Bool.true_and, Bool.and_self, tDisp, tPairs, exk_nil, exk_str, leS0, leS1, leS2, leS3, leS4, leS5, leS6, leS7, leS8, leS9, leS10, leS11, leS12, Nat.reduceLeDiff, mBoolB, rEqNil]
        obtain ⟨lb, hb, hB⟩ := W.bag
        refine ⟨b, 4, _, lb, rfl, hb, hB, by decide, by decide, by omega, fun r lb1 r0 r1 hB1 => ⟨r, rfl, by omega, by omega, fun D hD => ?_⟩⟩
        have W1 := W.kp Kp.put upd_same hB1
        have hp1 : upd H1 b (.lst lb1) p = some (.lst wds) := by rw [upd_ne nwb]; exact hwl
        generalize upd H1 b (.lst lb1) = G at hD W1 hp1 ⊢
        obtain ⟨lbG, hbG, hBG⟩ := W1.bag
        have nDb : D ≠ b := (ne_of_none hbG hD).symm
        have nDl : D ≠ l := (ne_of_none W1.L.qu hD).symm
        have nDq : D ≠ lq := (ne_of_none W1.N.qu hD).symm
        have nDp : D ≠ p := (ne_of_none hp1 hD).symm
        have hD0 : H D = none := by
          cases e : H D with
          | none => rfl
          | some o => rw [W1.fr _ _ nDb e] at hD; cases hD
        refine loopC_it (n := r.toNat) walk_range (fun j H' => ∃ ts : List Str, Wd K H H' b x l d lq S g (10 + 50 * i + 3 + 6 * j) ∧ H' p = some (.lst wds) ∧ H' D = some (.lst (ts.map V.str)) ∧ ts.length = j) ⟨[], W1.same (Same.new hD), Same.new hD _ _ hp1, upd_same, rfl⟩ (fun _ _ _ _ => trivial) (fun j y H' H'' hj h hy => ?_) (fun H' h => ?_)
        · obtain ⟨rfl, rfl⟩ := hy
          obtain ⟨ts, Wj, hpj, hDj, hl⟩ := h
          simp only [tSeq, tAsg, tRet, tRetN, tIfS, tDrop, tNext, tBreak, tCont, tVar, tC, tOp, tUn, tB, tTest, tAnd, tOr, tNot, tAndV, tOrV, tNotV, tIf, tNil, tCons, tTup, tLst, tCB, tCallR, tMethR, tPropR, StX.tMakeR, tFld, sFld, sFldAug, tPar, tPar3, gName, gNil, gCons, gTup, gSub, rI, rI0, rU, rEq, rNe, mIxL, mIxT, mLenL, mLenT, mLenS, mLenD, mLenK, mList, mTupL, mInt, mAbs, mMax, mMin, mStr, mAddS, mIsN, mNotN, rIxS, rIxL, rSetL, rAppend, rExtendT, rPopAt, rCat, rIn, tBM, tBM0, tChain, tNever, scal, L2.start, cxK, iRng1, iRng2, tDNewK, tDGet, tDGet2, sDPut, tDIn, tDNotIn, DGet_dk, DPut_dk, IsD_dk, tyV_list, isLst_lst, isDk_dk, dkOf_dk, atI_0, atI_1, atI_2, atI_3, ixN_30, ixN_31, ixN_32, List.map, List.replicate, List.length_cons, List.length_nil, List.nil_append, List.cons_append, List.append_nil, Nat.reduceSub, Nat.reduceAdd, List.getElem?_cons_zero, List.getElem?_cons_succ, List.set_cons_zero, List.set_cons_succ, List.cons.injEq, Option.some.injEq, V.int.injEq, V.str.injEq, V.bl.injEq, V.ref.injEq, HO.ins.injEq, HO.lst.injEq, HO.tup.injEq, HO.dK.injEq, exists_eq_left, exists_eq_left', exists_eq_right, exists_eq_right', exists_and_left, exists_and_right, true_and, and_true, and_self, if_true, if_false, Bool.false_eq_true, Bool.true_eq_false, eq_self, reduceCtorEq, false_and, and_false, upd_same, upd_upd, and_assoc, Int.reduceToNat, Int.reducePow, Int.reduceMul, Int.reduceAdd, Int.reduceNeg, mIsi, mIsi2, kdV_non, kdV_bl, kdV_int, kdV_str, kdV_ref, kdO_lst, kdO_tup, kdO_dK, V.ty.injEq, mAll, mAny, kit_NoneType_bool, kit_NoneType_int, kit_NoneType_str, kit_NoneType_list, kit_NoneType_tuple, kit_NoneType_dict, kit_bool_bool, kit_bool_int, kit_bool_str, kit_bool_list, kit_bool_tuple, kit_bool_dict, kit_int_bool, kit_int_int, kit_int_str, kit_int_list, kit_int_tuple, kit_int_dict, kit_str_bool, kit_str_int, kit_str_str, kit_str_list, kit_str_tuple, kit_str_dict, kit_list_bool, kit_list_int, kit_list_str, kit_list_list, kit_list_tuple, kit_list_dict, kit_tuple_bool, kit_tuple_int, kit_tuple_str, kit_tuple_list, kit_tuple_tuple, kit_tuple_dict, kit_dict_bool, kit_dict_int, kit_dict_str, kit_dict_list, kit_dict_tuple, kit_dict_dict, String.reduceEq, String.reduceNe, ne_eq, not_false_eq_true, not_true_eq_false, decide_false, decide_true, Bool.not_false, Bool.not_true, Bool.or_false, Bool.false_or, Bool.or_true, Bool.true_or, gTupH, wipe, tYes, exists_eq', exists_eq, exists_const, tFor_eq, tLc_eq, tCallX, tMethX, tRaiseOw, tMkOw, tFldOw, mIxA, mLenA, rInO, rNotInO, mLenO, rSetD, tM1, false_or, or_false, tInT, inV_nil, inV_str, flatV_str, flatV_int, flatV_non, mIntB, List.all_cons, List.all_nil, Bool.and_true, Bool.true_and, Bool.and_self, tDisp, tPairs, exk_nil, exk_str, leS0, leS1, leS2, leS3, leS4, leS5, leS6, leS7, leS8, leS9, leS10, leS11, leS12, Nat.reduceLeDiff, mBoolB, rEqNil]
          obtain ⟨lbj, hbj, hBj⟩ := Wj.bag
          refine ⟨_, lbj, hbj, hBj, by omega, fun t lbk Hk hBk hbk kk => ⟨ts.map V.str, kk _ _ nDb hDj, ?_, ?_, ?_, ts ++ [t], ?_, ?_⟩⟩
          · rw [List.length_map, hl]; exact Nat.lt_of_lt_of_le (show j < 100 by omega) (by decide)
          · exact ((Wj.kp kk hbk hBk).put (kk _ _ nDb hDj) nDb nDl nDq hD0).up (by omega)
          · rw [upd_ne nDp.symm]; exact kk _ _ nwb hpj
          · rw [List.map_append]; rfl
          · simp [hl]
        · obtain ⟨ts, Wn, hpn, hDn, hl⟩ := h
          obtain ⟨lbn, hbn, hBn⟩ := Wn.bag
          refine ⟨b, _, lbn, rfl, hbn, hBn, by omega, fun t lbk Hk hBk hbk kk p1 hp1 => ?_⟩
          have Wk := Wn.kp kk hbk hBk
          have hDk := kk _ _ nDb hDn
          have hpk := kk _ _ nwb hpn
          have s1 : Same Hk (upd Hk p1 (.lst [.str t])) := Same.new hp1
          refine ⟨p1, _, [.str t], rfl, rfl, upd_same, by split <;> decide, by split <;> decide, ?_, fun p2 hp2 => ?_⟩
          · split
            · show 1 ≤ sizeLine; decide
            · show 0 ≤ sizeLine; decide
          have s2 := fun o => Same.upd_new (o := o) s1 hp2
          refine ⟨p2, rfl, _, s2 _ _ _ hDk, _, upd_same, ?_, fun p3 hp3 => ?_⟩
          · split
            · show (ts.map V.str).length + 1 ≤ sizeLine
              rw [List.length_map, hl]; exact Nat.le_trans (show r.toNat + 1 ≤ 100 by omega) (by decide)
            · show (ts.map V.str).length + 0 ≤ sizeLine
              rw [List.length_map, hl]; exact Nat.le_trans (show r.toNat + 0 ≤ 100 by omega) (by decide)
          have s3 := fun o2 => Same.upd_new (o := o2) (s2 _) hp3
          have e3 : p3 ≠ b := (ne_of_none (s2 _ _ _ hbk) hp3).symm
          have e4 : p3 ≠ l := (ne_of_none (s2 _ _ _ Wk.L.qu) hp3).symm
          by_cases hbw : w = "begin"
          · refine hR _ _ ⟨p3, ts ++ [t], rfl, ?_, ?_, ?_, (fun _ => by simp), e3, e4, (Wk.same (s3 _)).up (by omega), s3 _ _ _ hpk⟩
            · rw [upd_same, if_pos (decide_eq_true hbw), List.map_append]; rfl
            · simp [hl]; omega
            · intro z; rw [hbw] at z; exact absurd z (by decide)
          · refine hR _ _ ⟨p3, ts, rfl, ?_, by omega, (fun _ => by omega), (fun z => absurd z hbw), e3, e4, (Wk.same (s3 _)).up (by omega), s3 _ _ _ hpk⟩
            rw [upd_same, if_neg (by rw [decide_eq_false hbw]; decide)]
            show some (HO.lst (ts.map V.str ++ [])) = _
            rw [List.append_nil]
      clear W hwl
      obtain ⟨tl, ts, rfl, ht, t5, t3, tb, ntb, ntl, W, hwl⟩ := hP
      refine seq_cut (P := fun σ' H' => ∃ (why : V), σ' = [some (.ref b), some (.int nn), some (.ref x), some (.ref d), some (.ref p), some (.int (0 + (i : Int))), some (.str w), some (.ref tl), some why, v9, v10] ∧ H' tl = some (.lst (ts.map V.str)) ∧ (∃ dc, Da H' why dc ∧ dpt 4 dc = true ∧ noL dc = true) ∧ Wd K H H' b x l d lq S g (10 + 50 * i + 35) ∧ H' p = some (.lst wds)) (fun R hR => ?_) (fun σ1 H1 hP => ?_)
      · simp only [tSeq, tAsg, tRet, tRetN, tIfS, tDrop, tNext, tBreak, tCont, tVar, tC, tOp, tUn, tB, tTest, tAnd, tOr, tNot, tAndV, tOrV, tNotV, tIf, tNil, tCons, tTup, tLst, tCB, tCallR, tMethR, tPropR, StX.tMakeR, tFld, sFld, sFldAug, tPar, tPar3, gName, gNil, gCons, gTup, gSub, rI, rI0, rU, rEq, rNe, mIxL, mIxT, mLenL, mLenT, mLenS, mLenD, mLenK, mList, mTupL, mInt, mAbs, mMax, mMin, mStr, mAddS, mIsN, mNotN, rIxS, rIxL, rSetL, rAppend, rExtendT, rPopAt, rCat, rIn, tBM, tBM0, tChain, tNever, scal, L2.start, cxK, iRng1, iRng2, tDNewK, tDGet, tDGet2, sDPut, tDIn, tDNotIn, DGet_dk, DPut_dk, IsD_dk, tyV_list, isLst_lst, isDk_dk, dkOf_dk, atI_0, atI_1, atI_2, atI_3, ixN_30, ixN_31, ixN_32, List.map, List.replicate, List.length_cons, List.length_nil, List.nil_append, List.cons_append, List.append_nil, Nat.reduceSub, Nat.reduceAdd, List.getElem?_cons_zero, List.getElem?_cons_succ, List.set_cons_zero, List.set_cons_succ, List.cons.injEq, Option.some.injEq, V.int.injEq, V.str.injEq, V.bl.injEq, V.ref.injEq, HO.ins.injEq, HO.lst.injEq, HO.tup.injEq, HO.dK.injEq, exists_eq_left, exists_eq_left', exists_eq_right, exists_eq_right', exists_and_left, exists_and_right, true_and, and_true, and_self, if_true, if_false, Bool.false_eq_true, Bool.true_eq_false, eq_self, reduceCtorEq, false_and, and_false, upd_same, upd_upd, and_assoc, Int.reduceToNat, Int.reducePow, Int.reduceMul, Int.reduceAdd, Int.reduceNeg, mIsi, mIsi2, kdV_non, kdV_bl, kdV_int, kdV_str, kdV_ref, kdO_lst, kdO_tup, kdO_dK, V.ty.injEq, mAll, mAny, kit_NoneType_bool, kit_NoneType_int, kit_NoneType_str, kit_NoneType_list, kit_NoneType_tuple, kit_NoneType_dict, kit_bool_bool, kit_bool_int, kit_bool_str, kit_bool_list, kit_bool_tuple, kit_bool_dict, kit_int_bool, kit_int_int, kit_int_str, kit_int_list, kit_int_tuple, kit_int_dict, kit_str_bool, kit_str_int, kit_str_str, kit_str_list, kit_str_tuple, kit_str_dict, kit_list_bool, kit_list_int, kit_list_str, kit_list_list, kit_list_tuple, kit_list_dict, kit_tuple_bool, kit_tuple_int, kit_tuple_str, kit_tuple_list, kit_tuple_tuple, kit_tuple_dict, kit_dict_bool, kit_dict_int, kit_dict_str, kit_dict_list, kit_dict_tuple, kit_dict_dict, String.reduceEq, String.reduceNe, ne_eq, not_false_eq_true, not_true_eq_false, decide_false, decide_true, Bool.not_false, Bool.not_true, Bool.or_false, Bool.false_or, Bool.or_true, Bool.true_or, gTupH, wipe, tYes, exists_eq', exists_eq, exists_const, tFor_eq, tLc_eq, tCallX, tMethX, tRaiseOw, tMkOw, tFldOw, mIxA, mLenA, rInO, rNotInO, mLenO, rSetD, tM1, false_or, or_false, tInT, inV_nil, inV_str, flatV_str, flatV_int, flatV_non, mIntB, List.all_cons, List.all_nil, Bool.and_true, Bool.true_and, Bool.and_self, tDisp, tPairs, exk_nil, exk_str, leS0, leS1, leS2, leS3, leS4, leS5, leS6, leS7, leS8, leS9, leS10, leS11, leS12, Nat.reduceLeDiff, mBoolB, rEqNil]
        intro p1 hp1 p2 hp2
        have s1 : Same H1 (upd H1 p1 (.tup [.str "cut", .int (0 + (i : Int))])) := Same.new hp1
        have s2 : Same H1 (upd (upd H1 p1 (.tup [.str "cut", .int (0 + (i : Int))])) p2 (.lst [.non, .str "why", .ref p1])) := Same.upd_new s1 hp2
        have hc1 : upd (upd H1 p1 (.tup [.str "cut", .int (0 + (i : Int))])) p2 (.lst [.non, .str "why", .ref p1]) p1 = some (.tup [.str "cut", .int (0 + (i : Int))]) := Same.new hp2 _ _ upd_same
        have hc2 : upd (upd H1 p1 (.tup [.str "cut", .int (0 + (i : Int))])) p2 (.lst [.non, .str "why", .ref p1]) p2 = some (.lst [.non, .str "why", .ref p1]) := upd_same
        have W2 := W.same s2
        have n2 : p2 ≠ b := by
          obtain ⟨lb, hb, _⟩ := W.bag
          exact (ne_of_none (s1 _ _ hb) hp2).symm
        generalize upd (upd H1 p1 (.tup [.str "cut", .int (0 + (i : Int))])) p2 (.lst [.non, .str "why", .ref p1]) = G at s2 hc1 hc2 W2 ⊢
        obtain ⟨lb, hb, hB⟩ := W2.bag
        refine ⟨b, _, lb, .ref p2, rfl, hb, hB, by omega, .inl ⟨p2, _, rfl, n2, hc2, (fun z => by cases z), by simp, fun v lb2 hv hB2 => ?_⟩⟩
        have n1 : p1 ≠ b := fun e => by rw [e, hb] at hc1; cases hc1
        refine hR _ _ ⟨v, rfl, by rw [upd_ne ntb]; exact s2 _ _ ht, ?_, W2.kp Kp.put upd_same (bag_up hB2 (by omega)), by rw [upd_ne nwb]; exact s2 _ _ hwl⟩
        simp only [List.mem_cons, List.not_mem_nil, or_false] at hv
        rcases hv with rfl | rfl | rfl
        · exact ⟨.none, .non, rfl, rfl⟩
        · exact ⟨.str _, .str _, rfl, rfl⟩
        · exact ⟨.tuple [.str _, .int _], .tup (by rw [upd_ne n1]; exact hc1) (.cons (.str _) (.cons (.int _) .nil)), rfl, rfl⟩
      clear W hwl ht
      obtain ⟨why, rfl, ht, hdc, W, hwl⟩ := hP
      have hsz2 : S.q.length + ts.length < 100000 := by omega
      refine seq_cut (P := fun σ' H' => ∃ (r : V) (lq2 : Addr) (g' : V), σ' = [some (.ref b), some (.int nn), some (.ref x), some (.ref d), some (.ref p), some (.int (0 + (i : Int))), some (.str w), some (.ref tl), some why, some r, v10] ∧ NowAt H' d lq2 (stepS w ts why S) g' ∧ DaF H1 H' r (stepR w S) ∧ Kp d H1 H' ∧ (lq2 = lq ∨ H1 lq2 = none)) (fun R hR => ?_) (fun σ1 H2 hP => ?_)
      · simp only [tSeq, tAsg, tRet, tRetN, tIfS, tDrop, tNext, tBreak, tCont, tVar, tC, tOp, tUn, tB, tTest, tAnd, tOr, tNot, tAndV, tOrV, tNotV, tIf, tNil, tCons, tTup, tLst, tCB, tCallR, tMethR, tPropR, StX.tMakeR, tFld, sFld, sFldAug, tPar, tPar3, gName, gNil, gCons, gTup, gSub, rI, rI0, rU, rEq, rNe, mIxL, mIxT, mLenL, mLenT, mLenS, mLenD, mLenK, mList, mTupL, mInt, mAbs, mMax, mMin, mStr, mAddS, mIsN, mNotN, rIxS, rIxL, rSetL, rAppend, rExtendT, rPopAt, rCat, rIn, tBM, tBM0, tChain, tNever, scal, L2.start, cxK, iRng1, iRng2, tDNewK, tDGet, tDGet2, sDPut, tDIn, tDNotIn, DGet_dk, DPut_dk, IsD_dk, tyV_list, isLst_lst, isDk_dk, dkOf_dk, atI_0, atI_1, atI_2, atI_3, ixN_30, ixN_31, ixN_32, List.map, List.replicate, List.length_cons, List.length_nil, List.nil_append, List.cons_append, List.append_nil, Nat.reduceSub, Nat.reduceAdd, List.getElem?_cons_zero, List.getElem?_cons_succ, List.set_cons_zero, List.set_cons_succ, List.cons.injEq, Option.some.injEq, V.int.injEq, V.str.injEq, V.bl.injEq, V.ref.injEq, HO.ins.injEq, HO.lst.injEq, HO.tup.injEq, HO.dK.injEq, exists_eq_left, exists_eq_left', exists_eq_right, exists_eq_right', exists_and_left, exists_and_right, true_and, and_true, and_self, if_true, if_false, Bool.false_eq_true, Bool.true_eq_false, eq_self, reduceCtorEq, false_and, and_false, upd_same, upd_upd, and_assoc, Int.reduceToNat, Int.reducePow, Int.reduceMul, Int.reduceAdd, Int.reduceNeg, mIsi, mIsi2, kdV_non, kdV_bl, kdV_int, kdV_str, kdV_ref, kdO_lst, kdO_tup, kdO_dK, V.ty.injEq, mAll, mAny, kit_NoneType_bool, kit_NoneType_int, kit_NoneType_str, kit_NoneType_list, kit_NoneType_tuple, kit_NoneType_dict, kit_bool_bool, kit_bool_int, kit_bool_str, kit_bool_list, kit_bool_tuple, kit_bool_dict, kit_int_bool, kit_int_int, kit_int_str, kit_int_list, kit_int_tuple, kit_int_dict, kit_str_bool, kit_str_int, kit_str_str, kit_str_list, kit_str_tuple, kit_str_dict, kit_list_bool, kit_list_int, kit_list_str, kit_list_list, kit_list_tuple, kit_list_dict, kit_tuple_bool, kit_tuple_int, kit_tuple_str, kit_tuple_list, kit_tuple_tuple, kit_tuple_dict, kit_dict_bool, kit_dict_int, kit_dict_str, kit_dict_list, kit_dict_tuple, kit_dict_dict, String.reduceEq, String.reduceNe, ne_eq, not_false_eq_true, not_true_eq_false, decide_false, decide_true, Bool.not_false, Bool.not_true, Bool.or_false, Bool.false_or, Bool.or_true, Bool.true_or, gTupH, wipe, tYes, exists_eq', exists_eq, exists_const, tFor_eq, tLc_eq, tCallX, tMethX, tRaiseOw, tMkOw, tFldOw, mIxA, mLenA, rInO, rNotInO, mLenO, rSetD, tM1, false_or, or_false, tInT, inV_nil, inV_str, flatV_str, flatV_int, flatV_non, mIntB, List.all_cons, List.all_nil, Bool.and_true, Bool.true_and, Bool.and_self, tDisp, tPairs, exk_nil, exk_str, leS0, leS1, leS2, leS3, leS4, leS5, leS6, leS7, leS8, leS9, leS10, leS11, leS12, Nat.reduceLeDiff, mBoolB, rEqNil]
        exact ⟨d, lq, tl, S, g, w, ts, why, rfl, W.N, ht, hw, W.G, tb, hsz2, fun H' r lq' g' h1 h2 h3 h4 => hR _ _ ⟨r, lq', g', rfl, h1, h2, h3, h4⟩⟩
      obtain ⟨r, lq2, g', rfl, N2, D2, k2, q2⟩ := hP
      obtain ⟨e1, e2, e3, e4, e5⟩ := W.na
      have nd : tl ≠ d := fun e => by rw [e, W.N.ob] at ht; cases ht
      have pd : p ≠ d := fun e => by rw [e, W.N.ob] at hwl; cases hwl
      obtain ⟨dx0, ha0⟩ := W.L.ob
      have pa : p ≠ x := fun e => by rw [e, ha0] at hwl; cases hwl
      have L2' : LineAt K H2 x l S := ⟨⟨dx0, k2 _ _ e3 ha0⟩, k2 _ _ e5.symm W.L.qu, W.L.ne, W.L.sz⟩
      have hc3 : ∃ dc, Da H1 (stepS w ts why S).c dc ∧ dpt 4 dc = true ∧ noL dc = true := by
        rcases cause_step (w := w) (ts := ts) (why := why) (S := S) with h | h <;> rw [h]
        · exact W.dc
        · exact hdc
      refine seq_cut (P := fun σ' H' => ∃ (l' : Addr), σ' = [some (.ref b), some (.int nn), some (.ref x), some (.ref d), some (.ref p), some (.int (0 + (i : Int))), some (.str w), some (.ref tl), some why, some r, v10] ∧ Wd K H H' b x l' d lq2 (stepS w ts why S) g' (10 + 50 * i + 35) ∧ H' p = some (.lst wds) ∧ p ≠ l') (fun R hR => ?_) (fun σ1 H3 hP => ?_)
      · simp only [tSeq, tAsg, tRet, tRetN, tIfS, tDrop, tNext, tBreak, tCont, tVar, tC, tOp, tUn, tB, tTest, tAnd, tOr, tNot, tAndV, tOrV, tNotV, tIf, tNil, tCons, tTup, tLst, tCB, tCallR, tMethR, tPropR, StX.tMakeR, tFld, sFld, sFldAug, tPar, tPar3, gName, gNil, gCons, gTup, gSub, rI, rI0, rU, rEq, rNe, mIxL, mIxT, mLenL, mLenT, mLenS, mLenD, mLenK, mList, mTupL, mInt, mAbs, mMax, mMin, mStr, mAddS, mIsN, mNotN, rIxS, rIxL, rSetL, rAppend, rExtendT, rPopAt, rCat, rIn, tBM, tBM0, tChain, tNever, scal, L2.start, cxK, iRng1, iRng2, tDNewK, tDGet, tDGet2, sDPut, tDIn, tDNotIn, DGet_dk, DPut_dk, IsD_dk, tyV_list, isLst_lst, isDk_dk, dkOf_dk, atI_0, atI_1, atI_2, atI_3, ixN_30, ixN_31, ixN_32, List.map, List.replicate, List.length_cons, List.length_nil, List.nil_append, List.cons_append, List.append_nil, Nat.reduceSub, Nat.reduceAdd, List.getElem?_cons_zero, List.getElem?_cons_succ, List.set_cons_zero, List.set_cons_succ, List.cons.injEq, Option.some.injEq, V.int.injEq, V.str.injEq, V.bl.injEq, V.ref.injEq, HO.ins.injEq, HO.lst.injEq, HO.tup.injEq, HO.dK.injEq, exists_eq_left, exists_eq_left', exists_eq_right, exists_eq_right', exists_and_left, exists_and_right, true_and, and_true, and_self, if_true, if_false, Bool.false_eq_true, Bool.true_eq_false, eq_self, reduceCtorEq, false_and, and_false, upd_same, upd_upd, and_assoc, Int.reduceToNat, Int.reducePow, Int.reduceMul, Int.reduceAdd, Int.reduceNeg, mIsi, mIsi2, kdV_non, kdV_bl, kdV_int, kdV_str, kdV_ref, kdO_lst, kdO_tup, kdO_dK, V.ty.injEq, mAll, mAny, kit_NoneType_bool, kit_NoneType_int, kit_NoneType_str, kit_NoneType_list, kit_NoneType_tuple, kit_NoneType_dict, kit_bool_bool, kit_bool_int, kit_bool_str, kit_bool_list, kit_bool_tuple, kit_bool_dict, kit_int_bool, kit_int_int, kit_int_str, kit_int_list, kit_int_tuple, kit_int_dict, kit_str_bool, kit_str_int, kit_str_str, kit_str_list, kit_str_tuple, kit_str_dict, kit_list_bool, kit_list_int, kit_list_str, kit_list_list, kit_list_tuple, kit_list_dict, kit_tuple_bool, kit_tuple_int, kit_tuple_str, kit_tuple_list, kit_tuple_tuple, kit_tuple_dict, kit_dict_bool, kit_dict_int, kit_dict_str, kit_dict_list, kit_dict_tuple, kit_dict_dict, String.reduceEq, String.reduceNe, ne_eq, not_false_eq_true, not_true_eq_false, decide_false, decide_true, Bool.not_false, Bool.not_true, Bool.or_false, Bool.false_or, Bool.or_true, Bool.true_or, gTupH, wipe, tYes, exists_eq', exists_eq, exists_const, tFor_eq, tLc_eq, tCallX, tMethX, tRaiseOw, tMkOw, tFldOw, mIxA, mLenA, rInO, rNotInO, mLenO, rSetD, tM1, false_or, or_false, tInT, inV_nil, inV_str, flatV_str, flatV_int, flatV_non, mIntB, List.all_cons, List.all_nil, Bool.and_true, Bool.true_and, Bool.and_self, tDisp, tPairs, exk_nil, exk_str, leS0, leS1, leS2, leS3, leS4, leS5, leS6, leS7, leS8, leS9, leS10, leS11, leS12, Nat.reduceLeDiff, mBoolB, rEqNil]
        refine ⟨x, l, tl, S, w, ts, why, rfl, L2', k2 _ _ nd ht, hw, W.G, t3, tb, hsz2, fun H3 l' r3 L3 D3 k3 q3 => ?_⟩
        refine use_same D3 (D2 H3 fun c o h1 h2 => k3 _ _ (ne_of_none ha0 h1).symm (ne_of_none W.L.qu h1).symm h2) ?_ fun H4 s4 => ?_
        · exact dpt_step W.L.sz
        · refine hR _ _ ⟨l', rfl, (W.step N2 k2 q2 L3 k3 q3 (good_step W.G hw) hc3).same s4, s4 _ _ (k3 _ _ pa nwl (k2 _ _ pd hwl)), ?_⟩
          rcases q3 with rfl | q3
          · exact nwl
          · exact ne_of_none (k2 _ _ pd hwl) q3
      obtain ⟨l', rfl, W3, hwl3, nwl3⟩ := hP
      have hN3 := W3.N
      have hd3 := W3.N.ob
      have hq3 := W3.N.qu
      simp only [tSeq, tAsg, tRet, tRetN, tIfS, tDrop, tNext, tBreak, tCont, tVar, tC, tOp, tUn, tB, tTest, tAnd, tOr, tNot, tAndV, tOrV, tNotV, tIf, tNil, tCons, tTup, tLst, tCB, tCallR, tMethR, tPropR, StX.tMakeR, tFld, sFld, sFldAug, tPar, tPar3, gName, gNil, gCons, gTup, gSub, rI, rI0, rU, rEq, rNe, mIxL, mIxT, mLenL, mLenT, mLenS, mLenD, mLenK, mList, mTupL, mInt, mAbs, mMax, mMin, mStr, mAddS, mIsN, mNotN, rIxS, rIxL, rSetL, rAppend, rExtendT, rPopAt, rCat, rIn, tBM, tBM0, tChain, tNever, scal, L2.start, cxK, iRng1, iRng2, tDNewK, tDGet, tDGet2, sDPut, tDIn, tDNotIn, DGet_dk, DPut_dk, IsD_dk, tyV_list, isLst_lst, isDk_dk, dkOf_dk, atI_0, atI_1, atI_2, atI_3, ixN_30, ixN_31, ixN_32, List.map, List.replicate, List.length_cons, List.length_nil, List.nil_append, List.cons_append, List.append_nil, Nat.reduceSub, Nat.reduceAdd, List.getElem?_cons_zero, List.getElem?_cons_succ, List.set_cons_zero, List.set_cons_succ, List.cons.injEq, Option.some.injEq, V.int.injEq, V.str.injEq, V.bl.injEq, V.ref.injEq, HO.ins.injEq, HO.lst.injEq, HO.tup.injEq, HO.dK.injEq, exists_eq_left, exists_eq_left', exists_eq_right, exists_eq_right', exists_and_left, exists_and_right, true_and, and_true, and_self, if_true, if_false, Bool.false_eq_true, Bool.true_eq_false, eq_self, reduceCtorEq, false_and, and_false, upd_same, upd_upd, and_assoc, Int.reduceToNat, Int.reducePow, Int.reduceMul, Int.reduceAdd, Int.reduceNeg, mIsi, mIsi2, kdV_non, kdV_bl, kdV_int, kdV_str, kdV_ref, kdO_lst, kdO_tup, kdO_dK, V.ty.injEq, mAll, mAny, kit_NoneType_bool, kit_NoneType_int, kit_NoneType_str, kit_NoneType_list, kit_NoneType_tuple, kit_NoneType_dict, kit_bool_bool, kit_bool_int, kit_bool_str, kit_bool_list, kit_bool_tuple, kit_bool_dict, kit_int_bool, kit_int_int, kit_int_str, kit_int_list, kit_int_tuple, kit_int_dict, kit_str_bool, kit_str_int, kit_str_str, kit_str_list, kit_str_tuple, kit_str_dict, kit_list_bool, kit_list_int, kit_list_str, kit_list_list, kit_list_tuple, kit_list_dict, kit_tuple_bool, kit_tuple_int, kit_tuple_str, kit_tuple_list, kit_tuple_tuple, kit_tuple_dict, kit_dict_bool, kit_dict_int, kit_dict_str, kit_dict_list, kit_dict_tuple, kit_dict_dict, String.reduceEq, String.reduceNe, ne_eq, not_false_eq_true, not_true_eq_false, decide_false, decide_true, Bool.not_false, Bool.not_true, Bool.or_false, Bool.false_or, Bool.or_true, Bool.true_or, gTupH, wipe, tYes, exists_eq', exists_eq, exists_const, tFor_eq, tLc_eq, tCallX, tMethX, tRaiseOw, tMkOw, tFldOw, mIxA, mLenA, rInO, rNotInO, mLenO, rSetD, tM1, false_or, or_false, tInT, inV_nil, inV_str, flatV_str, flatV_int, flatV_non, mIntB, List.all_cons, List.all_nil, Bool.and_true, Bool.true_and, Bool.and_self, tDisp, tPairs, exk_nil, exk_str, leS0, leS1, leS2, leS3, leS4, leS5, leS6, leS7, leS8, leS9, leS10, leS11, leS12, Nat.reduceLeDiff, mBoolB, rEqNil, hd3, hq3, nl_queue]
      have hlen : (stepS w ts why S).q.length ≤ 10 * i + 6 := Nat.le_trans len_step (by omega)
      obtain ⟨lb, hb, hB⟩ := W3.bag
      refine ⟨b, _, lb, rfl, hb, hB, by omega, fun t lb1 H4 hB1 hb1 k4 p1 hp1 => ?_⟩
      have W4 := W3.kp k4 hb1 hB1
      have s5 : Same H4 (upd H4 p1 (.lst [.str t])) := Same.new hp1
      refine ⟨_, s5 _ _ W4.N.qu, ?_, fun p2 hp2 => ?_⟩
      · rw [List.length_map]; exact Nat.le_trans (show (stepS w ts why S).q.length + 1 ≤ 1000 by omega) (by decide)
      have s6 := fun o => Same.upd_new (o := o) s5 hp2
      have W6 := W4.same (s6 (.lst ((stepS w ts why S).q.map V.str ++ [.str t])))
      obtain ⟨lb6, hb6, hB6⟩ := W6.bag
      have n2 : p2 ≠ b := (ne_of_none (s5 _ _ hb1) hp2).symm
      refine ⟨b, _, lb6, .ref p2, rfl, hb6, hB6, by omega, .inl ⟨p2, _, rfl, n2, upd_same, by simp, ?_, fun v lb7 hv hB7 => ?_⟩⟩
      · rw [List.length_append, List.length_map]; show (stepS w ts why S).q.length + 1 ≤ 1000000; omega
      obtain ⟨t7, rfl⟩ : ∃ t7, v = .str t7 := by
        rcases List.mem_append.mp hv with h | h
        · obtain ⟨z, _, rfl⟩ := List.mem_map.mp h; exact ⟨z, rfl⟩
        · exact ⟨t, List.mem_singleton.mp h⟩
      have W7 := W6.kp Kp.put upd_same hB7
      obtain ⟨dc, c1, c2, c3⟩ := W7.dc
      refine ⟨x, l', d, lq2, _, g', t7, dc, rfl, W7.L, W7.N, c1, c2, fun H8 s8 => ⟨true, rfl, iteF ⟨l', lq2, _, g', _, _, _, _, _, _, rfl, (W7.same s8).up (by omega), ?_, nwb, nwl3, by omega⟩⟩⟩
      exact s8 _ _ (by rw [upd_ne nwb]; exact s6 _ _ _ (k4 _ _ nwb hwl3))
    · obtain ⟨l, lq, S, g, v5, v6, v7, v8, v9, v10, rfl, W, hwl, nwb, nwl, hsz⟩ := hI
      exact k _ W.fr
end K31

set_option Elab.async false
set_option linter.all false
set_option maxRecDepth 100000
set_option maxHeartbeats 0
namespace K31
open PySem PySem.Spec PyProof.Rows L2 My
theorem SqL.kp {K : PySem.W.Frag} {b a : Addr} {H H' : Hp} {xs : List V} (h : SqL K H a xs) (k : Kp b H H') (n : H b = none) : SqL K H' a xs := by
  rcases h with (h | ⟨o, h⟩) | h
  · exact .inl (.inl (k _ _ (ne_of_none h n) h))
  · exact .inl (.inr ⟨o, k _ _ (ne_of_none h n) h⟩)
  · exact .inr h
def sp_law (K : PySem.W.Frag) : Sp := fun vs H Q _ => ∃ (a : Addr) (ns : List Int), vs = [.ref a] ∧ SqL K H a (ns.map V.int) ∧ ns.length ≤ 63 ∧ ∀ H', Q (.bl true) H'
theorem ok_law {w : World} {K : PySem.W.Frag} {mg : Str → Option Value} {base : Heap} {fd : FuncData} (F : L2.FunD K D_law.name D_law.qual D_law.params D_law.body D_law.scope (D_law.dvs K) (D_law.kws K) (He.ga K "law") fd) (T : Tx K mg) : FnOk Pg w K mg base CX0 19 (He.ga K "law") fd ["_law_script"] (sp_law K) := by
  refine FunD.ok F sc_law (fun vs H Q E h => by obtain ⟨a, ns, rfl, hS, hlen, k⟩ := h; rfl) (fun cdv A outer s H vs Q E hr h => ?_)
  obtain ⟨a, ns, rfl, hS, hlen, k⟩ := h
  suffices hh : ∃ t, PSs (cxOf CX0 Pg w K mg base ["_law_script", "_law_place"] "law" (defScope s_law) (He.ga K "law") cdv A outer s H E).nox (defBody s_law) t ∧ t { nx := fun _ H' => Q .non H', rt := Q } (start ["_law_script", "_law_place"] [.ref a]) H by
    obtain ⟨t, ht, hq⟩ := hh
    exact ⟨t, ht.nox, hq⟩
  refine ⟨_, (pss_cons (ps_for PassesOwn.never rfl (pi_range1 rfl T.n_range (pa_cons (pe_callB (max2 rfl) (by rfl) T.n_max (by decide +kernel) (pa_cons pe_int (pa_cons (pe_callB (min2 rfl) (by rfl) T.n_min (by decide +kernel) (pa_cons pe_int (pa_cons (pe_callB lenK (by rfl) T.n_len (by decide +kernel) (pa_cons (pv 0) pa_nil)) pa_nil))) pa_nil))) pa_nil)) (pg_name (i := 1) sc_law.nd rfl (by first | exact Or.inl rfl | exact Or.inr rfl)) (pss_one (ps_if (pt_not (pt_val (pe_callR (R_l_holds T) (hr.mono (by decide)) rfl T.g__law_holds T.k__law_holds pass0 (pa_cons (pe_callR (R_l_source T) (hr.mono (by decide)) rfl T.g__law_source T.k__law_source pass0 (pa_cons (pv 0) (pa_cons (pv 1) pa_nil))) pa_nil)))) (pss_one (ps_ret pe_bl)) pss_nil)))
      (pss_one (ps_ret pe_bl))), ?_⟩
  simp only [tSeq, tAsg, tRet, tRetN, tIfS, tDrop, tNext, tBreak, tCont, tVar, tC, tOp, tUn, tB, tTest, tAnd, tOr, tNot, tAndV, tOrV, tNotV, tIf, tNil, tCons, tTup, tLst, tCB, tCallR, tMethR, tPropR, StX.tMakeR, tFld, sFld, sFldAug, tPar, tPar3, gName, gNil, gCons, gTup, gSub, rI, rI0, rU, rEq, rNe, mIxL, mIxT, mLenL, mLenT, mLenS, mLenD, mLenK, mList, mTupL, mInt, mAbs, mMax, mMin, mStr, mAddS, mIsN, mNotN, rIxS, rIxL, rSetL, rAppend, rExtendT, rPopAt, rCat, rIn, tBM, tBM0, tChain, tNever, scal, L2.start, cxK, iRng1, iRng2, tDNewK, tDGet, tDGet2, sDPut, tDIn, tDNotIn, DGet_dk, DPut_dk, IsD_dk, tyV_list, isLst_lst, isDk_dk, dkOf_dk, atI_0, atI_1, atI_2, atI_3, ixN_30, ixN_31, ixN_32, List.map, List.replicate, List.length_cons, List.length_nil, List.nil_append, List.cons_append, List.append_nil, Nat.reduceSub, Nat.reduceAdd, List.getElem?_cons_zero, List.getElem?_cons_succ, List.set_cons_zero, List.set_cons_succ, List.cons.injEq, Option.some.injEq, V.int.injEq, V.str.injEq, V.bl.injEq, V.ref.injEq, HO.ins.injEq, HO.lst.injEq, HO.tup.injEq, HO.dK.injEq, exists_eq_left, exists_eq_left', exists_eq_right, exists_eq_right', exists_and_left, exists_and_right, true_and, and_true, and_self, if_true, if_false, Bool.false_eq_true, Bool.true_eq_false, eq_self, reduceCtorEq, false_and, and_false, upd_same, upd_upd, and_assoc, Int.reduceToNat, Int.reducePow, Int.reduceMul, Int.reduceAdd, Int.reduceNeg, mIsi, mIsi2, kdV_non, kdV_bl, kdV_int, kdV_str, kdV_ref, kdO_lst, kdO_tup, kdO_dK, V.ty.injEq, mAll, mAny, kit_NoneType_bool, kit_NoneType_int, kit_NoneType_str, kit_NoneType_list, kit_NoneType_tuple, kit_NoneType_dict, kit_bool_bool, kit_bool_int, kit_bool_str, kit_bool_list, kit_bool_tuple, kit_bool_dict, kit_int_bool, kit_int_int, kit_int_str, kit_int_list, kit_int_tuple, kit_int_dict, kit_str_bool, kit_str_int, kit_str_str, kit_str_list, kit_str_tuple, kit_str_dict, kit_list_bool, kit_list_int, kit_list_str, kit_list_list, kit_list_tuple, kit_list_dict, kit_tuple_bool, kit_tuple_int, kit_tuple_str, kit_tuple_list, kit_tuple_tuple, kit_tuple_dict, kit_dict_bool, kit_dict_int, kit_dict_str, kit_dict_list, kit_dict_tuple, kit_dict_dict, String.reduceEq, String.reduceNe, ne_eq, not_false_eq_true, not_true_eq_false, decide_false, decide_true, Bool.not_false, Bool.not_true, Bool.or_false, Bool.false_or, Bool.or_true, Bool.true_or, gTupH, wipe, tYes, exists_eq', exists_eq, exists_const, tFor_eq, tLc_eq, tCallX, tMethX, tRaiseOw, tMkOw, tFldOw, mIxA, mLenA, rInO, rNotInO, mLenO, rSetD, tM1, false_or, or_false, tInT, inV_nil, inV_str, flatV_str, flatV_int, flatV_non, mIntB, List.all_cons, List.all_nil, Bool.and_true, Bool.true_and, Bool.and_self, tDisp, tPairs, exk_nil, exk_str, leS0, leS1, leS2, leS3, leS4, leS5, leS6, leS7, leS8, leS9, leS10, leS11, leS12, Nat.reduceLeDiff, mBoolB, rEqNil]
  refine ⟨_, hS, ?_⟩
  have hN : ∃ N : Nat, N ≤ 5 ∧ (if (if ((List.map V.int ns).length : Int) < 5 then ((List.map V.int ns).length : Int) else 5) > 1 then if ((List.map V.int ns).length : Int) < 5 then ((List.map V.int ns).length : Int) else 5 else 1) = (N : Int) := by
    refine ⟨max 1 (min 5 ns.length), by omega, ?_⟩
    rw [List.length_map]
    split <;> split <;> omega
  obtain ⟨N, hN6, eN⟩ := hN
  rw [eN]
  refine ⟨by omega, by omega, loop_it (n := N) walk_range (fun i σ H' => ∃ v, σ = [some (.ref a), v] ∧ SqL K H' a (ns.map V.int)) ⟨none, rfl, hS⟩ (fun _ _ _ _ _ => trivial) (fun i y σ H2 H3 hi hI hy => ?_) (fun σ H2 hI => ?_)⟩
  · obtain ⟨rfl, rfl⟩ := hy
    obtain ⟨v, rfl, hS2⟩ := hI
    simp only [tSeq, tAsg, tRet, tRetN, tIfS, tDrop, tNext, tBreak, tCont, tVar, tC, tOp, tUn, tB, tTest, tAnd, tOr, tNot, tAndV, tOrV, tNotV, tIf, tNil, tCons, tTup, tLst, tCB, tCallR, tMethR, tPropR, StX.tMakeR, tFld, sFld, sFldAug, tPar, tPar3, gName, gNil, gCons, gTup, gSub, rI, rI0, rU, rEq, rNe, mIxL, mIxT, mLenL, mLenT, mLenS, mLenD, mLenK, mList, mTupL, mInt, mAbs, mMax, mMin, mStr, mAddS, mIsN, mNotN, rIxS, rIxL, rSetL, rAppend, rExtendT, rPopAt, rCat, rIn, tBM, tBM0, tChain, tNever, scal, L2.start, cxK, iRng1, iRng2, tDNewK, tDGet, tDGet2, sDPut, tDIn, tDNotIn, DGet_dk, DPut_dk, IsD_dk, tyV_list, isLst_lst, isDk_dk, dkOf_dk, atI_0, atI_1, atI_2, atI_3, ixN_30, ixN_31, ixN_32, List.map, List.replicate, List.length_cons, List.length_nil, List.nil_append, List.cons_append, List.append_nil, Nat.reduceSub, Nat.reduceAdd, List.getElem?_cons_zero, List.getElem?_cons_succ, List.set_cons_zero, List.set_cons_succ, List.cons.injEq, Option.some.injEq, V.int.injEq, V.str.injEq, V.bl.injEq, V.ref.injEq, HO.ins.injEq, HO.lst.injEq, HO.tup.injEq, HO.dK.injEq, exists_eq_left, exists_eq_left', exists_eq_right, exists_eq_right', exists_and_left, exists_and_right, true_and, and_true, and_self, if_true, if_false, Bool.false_eq_true, Bool.true_eq_false, eq_self, reduceCtorEq, false_and, and_false, upd_same, upd_upd, and_assoc, Int.reduceToNat, Int.reducePow, Int.reduceMul, Int.reduceAdd, Int.reduceNeg, mIsi, mIsi2, kdV_non, kdV_bl, kdV_int, kdV_str, kdV_ref, kdO_lst, kdO_tup, kdO_dK, V.ty.injEq, mAll, mAny, kit_NoneType_bool, kit_NoneType_int, kit_NoneType_str, kit_NoneType_list, kit_NoneType_tuple, kit_NoneType_dict, kit_bool_bool, kit_bool_int, kit_bool_str, kit_bool_list, kit_bool_tuple, kit_bool_dict, kit_int_bool, kit_int_int, kit_int_str, kit_int_list, kit_int_tuple, kit_int_dict, kit_str_bool, kit_str_int, kit_str_str, kit_str_list, kit_str_tuple, kit_str_dict, kit_list_bool, kit_list_int, kit_list_str, kit_list_list, kit_list_tuple, kit_list_dict, kit_tuple_bool, kit_tuple_int, kit_tuple_str, kit_tuple_list, kit_tuple_tuple, kit_tuple_dict, kit_dict_bool, kit_dict_int, kit_dict_str, kit_dict_list, kit_dict_tuple, kit_dict_dict, String.reduceEq, String.reduceNe, ne_eq, not_false_eq_true, not_true_eq_false, decide_false, decide_true, Bool.not_false, Bool.not_true, Bool.or_false, Bool.false_or, Bool.or_true, Bool.true_or, gTupH, wipe, tYes, exists_eq', exists_eq, exists_const, tFor_eq, tLc_eq, tCallX, tMethX, tRaiseOw, tMkOw, tFldOw, mIxA, mLenA, rInO, rNotInO, mLenO, rSetD, tM1, false_or, or_false, tInT, inV_nil, inV_str, flatV_str, flatV_int, flatV_non, mIntB, List.all_cons, List.all_nil, Bool.and_true, Bool.true_and, Bool.and_self, tDisp, tPairs, exk_nil, exk_str, leS0, leS1, leS2, leS3, leS4, leS5, leS6, leS7, leS8, leS9, leS10, leS11, leS12, Nat.reduceLeDiff, mBoolB, rEqNil]
    rw [show (0 : Int) + (i : Int) = (i : Int) by omega]
    refine ⟨a, ns, i, rfl, hS2, by omega, fun p l hp hB => ⟨p, l, rfl, upd_same, hB, fun H4 k4 => ⟨true, rfl, iteF ?_⟩⟩⟩
    have k5 : Kp p H3 H4 := fun c o hc h => k4 c o hc (by rw [upd_ne hc]; exact h)
    exact SqL.kp hS2 k5 hp
  · simp only [tSeq, tAsg, tRet, tRetN, tIfS, tDrop, tNext, tBreak, tCont, tVar, tC, tOp, tUn, tB, tTest, tAnd, tOr, tNot, tAndV, tOrV, tNotV, tIf, tNil, tCons, tTup, tLst, tCB, tCallR, tMethR, tPropR, StX.tMakeR, tFld, sFld, sFldAug, tPar, tPar3, gName, gNil, gCons, gTup, gSub, rI, rI0, rU, rEq, rNe, mIxL, mIxT, mLenL, mLenT, mLenS, mLenD, mLenK, mList, mTupL, mInt, mAbs, mMax, mMin, mStr, mAddS, mIsN, mNotN, rIxS, rIxL, rSetL, rAppend, rExtendT, rPopAt, rCat, rIn, tBM, tBM0, tChain, tNever, scal, L2.start, cxK, iRng1, iRng2, tDNewK, tDGet, tDGet2, sDPut, tDIn, tDNotIn, DGet_dk, DPut_dk, IsD_dk, tyV_list, isLst_lst, isDk_dk, dkOf_dk, atI_0, atI_1, atI_2, atI_3, ixN_30, ixN_31, ixN_32, List.map, List.replicate, List.length_cons, List.length_nil, List.nil_append, List.cons_append, List.append_nil, Nat.reduceSub, Nat.reduceAdd, List.getElem?_cons_zero, List.getElem?_cons_succ, List.set_cons_zero, List.set_cons_succ, List.cons.injEq, Option.some.injEq, V.int.injEq, V.str.injEq, V.bl.injEq, V.ref.injEq, HO.ins.injEq, HO.lst.injEq, HO.tup.injEq, HO.dK.injEq, exists_eq_left, exists_eq_left', exists_eq_right, exists_eq_right', exists_and_left, exists_and_right, true_and, and_true, and_self, if_true, if_false, Bool.false_eq_true, Bool.true_eq_false, eq_self, reduceCtorEq, false_and, and_false, upd_same, upd_upd, and_assoc, Int.reduceToNat, Int.reducePow, Int.reduceMul, Int.reduceAdd, Int.reduceNeg, mIsi, mIsi2, kdV_non, kdV_bl, kdV_int, kdV_str, kdV_ref, kdO_lst, kdO_tup, kdO_dK, V.ty.injEq, mAll, mAny, kit_NoneType_bool, kit_NoneType_int, kit_NoneType_str, kit_NoneType_list, kit_NoneType_tuple, kit_NoneType_dict, kit_bool_bool, kit_bool_int, kit_bool_str, kit_bool_list, kit_bool_tuple, kit_bool_dict, kit_int_bool, kit_int_int, kit_int_str, kit_int_list, kit_int_tuple, kit_int_dict, kit_str_bool, kit_str_int, kit_str_str, kit_str_list, kit_str_tuple, kit_str_dict, kit_list_bool, kit_list_int, kit_list_str, kit_list_list, kit_list_tuple, kit_list_dict, kit_tuple_bool, kit_tuple_int, kit_tuple_str, kit_tuple_list, kit_tuple_tuple, kit_tuple_dict, kit_dict_bool, kit_dict_int, kit_dict_str, kit_dict_list, kit_dict_tuple, kit_dict_dict, String.reduceEq, String.reduceNe, ne_eq, not_false_eq_true, not_true_eq_false, decide_false, decide_true, Bool.not_false, Bool.not_true, Bool.or_false, Bool.false_or, Bool.or_true, Bool.true_or, gTupH, wipe, tYes, exists_eq', exists_eq, exists_const, tFor_eq, tLc_eq, tCallX, tMethX, tRaiseOw, tMkOw, tFldOw, mIxA, mLenA, rInO, rNotInO, mLenO, rSetD, tM1, false_or, or_false, tInT, inV_nil, inV_str, flatV_str, flatV_int, flatV_non, mIntB, List.all_cons, List.all_nil, Bool.and_true, Bool.true_and, Bool.and_self, tDisp, tPairs, exk_nil, exk_str, leS0, leS1, leS2, leS3, leS4, leS5, leS6, leS7, leS8, leS9, leS10, leS11, leS12, Nat.reduceLeDiff, mBoolB, rEqNil]
    exact k _
abbrev Rw : PySem.W.OpenRow := PySem.W.OpenLaw.row PySem.Challenge.rw_owedanswers_k31_lines_step_by_step
abbrev hk : PySem.W.Hook := My.hookX 5 fl fa fn fx
def ob (s : PySem.W.SharedT) : He.AlD := My.obsXG 5 fl fa fn fx (HandSHeadRun.getT s)
theorem ob_eq (s : PySem.W.SharedT) : ob s = hk.obs s.abs := My.obsXG_eq (HandSHeadRun.getT_eq s)
def names : List PySem.Str := (["OwedError", "Amid", "Closed", "Starved", "LINE_WORDS", "is_out", "is_in", "mark_of", "is_amid", "row_fault", "mark_after", "Line", "_law_source", "_law_draw", "_law_of", "_law_same", "_law_fault", "_law_mark", "_law_new", "_law_due", "_law_ask", "_law_do", "_law_call", "_law_stands", "_law_tag", "_law_holds"] : List PySem.Str)
theorem run (w : World) : HandSHeadRun.RunEq Rw (PySem.W.view Rw.prog [30]) hk ob 3000 names w := by
  intro os
  kernel_rfl
theorem facts {w : World} {K : PySem.W.Frag} {h : Heap} {mg : Str → Option Value} {f : Addr} (X : K.In h) (G : h.Ns mainGlobals mg) (hfa : mg ("law" : Str) = some (.ref f)) (c : My.SaysX fl fa fn fx K) :
    ∃ fd : FuncData, (∀ (s : Shared) (v : Value), BindsTo s fd ⟨[v], []⟩ [("_law_script", v)]) ∧ ∀ base : Heap, K.In base → base.Ns mainGlobals mg → FnOk Pg w K mg base CX0 19 f fd ["_law_script"] (sp_law K) := by
  have T : Tx K mg := ⟨⟨h, X, G⟩, c⟩
  obtain ⟨fd, F⟩ := T.d_law
  have e := hfa.symm.trans T.g_law
  cases e
  have b := FunD.bindsA (ps := ["_law_script"]) F fun _ _ _ _ _ _ us hl => match us, hl with | [_], _ => rfl
  exact ⟨fd, fun s v => b s [v] rfl, fun base _ _ => ok_law F T⟩
end K31
open PySem PySem.W PySem.Calls PyProof.Rows
theorem PySem.Challenge.cw_owedanswers_k31_lines_step_by_step_holds : PySem.Challenge.rw_owedanswers_k31_lines_step_by_step.Holds := by
  w_on; o_law
  refine HandSHeadRun.head_any (r := OpenLaw.row PySem.Challenge.rw_owedanswers_k31_lines_step_by_step) (q := view (OpenLaw.row PySem.Challenge.rw_owedanswers_k31_lines_step_by_step).prog [30]) (H := K31.hk) (ob := K31.ob) (M := 3000) (loose := K31.names) (d := HandSHeadRun.topDef (OpenLaw.row PySem.Challenge.rw_owedanswers_k31_lines_step_by_step).prog 30) (kwd := []) K31.ob_eq
    (by kernel_rfl) (fun s => by kernel_rfl) K31.run (by kernel_rfl) (by kernel_rfl) (by kernel_rfl) (by rfl) (by first | assumption | decide +kernel) (by decide +kernel) ⟨rfl, rfl, rfl, rfl, rfl, by decide +kernel⟩ ?hw ?hc
  case hw => w_witness2
  case hc =>
    refine L2.walk_ofE (l := PySem.Challenge.rw_owedanswers_k31_lines_step_by_step) (n := 63) (k := 19) (x := "_law_script") (CX := L2.CX0) rfl (by decide) (by kernel_rfl) ⟨rfl, by decide, by decide⟩ ?F (fun _ _ _ _ z => z)
    intro w mg fa h Y G hmg0
    obtain ⟨K, KX, c⟩ := Y
    have hmg : mg ("law" : PySem.Str) = some (.ref fa) := by
      have e : (HandSHeadRun.topDef (OpenLaw.row PySem.Challenge.rw_owedanswers_k31_lines_step_by_step).prog 30).name = ("law" : PySem.Str) := by kernel_rfl
      rw [← e]
      exact hmg0
    obtain ⟨fd, hb, hF⟩ := K31.facts (w := w) KX G hmg c
    exact ⟨K, fd, K31.sp_law K, KX, hb, fun H a ns hl hO hS => ⟨a, ns, rfl, hS, hl, fun _ => rfl⟩, hF⟩

