import PyProof.Rows.All
import Wide.All
import OpenK.AllK
import Wide.FinOn
import KE.KStateDown
import HandS.ForMost
import HandS.ForExc
import HandS.More
import HandS.Defaults
import HandS.Star
import HandS.Property
import HandS.Flow
import HandS.Style
import HandS.Wide
import HandS.IsInst
import HandS.Conv
import HandS.Zip
import HandS.TupAny
import HandS.FStr
import HandS.HeadNt
import HandS.HeadEnd
import HandS.Head2
import HandS.Walk
import PySem.Challenge.RW_owedanswers_k30_answers_in_order
set_option Elab.async false
set_option linter.all false
set_option maxRecDepth 100000
set_option maxHeartbeats 4000000
/-! own library, part 1: the head's facts, calls by positional promises -/
namespace My
open PySem PySem.Spec PyProof.Rows L2
/-! ### the hook: facts as Bools over what the top left -/
abbrev FaB : Type := PySem.W.Frag → Bool
def obsM (fa : List FaB) (fn : List He5.DefA) (K : PySem.W.Frag) : He.AlD := ((fa.all fun f => f K) && fn.all fun d => d.ok K, fn.map fun d => He5.fnA K (d.at_ K))
def SaysM (fa : List FaB) (fn : List He5.DefA) (K : PySem.W.Frag) : Prop := obsM fa fn K = He5.valA fn
def obsMG (n : Nat) (fa : List FaB) (fn : List He5.DefA) (g : Addr → Option Obj) : He.AlD := obsM fa fn (He.frG g (He5.asA g n))
def hookM (n : Nat) (fa : List FaB) (fn : List He5.DefA) : PySem.W.Hook where
  α := He.AlD
  obs := fun s => obsMG n fa fn s.heap.get?
  val := fun _ => He5.valA fn
  says := fun _ h => ∃ K : PySem.W.Frag, K.In h ∧ SaysM fa fn K
  of := fun _ _ e => ⟨_, He.frG_in, e⟩
  keeps := fun _ _ _ ⟨K, hK, c⟩ k => ⟨K, PySem.W.Frag.In.keeps hK k, c⟩
theorem obsMG_eq {n : Nat} {fa : List FaB} {fn : List He5.DefA} {g : Addr → Option Obj} {s : Shared} (h : ∀ a, g a = s.heap.get? a) : obsMG n fa fn g = (hookM n fa fn).obs s := by
  have e : g = s.heap.get? := funext h
  rw [e] <;> rfl
section
variable {fa : List FaB} {fn : List He5.DefA} {K : PySem.W.Frag}
theorem SaysM.fact (c : SaysM fa fn K) (i : Nat) {f : FaB} (h : fa[i]? = some f := by rfl) : f K = true := by
  have c1 := (He.ba (show ((fa.all fun f => f K) && fn.all fun d => d.ok K) = true from congrArg (fun z : He.AlD => z.1) c)).1
  exact List.all_eq_true.mp c1 f (List.mem_of_getElem? h)
theorem SaysM.def_ (c : SaysM fa fn K) (i : Nat) {d : He5.DefA} (h : fn[i]? = some d := by rfl) : ∃ fd, L2.FunD K d.name d.qual d.params d.body d.scope (d.dvs K) (d.kws K) (d.at_ K) fd := by
  have c2 := (He.ba (show ((fa.all fun f => f K) && fn.all fun d => d.ok K) = true from congrArg (fun z : He.AlD => z.1) c)).2
  have e : fn.map (fun d => He5.fnA K (d.at_ K)) = fn.map He5.DefA.val := congrArg (fun z : He.AlD => z.2) c
  have e2 : (fn.map fun d => He5.fnA K (d.at_ K))[i]? = (fn.map He5.DefA.val)[i]? := by rw [e]
  rw [List.getElem?_map, List.getElem?_map, h] at e2
  exact He5.DefA.funD (Option.some.inj e2) (List.all_eq_true.mp c2 d (List.mem_of_getElem? h))
end
/-! ### a property -/
def prpA (C f : Str) (K : PySem.W.Frag) : Addr := match PySem.W.findIn K (.ref (He.ga K C)) f with
  | some (some (.ref p)) => p
  | _ => 0
def prpG (C f : Str) (K : PySem.W.Frag) : Addr := match PySem.W.recIn K (prpA C f K) "property" with
  | some (.ref g :: _) => g
  | _ => 0
def prpB (C f : Str) : FaB := fun K => He.eqO (PySem.W.findIn K (.ref (He.ga K C)) f) (some (some (.ref (prpA C f K)))) && (He.eqO (PySem.W.specialIn K (.ref (prpA C f K)) "__get__") (some (some (.builtin "property.__get__"))) &&
  (decide (PySem.W.takesIn K (.ref (prpA C f K)) = some true) && (match PySem.W.recIn K (prpA C f K) "property" with
    | some (.ref _ :: _) => true
    | _ => false)))
theorem prpB_ok {C f : Str} {K : PySem.W.Frag} (h : prpB C f K = true) : PropOf K (He.ga K C) f (prpA C f K) (prpG C f K) := by
  obtain ⟨h1, h⟩ := He.ba h
  obtain ⟨h2, h⟩ := He.ba h
  obtain ⟨h3, h4⟩ := He.ba h
  refine ⟨He.eqO_ok h1, He.eqO_ok h2, of_decide_eq_true h3, ?_⟩
  unfold prpG
  cases e : PySem.W.recIn K (prpA C f K) "property" with
  | none => rw [e] at h4; cases h4
  | some l =>
    rw [e] at h4
    cases l with
    | nil => cases h4
    | cons v r =>
      cases v with
      | ref g => exact ⟨r, rfl⟩
      | _ => cases h4
def gloF (x : Str) : PySem.W.Frag → Addr := fun K => He.ga K x
def mthF (C m : Str) : PySem.W.Frag → Addr := fun K => He.ma K (He.ga K C) m
/-! ### a def by a positional promise -/
section
variable {P : Program} {w : World} {K : PySem.W.Frag} {mg : Str → Option Value} {base : Heap} {x qual : Str} {params : Arguments} {body : List Stmt} {scope : Scope} {dvs : List V} {kws : List (Str × V)} {f : Addr} {fd : FuncData}
/-- a def without defaults -/
theorem FunD.R {N ps : List Str} {k : Nat} {sp : Sp} (F : FunD K x qual params body scope [] kws f fd) (S : FnScope N ps scope) (len : ∀ vs H Q E, sp vs H Q E → vs.length = ps.length)
    (hb : ∀ (kV doc pm : Value) (an : Option Addr) (cdv ct : Value) (us : List Value), us.length = ps.length → bindArgs (PySem.W.fnOf x qual params body scope .none kV doc pm an cdv ct) ⟨us, []⟩ = pure (ps.zip us))
    (hbody : ∀ (cdv : Value) (A : Around) (outer : List Env) (s : Shared) (H : Hp) (vs : List V) (Q : VK) (E : XK), Room k (A.deeper (envOfC qual scope s.heap.objs.size f cdv)) → sp vs H Q E →
      ∃ t, PSs (cxOf CX0 P w K mg base N qual scope f cdv A outer s H E).nox body t ∧ t { nx := fun _ H' => Q .non H', rt := Q } (start N vs) H) : FnR P w K mg base CX0 (k + 1) f sp := by
  have G : FnOk P w K mg base CX0 (k + 1) f fd ps sp := FunD.ok F S len fun cdv A outer s H vs Q E hr hsp => by
    obtain ⟨t, h, q⟩ := hbody cdv A outer s H vs Q E hr hsp
    exact ⟨t, h.nox, q⟩
  refine (FnOk.raw G (FunD.bindsN F hb) .nil).imp fun vs H Q E h => ?_
  rw [List.append_nil]
  exact h
end
section
variable {X : Cx} {CX : CXT} {k : Nat} {f C : Addr} {sp : Sp} {E : XK} {x m : Str} {e o : Expr} {es : List Expr} {ta : TE} {t : TA} {p pos apos : Pos}
/-- f(e, ..) by a positional promise -/
def tCallR (sp : Sp) (E : XK) (t : TA) : TE := fun σ H Q => t σ H fun vs H1 => sp vs H1 Q E
theorem pe_callR (F : FnR X.prog X.w X.K X.mg X.base CX k f sp) (hr : Room k X.A) (hg : Gl X x) (hm : X.mg x = some (.ref f)) (hk : PySem.W.keepIn X.K (.ref f) = true) (hx : Passes CX X E) (ha : PA X (e :: es) t)
    (hdb : (x == ("__debug__" : Str)) = false := by decide) (he : starEach (e :: es) X.env = (false, eval e X.env) :: starEach es X.env := by rfl) (hpl : (backTo pos (starEach es X.env)).any (·.1) = false := by rfl) :
    PE X (.Call (.Name x p) (e :: es) [] pos) (tCallR sp E t) := by
  refine ⟨fun pins s σ H Q I h => ?_⟩
  refine wpAny_Call_Name_kw (ld_glob I hg hm ?_ hdb)
  refine PySem.W.callWith_K (h₀ := X.base) I.ok.mod.kin hk (thn (ha.run pos pins s σ H _ I h) fun us s1 ⟨vs, H1, I1, r, q⟩ => ⟨I1.kIn, ?_⟩) he hpl
  exact wpAny_call (run_fnR F hr hx I1 r q)
theorem pe_callR0 (F : FnR X.prog X.w X.K X.mg X.base CX k f sp) (hr : Room k X.A) (hg : Gl X x) (hm : X.mg x = some (.ref f)) (hk : PySem.W.keepIn X.K (.ref f) = true) (hx : Passes CX X E)
    (hdb : (x == ("__debug__" : Str)) = false := by decide) : PE X (.Call (.Name x p) [] [] pos) (tCallR sp E tNil) := by
  refine ⟨fun pins s σ H Q I h => ?_⟩
  refine wpAny_Call_Name_kw (ld_glob I hg hm ?_ hdb)
  exact PySem.W.callWith_K0 I.kIn hk (wpAny_call (run_fnR (us := []) F hr hx I .nil h))
theorem pe_makeR0 (M : Mk X.K C f) (F : FnR X.prog X.w X.K X.mg X.base CX k f sp) (hr : Room (k + 1) X.A) (hg : Gl X x) (hm : X.mg x = some (.ref C)) (hx : Passes CX X E)
    (hdb : (x == ("__debug__" : Str)) = false := by decide) : PE X (.Call (.Name x p) [] [] pos) (StX.tMakeR C sp E tNil) := by
  refine ⟨fun pins s σ H Q I h => ?_⟩
  refine wpAny_Call_Name_kw (ld_glob I hg hm ?_ hdb)
  exact PySem.W.callWith_K0 I.kIn M.kp (StX.run_makeR (us := []) M F hr hx I .nil h)
theorem pe_methR0 {pl : Sem Bool} (he : PE X o ta) (c : Cls X.K C) (hm : Meth X.K C m f) (F : FnR X.prog X.w X.K X.mg X.base CX k f sp) (hr : Room k X.A) (hx : Passes CX X E)
    (ht : eval (.Call (.Attribute o m apos) [] [] pos) X.env = (do
      let ov ← eval o X.env
      standAt apos.atName
      let (f, first) ← holding [ov] (getMethod ov m pl)
      callWith pos f first (backTo pos (starEach [] X.env)) (backToKw pos (keywordEach [] X.env))) := by rfl) :
    PE X (.Call (.Attribute o m apos) [] [] pos) (tMethR C m sp E ta tNil) := by
  refine ⟨fun pins s σ H Q I h => ?_⟩
  refine PySem.W.methodCall_KW (pl := pl) (thn (he.run pins s σ H _ I h) fun u s1 ⟨x, H1, I1, rx, a, dx, fs, ex, ea, l, q⟩ => ?_) ht
  subst ex
  obtain rfl : u = Value.ref a := rx
  refine getmeth_ok I1 ea c hm l ?_
  exact PySem.W.callWith_K0 (first := [.ref a]) I1.kIn hm.kp (wpAny_call (run_fnR (us := [.ref a]) (vs := [.ref a]) F hr hx I1 (.cons rfl .nil) q))
/-- e.f, a property, by a positional promise -/
def tPropR (C : Addr) (sp : Sp) (E : XK) (ta : TE) : TE := fun σ H Q => ta σ H fun x H1 => ∃ a dx fs, x = .ref a ∧ H1 a = some (.ins C dx fs) ∧ sp [.ref a] H1 Q E
theorem pe_propR {pr g : Addr} {fl : Str} (he : PE X e ta) (c : Cls X.K C) (hp : PropOf X.K C fl pr g) (F : FnR X.prog X.w X.K X.mg X.base CX k g sp) (hr : Room (k + 1) X.A) (hx : Passes CX X.nox E)
    (hab : attributeBase e fl X.env (eval e X.env) = eval e X.env) : PE X (.Attribute e fl pos) (tPropR C sp E ta) := by
  refine ⟨fun pins s σ H Q I h => ?_⟩
  refine attr_of hab (thn (he.run pins s σ H _ I h) fun u s1 ⟨x, H1, I1, rx, a, dx, fs, ex, ea, q⟩ => ?_)
  subst ex
  obtain rfl : u = Value.ref a := rx
  obtain ⟨mA, O, _, _, _, _⟩ := ins_get I1.hok ea
  obtain ⟨od, J, _⟩ := O.look
  obtain ⟨rest, hrec⟩ := hp.rec_
  have I2 := I1.tok (s1.toks + 1)
  have hc : (PySem.W.clsIn X.K C).isSome = true := by
    obtain ⟨cd, hc, _⟩ := PySem.W.any_some c.hd
    rw [hc]
    rfl
  refine PySem.W.get_bind I1.kIn J (PySem.W.plainGet_of (c.get fl)).1 (PySem.W.findObj_data hc hp.at_ hp.get hp.tak) (PySem.W.plainGet_of (c.get fl)).2 (wpAny_call (PySem.W.prop_get (s := { s1 with toks := s1.toks + 1 }) I1.kIn hrec ?_))
  refine codeAny_mono (F X.A.in1 X.stack { s1 with toks := s1.toks + 1 } H1 [.ref a] [.ref a] Q E hr.in1 I2.env0.in1 (.cons rfl .nil) q) fun r s' hq => ?_
  cases r with
  | error er => exact False.elim (hx pins σ H1 { s1 with toks := s1.toks + 1 } er s' (I2.wish _) hq)
  | ok fl =>
    cases fl with
    | ret u =>
      obtain ⟨v, H', I3, rv, q3⟩ := I2.after hq
      show wpAny _ _ (handedOut u) _ _ _
      rw [PySem.W.handedOut_of (handed_of rv)]
      exact wpAny_pure ⟨v, H', I3, rv, q3⟩
    | next => exact False.elim hq
    | brk => exact False.elim hq
    | cont => exact False.elim hq
end
end My

set_option Elab.async false
set_option linter.all false
set_option maxRecDepth 100000
set_option maxHeartbeats 4000000
/-! own library, part 2 -/
namespace My
open PySem PySem.Spec PyProof.Rows L2
/-! ### list.extend of a tuple -/
theorem extend_tuple_any (l : Addr) (items : Array Value) (n : Nat) (b : Addr) (items2 : Array Value) (n2 : Nat) (dd : Option Addr) (sl : Array (Option Value)) (hs0 : ¬(!items.isEmpty && Builtin.List.listTooLong (items.size + items2.size)) = true) (hs1 : items.size ≤ sizeLine) (hs2 : items.size + items2.size ≤ sizeLine + 1) :
    Meets (Builtin.«list.extend» ⟨[.ref l, .ref b], []⟩) (fun _ R s => s.heap.get? l = some { cls := .type "list", dict := none, data := .seq items n, slots := #[] } ∧ s.heap.get? b = some { cls := .type "tuple", dict := dd, data := .seq items2 n2, slots := sl } ∧ R (.ok (.ret Value.none)) { s with heap := s.heap.update l (Obj.mapSeq fun x => x ++ items2), toks := s.toks }) :=
  .of_wp fun prog w A R s h => by
    obtain ⟨hp, g, d, tk, os⟩ := s; obtain ⟨hl, hb, h⟩ := h; have f1 := AutoSeq1.idx_int; have f2 := AutoSeq1.sub_tuple_tuple; have f3 := AutoSeq1.sub_list_list; have f4 := AutoSeq1.sub_tuple_list; have f5 := AutoSeq1.sub_list_tuple;
    have hz' : (items ++ items2).size ≤ sizeLine + 1 := by rw [Array.size_append]; exact hs2
    wp_walk using (wpAny_updateSeq hl rfl (hz := hs1) (_hz' := hz')), AutoSeq1.wpAny_loadPart' hl, AutoSeq1.wpAny_loadPart' hb; exact ⟨_, rfl, h⟩
section
variable {X : Cx}
def rExtendT (K : PySem.W.Frag) : V → List V → Hp → VK → Prop := fun x vs H Q => ∃ l b xs zs, x = .ref l ∧ vs = [.ref b] ∧ H l = some (.lst xs) ∧ SqT K H b zs ∧ xs.length + zs.length ≤ sizeLine ∧ Q .non (upd H l (.lst (xs ++ zs)))
theorem mt_extendT : MtM X "list.extend" (rExtendT X.K) := by
  intro pins s σ H x vs v us Q I rx rv h
  obtain ⟨l, b, xs, zs, rfl, rfl, hH, hB, hz, q⟩ := h
  cases rx
  obtain ⟨u, rfl, ru⟩ := rv.one
  cases ru
  obtain ⟨z, its, n, r, hl, e⟩ := I.lstM hH
  obtain ⟨its2, r2, ⟨o, e2, hc, n2, hd⟩, z2⟩ := I.tuple hB
  obtain ⟨oc, od, dt, osl⟩ := o
  have hc' : oc = .type "tuple" := hc
  have hd' : dt = .seq its2.toArray n2 := hd
  subst hc' hd'
  have hl2 := r2.length
  have hsz : its.toArray.size + its2.toArray.size ≤ sizeLine := by rw [List.size_toArray, List.size_toArray]; omega
  have hlong : ¬ (!its.toArray.isEmpty && Builtin.List.listTooLong (its.toArray.size + its2.toArray.size)) = true := by
    rw [notLongL hsz, Bool.and_false]
    exact Bool.false_ne_true
  refine call_meets F.slot_list_extend ⟨_, e, rfl⟩ F.entry_list_extend (F.args_list_extend_2 _ _)
    (extend_tuple_any l its.toArray n b its2.toArray n2 od osl hlong (by rw [List.size_toArray]; omega) (by omega)) ⟨e, e2, ?_⟩
  refine ⟨.non, _, I.lset (its' := its ++ its2) hH e (by simp) (r.append r2) ?_, rfl, q⟩
  rw [List.length_append]
  omega
/-! ### ** of wider ints -/
def CPowW (i j : Int) : Prop := 0 ≤ j ∧ j ≤ 64 ∧ i.natAbs < 2 ^ 4096
theorem op_powW : OpR X (binaryOp .Pow) (rI CPowW fun i j => .int (i ^ j.toNat)) := opI fun i j _ _ _ _ _ hc q => by
  obtain ⟨h0, h1, h2⟩ := hc
  refine pow_int h0 ?_ q
  have h3 : Builtin.Int.intBits i ≤ 4096 := by
    unfold Builtin.Int.intBits
    split
    · exact Nat.zero_le _
    · have := PySem.Flt.log2_lt_of (show 0 < 4096 by decide) h2
      omega
  have h4 : (Builtin.Int.intBits i : Int) * j ≤ 4096 * 64 := Int.mul_le_mul (by omega) h1 h0 (by decide)
  exact Int.le_trans h4 (by decide)
/-- a text constant, an int constant of the module -/
theorem pe_gs {x z : Str} {pos : Pos} (hg : Gl X x) (h : ∃ t, X.mg x = some (.str z t)) (hd : (x == ("__debug__" : Str)) = false := by decide) : PE X (.Name x pos) (tC (.str z)) := by
  obtain ⟨t, h⟩ := h
  exact pe_glob (v := .str z) hg h ⟨t, rfl⟩ hd
theorem pe_gi {x : Str} {i : Int} {pos : Pos} (hg : Gl X x) (h : ∃ t, X.mg x = some (.int i t)) (hd : (x == ("__debug__" : Str)) = false := by decide) : PE X (.Name x pos) (tC (.int i)) := by
  obtain ⟨t, h⟩ := h
  exact pe_glob (v := .int i) hg h ⟨t, rfl⟩ hd
end
/-! ### a def with one default, called without it; a def with a star -/
section
variable {P : Program} {w : World} {K : PySem.W.Frag} {mg : Str → Option Value} {base : Heap} {x qual : Str} {params : Arguments} {body : List Stmt} {scope : Scope} {dvs : List V} {kws : List (Str × V)} {f : Addr} {fd : FuncData}
/-- the promise says the whole list of parameters; the call has n of them -/
theorem FunD.Rd {N ps : List Str} {k : Nat} {sp : Sp} (n j : Nat) (F : FunD K x qual params body scope dvs kws f fd) (S : FnScope N ps scope) (len : ∀ vs H Q E, sp vs H Q E → vs.length = ps.length) (hd : dvs ≠ []) (hn : n + (dvs.length - j) = ps.length)
    (hb : ∀ (T : Addr) (kV doc pm : Value) (an : Option Addr) (cdv ct : Value) (us its : List Value), us.length = n → its.length = dvs.length →
      ∃ k, bindArgs (PySem.W.fnOf x qual params body scope (.ref T) kV doc pm an cdv ct) ⟨us, []⟩ = seqItems? (.ref T) >>= k ∧ k (some its.toArray) = pure (ps.zip (us ++ its.drop j)))
    (hbody : ∀ (cdv : Value) (A : Around) (outer : List Env) (s : Shared) (H : Hp) (vs : List V) (Q : VK) (E : XK), Room k (A.deeper (envOfC qual scope s.heap.objs.size f cdv)) → sp vs H Q E →
      ∃ t, PSs (cxOf CX0 P w K mg base N qual scope f cdv A outer s H E).nox body t ∧ t { nx := fun _ H' => Q .non H', rt := Q } (start N vs) H) :
    FnR P w K mg base CX0 (k + 1) f (fun vs H Q E => sp (vs ++ dvs.drop j) H Q E) := by
  have G : FnOk P w K mg base CX0 (k + 1) f fd ps sp := FunD.ok F S len fun cdv A outer s H vs Q E hr hsp => by
    obtain ⟨t, h, q⟩ := hbody cdv A outer s H vs Q E hr hsp
    exact ⟨t, h.nox, q⟩
  obtain ⟨ds, hv, hB⟩ := FunD.binds1 F n j hd hn hb
  exact FnOk.raw G hB hv
/-- def f(a, .., *v) -/
theorem FunD.Rs {N ps : List Str} {pv : Str} {k : Nat} {sp : Sp} (F : FunD K x qual params body scope [] kws f fd) (S : FnScope N (ps ++ [pv]) scope)
    (hb : ∀ (kV doc pm : Value) (an : Option Addr) (cdv ct : Value) (us rest : List Value), us.length = ps.length → bindArgs (PySem.W.fnOf x qual params body scope .none kV doc pm an cdv ct) ⟨us ++ rest, []⟩ = (newTuple rest >>= fun t => pure (ps.zip us ++ [(pv, t)])))
    (hbody : ∀ (cdv : Value) (A : Around) (outer : List Env) (s : Shared) (H : Hp) (vs : List V) (Q : VK) (E : XK), Room k (A.deeper (envOfC qual scope s.heap.objs.size f cdv)) → sp vs H Q E →
      ∃ t, PSs (cxOf CX0 P w K mg base N qual scope f cdv A outer s H E).nox body t ∧ t { nx := fun _ H' => Q .non H', rt := Q } (start N vs) H) :
    FnR P w K mg base CX0 (k + 1) f (fun vs H Q E => ∃ ws rest, vs = ws ++ rest ∧ ws.length = ps.length ∧ rest.length ≤ sizeLine ∧ ∀ p, H p = Option.none → sp (ws ++ [V.ref p]) (upd H p (.tup rest)) Q E) := by
  obtain ⟨oc, od, dV, kV, doc, pm, an, cdv, ct, osl, rfl, lk, hcd, hD, _⟩ := F.ex
  rcases hD with ⟨_, rfl⟩ | ⟨e, _⟩
  · refine StX.fn_star lk hcd S StX.cxUp_none (hb kV doc pm an cdv ct) fun A outer s H vs Q E hr hsp => ?_
    obtain ⟨t, h, q⟩ := hbody cdv A outer s H vs Q E hr hsp
    exact ⟨t, h.nox, q⟩
  · exact absurd rfl e
end
/-! ### heaps -/
theorem upd_other {H : Hp} {a b : Addr} {o : HO} (h : b ≠ a) : upd H a o b = H b := upd_ne h
theorem Same.upd_new {H H' : Hp} {p : Addr} {o : HO} (s : Same H H') (h : H' p = Option.none) : Same H (upd H' p o) := fun b u e => by
  rw [upd_ne (ne_of_none (s _ _ e) h)]
  exact s _ _ e
theorem Same.new {H : Hp} {p : Addr} {o : HO} (h : H p = Option.none) : Same H (upd H p o) := Same.upd_new (Same.refl H) h
/-- all but what stands at b is kept -/
def Kp (b : Addr) (H H' : Hp) : Prop := ∀ a o, a ≠ b → H a = some o → H' a = some o
theorem Kp.refl {b : Addr} (H : Hp) : Kp b H H := fun _ _ _ h => h
theorem Kp.trans {b : Addr} {H H1 H2 : Hp} (x : Kp b H H1) (y : Kp b H1 H2) : Kp b H H2 := fun a o n h => y a o n (x a o n h)
theorem Kp.of {b : Addr} {H H' : Hp} (s : Same H H') : Kp b H H' := fun a o _ h => s a o h
theorem Kp.put {b : Addr} {H : Hp} {o : HO} : Kp b H (upd H b o) := fun a u n h => by rw [upd_ne n]; exact h
theorem cxK {CX : CXT} {P : Program} {w : World} {K : PySem.W.Frag} {mg : Str → Option Value} {base : Heap} {N : List Str} {qual : Str} {scope : Scope} {f : Addr} {cd : Value} {A : Around} {outer : List Env} {s : Shared} {H : Hp} {E : XK} : (cxOf CX P w K mg base N qual scope f cd A outer s H E).K = K := rfl
/-! ### tests that are known -/
theorem ite_dec {c : Prop} [Decidable c] {A B : Prop} (h1 : c → A) (h2 : ¬ c → B) : if decide c = true then A else B := by
  by_cases h : c
  · rw [if_pos (decide_eq_true h)]; exact h1 h
  · rw [if_neg (by rw [decide_eq_false h]; exact Bool.false_ne_true)]; exact h2 h
theorem ite_b {b : Bool} {A B : Prop} (h1 : b = true → A) (h2 : b = false → B) : if b = true then A else B := by
  cases b with
  | true => exact iteT (h1 rfl)
  | false => exact iteF (h2 rfl)
end My

set_option Elab.async false
set_option linter.all false
set_option maxRecDepth 100000
set_option maxHeartbeats 4000000
/-! own library, part 3: rules whose readings are functional in the tracked heap -/
namespace My
open PySem PySem.Spec PyProof.Rows L2
section
variable {X : Cx}
theorem OpR.imp {f : Value → Value → Sem Value} {r r' : R2} (h : OpR X f r) (i : ∀ x y H Q, r' x y H Q → r x y H Q) : OpR X f r' := fun pins s σ H x y v u Q I a b c => h pins s σ H x y v u Q I a b (i _ _ _ _ c)
theorem CallR.imp {f : Value} {r r' : List V → Hp → VK → Prop} (h : CallR X f r) (i : ∀ x H Q, r' x H Q → r x H Q) : CallR X f r' := fun pins s σ H xs us Q I a c => h pins s σ H xs us Q I a (i _ _ _ c)
theorem MtR.imp {id : String} {r r' : V → List V → Hp → VK → Prop} (h : MtR X id r) (i : ∀ x y H Q, r' x y H Q → r x y H Q) : MtR X id r' := fun pins s σ H x xs v us Q I a b c => h pins s σ H x xs v us Q I a b (i _ _ _ _ c)
theorem IxR.imp {r r' : R2} (h : IxR X r) (i : ∀ x y H Q, r' x y H Q → r x y H Q) : IxR X r' := fun a b pins s σ H x y v u Q I p q c => h a b pins s σ H x y v u Q I p q (i _ _ _ _ c)
theorem SlR.imp {r r' : V → Option Int → Option Int → Hp → VK → Prop} (h : SlR X r) (i : ∀ x y z H Q, r' x y z H Q → r x y z H Q) : SlR X r' := fun pins s σ H x v vl vu lo hi sl Q I a b c d e => h pins s σ H x v vl vu lo hi sl Q I a b c d (i _ _ _ _ _ e)
theorem PE.imp {e : Expr} {t t' : TE} (h : PE X e t) (i : ∀ σ H Q, t' σ H Q → t σ H Q) : PE X e t' := ⟨fun pins s σ H Q I q => h.run pins s σ H Q I (i _ _ _ q)⟩
theorem PT.imp {e : Expr} {t t' : TT} (h : PT X e t) (i : ∀ σ H Q, t' σ H Q → t σ H Q) : PT X e t' := ⟨fun pins s σ H Q I q => h.run pins s σ H Q I (i _ _ _ q)⟩
theorem PS.imp {st : Stmt} {t t' : TS} (h : PS X st t) (i : ∀ D σ H, t' D σ H → t D σ H) : PS X st t' := ⟨fun pins s σ H D I q => h.run pins s σ H D I (i _ _ _ q)⟩
/-! ### lists and tuples that are tracked -/
def mIxL : R2 := fun x y H Q => ∃ p xs i v, x = .ref p ∧ y = .int i ∧ H p = some (.lst xs) ∧ atI xs i = some v ∧ Q v H
def mIxT : R2 := fun x y H Q => ∃ p xs i v, x = .ref p ∧ y = .int i ∧ H p = some (.tup xs) ∧ atI xs i = some v ∧ Q v H
theorem ixL : IxR X mIxL := IxR.imp ix_list fun x y H Q ⟨p, xs, i, v, a, b, c, d, e⟩ => ⟨p, xs, i, v, a, b, SqL.of c, d, e⟩
theorem ixT : IxR X mIxT := IxR.imp ix_tup fun x y H Q ⟨p, xs, i, v, a, b, c, d, e⟩ => ⟨p, xs, i, v, a, b, SqT.of c, d, e⟩
def mLenL : List V → Hp → VK → Prop := fun xs H Q => ∃ p ys, xs = [.ref p] ∧ H p = some (.lst ys) ∧ Q (.int (ys.length : Int)) H
def mLenT : List V → Hp → VK → Prop := fun xs H Q => ∃ p ys, xs = [.ref p] ∧ H p = some (.tup ys) ∧ Q (.int (ys.length : Int)) H
def mLenS : List V → Hp → VK → Prop := fun xs H Q => ∃ z : Str, xs = [.str z] ∧ z.length ≤ sizeLine ∧ Q (.int (z.length : Int)) H
def mLenD : List V → Hp → VK → Prop := fun xs H Q => ∃ p ys, xs = [.ref p] ∧ H p = some (.dK ys) ∧ Q (.int (ys.length : Int)) H
def mLenK (K : PySem.W.Frag) : List V → Hp → VK → Prop := fun xs H Q => ∃ p ys, xs = [.ref p] ∧ SqL K H p ys ∧ Q (.int (ys.length : Int)) H
theorem lenL : CallR X (.builtin "len") mLenL := CallR.imp call_len_seq fun x H Q ⟨p, ys, a, b, c⟩ => ⟨p, ys, a, .inl (SqL.of b), c⟩
theorem lenT : CallR X (.builtin "len") mLenT := CallR.imp call_len_seq fun x H Q ⟨p, ys, a, b, c⟩ => ⟨p, ys, a, .inr (SqT.of b), c⟩
theorem lenK : CallR X (.builtin "len") (mLenK X.K) := CallR.imp call_len_seq fun x H Q ⟨p, ys, a, b, c⟩ => ⟨p, ys, a, .inl b, c⟩
theorem lenS : CallR X (.builtin "len") mLenS := call_len_str
theorem lenD : CallR X (.builtin "len") mLenD := CallR.imp call_lenD fun x H Q ⟨p, ys, a, b, c⟩ => ⟨p, ys, a, b, c⟩
def mList : List V → Hp → VK → Prop := fun xs H Q => ∃ p ys, xs = [.ref p] ∧ H p = some (.lst ys) ∧ ∀ l, H l = none → Q (.ref l) (upd H l (.lst ys))
theorem listL : CallR X (.type "list") mList := CallR.imp call_list_of fun x H Q ⟨p, ys, a, b, c⟩ => ⟨p, ys, a, .inl (SqL.of b), c⟩
def mTupL : List V → Hp → VK → Prop := fun xs H Q => ∃ p ys, xs = [.ref p] ∧ H p = some (.lst ys) ∧ ∀ l, H l = none → Q (.ref l) (upd H l (.tup ys))
theorem tupL : CallR X (.type "tuple") mTupL := CallR.imp call_tuple_of fun x H Q ⟨p, ys, a, b, c⟩ => ⟨p, ys, a, .inl ⟨SqL.of b, c⟩⟩
def mSlL : V → Option Int → Option Int → Hp → VK → Prop := fun x lo hi H Q => ∃ a xs, x = .ref a ∧ H a = some (.lst xs) ∧ ∀ p, H p = none → Q (.ref p) (upd H p (.lst (cutV xs lo hi)))
theorem slL : SlR X mSlL := SlR.imp sl_list fun x lo hi H Q ⟨a, xs, e, h, q⟩ => ⟨a, xs, e, SqL.of h, q⟩
/-- ints -/
def mInt : List V → Hp → VK → Prop := fun xs H Q => ∃ i, xs = [.int i] ∧ Q (.int i) H
theorem int1 : CallR X (.type "int") mInt := CallR.imp call_int1 fun x H Q ⟨i, a, b⟩ => .inl ⟨i, a, b⟩
def mAbs : List V → Hp → VK → Prop := fun xs H Q => ∃ i, xs = [.int i] ∧ Q (.int (if i < 0 then -i else i)) H
theorem abs1 : CallR X (.builtin "abs") mAbs := call_abs
def mMax : List V → Hp → VK → Prop := fun xs H Q => ∃ i j, xs = [.int i, .int j] ∧ Q (.int (if j > i then j else i)) H
def mMin : List V → Hp → VK → Prop := fun xs H Q => ∃ i j, xs = [.int i, .int j] ∧ Q (.int (if j < i then j else i)) H
theorem max2 (hc : X.calm = true) : CallR X (.builtin "max") mMax := call_max2 hc
theorem min2 (hc : X.calm = true) : CallR X (.builtin "min") mMin := call_min2 hc
def mStr : List V → Hp → VK → Prop := fun xs H Q => ∃ i : Int, xs = [.int i] ∧ i.natAbs.log2 < 1920 ∧ Q (.str (toString i)) H
theorem str1 : CallR X (.type "str") mStr := call_str_int
def mAddS : R2 := fun x y H Q => ∃ i j : Str, x = .str i ∧ y = .str j ∧ i.length + j.length ≤ sizeLine ∧ Q (.str (i ++ j)) H
theorem addS : OpR X (binaryOp .Add) mAddS := op_add_str
def mIsN : R2 := fun x y H Q => y = .non ∧ Q (.bl (decide (x = .non))) H
def mNotN : R2 := fun x y H Q => y = .non ∧ Q (.bl (!decide (x = .non))) H
theorem isN : OpR X (compareOp .Is) mIsN := op_isN
theorem notN : OpR X (compareOp .IsNot) mNotN := op_notN
end
/-! ### kinds of what is tracked, for conditional rewriting -/
def isLst : Option HO → Bool
  | some (.lst _) => true
  | _ => false
def isDk : Option HO → Bool
  | some (.dK _) => true
  | _ => false
def dkOf : Option HO → List (Key × V)
  | some (.dK kvs) => kvs
  | _ => []
theorem isLst_lst {xs : List V} : isLst (some (.lst xs)) = true := rfl
theorem isDk_dk {xs : List (Key × V)} : isDk (some (.dK xs)) = true := rfl
theorem dkOf_dk {xs : List (Key × V)} : dkOf (some (.dK xs)) = xs := rfl
theorem isLst_ex {o : Option HO} (h : isLst o = true) : ∃ xs, o = some (.lst xs) := by
  cases o with
  | none => cases h
  | some u => cases u with
    | lst xs => exact ⟨xs, rfl⟩
    | _ => cases h
theorem isDk_ex {o : Option HO} (h : isDk o = true) : ∃ xs, o = some (.dK xs) := by
  cases o with
  | none => cases h
  | some u => cases u with
    | dK xs => exact ⟨xs, rfl⟩
    | _ => cases h
theorem tyV_list {K : PySem.W.Frag} {H : Hp} {p : Addr} (h : isLst (H p) = true) : tyV K "list" (.ref p) H = True := by
  obtain ⟨xs, e⟩ := isLst_ex h
  exact eq_true (Or.inl ⟨rfl, xs, SqL.of e⟩)
theorem IsD_dk {H : Hp} {p : Addr} (h : isDk (H p) = true) : IsD H p = True := by
  obtain ⟨xs, e⟩ := isDk_ex h
  exact eq_true (Or.inl ⟨xs, .inl e⟩)
theorem DGet_dk {H : Hp} {p : Addr} {k : Str} {r : Option V} (h : isDk (H p) = true) : DGet H p (.str k) r = (r = valV (dkOf (H p)) (Sum.inr k : Key)) := by
  obtain ⟨xs, e⟩ := isDk_ex h
  rw [e]
  apply propext
  constructor
  · rintro (⟨kvs, k', hr, hk, er⟩ | ⟨_, _, _, _, hk, _⟩)
    · have ek : k' = Sum.inr k := by
        cases k' with
        | inl i => cases hk
        | inr z =>
          have : V.str k = V.str z := hk
          injection this with q
          rw [q]
      have eq : kvs = xs := by
        rcases hr with hr | ⟨o, hr⟩
        · rw [e] at hr
          injection hr with hr
          injection hr with hr
          exact hr.symm
        · rw [e] at hr
          injection hr with hr
          cases hr
      rw [er, ek, eq]
      rfl
    · cases hk
  · intro er
    rw [er]
    exact DGet.k (k := Sum.inr k) e
theorem DPut_dk {H H' : Hp} {p : Addr} {k : Str} {v : V} (h : isDk (H p) = true) : DPut H p (.str k) v H' = ((dkOf (H p)).length < sizeLine ∧ H' = upd H p (.dK (putK (dkOf (H p)) (Sum.inr k : Key) v))) := by
  obtain ⟨xs, e⟩ := isDk_ex h
  rw [e]
  apply propext
  constructor
  · rintro (⟨kvs, k', hr, hk, hl, er⟩ | ⟨_, _, _, _, hk, _⟩)
    · have ek : k' = Sum.inr k := by
        cases k' with
        | inl i => cases hk
        | inr z =>
          have : V.str k = V.str z := hk
          injection this with q
          rw [q]
      rw [e] at hr
      injection hr with hr
      injection hr with hr
      subst hr ek
      exact ⟨hl, er⟩
    · cases hk
  · rintro ⟨hl, er⟩
    rw [er]
    exact DPut.k (k := Sum.inr k) e hl
/-! ### items by written places -/
section
variable {α : Type} {a b c d : α} {l : List α}
theorem atI_0 : atI (a :: l) 0 = some a := by
  unfold atI ixN
  simp
theorem atI_1 : atI (a :: b :: l) 1 = some b := by
  unfold atI ixN
  rw [if_pos (by decide), if_pos (by simp only [List.length_cons]; omega)]
  rfl
theorem atI_2 : atI (a :: b :: c :: l) 2 = some c := by
  unfold atI ixN
  rw [if_pos (by decide), if_pos (by simp only [List.length_cons]; omega)]
  rfl
theorem atI_3 : atI (a :: b :: c :: d :: l) 3 = some d := by
  unfold atI ixN
  rw [if_pos (by decide), if_pos (by simp only [List.length_cons]; omega)]
  rfl
theorem ixN_30 : ixN 3 0 = some 0 := rfl
theorem ixN_31 : ixN 3 1 = some 1 := rfl
theorem ixN_32 : ixN 3 2 = some 2 := rfl
end
end My

set_option Elab.async false
set_option linter.all false
set_option maxRecDepth 100000
set_option maxHeartbeats 4000000
/-! own library, part 4: kinds, nested data, walks -/
namespace My
open PySem PySem.Spec PyProof.Rows L2
/-! ### isinstance, by the tracked heap -/
def kdO : Option HO → String
  | some (.lst _) => "list"
  | some (.tup _) => "tuple"
  | some (.dK _) => "dict"
  | _ => "?"
def kdV (H : Hp) : V → String
  | .non => "NoneType"
  | .bl _ => "bool"
  | .int _ => "int"
  | .str _ => "str"
  | .ref a => kdO (H a)
  | _ => "?"
theorem kdO_q {o : Option HO} (h : kdO o ≠ "?") : (∃ xs, o = some (.lst xs) ∧ kdO o = "list") ∨ (∃ xs, o = some (.tup xs) ∧ kdO o = "tuple") ∨ ∃ xs, o = some (.dK xs) ∧ kdO o = "dict" := by
  cases o with
  | none => exact absurd rfl h
  | some u => cases u with
    | lst xs => exact .inl ⟨xs, rfl, rfl⟩
    | tup xs => exact .inr (.inl ⟨xs, rfl, rfl⟩)
    | dK xs => exact .inr (.inr ⟨xs, rfl, rfl⟩)
    | _ => exact absurd rfl h
theorem kdV_ty {K : PySem.W.Frag} {H : Hp} {x : V} (h : kdV H x ≠ "?") : TyX K H x (.type (kdV H x)) := by
  cases x with
  | non => exact .base .non
  | bl b => exact .base (.bl b)
  | int i => exact .base (.int i)
  | str z => exact .base (.str z)
  | byt b => exact absurd rfl h
  | flt b => exact absurd rfl h
  | ty n => exact absurd rfl h
  | ref a =>
    rcases kdO_q (o := H a) h with ⟨xs, e, e2⟩ | ⟨xs, e, e2⟩ | ⟨xs, e, e2⟩
    · show TyX K H (.ref a) (.type (kdO (H a)))
      rw [e2]; exact .base (.lst e)
    · show TyX K H (.ref a) (.type (kdO (H a)))
      rw [e2]; exact .base (.tup e)
    · show TyX K H (.ref a) (.type (kdO (H a)))
      rw [e2]; exact .base (.dK e)
def mIsi : List V → Hp → VK → Prop := fun xs H Q => ∃ (x : V) (n : String), xs = [x, .ty n] ∧ kdV H x ≠ "?" ∧ ∃ b, kitB (kdV H x) n = some b ∧ Q (.bl b) H
def mIsi2 : List V → Hp → VK → Prop := fun xs H Q => ∃ (x : V) (tp : Addr) (m n : String), xs = [x, .ref tp] ∧ H tp = some (.tup [.ty m, .ty n]) ∧ kdV H x ≠ "?" ∧ ∃ b c, kitB (kdV H x) m = some b ∧ kitB (kdV H x) n = some c ∧ Q (.bl (b || c)) H
section
variable {X : Cx}
theorem isi1 : CallR X (.builtin "isinstance") mIsi := CallR.imp call_isi fun xs H Q ⟨x, n, e, h, b, hb, q⟩ => ⟨x, .ty n, _, _, b, e, .ty n, kdV_ty h, kit_ty hb, q⟩
theorem isi2 : CallR X (.builtin "isinstance") mIsi2 := CallR.imp call_isiT fun xs H Q ⟨x, tp, m, n, e, ht, h, b, c, hb, hc, q⟩ => by
  refine ⟨x, tp, _, _, [.type m, .type n], b || c, e, ht, .cons (.ty m) (.cons (.ty n) .nil), kdV_ty h, ?_, q⟩
  refine kitAny_cons (kit_ty hb) (fun e => ?_) (fun e => by rw [e]; rfl)
  refine kitAny_cons (kit_ty hc) (fun e2 => ?_) (fun e2 => by rw [e2, Bool.or_true])
  rw [e, e2]
  exact kitAny_nil
end
theorem kdV_non {H : Hp} : kdV H .non = "NoneType" := rfl
theorem kdV_bl {H : Hp} {b : Bool} : kdV H (.bl b) = "bool" := rfl
theorem kdV_int {H : Hp} {i : Int} : kdV H (.int i) = "int" := rfl
theorem kdV_str {H : Hp} {z : Str} : kdV H (.str z) = "str" := rfl
theorem kdV_ref {H : Hp} {a : Addr} : kdV H (.ref a) = kdO (H a) := rfl
theorem kdO_lst {xs : List V} : kdO (some (.lst xs)) = "list" := rfl
theorem kdO_tup {xs : List V} : kdO (some (.tup xs)) = "tuple" := rfl
theorem kdO_dK {xs : List (Key × V)} : kdO (some (.dK xs)) = "dict" := rfl
theorem kit_NoneType_bool : kitB "NoneType" "bool" = some false := by decide +kernel
theorem kit_NoneType_int : kitB "NoneType" "int" = some false := by decide +kernel
theorem kit_NoneType_str : kitB "NoneType" "str" = some false := by decide +kernel
theorem kit_NoneType_list : kitB "NoneType" "list" = some false := by decide +kernel
theorem kit_NoneType_tuple : kitB "NoneType" "tuple" = some false := by decide +kernel
theorem kit_NoneType_dict : kitB "NoneType" "dict" = some false := by decide +kernel
theorem kit_bool_bool : kitB "bool" "bool" = some true := by decide +kernel
theorem kit_bool_int : kitB "bool" "int" = some true := by decide +kernel
theorem kit_bool_str : kitB "bool" "str" = some false := by decide +kernel
theorem kit_bool_list : kitB "bool" "list" = some false := by decide +kernel
theorem kit_bool_tuple : kitB "bool" "tuple" = some false := by decide +kernel
theorem kit_bool_dict : kitB "bool" "dict" = some false := by decide +kernel
theorem kit_int_bool : kitB "int" "bool" = some false := by decide +kernel
theorem kit_int_int : kitB "int" "int" = some true := by decide +kernel
theorem kit_int_str : kitB "int" "str" = some false := by decide +kernel
theorem kit_int_list : kitB "int" "list" = some false := by decide +kernel
theorem kit_int_tuple : kitB "int" "tuple" = some false := by decide +kernel
theorem kit_int_dict : kitB "int" "dict" = some false := by decide +kernel
theorem kit_str_bool : kitB "str" "bool" = some false := by decide +kernel
theorem kit_str_int : kitB "str" "int" = some false := by decide +kernel
theorem kit_str_str : kitB "str" "str" = some true := by decide +kernel
theorem kit_str_list : kitB "str" "list" = some false := by decide +kernel
theorem kit_str_tuple : kitB "str" "tuple" = some false := by decide +kernel
theorem kit_str_dict : kitB "str" "dict" = some false := by decide +kernel
theorem kit_list_bool : kitB "list" "bool" = some false := by decide +kernel
theorem kit_list_int : kitB "list" "int" = some false := by decide +kernel
theorem kit_list_str : kitB "list" "str" = some false := by decide +kernel
theorem kit_list_list : kitB "list" "list" = some true := by decide +kernel
theorem kit_list_tuple : kitB "list" "tuple" = some false := by decide +kernel
theorem kit_list_dict : kitB "list" "dict" = some false := by decide +kernel
theorem kit_tuple_bool : kitB "tuple" "bool" = some false := by decide +kernel
theorem kit_tuple_int : kitB "tuple" "int" = some false := by decide +kernel
theorem kit_tuple_str : kitB "tuple" "str" = some false := by decide +kernel
theorem kit_tuple_list : kitB "tuple" "list" = some false := by decide +kernel
theorem kit_tuple_tuple : kitB "tuple" "tuple" = some true := by decide +kernel
theorem kit_tuple_dict : kitB "tuple" "dict" = some false := by decide +kernel
theorem kit_dict_bool : kitB "dict" "bool" = some false := by decide +kernel
theorem kit_dict_int : kitB "dict" "int" = some false := by decide +kernel
theorem kit_dict_str : kitB "dict" "str" = some false := by decide +kernel
theorem kit_dict_list : kitB "dict" "list" = some false := by decide +kernel
theorem kit_dict_tuple : kitB "dict" "tuple" = some false := by decide +kernel
theorem kit_dict_dict : kitB "dict" "dict" = some true := by decide +kernel
/-! ### all of a tracked list of truth values -/
def mAll : List V → Hp → VK → Prop := fun vs H Q => ∃ (a : Addr) (xs : List V) (bs : List Bool), vs = [.ref a] ∧ H a = some (.lst xs) ∧ xs = bs.map V.bl ∧ Q (.bl (bs.all id)) H
def mAny : List V → Hp → VK → Prop := fun vs H Q => ∃ (a : Addr) (xs : List V) (bs : List Bool), vs = [.ref a] ∧ H a = some (.lst xs) ∧ xs = bs.map V.bl ∧ Q (.bl (bs.any id)) H
theorem all1 {X : Cx} (hc : X.calm = true) : CallR X (.builtin "all") mAll := CallR.imp (cr_all hc) fun vs H Q ⟨a, xs, bs, e, h, ex, q⟩ => ⟨a, bs, e, by rw [← ex]; exact SqL.of h, q⟩
theorem any1 {X : Cx} (hc : X.calm = true) : CallR X (.builtin "any") mAny := CallR.imp (cr_any hc) fun vs H Q ⟨a, xs, bs, e, h, ex, q⟩ => ⟨a, bs, e, by rw [← ex]; exact SqL.of h, q⟩
/-! ### data at any depth, tracked -/
mutual
inductive Da (H : Hp) : V → PyData → Prop
  | non : Da H .non .none
  | bl (b : Bool) : Da H (.bl b) (.bool b)
  | int (i : Int) : Da H (.int i) (.int i)
  | str (x : Str) : Da H (.str x) (.str x)
  | lst {a : Addr} {xs : List V} {ds : List PyData} : H a = some (.lst xs) → DaAll H xs ds → Da H (.ref a) (.list ds)
  | tup {a : Addr} {xs : List V} {ds : List PyData} : H a = some (.tup xs) → DaAll H xs ds → Da H (.ref a) (.tuple ds)
inductive DaAll (H : Hp) : List V → List PyData → Prop
  | nil : DaAll H [] []
  | cons {v : V} {vs : List V} {d : PyData} {ds : List PyData} : Da H v d → DaAll H vs ds → DaAll H (v :: vs) (d :: ds)
end
mutual
theorem Da.same {H H' : Hp} (s : Same H H') : ∀ (d : PyData) (v : V), Da H v d → Da H' v d
  | .none, _, h => by cases h; exact .non
  | .bool b, _, h => by cases h; exact .bl b
  | .int i, _, h => by cases h; exact .int i
  | .str x, _, h => by cases h; exact .str x
  | .list ds, _, h => by
    cases h with
    | lst e k => exact .lst (s _ _ e) (DaAll.same s ds _ k)
  | .tuple ds, _, h => by
    cases h with
    | tup e k => exact .tup (s _ _ e) (DaAll.same s ds _ k)
  | .dict _, _, h => by cases h
theorem DaAll.same {H H' : Hp} (s : Same H H') : ∀ (ds : List PyData) (vs : List V), DaAll H vs ds → DaAll H' vs ds
  | [], _, h => by cases h; exact .nil
  | d :: ds, _, h => by
    cases h with
    | cons a b => exact .cons (Da.same s d _ a) (DaAll.same s ds _ b)
end
mutual
theorem Da.dp {K : PySem.W.Frag} {H : Hp} : ∀ (d : PyData) (v : V), Da H v d → Dp K H v d
  | .none, _, h => by cases h; exact .non
  | .bool b, _, h => by cases h; exact .bl b
  | .int i, _, h => by cases h; exact .int i
  | .str x, _, h => by cases h; exact .str x
  | .list ds, _, h => by
    cases h with
    | lst e k => exact .lst (SqL.of e) (DaAll.dp ds _ k)
  | .tuple ds, _, h => by
    cases h with
    | tup e k => exact .tup (SqT.of e) (DaAll.dp ds _ k)
  | .dict _, _, h => by cases h
theorem DaAll.dp {K : PySem.W.Frag} {H : Hp} : ∀ (ds : List PyData) (vs : List V), DaAll H vs ds → DpAll K H vs ds
  | [], _, h => by cases h; exact .nil
  | d :: ds, _, h => by
    cases h with
    | cons a b => exact .cons (Da.dp d _ a) (DaAll.dp ds _ b)
end
theorem DaAll.length {H : Hp} : ∀ {vs : List V} {ds : List PyData}, DaAll H vs ds → vs.length = ds.length
  | _, _, .nil => rfl
  | _, _, .cons _ k => by rw [List.length_cons, List.length_cons, DaAll.length k]
theorem DaAll.get {H : Hp} : ∀ {vs : List V} {ds : List PyData} {i : Nat} {v : V}, DaAll H vs ds → vs[i]? = some v → ∃ d, ds[i]? = some d ∧ Da H v d
  | _, _, i, _, .nil, h => by cases i <;> cases h
  | _, _, 0, _, .cons a _, h => by injection h with h; subst h; exact ⟨_, rfl, a⟩
  | _, _, i + 1, v, .cons _ k, h => DaAll.get (i := i) k h
theorem DaAll.strs {H : Hp} : ∀ (q : List Str), DaAll H (q.map V.str) (q.map PyData.str)
  | [] => .nil
  | x :: q => .cons (.str x) (DaAll.strs q)
theorem DaAll.ints {H : Hp} : ∀ (q : List Int), DaAll H (q.map V.int) (q.map PyData.int)
  | [] => .nil
  | x :: q => .cons (.int x) (DaAll.ints q)
theorem walk_zipT {K : PySem.W.Frag} {a b : Addr} {xs ys : List V} {n : Nat} (hn : n = min xs.length ys.length) : Walk (RZ.ItzT K a b) n (fun H => SqT K H a xs ∧ SqT K H b ys) (YPair (fun i => xs[i]?) (fun i => ys[i]?)) := by
  subst hn
  refine ⟨fun i _ hi q => ?_, fun _ q => ⟨xs, ys, q.1, q.2, by omega⟩, fun i H v H' _ q y => ?_⟩
  · have z1 : i < xs.length := by omega
    have z2 : i < ys.length := by omega
    exact ⟨xs, ys, xs[i], ys[i], q.1, q.2, by simp [z1], by simp [z2]⟩
  · obtain ⟨T, x, z, y1, y2, y3, y4, y5⟩ := y
    exact ⟨T, x, z, y1, y2, y3, y4 xs q.1, y5 ys q.2⟩
/-! ### a, b = a tracked tuple -/
def gTupH (n : Nat) (t : TGs) : TG := fun v σ H Q => ∃ a xs, v = .ref a ∧ H a = some (.tup xs) ∧ xs.length = n ∧ t xs σ H Q
theorem PG.imp {X : Cx} {tg : Expr} {g g' : TG} (h : PG X tg g) (i : ∀ v σ H Q, g' v σ H Q → g v σ H Q) : PG X tg g' := ⟨fun pins s σ H v u Q I r q => h.run pins s σ H v u Q I r (i _ _ _ _ q)⟩
theorem pg_tupH {X : Cx} {es : List Expr} {k n : Nat} {pos : Pos} {t : TGs} (hc : X.calm = true) (h : PGs X es t) (hn : (assignEach es X.env).length = n := by rfl) (hst : (assignEach es X.env).findIdx? (·.1) = none := by rfl) : PG X (.Tuple es k pos) (gTupH n t) := PG.imp (pg_tup hc h hn hst) fun v σ H Q ⟨a, xs, e, he, hl, q⟩ => ⟨a, xs, e, SqT.of he, hl, q⟩
/-! ### loops as one word -/
def Loop (J : It) (g : TG) (tb : TS) (D : Ends) (σ : L2.St) (H : Hp) : Prop := ∃ W : Nat → Nat → L2.St → Hp → Prop, (∃ m, W 0 m σ H) ∧ ∀ i m σ H, W i m σ H → (J.stop i H ∧ D.nx σ H) ∨
  (J.go i H ∧ ∃ N : L2.St → Hp → Prop, (∀ σ' H', N σ' H' → ∃ m', m' < m ∧ W (i + 1) m' σ' H') ∧ ∀ x H', J.yld i H x H' → g x σ H' fun σ2 H2 => tb { D with nx := N, ct := N, bk := D.nx } σ2 H2)
theorem tFor_eq {wi : TI} {g : TG} {tb : TS} {D : Ends} {σ : L2.St} {H : Hp} : tFor wi g tb D σ H = wi σ H fun J H1 => Loop J g tb D σ H1 := rfl
theorem loop_it {J : It} {n : Nat} {G : Hp → Prop} {Y : Nat → Hp → V → Hp → Prop} (w : Walk J n G Y) {g : TG} {tb : TS} {D : Ends} {σ : L2.St} {H : Hp} (Pv : Nat → L2.St → Hp → Prop) (h0 : Pv 0 σ H) (hG : ∀ i σ H, i ≤ n → Pv i σ H → G H)
    (hs : ∀ i x σ H H', i < n → Pv i σ H → Y i H x H' → g x σ H' fun σ2 H2 => tb { D with nx := Pv (i + 1), ct := Pv (i + 1), bk := D.nx } σ2 H2) (hd : ∀ σ H, Pv n σ H → D.nx σ H) : Loop J g tb D σ H := for_it w Pv h0 hG hs hd
def LoopC (J : It) (g : TG) (tt : TT) (te : TE) (vs : List Nat) (σ : L2.St) (H1 : Hp) (D : Addr) (Qd : Hp → Prop) : Prop := ∃ W : Nat → Nat → Hp → Prop, (∃ m, W 0 m (upd H1 D (.lst []))) ∧ ∀ i m H, W i m H → (J.stop i H ∧ Qd H) ∨
  (J.go i H ∧ ∃ Nx : Hp → Prop, (∀ H', Nx H' → ∃ m', m' < m ∧ W (i + 1) m' H') ∧ ∀ x H', J.yld i H x H' → g x (wipe σ vs) H' fun σ2 H2 => wipe σ2 vs = wipe σ vs ∧ tt σ2 H2 fun b H3 =>
    if b = true then te σ2 H3 fun y H4 => ∃ acc, H4 D = some (.lst acc) ∧ acc.length < sizeLine ∧ Nx (upd H4 D (.lst (acc ++ [y]))) else Nx H3)
theorem tLc_eq {wi : TI} {g : TG} {tt : TT} {te : TE} {vs : List Nat} {σ : L2.St} {H : Hp} {Q : VK} : tLc wi g tt te vs σ H Q = wi σ H fun J H1 => ∀ D, H1 D = none → LoopC J g tt te vs σ H1 D (fun H' => Q (.ref D) H') := rfl
theorem loopC_it {J : It} {n : Nat} {G : Hp → Prop} {Y : Nat → Hp → V → Hp → Prop} (w : Walk J n G Y) {g : TG} {tt : TT} {te : TE} {vs : List Nat} {σ : L2.St} {H1 : Hp} {D : Addr} {Qd : Hp → Prop} (Pv : Nat → Hp → Prop) (h0 : Pv 0 (upd H1 D (.lst []))) (hG : ∀ i H, i ≤ n → Pv i H → G H)
    (hs : ∀ i x H H', i < n → Pv i H → Y i H x H' → g x (wipe σ vs) H' fun σ2 H2 => wipe σ2 vs = wipe σ vs ∧ tt σ2 H2 fun b H3 =>
      if b = true then te σ2 H3 fun y H4 => ∃ acc, H4 D = some (.lst acc) ∧ acc.length < sizeLine ∧ Pv (i + 1) (upd H4 D (.lst (acc ++ [y]))) else Pv (i + 1) H3) (hd : ∀ H, Pv n H → Qd H) : LoopC J g tt te vs σ H1 D Qd := lc_it w Pv h0 hG hs hd
/-! ### heaps that grow -/
theorem ne_new {H : Hp} {a p : Addr} {o : HO} (h : H a = some o) (hp : H p = none) : a ≠ p := ne_of_none h hp
end My

set_option Elab.async false
set_option linter.all false
set_option maxRecDepth 100000
set_option maxHeartbeats 4000000
namespace K30
open PySem PySem.Spec PyProof.Rows L2 My
def top (i : Nat) : Stmt := PySem.Challenge.pw_owedanswers_k30_answers_in_order.main.body.getD i (.Pass ⟨0, 0, 0, 0⟩)
abbrev s_is_out : Stmt := top 8
abbrev s_is_in : Stmt := top 9
abbrev s_mark_of : Stmt := top 10
abbrev s_is_amid : Stmt := top 11
abbrev s_row_fault : Stmt := top 12
abbrev s_mark_after : Stmt := top 13
abbrev s_Line___init__ : Stmt := inClass (top 15) 0
abbrev s_Line_mark : Stmt := inClass (top 15) 3
abbrev s_Line_is_clean : Stmt := inClass (top 15) 5
abbrev s_Line_owed : Stmt := inClass (top 15) 6
abbrev s_Line_need : Stmt := inClass (top 15) 7
abbrev s_Line_ask : Stmt := inClass (top 15) 8
abbrev s_Line_begin : Stmt := inClass (top 15) 9
abbrev s_Line_finish : Stmt := inClass (top 15) 10
abbrev s_Line_read : Stmt := inClass (top 15) 11
abbrev s_Line_head : Stmt := inClass (top 15) 12
abbrev s_Line_body : Stmt := inClass (top 15) 13
abbrev s_Line_drain : Stmt := inClass (top 15) 14
abbrev s_l_source : Stmt := top 17
abbrev s_l_draw : Stmt := top 18
abbrev s_l_same : Stmt := top 20
abbrev s_l_asked : Stmt := top 21
abbrev s_l_answered : Stmt := top 22
abbrev s_l_holds : Stmt := top 23
abbrev s_law : Stmt := top 24
theorem sc_is_out : FnScope ["mark"] ["mark"] (defScope s_is_out) := ⟨rfl, rfl, rfl, by decide +kernel, rfl, by decide +kernel, by decide +kernel⟩
theorem sc_is_in : FnScope ["mark"] ["mark"] (defScope s_is_in) := ⟨rfl, rfl, rfl, by decide +kernel, rfl, by decide +kernel, by decide +kernel⟩
theorem sc_mark_of : FnScope ["sending", "reading"] ["sending", "reading"] (defScope s_mark_of) := ⟨rfl, rfl, rfl, by decide +kernel, rfl, by decide +kernel, by decide +kernel⟩
theorem sc_is_amid : FnScope ["word", "mark"] ["word", "mark"] (defScope s_is_amid) := ⟨rfl, rfl, rfl, by decide +kernel, rfl, by decide +kernel, by decide +kernel⟩
theorem sc_row_fault : FnScope ["word", "mark", "owed"] ["word", "mark", "owed"] (defScope s_row_fault) := ⟨rfl, rfl, rfl, by decide +kernel, rfl, by decide +kernel, by decide +kernel⟩
theorem sc_mark_after : FnScope ["word", "mark"] ["word", "mark"] (defScope s_mark_after) := ⟨rfl, rfl, rfl, by decide +kernel, rfl, by decide +kernel, by decide +kernel⟩
theorem sc_Line___init__ : FnScope ["self", "number"] ["self", "number"] (defScope s_Line___init__) := ⟨rfl, rfl, rfl, by decide +kernel, rfl, by decide +kernel, by decide +kernel⟩
theorem sc_Line_mark : FnScope ["self"] ["self"] (defScope s_Line_mark) := ⟨rfl, rfl, rfl, by decide +kernel, rfl, by decide +kernel, by decide +kernel⟩
theorem sc_Line_is_clean : FnScope ["self"] ["self"] (defScope s_Line_is_clean) := ⟨rfl, rfl, rfl, by decide +kernel, rfl, by decide +kernel, by decide +kernel⟩
theorem sc_Line_owed : FnScope ["self"] ["self"] (defScope s_Line_owed) := ⟨rfl, rfl, rfl, by decide +kernel, rfl, by decide +kernel, by decide +kernel⟩
theorem sc_Line_need : FnScope ["self", "word", "owed", "fault"] ["self", "word", "owed"] (defScope s_Line_need) := ⟨rfl, rfl, rfl, by decide +kernel, rfl, by decide +kernel, by decide +kernel⟩
theorem sc_Line_ask : FnScope ["self", "tags"] ["self", "tags"] (defScope s_Line_ask) := ⟨rfl, rfl, rfl, by decide +kernel, rfl, by decide +kernel, by decide +kernel⟩
theorem sc_Line_begin : FnScope ["self", "tag"] ["self", "tag"] (defScope s_Line_begin) := ⟨rfl, rfl, rfl, by decide +kernel, rfl, by decide +kernel, by decide +kernel⟩
theorem sc_Line_finish : FnScope ["self"] ["self"] (defScope s_Line_finish) := ⟨rfl, rfl, rfl, by decide +kernel, rfl, by decide +kernel, by decide +kernel⟩
theorem sc_Line_read : FnScope ["self"] ["self"] (defScope s_Line_read) := ⟨rfl, rfl, rfl, by decide +kernel, rfl, by decide +kernel, by decide +kernel⟩
theorem sc_Line_head : FnScope ["self"] ["self"] (defScope s_Line_head) := ⟨rfl, rfl, rfl, by decide +kernel, rfl, by decide +kernel, by decide +kernel⟩
theorem sc_Line_body : FnScope ["self"] ["self"] (defScope s_Line_body) := ⟨rfl, rfl, rfl, by decide +kernel, rfl, by decide +kernel, by decide +kernel⟩
theorem sc_Line_drain : FnScope ["self", "tags"] ["self"] (defScope s_Line_drain) := ⟨rfl, rfl, rfl, by decide +kernel, rfl, by decide +kernel, by decide +kernel⟩
theorem sc_l_source : FnScope ["_law_script", "_law_place", "_law_cell", "_law_large"] ["_law_script", "_law_place"] (defScope s_l_source) := ⟨rfl, rfl, rfl, by decide +kernel, rfl, by decide +kernel, by decide +kernel⟩
theorem sc_l_draw : FnScope ["_law_source_here", "_law_many", "_law_digit", "_law_turn", "_law_mixed"] ["_law_source_here", "_law_many"] (defScope s_l_draw) := ⟨rfl, rfl, rfl, by decide +kernel, rfl, by decide +kernel, by decide +kernel⟩
theorem sc_l_same : FnScope ["_law_actual", "_law_due", "_law_one", "_law_two"] ["_law_actual", "_law_due"] (defScope s_l_same) := ⟨rfl, rfl, rfl, by decide +kernel, rfl, by decide +kernel, by decide +kernel⟩
theorem sc_l_asked : FnScope ["_law_line", "_law_tag", "_law_parts", "_law_mark"] ["_law_line", "_law_tag", "_law_parts"] (defScope s_l_asked) := ⟨rfl, rfl, rfl, by decide +kernel, rfl, by decide +kernel, by decide +kernel⟩
theorem sc_l_answered : FnScope ["_law_line", "_law_tag", "_law_parts", "_law_first", "_law_mark", "_law_owed"] ["_law_line", "_law_tag", "_law_parts"] (defScope s_l_answered) := ⟨rfl, rfl, rfl, by decide +kernel, rfl, by decide +kernel, by decide +kernel⟩
theorem sc_l_holds : FnScope ["_law_source_here", "_law_line", "_law_asked_here", "_law_answered_here", "_law_turn", "_law_deed", "_law_parts", "_law_place"] ["_law_source_here"] (defScope s_l_holds) := ⟨rfl, rfl, rfl, by decide +kernel, rfl, by decide +kernel, by decide +kernel⟩
theorem sc_law : FnScope ["_law_script", "_law_place"] ["_law_script"] (defScope s_law) := ⟨rfl, rfl, rfl, by decide +kernel, rfl, by decide +kernel, by decide +kernel⟩
def fa : List My.FaB := [fun K => (He.Fa.glo "is_out").ok K,
  fun K => (He.Fa.keep "is_out").ok K,
  fun K => (He.Fa.glo "is_in").ok K,
  fun K => (He.Fa.keep "is_in").ok K,
  fun K => (He.Fa.glo "mark_of").ok K,
  fun K => (He.Fa.keep "mark_of").ok K,
  fun K => (He.Fa.glo "is_amid").ok K,
  fun K => (He.Fa.keep "is_amid").ok K,
  fun K => (He.Fa.glo "row_fault").ok K,
  fun K => (He.Fa.keep "row_fault").ok K,
  fun K => (He.Fa.glo "mark_after").ok K,
  fun K => (He.Fa.keep "mark_after").ok K,
  fun K => (He.Fa.glo "Line").ok K,
  fun K => (He.Fa.cls "Line").ok K,
  fun K => (He.Fa.noat "Line" "number").ok K,
  fun K => (He.Fa.noat "Line" "cause").ok K,
  fun K => (He.Fa.noat "Line" "state").ok K,
  fun K => (He.Fa.noat "Line" "queue").ok K,
  fun K => (He.Fa.noat "Line" "sending").ok K,
  fun K => (He.Fa.noat "Line" "is_lent").ok K,
  fun K => (He.Fa.mkr "Line").ok K,
  My.prpB "Line" "mark",
  My.prpB "Line" "is_clean",
  My.prpB "Line" "owed",
  fun K => (He.Fa.meth "Line" "need").ok K,
  fun K => (He.Fa.meth "Line" "ask").ok K,
  fun K => (He.Fa.meth "Line" "begin").ok K,
  fun K => (He.Fa.meth "Line" "finish").ok K,
  fun K => (He.Fa.meth "Line" "read").ok K,
  fun K => (He.Fa.meth "Line" "head").ok K,
  fun K => (He.Fa.meth "Line" "body").ok K,
  fun K => (He.Fa.meth "Line" "drain").ok K,
  fun K => (He.Fa.glo "_law_source").ok K,
  fun K => (He.Fa.keep "_law_source").ok K,
  fun K => (He.Fa.glo "_law_draw").ok K,
  fun K => (He.Fa.keep "_law_draw").ok K,
  fun K => (He.Fa.glo "_law_same").ok K,
  fun K => (He.Fa.keep "_law_same").ok K,
  fun K => (He.Fa.glo "_law_asked").ok K,
  fun K => (He.Fa.keep "_law_asked").ok K,
  fun K => (He.Fa.glo "_law_answered").ok K,
  fun K => (He.Fa.keep "_law_answered").ok K,
  fun K => (He.Fa.glo "_law_holds").ok K,
  fun K => (He.Fa.keep "_law_holds").ok K,
  fun K => (He.Fa.glo "law").ok K,
  fun K => (He.Fa.keep "law").ok K,
  fun K => (He.Fa.free "len").ok K,
  fun K => (He.Fa.free "abs").ok K,
  fun K => (He.Fa.free "int").ok K,
  fun K => (He.Fa.free "str").ok K,
  fun K => (He.Fa.free "list").ok K,
  fun K => (He.Fa.free "isinstance").ok K,
  fun K => (He.Fa.free "range").ok K,
  fun K => (He.Fa.free "max").ok K,
  fun K => (He.Fa.free "min").ok K,
  fun K => (He.Fa.free "zip").ok K,
  fun K => (He.Fa.free "all").ok K,
  fun K => (He.Fa.free "bool").ok K,
  fun K => (He.Fa.free "tuple").ok K,
  fun K => (He.Fa.glo "LINE_WORDS").ok K,
  fun K => He.tupB K "LINE_WORDS" [.str "ask", .str "begin", .str "finish", .str "read", .str "head", .str "body"]]
def D_is_out : He5.DefA := ⟨My.gloF "is_out", "is_out", "is_out", defArgs s_is_out, defBody s_is_out, defScope s_is_out, [], []⟩
def D_is_in : He5.DefA := ⟨My.gloF "is_in", "is_in", "is_in", defArgs s_is_in, defBody s_is_in, defScope s_is_in, [], []⟩
def D_mark_of : He5.DefA := ⟨My.gloF "mark_of", "mark_of", "mark_of", defArgs s_mark_of, defBody s_mark_of, defScope s_mark_of, [], []⟩
def D_is_amid : He5.DefA := ⟨My.gloF "is_amid", "is_amid", "is_amid", defArgs s_is_amid, defBody s_is_amid, defScope s_is_amid, [], []⟩
def D_row_fault : He5.DefA := ⟨My.gloF "row_fault", "row_fault", "row_fault", defArgs s_row_fault, defBody s_row_fault, defScope s_row_fault, [], []⟩
def D_mark_after : He5.DefA := ⟨My.gloF "mark_after", "mark_after", "mark_after", defArgs s_mark_after, defBody s_mark_after, defScope s_mark_after, [], []⟩
def D_Line___init__ : He5.DefA := ⟨My.mthF "Line" "__init__", "__init__", "Line.__init__", defArgs s_Line___init__, defBody s_Line___init__, defScope s_Line___init__, [.int 0], []⟩
def D_Line_mark : He5.DefA := ⟨My.prpG "Line" "mark", "mark", "Line.mark", defArgs s_Line_mark, defBody s_Line_mark, defScope s_Line_mark, [], []⟩
def D_Line_is_clean : He5.DefA := ⟨My.prpG "Line" "is_clean", "is_clean", "Line.is_clean", defArgs s_Line_is_clean, defBody s_Line_is_clean, defScope s_Line_is_clean, [], []⟩
def D_Line_owed : He5.DefA := ⟨My.prpG "Line" "owed", "owed", "Line.owed", defArgs s_Line_owed, defBody s_Line_owed, defScope s_Line_owed, [], []⟩
def D_Line_need : He5.DefA := ⟨My.mthF "Line" "need", "need", "Line.need", defArgs s_Line_need, defBody s_Line_need, defScope s_Line_need, [], []⟩
def D_Line_ask : He5.DefA := ⟨My.mthF "Line" "ask", "ask", "Line.ask", defArgs s_Line_ask, defBody s_Line_ask, defScope s_Line_ask, [], []⟩
def D_Line_begin : He5.DefA := ⟨My.mthF "Line" "begin", "begin", "Line.begin", defArgs s_Line_begin, defBody s_Line_begin, defScope s_Line_begin, [], []⟩
def D_Line_finish : He5.DefA := ⟨My.mthF "Line" "finish", "finish", "Line.finish", defArgs s_Line_finish, defBody s_Line_finish, defScope s_Line_finish, [], []⟩
def D_Line_read : He5.DefA := ⟨My.mthF "Line" "read", "read", "Line.read", defArgs s_Line_read, defBody s_Line_read, defScope s_Line_read, [], []⟩
def D_Line_head : He5.DefA := ⟨My.mthF "Line" "head", "head", "Line.head", defArgs s_Line_head, defBody s_Line_head, defScope s_Line_head, [], []⟩
def D_Line_body : He5.DefA := ⟨My.mthF "Line" "body", "body", "Line.body", defArgs s_Line_body, defBody s_Line_body, defScope s_Line_body, [], []⟩
def D_Line_drain : He5.DefA := ⟨My.mthF "Line" "drain", "drain", "Line.drain", defArgs s_Line_drain, defBody s_Line_drain, defScope s_Line_drain, [], []⟩
def D_l_source : He5.DefA := ⟨My.gloF "_law_source", "_law_source", "_law_source", defArgs s_l_source, defBody s_l_source, defScope s_l_source, [], []⟩
def D_l_draw : He5.DefA := ⟨My.gloF "_law_draw", "_law_draw", "_law_draw", defArgs s_l_draw, defBody s_l_draw, defScope s_l_draw, [], []⟩
def D_l_same : He5.DefA := ⟨My.gloF "_law_same", "_law_same", "_law_same", defArgs s_l_same, defBody s_l_same, defScope s_l_same, [], []⟩
def D_l_asked : He5.DefA := ⟨My.gloF "_law_asked", "_law_asked", "_law_asked", defArgs s_l_asked, defBody s_l_asked, defScope s_l_asked, [], []⟩
def D_l_answered : He5.DefA := ⟨My.gloF "_law_answered", "_law_answered", "_law_answered", defArgs s_l_answered, defBody s_l_answered, defScope s_l_answered, [], []⟩
def D_l_holds : He5.DefA := ⟨My.gloF "_law_holds", "_law_holds", "_law_holds", defArgs s_l_holds, defBody s_l_holds, defScope s_l_holds, [], []⟩
def D_law : He5.DefA := ⟨My.gloF "law", "law", "law", defArgs s_law, defBody s_law, defScope s_law, [], []⟩
def fn : List He5.DefA := [D_is_out, D_is_in, D_mark_of, D_is_amid, D_row_fault, D_mark_after, D_Line___init__, D_Line_mark, D_Line_is_clean, D_Line_owed, D_Line_need, D_Line_ask, D_Line_begin, D_Line_finish, D_Line_read, D_Line_head, D_Line_body, D_Line_drain, D_l_source, D_l_draw, D_l_same, D_l_asked, D_l_answered, D_l_holds, D_law]
structure Tx (K : PySem.W.Frag) (mg : Str → Option Value) : Prop where
  ex : ∃ h : Heap, K.In h ∧ h.Ns mainGlobals mg
  c : My.SaysM fa fn K
section
variable {K : PySem.W.Frag} {mg : Str → Option Value}
theorem Tx.g_is_out (T : Tx K mg) : mg "is_out" = some (.ref (He.ga K "is_out")) := by obtain ⟨h, X, G⟩ := T.ex; exact He.glo_ok X G (T.c.fact 0)
theorem Tx.k_is_out (T : Tx K mg) : PySem.W.keepIn K (.ref (He.ga K "is_out")) = true := He.keep_ok (T.c.fact 1)
theorem Tx.g_is_in (T : Tx K mg) : mg "is_in" = some (.ref (He.ga K "is_in")) := by obtain ⟨h, X, G⟩ := T.ex; exact He.glo_ok X G (T.c.fact 2)
theorem Tx.k_is_in (T : Tx K mg) : PySem.W.keepIn K (.ref (He.ga K "is_in")) = true := He.keep_ok (T.c.fact 3)
theorem Tx.g_mark_of (T : Tx K mg) : mg "mark_of" = some (.ref (He.ga K "mark_of")) := by obtain ⟨h, X, G⟩ := T.ex; exact He.glo_ok X G (T.c.fact 4)
theorem Tx.k_mark_of (T : Tx K mg) : PySem.W.keepIn K (.ref (He.ga K "mark_of")) = true := He.keep_ok (T.c.fact 5)
theorem Tx.g_is_amid (T : Tx K mg) : mg "is_amid" = some (.ref (He.ga K "is_amid")) := by obtain ⟨h, X, G⟩ := T.ex; exact He.glo_ok X G (T.c.fact 6)
theorem Tx.k_is_amid (T : Tx K mg) : PySem.W.keepIn K (.ref (He.ga K "is_amid")) = true := He.keep_ok (T.c.fact 7)
theorem Tx.g_row_fault (T : Tx K mg) : mg "row_fault" = some (.ref (He.ga K "row_fault")) := by obtain ⟨h, X, G⟩ := T.ex; exact He.glo_ok X G (T.c.fact 8)
theorem Tx.k_row_fault (T : Tx K mg) : PySem.W.keepIn K (.ref (He.ga K "row_fault")) = true := He.keep_ok (T.c.fact 9)
theorem Tx.g_mark_after (T : Tx K mg) : mg "mark_after" = some (.ref (He.ga K "mark_after")) := by obtain ⟨h, X, G⟩ := T.ex; exact He.glo_ok X G (T.c.fact 10)
theorem Tx.k_mark_after (T : Tx K mg) : PySem.W.keepIn K (.ref (He.ga K "mark_after")) = true := He.keep_ok (T.c.fact 11)
theorem Tx.g_Line (T : Tx K mg) : mg "Line" = some (.ref (He.ga K "Line")) := by obtain ⟨h, X, G⟩ := T.ex; exact He.glo_ok X G (T.c.fact 12)
theorem Tx.c_Line (T : Tx K mg) : Cls K (He.ga K "Line") := He.cls_ok (T.c.fact 13)
theorem Tx.f_Line_number (T : Tx K mg) : NoAttr K (He.ga K "Line") "number" := He.noat_ok (T.c.fact 14)
theorem Tx.f_Line_cause (T : Tx K mg) : NoAttr K (He.ga K "Line") "cause" := He.noat_ok (T.c.fact 15)
theorem Tx.f_Line_state (T : Tx K mg) : NoAttr K (He.ga K "Line") "state" := He.noat_ok (T.c.fact 16)
theorem Tx.f_Line_queue (T : Tx K mg) : NoAttr K (He.ga K "Line") "queue" := He.noat_ok (T.c.fact 17)
theorem Tx.f_Line_sending (T : Tx K mg) : NoAttr K (He.ga K "Line") "sending" := He.noat_ok (T.c.fact 18)
theorem Tx.f_Line_is_lent (T : Tx K mg) : NoAttr K (He.ga K "Line") "is_lent" := He.noat_ok (T.c.fact 19)
theorem Tx.m_Line (T : Tx K mg) : Mk K (He.ga K "Line") (He.ma K (He.ga K "Line") "__init__") := He.mkr_ok (T.c.fact 20)
theorem Tx.p_Line_mark (T : Tx K mg) : PropOf K (He.ga K "Line") "mark" (My.prpA "Line" "mark" K) (My.prpG "Line" "mark" K) := My.prpB_ok (T.c.fact 21)
theorem Tx.p_Line_is_clean (T : Tx K mg) : PropOf K (He.ga K "Line") "is_clean" (My.prpA "Line" "is_clean" K) (My.prpG "Line" "is_clean" K) := My.prpB_ok (T.c.fact 22)
theorem Tx.p_Line_owed (T : Tx K mg) : PropOf K (He.ga K "Line") "owed" (My.prpA "Line" "owed" K) (My.prpG "Line" "owed" K) := My.prpB_ok (T.c.fact 23)
theorem Tx.m_Line_need (T : Tx K mg) : Meth K (He.ga K "Line") "need" (He.ma K (He.ga K "Line") "need") := He.meth_ok (T.c.fact 24)
theorem Tx.m_Line_ask (T : Tx K mg) : Meth K (He.ga K "Line") "ask" (He.ma K (He.ga K "Line") "ask") := He.meth_ok (T.c.fact 25)
theorem Tx.m_Line_begin (T : Tx K mg) : Meth K (He.ga K "Line") "begin" (He.ma K (He.ga K "Line") "begin") := He.meth_ok (T.c.fact 26)
theorem Tx.m_Line_finish (T : Tx K mg) : Meth K (He.ga K "Line") "finish" (He.ma K (He.ga K "Line") "finish") := He.meth_ok (T.c.fact 27)
theorem Tx.m_Line_read (T : Tx K mg) : Meth K (He.ga K "Line") "read" (He.ma K (He.ga K "Line") "read") := He.meth_ok (T.c.fact 28)
theorem Tx.m_Line_head (T : Tx K mg) : Meth K (He.ga K "Line") "head" (He.ma K (He.ga K "Line") "head") := He.meth_ok (T.c.fact 29)
theorem Tx.m_Line_body (T : Tx K mg) : Meth K (He.ga K "Line") "body" (He.ma K (He.ga K "Line") "body") := He.meth_ok (T.c.fact 30)
theorem Tx.m_Line_drain (T : Tx K mg) : Meth K (He.ga K "Line") "drain" (He.ma K (He.ga K "Line") "drain") := He.meth_ok (T.c.fact 31)
theorem Tx.g__law_source (T : Tx K mg) : mg "_law_source" = some (.ref (He.ga K "_law_source")) := by obtain ⟨h, X, G⟩ := T.ex; exact He.glo_ok X G (T.c.fact 32)
theorem Tx.k__law_source (T : Tx K mg) : PySem.W.keepIn K (.ref (He.ga K "_law_source")) = true := He.keep_ok (T.c.fact 33)
theorem Tx.g__law_draw (T : Tx K mg) : mg "_law_draw" = some (.ref (He.ga K "_law_draw")) := by obtain ⟨h, X, G⟩ := T.ex; exact He.glo_ok X G (T.c.fact 34)
theorem Tx.k__law_draw (T : Tx K mg) : PySem.W.keepIn K (.ref (He.ga K "_law_draw")) = true := He.keep_ok (T.c.fact 35)
theorem Tx.g__law_same (T : Tx K mg) : mg "_law_same" = some (.ref (He.ga K "_law_same")) := by obtain ⟨h, X, G⟩ := T.ex; exact He.glo_ok X G (T.c.fact 36)
theorem Tx.k__law_same (T : Tx K mg) : PySem.W.keepIn K (.ref (He.ga K "_law_same")) = true := He.keep_ok (T.c.fact 37)
theorem Tx.g__law_asked (T : Tx K mg) : mg "_law_asked" = some (.ref (He.ga K "_law_asked")) := by obtain ⟨h, X, G⟩ := T.ex; exact He.glo_ok X G (T.c.fact 38)
theorem Tx.k__law_asked (T : Tx K mg) : PySem.W.keepIn K (.ref (He.ga K "_law_asked")) = true := He.keep_ok (T.c.fact 39)
theorem Tx.g__law_answered (T : Tx K mg) : mg "_law_answered" = some (.ref (He.ga K "_law_answered")) := by obtain ⟨h, X, G⟩ := T.ex; exact He.glo_ok X G (T.c.fact 40)
theorem Tx.k__law_answered (T : Tx K mg) : PySem.W.keepIn K (.ref (He.ga K "_law_answered")) = true := He.keep_ok (T.c.fact 41)
theorem Tx.g__law_holds (T : Tx K mg) : mg "_law_holds" = some (.ref (He.ga K "_law_holds")) := by obtain ⟨h, X, G⟩ := T.ex; exact He.glo_ok X G (T.c.fact 42)
theorem Tx.k__law_holds (T : Tx K mg) : PySem.W.keepIn K (.ref (He.ga K "_law_holds")) = true := He.keep_ok (T.c.fact 43)
theorem Tx.g_law (T : Tx K mg) : mg "law" = some (.ref (He.ga K "law")) := by obtain ⟨h, X, G⟩ := T.ex; exact He.glo_ok X G (T.c.fact 44)
theorem Tx.k_law (T : Tx K mg) : PySem.W.keepIn K (.ref (He.ga K "law")) = true := He.keep_ok (T.c.fact 45)
theorem Tx.n_len (T : Tx K mg) : mg "len" = none := by obtain ⟨h, X, G⟩ := T.ex; exact He.free_ok X G (T.c.fact 46)
theorem Tx.n_abs (T : Tx K mg) : mg "abs" = none := by obtain ⟨h, X, G⟩ := T.ex; exact He.free_ok X G (T.c.fact 47)
theorem Tx.n_int (T : Tx K mg) : mg "int" = none := by obtain ⟨h, X, G⟩ := T.ex; exact He.free_ok X G (T.c.fact 48)
theorem Tx.n_str (T : Tx K mg) : mg "str" = none := by obtain ⟨h, X, G⟩ := T.ex; exact He.free_ok X G (T.c.fact 49)
theorem Tx.n_list (T : Tx K mg) : mg "list" = none := by obtain ⟨h, X, G⟩ := T.ex; exact He.free_ok X G (T.c.fact 50)
theorem Tx.n_isinstance (T : Tx K mg) : mg "isinstance" = none := by obtain ⟨h, X, G⟩ := T.ex; exact He.free_ok X G (T.c.fact 51)
theorem Tx.n_range (T : Tx K mg) : mg "range" = none := by obtain ⟨h, X, G⟩ := T.ex; exact He.free_ok X G (T.c.fact 52)
theorem Tx.n_max (T : Tx K mg) : mg "max" = none := by obtain ⟨h, X, G⟩ := T.ex; exact He.free_ok X G (T.c.fact 53)
theorem Tx.n_min (T : Tx K mg) : mg "min" = none := by obtain ⟨h, X, G⟩ := T.ex; exact He.free_ok X G (T.c.fact 54)
theorem Tx.n_zip (T : Tx K mg) : mg "zip" = none := by obtain ⟨h, X, G⟩ := T.ex; exact He.free_ok X G (T.c.fact 55)
theorem Tx.n_all (T : Tx K mg) : mg "all" = none := by obtain ⟨h, X, G⟩ := T.ex; exact He.free_ok X G (T.c.fact 56)
theorem Tx.n_bool (T : Tx K mg) : mg "bool" = none := by obtain ⟨h, X, G⟩ := T.ex; exact He.free_ok X G (T.c.fact 57)
theorem Tx.n_tuple (T : Tx K mg) : mg "tuple" = none := by obtain ⟨h, X, G⟩ := T.ex; exact He.free_ok X G (T.c.fact 58)
theorem Tx.g_LINE_WORDS (T : Tx K mg) : mg "LINE_WORDS" = some (.ref (He.ga K "LINE_WORDS")) := by obtain ⟨h, X, G⟩ := T.ex; exact He.glo_ok X G (T.c.fact 59)
theorem Tx.q_LINE_WORDS (T : Tx K mg) : ∀ H : Hp, SqT K H (He.ga K "LINE_WORDS") [.str "ask", .str "begin", .str "finish", .str "read", .str "head", .str "body"] := fun H => He.tupB_ok (vs := [.str "ask", .str "begin", .str "finish", .str "read", .str "head", .str "body"]) (T.c.fact 60) H
theorem Tx.d_is_out (T : Tx K mg) : ∃ fd, L2.FunD K D_is_out.name D_is_out.qual D_is_out.params D_is_out.body D_is_out.scope (D_is_out.dvs K) (D_is_out.kws K) (He.ga K "is_out") fd := T.c.def_ 0 (d := D_is_out)
theorem Tx.d_is_in (T : Tx K mg) : ∃ fd, L2.FunD K D_is_in.name D_is_in.qual D_is_in.params D_is_in.body D_is_in.scope (D_is_in.dvs K) (D_is_in.kws K) (He.ga K "is_in") fd := T.c.def_ 1 (d := D_is_in)
theorem Tx.d_mark_of (T : Tx K mg) : ∃ fd, L2.FunD K D_mark_of.name D_mark_of.qual D_mark_of.params D_mark_of.body D_mark_of.scope (D_mark_of.dvs K) (D_mark_of.kws K) (He.ga K "mark_of") fd := T.c.def_ 2 (d := D_mark_of)
theorem Tx.d_is_amid (T : Tx K mg) : ∃ fd, L2.FunD K D_is_amid.name D_is_amid.qual D_is_amid.params D_is_amid.body D_is_amid.scope (D_is_amid.dvs K) (D_is_amid.kws K) (He.ga K "is_amid") fd := T.c.def_ 3 (d := D_is_amid)
theorem Tx.d_row_fault (T : Tx K mg) : ∃ fd, L2.FunD K D_row_fault.name D_row_fault.qual D_row_fault.params D_row_fault.body D_row_fault.scope (D_row_fault.dvs K) (D_row_fault.kws K) (He.ga K "row_fault") fd := T.c.def_ 4 (d := D_row_fault)
theorem Tx.d_mark_after (T : Tx K mg) : ∃ fd, L2.FunD K D_mark_after.name D_mark_after.qual D_mark_after.params D_mark_after.body D_mark_after.scope (D_mark_after.dvs K) (D_mark_after.kws K) (He.ga K "mark_after") fd := T.c.def_ 5 (d := D_mark_after)
theorem Tx.d_Line___init__ (T : Tx K mg) : ∃ fd, L2.FunD K D_Line___init__.name D_Line___init__.qual D_Line___init__.params D_Line___init__.body D_Line___init__.scope (D_Line___init__.dvs K) (D_Line___init__.kws K) (He.ma K (He.ga K "Line") "__init__") fd := T.c.def_ 6 (d := D_Line___init__)
theorem Tx.d_Line_mark (T : Tx K mg) : ∃ fd, L2.FunD K D_Line_mark.name D_Line_mark.qual D_Line_mark.params D_Line_mark.body D_Line_mark.scope (D_Line_mark.dvs K) (D_Line_mark.kws K) (My.prpG "Line" "mark" K) fd := T.c.def_ 7 (d := D_Line_mark)
theorem Tx.d_Line_is_clean (T : Tx K mg) : ∃ fd, L2.FunD K D_Line_is_clean.name D_Line_is_clean.qual D_Line_is_clean.params D_Line_is_clean.body D_Line_is_clean.scope (D_Line_is_clean.dvs K) (D_Line_is_clean.kws K) (My.prpG "Line" "is_clean" K) fd := T.c.def_ 8 (d := D_Line_is_clean)
theorem Tx.d_Line_owed (T : Tx K mg) : ∃ fd, L2.FunD K D_Line_owed.name D_Line_owed.qual D_Line_owed.params D_Line_owed.body D_Line_owed.scope (D_Line_owed.dvs K) (D_Line_owed.kws K) (My.prpG "Line" "owed" K) fd := T.c.def_ 9 (d := D_Line_owed)
theorem Tx.d_Line_need (T : Tx K mg) : ∃ fd, L2.FunD K D_Line_need.name D_Line_need.qual D_Line_need.params D_Line_need.body D_Line_need.scope (D_Line_need.dvs K) (D_Line_need.kws K) (He.ma K (He.ga K "Line") "need") fd := T.c.def_ 10 (d := D_Line_need)
theorem Tx.d_Line_ask (T : Tx K mg) : ∃ fd, L2.FunD K D_Line_ask.name D_Line_ask.qual D_Line_ask.params D_Line_ask.body D_Line_ask.scope (D_Line_ask.dvs K) (D_Line_ask.kws K) (He.ma K (He.ga K "Line") "ask") fd := T.c.def_ 11 (d := D_Line_ask)
theorem Tx.d_Line_begin (T : Tx K mg) : ∃ fd, L2.FunD K D_Line_begin.name D_Line_begin.qual D_Line_begin.params D_Line_begin.body D_Line_begin.scope (D_Line_begin.dvs K) (D_Line_begin.kws K) (He.ma K (He.ga K "Line") "begin") fd := T.c.def_ 12 (d := D_Line_begin)
theorem Tx.d_Line_finish (T : Tx K mg) : ∃ fd, L2.FunD K D_Line_finish.name D_Line_finish.qual D_Line_finish.params D_Line_finish.body D_Line_finish.scope (D_Line_finish.dvs K) (D_Line_finish.kws K) (He.ma K (He.ga K "Line") "finish") fd := T.c.def_ 13 (d := D_Line_finish)
theorem Tx.d_Line_read (T : Tx K mg) : ∃ fd, L2.FunD K D_Line_read.name D_Line_read.qual D_Line_read.params D_Line_read.body D_Line_read.scope (D_Line_read.dvs K) (D_Line_read.kws K) (He.ma K (He.ga K "Line") "read") fd := T.c.def_ 14 (d := D_Line_read)
theorem Tx.d_Line_head (T : Tx K mg) : ∃ fd, L2.FunD K D_Line_head.name D_Line_head.qual D_Line_head.params D_Line_head.body D_Line_head.scope (D_Line_head.dvs K) (D_Line_head.kws K) (He.ma K (He.ga K "Line") "head") fd := T.c.def_ 15 (d := D_Line_head)
theorem Tx.d_Line_body (T : Tx K mg) : ∃ fd, L2.FunD K D_Line_body.name D_Line_body.qual D_Line_body.params D_Line_body.body D_Line_body.scope (D_Line_body.dvs K) (D_Line_body.kws K) (He.ma K (He.ga K "Line") "body") fd := T.c.def_ 16 (d := D_Line_body)
theorem Tx.d_Line_drain (T : Tx K mg) : ∃ fd, L2.FunD K D_Line_drain.name D_Line_drain.qual D_Line_drain.params D_Line_drain.body D_Line_drain.scope (D_Line_drain.dvs K) (D_Line_drain.kws K) (He.ma K (He.ga K "Line") "drain") fd := T.c.def_ 17 (d := D_Line_drain)
theorem Tx.d_l_source (T : Tx K mg) : ∃ fd, L2.FunD K D_l_source.name D_l_source.qual D_l_source.params D_l_source.body D_l_source.scope (D_l_source.dvs K) (D_l_source.kws K) (He.ga K "_law_source") fd := T.c.def_ 18 (d := D_l_source)
theorem Tx.d_l_draw (T : Tx K mg) : ∃ fd, L2.FunD K D_l_draw.name D_l_draw.qual D_l_draw.params D_l_draw.body D_l_draw.scope (D_l_draw.dvs K) (D_l_draw.kws K) (He.ga K "_law_draw") fd := T.c.def_ 19 (d := D_l_draw)
theorem Tx.d_l_same (T : Tx K mg) : ∃ fd, L2.FunD K D_l_same.name D_l_same.qual D_l_same.params D_l_same.body D_l_same.scope (D_l_same.dvs K) (D_l_same.kws K) (He.ga K "_law_same") fd := T.c.def_ 20 (d := D_l_same)
theorem Tx.d_l_asked (T : Tx K mg) : ∃ fd, L2.FunD K D_l_asked.name D_l_asked.qual D_l_asked.params D_l_asked.body D_l_asked.scope (D_l_asked.dvs K) (D_l_asked.kws K) (He.ga K "_law_asked") fd := T.c.def_ 21 (d := D_l_asked)
theorem Tx.d_l_answered (T : Tx K mg) : ∃ fd, L2.FunD K D_l_answered.name D_l_answered.qual D_l_answered.params D_l_answered.body D_l_answered.scope (D_l_answered.dvs K) (D_l_answered.kws K) (He.ga K "_law_answered") fd := T.c.def_ 22 (d := D_l_answered)
theorem Tx.d_l_holds (T : Tx K mg) : ∃ fd, L2.FunD K D_l_holds.name D_l_holds.qual D_l_holds.params D_l_holds.body D_l_holds.scope (D_l_holds.dvs K) (D_l_holds.kws K) (He.ga K "_law_holds") fd := T.c.def_ 23 (d := D_l_holds)
theorem Tx.d_law (T : Tx K mg) : ∃ fd, L2.FunD K D_law.name D_law.qual D_law.params D_law.body D_law.scope (D_law.dvs K) (D_law.kws K) (He.ga K "law") fd := T.c.def_ 24 (d := D_law)
end
def isOut (m : Str) : Bool := decide (m = "out") || decide (m = "both")
def isIn (m : Str) : Bool := decide (m = "in") || decide (m = "both")
def markOf (a b : Bool) : Str := if a then (if b then "both" else "out") else (if b then "in" else "whole")
def isAmid (w m : Str) : Bool := if w = "ask" ∨ w = "begin" then isOut m else if w = "finish" then !isOut m else if w = "read" ∨ w = "head" then isIn m else if w = "body" then !isIn m else false
def rowFault (w m : Str) (n : Int) : V := if m = "closed" then .str "closed" else if isAmid w m then .str "amid" else if (w = "read" ∨ w = "head") ∧ n < 1 then .str "starved" else .non
def sp_is_out (_ : PySem.W.Frag) : Sp := fun vs H Q _ => ∃ m : Str, vs = [.str m] ∧ Q (.bl (isOut m)) H
theorem R_is_out {P : Program} {w : World} {K : PySem.W.Frag} {mg : Str → Option Value} {base : Heap} (T : Tx K mg) : FnR P w K mg base CX0 1 (He.ga K "is_out") (sp_is_out K) := by
  obtain ⟨fd, F⟩ := T.d_is_out
  refine My.FunD.R F sc_is_out (fun vs H Q E h => by obtain ⟨m, rfl, k⟩ := h; rfl) (fun _ _ _ _ _ _ us hl => match us, hl with | [_], _ => rfl) (fun cdv A outer s H vs Q E hr h => ?_)
  obtain ⟨m, rfl, k⟩ := h
  refine ⟨_, (pss_one (ps_ret (pe_or (pe_cmpR op_eq (pv 0) pe_str (nomark _)) (pe_one (pe_cmpR op_eq (pv 0) pe_str (nomark _)))))), ?_⟩
  simp only [tSeq, tAsg, tRet, tRetN, tIfS, tDrop, tNext, tBreak, tCont, tVar, tC, tOp, tUn, tB, tTest, tAnd, tOr, tNot, tAndV, tOrV, tNotV, tIf, tNil, tCons, tTup, tLst, tCB, tCallR, tMethR, tPropR, StX.tMakeR, tFld, sFld, sFldAug, tPar, tPar3, gName, gNil, gCons, gTup, gSub, rI, rI0, rU, rEq, rNe, mIxL, mIxT, mLenL, mLenT, mLenS, mLenD, mLenK, mList, mTupL, mInt, mAbs, mMax, mMin, mStr, mAddS, mIsN, mNotN, rIxS, rIxL, rSetL, rAppend, rExtendT, rPopAt, rCat, rIn, tBM, tBM0, tChain, tNever, scal, L2.start, cxK, iRng1, iRng2, tDNewK, tDGet, tDGet2, sDPut, tDIn, tDNotIn, DGet_dk, DPut_dk, IsD_dk, tyV_list, isLst_lst, isDk_dk, dkOf_dk, atI_0, atI_1, atI_2, atI_3, ixN_30, ixN_31, ixN_32, List.map, List.replicate, List.length_cons, List.length_nil, List.nil_append, List.cons_append, List.append_nil, Nat.reduceSub, Nat.reduceAdd, List.getElem?_cons_zero, List.getElem?_cons_succ, List.set_cons_zero, List.set_cons_succ, List.cons.injEq, Option.some.injEq, V.int.injEq, V.str.injEq, V.bl.injEq, V.ref.injEq, HO.ins.injEq, HO.lst.injEq, HO.tup.injEq, HO.dK.injEq, exists_eq_left, exists_eq_left', exists_eq_right, exists_eq_right', exists_and_left, exists_and_right, true_and, and_true, and_self, if_true, if_false, Bool.false_eq_true, Bool.true_eq_false, eq_self, reduceCtorEq, false_and, and_false, upd_same, upd_upd, and_assoc, Int.reduceToNat, Int.reducePow, Int.reduceMul, Int.reduceAdd, Int.reduceNeg, mIsi, mIsi2, kdV_non, kdV_bl, kdV_int, kdV_str, kdV_ref, kdO_lst, kdO_tup, kdO_dK, V.ty.injEq, mAll, mAny, kit_NoneType_bool, kit_NoneType_int, kit_NoneType_str, kit_NoneType_list, kit_NoneType_tuple, kit_NoneType_dict, kit_bool_bool, kit_bool_int, kit_bool_str, kit_bool_list, kit_bool_tuple, kit_bool_dict, kit_int_bool, kit_int_int, kit_int_str, kit_int_list, kit_int_tuple, kit_int_dict, kit_str_bool, kit_str_int, kit_str_str, kit_str_list, kit_str_tuple, kit_str_dict, kit_list_bool, kit_list_int, kit_list_str, kit_list_list, kit_list_tuple, kit_list_dict, kit_tuple_bool, kit_tuple_int, kit_tuple_str, kit_tuple_list, kit_tuple_tuple, kit_tuple_dict, kit_dict_bool, kit_dict_int, kit_dict_str, kit_dict_list, kit_dict_tuple, kit_dict_dict, String.reduceEq, String.reduceNe, ne_eq, not_false_eq_true, not_true_eq_false, decide_false, decide_true, Bool.not_false, Bool.not_true, Bool.or_false, Bool.false_or, Bool.or_true, Bool.true_or, gTupH, wipe, tYes, exists_eq', exists_eq, exists_const, tFor_eq, tLc_eq]
  unfold isOut at k
  by_cases h : m = "out"
  · simpa [h] using k
  · simpa [h] using k
def sp_is_in (_ : PySem.W.Frag) : Sp := fun vs H Q _ => ∃ m : Str, vs = [.str m] ∧ Q (.bl (isIn m)) H
theorem R_is_in {P : Program} {w : World} {K : PySem.W.Frag} {mg : Str → Option Value} {base : Heap} (T : Tx K mg) : FnR P w K mg base CX0 1 (He.ga K "is_in") (sp_is_in K) := by
  obtain ⟨fd, F⟩ := T.d_is_in
  refine My.FunD.R F sc_is_in (fun vs H Q E h => by obtain ⟨m, rfl, k⟩ := h; rfl) (fun _ _ _ _ _ _ us hl => match us, hl with | [_], _ => rfl) (fun cdv A outer s H vs Q E hr h => ?_)
  obtain ⟨m, rfl, k⟩ := h
  refine ⟨_, (pss_one (ps_ret (pe_or (pe_cmpR op_eq (pv 0) pe_str (nomark _)) (pe_one (pe_cmpR op_eq (pv 0) pe_str (nomark _)))))), ?_⟩
  simp only [tSeq, tAsg, tRet, tRetN, tIfS, tDrop, tNext, tBreak, tCont, tVar, tC, tOp, tUn, tB, tTest, tAnd, tOr, tNot, tAndV, tOrV, tNotV, tIf, tNil, tCons, tTup, tLst, tCB, tCallR, tMethR, tPropR, StX.tMakeR, tFld, sFld, sFldAug, tPar, tPar3, gName, gNil, gCons, gTup, gSub, rI, rI0, rU, rEq, rNe, mIxL, mIxT, mLenL, mLenT, mLenS, mLenD, mLenK, mList, mTupL, mInt, mAbs, mMax, mMin, mStr, mAddS, mIsN, mNotN, rIxS, rIxL, rSetL, rAppend, rExtendT, rPopAt, rCat, rIn, tBM, tBM0, tChain, tNever, scal, L2.start, cxK, iRng1, iRng2, tDNewK, tDGet, tDGet2, sDPut, tDIn, tDNotIn, DGet_dk, DPut_dk, IsD_dk, tyV_list, isLst_lst, isDk_dk, dkOf_dk, atI_0, atI_1, atI_2, atI_3, ixN_30, ixN_31, ixN_32, List.map, List.replicate, List.length_cons, List.length_nil, List.nil_append, List.cons_append, List.append_nil, Nat.reduceSub, Nat.reduceAdd, List.getElem?_cons_zero, List.getElem?_cons_succ, List.set_cons_zero, List.set_cons_succ, List.cons.injEq, Option.some.injEq, V.int.injEq, V.str.injEq, V.bl.injEq, V.ref.injEq, HO.ins.injEq, HO.lst.injEq, HO.tup.injEq, HO.dK.injEq, exists_eq_left, exists_eq_left', exists_eq_right, exists_eq_right', exists_and_left, exists_and_right, true_and, and_true, and_self, if_true, if_false, Bool.false_eq_true, Bool.true_eq_false, eq_self, reduceCtorEq, false_and, and_false, upd_same, upd_upd, and_assoc, Int.reduceToNat, Int.reducePow, Int.reduceMul, Int.reduceAdd, Int.reduceNeg, mIsi, mIsi2, kdV_non, kdV_bl, kdV_int, kdV_str, kdV_ref, kdO_lst, kdO_tup, kdO_dK, V.ty.injEq, mAll, mAny, kit_NoneType_bool, kit_NoneType_int, kit_NoneType_str, kit_NoneType_list, kit_NoneType_tuple, kit_NoneType_dict, kit_bool_bool, kit_bool_int, kit_bool_str, kit_bool_list, kit_bool_tuple, kit_bool_dict, kit_int_bool, kit_int_int, kit_int_str, kit_int_list, kit_int_tuple, kit_int_dict, kit_str_bool, kit_str_int, kit_str_str, kit_str_list, kit_str_tuple, kit_str_dict, kit_list_bool, kit_list_int, kit_list_str, kit_list_list, kit_list_tuple, kit_list_dict, kit_tuple_bool, kit_tuple_int, kit_tuple_str, kit_tuple_list, kit_tuple_tuple, kit_tuple_dict, kit_dict_bool, kit_dict_int, kit_dict_str, kit_dict_list, kit_dict_tuple, kit_dict_dict, String.reduceEq, String.reduceNe, ne_eq, not_false_eq_true, not_true_eq_false, decide_false, decide_true, Bool.not_false, Bool.not_true, Bool.or_false, Bool.false_or, Bool.or_true, Bool.true_or, gTupH, wipe, tYes, exists_eq', exists_eq, exists_const, tFor_eq, tLc_eq]
  unfold isIn at k
  by_cases h : m = "in"
  · simpa [h] using k
  · simpa [h] using k
def sp_mark_of (_ : PySem.W.Frag) : Sp := fun vs H Q _ => ∃ a b : Bool, vs = [.bl a, .bl b] ∧ Q (.str (markOf a b)) H
theorem R_mark_of {P : Program} {w : World} {K : PySem.W.Frag} {mg : Str → Option Value} {base : Heap} (T : Tx K mg) : FnR P w K mg base CX0 1 (He.ga K "mark_of") (sp_mark_of K) := by
  obtain ⟨fd, F⟩ := T.d_mark_of
  refine My.FunD.R F sc_mark_of (fun vs H Q E h => by obtain ⟨a, b, rfl, k⟩ := h; rfl) (fun _ _ _ _ _ _ us hl => match us, hl with | [_, _], _ => rfl) (fun cdv A outer s H vs Q E hr h => ?_)
  obtain ⟨a, b, rfl, k⟩ := h
  refine ⟨_, (pss_cons (ps_if (PW.pt (pw_and (pt_val (pv 0)) (pw_and1 (pt_val (pv 1))))) (pss_one (ps_ret pe_str)) pss_nil)
      (pss_cons (ps_if (pt_val (pv 0)) (pss_one (ps_ret pe_str)) pss_nil)
      (pss_one (ps_ret (pe_ifExp (pt_val (pv 1)) pe_str pe_str))))), ?_⟩
  simp only [tSeq, tAsg, tRet, tRetN, tIfS, tDrop, tNext, tBreak, tCont, tVar, tC, tOp, tUn, tB, tTest, tAnd, tOr, tNot, tAndV, tOrV, tNotV, tIf, tNil, tCons, tTup, tLst, tCB, tCallR, tMethR, tPropR, StX.tMakeR, tFld, sFld, sFldAug, tPar, tPar3, gName, gNil, gCons, gTup, gSub, rI, rI0, rU, rEq, rNe, mIxL, mIxT, mLenL, mLenT, mLenS, mLenD, mLenK, mList, mTupL, mInt, mAbs, mMax, mMin, mStr, mAddS, mIsN, mNotN, rIxS, rIxL, rSetL, rAppend, rExtendT, rPopAt, rCat, rIn, tBM, tBM0, tChain, tNever, scal, L2.start, cxK, iRng1, iRng2, tDNewK, tDGet, tDGet2, sDPut, tDIn, tDNotIn, DGet_dk, DPut_dk, IsD_dk, tyV_list, isLst_lst, isDk_dk, dkOf_dk, atI_0, atI_1, atI_2, atI_3, ixN_30, ixN_31, ixN_32, List.map, List.replicate, List.length_cons, List.length_nil, List.nil_append, List.cons_append, List.append_nil, Nat.reduceSub, Nat.reduceAdd, List.getElem?_cons_zero, List.getElem?_cons_succ, List.set_cons_zero, List.set_cons_succ, List.cons.injEq, Option.some.injEq, V.int.injEq, V.str.injEq, V.bl.injEq, V.ref.injEq, HO.ins.injEq, HO.lst.injEq, HO.tup.injEq, HO.dK.injEq, exists_eq_left, exists_eq_left', exists_eq_right, exists_eq_right', exists_and_left, exists_and_right, true_and, and_true, and_self, if_true, if_false, Bool.false_eq_true, Bool.true_eq_false, eq_self, reduceCtorEq, false_and, and_false, upd_same, upd_upd, and_assoc, Int.reduceToNat, Int.reducePow, Int.reduceMul, Int.reduceAdd, Int.reduceNeg, mIsi, mIsi2, kdV_non, kdV_bl, kdV_int, kdV_str, kdV_ref, kdO_lst, kdO_tup, kdO_dK, V.ty.injEq, mAll, mAny, kit_NoneType_bool, kit_NoneType_int, kit_NoneType_str, kit_NoneType_list, kit_NoneType_tuple, kit_NoneType_dict, kit_bool_bool, kit_bool_int, kit_bool_str, kit_bool_list, kit_bool_tuple, kit_bool_dict, kit_int_bool, kit_int_int, kit_int_str, kit_int_list, kit_int_tuple, kit_int_dict, kit_str_bool, kit_str_int, kit_str_str, kit_str_list, kit_str_tuple, kit_str_dict, kit_list_bool, kit_list_int, kit_list_str, kit_list_list, kit_list_tuple, kit_list_dict, kit_tuple_bool, kit_tuple_int, kit_tuple_str, kit_tuple_list, kit_tuple_tuple, kit_tuple_dict, kit_dict_bool, kit_dict_int, kit_dict_str, kit_dict_list, kit_dict_tuple, kit_dict_dict, String.reduceEq, String.reduceNe, ne_eq, not_false_eq_true, not_true_eq_false, decide_false, decide_true, Bool.not_false, Bool.not_true, Bool.or_false, Bool.false_or, Bool.or_true, Bool.true_or, gTupH, wipe, tYes, exists_eq', exists_eq, exists_const, tFor_eq, tLc_eq]
  unfold markOf at k
  cases a <;> cases b <;> exact k
def sp_is_amid (_ : PySem.W.Frag) : Sp := fun vs H Q _ => ∃ w m : Str, vs = [.str w, .str m] ∧ Q (.bl (isAmid w m)) H
theorem R_is_amid {P : Program} {w : World} {K : PySem.W.Frag} {mg : Str → Option Value} {base : Heap} (T : Tx K mg) : FnR P w K mg base CX0 3 (He.ga K "is_amid") (sp_is_amid K) := by
  obtain ⟨fd, F⟩ := T.d_is_amid
  refine My.FunD.R F sc_is_amid (fun vs H Q E h => by obtain ⟨w', m, rfl, k⟩ := h; rfl) (fun _ _ _ _ _ _ us hl => match us, hl with | [_, _], _ => rfl) (fun cdv A outer s H vs Q E hr h => ?_)
  obtain ⟨w', m, rfl, k⟩ := h
  refine ⟨_, (pss_cons (ps_if (PW.pt (pw_or (pt_cmpR op_eq (pv 0) pe_str (nomark _)) (pw_or1 (pt_cmpR op_eq (pv 0) pe_str (nomark _))))) (pss_one (ps_ret (pe_callR (R_is_out T) (hr.mono (by decide)) rfl T.g_is_out T.k_is_out pass0 (pa_cons (pv 1) pa_nil)))) pss_nil)
      (pss_cons (ps_if (pt_cmpR op_eq (pv 0) pe_str (nomark _)) (pss_one (ps_ret (pe_not (pe_callR (R_is_out T) (hr.mono (by decide)) rfl T.g_is_out T.k_is_out pass0 (pa_cons (pv 1) pa_nil))))) pss_nil)
      (pss_cons (ps_if (PW.pt (pw_or (pt_cmpR op_eq (pv 0) pe_str (nomark _)) (pw_or1 (pt_cmpR op_eq (pv 0) pe_str (nomark _))))) (pss_one (ps_ret (pe_callR (R_is_in T) (hr.mono (by decide)) rfl T.g_is_in T.k_is_in pass0 (pa_cons (pv 1) pa_nil)))) pss_nil)
      (pss_cons (ps_if (pt_cmpR op_eq (pv 0) pe_str (nomark _)) (pss_one (ps_ret (pe_not (pe_callR (R_is_in T) (hr.mono (by decide)) rfl T.g_is_in T.k_is_in pass0 (pa_cons (pv 1) pa_nil))))) pss_nil)
      (pss_one (ps_ret pe_bl)))))), ?_⟩
  simp only [tSeq, tAsg, tRet, tRetN, tIfS, tDrop, tNext, tBreak, tCont, tVar, tC, tOp, tUn, tB, tTest, tAnd, tOr, tNot, tAndV, tOrV, tNotV, tIf, tNil, tCons, tTup, tLst, tCB, tCallR, tMethR, tPropR, StX.tMakeR, tFld, sFld, sFldAug, tPar, tPar3, gName, gNil, gCons, gTup, gSub, rI, rI0, rU, rEq, rNe, mIxL, mIxT, mLenL, mLenT, mLenS, mLenD, mLenK, mList, mTupL, mInt, mAbs, mMax, mMin, mStr, mAddS, mIsN, mNotN, rIxS, rIxL, rSetL, rAppend, rExtendT, rPopAt, rCat, rIn, tBM, tBM0, tChain, tNever, scal, L2.start, cxK, iRng1, iRng2, tDNewK, tDGet, tDGet2, sDPut, tDIn, tDNotIn, DGet_dk, DPut_dk, IsD_dk, tyV_list, isLst_lst, isDk_dk, dkOf_dk, atI_0, atI_1, atI_2, atI_3, ixN_30, ixN_31, ixN_32, List.map, List.replicate, List.length_cons, List.length_nil, List.nil_append, List.cons_append, List.append_nil, Nat.reduceSub, Nat.reduceAdd, List.getElem?_cons_zero, List.getElem?_cons_succ, List.set_cons_zero, List.set_cons_succ, List.cons.injEq, Option.some.injEq, V.int.injEq, V.str.injEq, V.bl.injEq, V.ref.injEq, HO.ins.injEq, HO.lst.injEq, HO.tup.injEq, HO.dK.injEq, exists_eq_left, exists_eq_left', exists_eq_right, exists_eq_right', exists_and_left, exists_and_right, true_and, and_true, and_self, if_true, if_false, Bool.false_eq_true, Bool.true_eq_false, eq_self, reduceCtorEq, false_and, and_false, upd_same, upd_upd, and_assoc, Int.reduceToNat, Int.reducePow, Int.reduceMul, Int.reduceAdd, Int.reduceNeg, mIsi, mIsi2, kdV_non, kdV_bl, kdV_int, kdV_str, kdV_ref, kdO_lst, kdO_tup, kdO_dK, V.ty.injEq, mAll, mAny, kit_NoneType_bool, kit_NoneType_int, kit_NoneType_str, kit_NoneType_list, kit_NoneType_tuple, kit_NoneType_dict, kit_bool_bool, kit_bool_int, kit_bool_str, kit_bool_list, kit_bool_tuple, kit_bool_dict, kit_int_bool, kit_int_int, kit_int_str, kit_int_list, kit_int_tuple, kit_int_dict, kit_str_bool, kit_str_int, kit_str_str, kit_str_list, kit_str_tuple, kit_str_dict, kit_list_bool, kit_list_int, kit_list_str, kit_list_list, kit_list_tuple, kit_list_dict, kit_tuple_bool, kit_tuple_int, kit_tuple_str, kit_tuple_list, kit_tuple_tuple, kit_tuple_dict, kit_dict_bool, kit_dict_int, kit_dict_str, kit_dict_list, kit_dict_tuple, kit_dict_dict, String.reduceEq, String.reduceNe, ne_eq, not_false_eq_true, not_true_eq_false, decide_false, decide_true, Bool.not_false, Bool.not_true, Bool.or_false, Bool.false_or, Bool.or_true, Bool.true_or, gTupH, wipe, tYes, exists_eq', exists_eq, exists_const, tFor_eq, tLc_eq, sp_is_out, sp_is_in]
  unfold isAmid at k
  simp only [decide_eq_true_eq]
  repeat' split
  all_goals simp_all
def LW : List V := [.str "ask", .str "begin", .str "finish", .str "read", .str "head", .str "body"]
def sp_row_fault (_ : PySem.W.Frag) : Sp := fun vs H Q _ => ∃ (w m : Str) (n : Int), vs = [.str w, .str m, .int n] ∧ inV (.str w) LW = true ∧ Q (rowFault w m n) H
theorem R_row_fault {P : Program} {w : World} {K : PySem.W.Frag} {mg : Str → Option Value} {base : Heap} (T : Tx K mg) : FnR P w K mg base CX0 5 (He.ga K "row_fault") (sp_row_fault K) := by
  obtain ⟨fd, F⟩ := T.d_row_fault
  refine My.FunD.R F sc_row_fault (fun vs H Q E h => by obtain ⟨w', m, n, rfl, hw, k⟩ := h; rfl) (fun _ _ _ _ _ _ us hl => match us, hl with | [_, _, _], _ => rfl) (fun cdv A outer s H vs Q E hr h => ?_)
  obtain ⟨w', m, n, rfl, hw, k⟩ := h
  refine ⟨_, (pss_cons (ps_if (pt_cmpR op_notIn_seq (pv 0) (pe_glob (v := .ref (He.ga _ "LINE_WORDS")) rfl T.g_LINE_WORDS rfl) rfl) (pss_one (ps_ret pe_non)) pss_nil)
      (pss_cons (ps_if (pt_cmpR op_eq (pv 1) pe_str (nomark _)) (pss_one (ps_ret pe_str)) pss_nil)
      (pss_cons (ps_if (pt_val (pe_callR (R_is_amid T) (hr.mono (by decide)) rfl T.g_is_amid T.k_is_amid pass0 (pa_cons (pv 0) (pa_cons (pv 1) pa_nil)))) (pss_one (ps_ret pe_str)) pss_nil)
      (pss_cons (ps_if (PW.pt (pw_and (PW.pt (pw_or (pt_cmpR op_eq (pv 0) pe_str (nomark _)) (pw_or1 (pt_cmpR op_eq (pv 0) pe_str (nomark _))))) (pw_and1 (pt_cmpR op_lt (pv 2) pe_int (nomark _))))) (pss_one (ps_ret pe_str)) pss_nil)
      (pss_one (ps_ret pe_non)))))), ?_⟩
  simp only [tSeq, tAsg, tRet, tRetN, tIfS, tDrop, tNext, tBreak, tCont, tVar, tC, tOp, tUn, tB, tTest, tAnd, tOr, tNot, tAndV, tOrV, tNotV, tIf, tNil, tCons, tTup, tLst, tCB, tCallR, tMethR, tPropR, StX.tMakeR, tFld, sFld, sFldAug, tPar, tPar3, gName, gNil, gCons, gTup, gSub, rI, rI0, rU, rEq, rNe, mIxL, mIxT, mLenL, mLenT, mLenS, mLenD, mLenK, mList, mTupL, mInt, mAbs, mMax, mMin, mStr, mAddS, mIsN, mNotN, rIxS, rIxL, rSetL, rAppend, rExtendT, rPopAt, rCat, rIn, tBM, tBM0, tChain, tNever, scal, L2.start, cxK, iRng1, iRng2, tDNewK, tDGet, tDGet2, sDPut, tDIn, tDNotIn, DGet_dk, DPut_dk, IsD_dk, tyV_list, isLst_lst, isDk_dk, dkOf_dk, atI_0, atI_1, atI_2, atI_3, ixN_30, ixN_31, ixN_32, List.map, List.replicate, List.length_cons, List.length_nil, List.nil_append, List.cons_append, List.append_nil, Nat.reduceSub, Nat.reduceAdd, List.getElem?_cons_zero, List.getElem?_cons_succ, List.set_cons_zero, List.set_cons_succ, List.cons.injEq, Option.some.injEq, V.int.injEq, V.str.injEq, V.bl.injEq, V.ref.injEq, HO.ins.injEq, HO.lst.injEq, HO.tup.injEq, HO.dK.injEq, exists_eq_left, exists_eq_left', exists_eq_right, exists_eq_right', exists_and_left, exists_and_right, true_and, and_true, and_self, if_true, if_false, Bool.false_eq_true, Bool.true_eq_false, eq_self, reduceCtorEq, false_and, and_false, upd_same, upd_upd, and_assoc, Int.reduceToNat, Int.reducePow, Int.reduceMul, Int.reduceAdd, Int.reduceNeg, mIsi, mIsi2, kdV_non, kdV_bl, kdV_int, kdV_str, kdV_ref, kdO_lst, kdO_tup, kdO_dK, V.ty.injEq, mAll, mAny, kit_NoneType_bool, kit_NoneType_int, kit_NoneType_str, kit_NoneType_list, kit_NoneType_tuple, kit_NoneType_dict, kit_bool_bool, kit_bool_int, kit_bool_str, kit_bool_list, kit_bool_tuple, kit_bool_dict, kit_int_bool, kit_int_int, kit_int_str, kit_int_list, kit_int_tuple, kit_int_dict, kit_str_bool, kit_str_int, kit_str_str, kit_str_list, kit_str_tuple, kit_str_dict, kit_list_bool, kit_list_int, kit_list_str, kit_list_list, kit_list_tuple, kit_list_dict, kit_tuple_bool, kit_tuple_int, kit_tuple_str, kit_tuple_list, kit_tuple_tuple, kit_tuple_dict, kit_dict_bool, kit_dict_int, kit_dict_str, kit_dict_list, kit_dict_tuple, kit_dict_dict, String.reduceEq, String.reduceNe, ne_eq, not_false_eq_true, not_true_eq_false, decide_false, decide_true, Bool.not_false, Bool.not_true, Bool.or_false, Bool.false_or, Bool.or_true, Bool.true_or, gTupH, wipe, tYes, exists_eq', exists_eq, exists_const, tFor_eq, tLc_eq]
  refine ⟨LW, .inr (T.q_LINE_WORDS H), rfl, rfl, ?_⟩
  rw [hw]
  simp only [tSeq, tAsg, tRet, tRetN, tIfS, tDrop, tNext, tBreak, tCont, tVar, tC, tOp, tUn, tB, tTest, tAnd, tOr, tNot, tAndV, tOrV, tNotV, tIf, tNil, tCons, tTup, tLst, tCB, tCallR, tMethR, tPropR, StX.tMakeR, tFld, sFld, sFldAug, tPar, tPar3, gName, gNil, gCons, gTup, gSub, rI, rI0, rU, rEq, rNe, mIxL, mIxT, mLenL, mLenT, mLenS, mLenD, mLenK, mList, mTupL, mInt, mAbs, mMax, mMin, mStr, mAddS, mIsN, mNotN, rIxS, rIxL, rSetL, rAppend, rExtendT, rPopAt, rCat, rIn, tBM, tBM0, tChain, tNever, scal, L2.start, cxK, iRng1, iRng2, tDNewK, tDGet, tDGet2, sDPut, tDIn, tDNotIn, DGet_dk, DPut_dk, IsD_dk, tyV_list, isLst_lst, isDk_dk, dkOf_dk, atI_0, atI_1, atI_2, atI_3, ixN_30, ixN_31, ixN_32, List.map, List.replicate, List.length_cons, List.length_nil, List.nil_append, List.cons_append, List.append_nil, Nat.reduceSub, Nat.reduceAdd, List.getElem?_cons_zero, List.getElem?_cons_succ, List.set_cons_zero, List.set_cons_succ, List.cons.injEq, Option.some.injEq, V.int.injEq, V.str.injEq, V.bl.injEq, V.ref.injEq, HO.ins.injEq, HO.lst.injEq, HO.tup.injEq, HO.dK.injEq, exists_eq_left, exists_eq_left', exists_eq_right, exists_eq_right', exists_and_left, exists_and_right, true_and, and_true, and_self, if_true, if_false, Bool.false_eq_true, Bool.true_eq_false, eq_self, reduceCtorEq, false_and, and_false, upd_same, upd_upd, and_assoc, Int.reduceToNat, Int.reducePow, Int.reduceMul, Int.reduceAdd, Int.reduceNeg, mIsi, mIsi2, kdV_non, kdV_bl, kdV_int, kdV_str, kdV_ref, kdO_lst, kdO_tup, kdO_dK, V.ty.injEq, mAll, mAny, kit_NoneType_bool, kit_NoneType_int, kit_NoneType_str, kit_NoneType_list, kit_NoneType_tuple, kit_NoneType_dict, kit_bool_bool, kit_bool_int, kit_bool_str, kit_bool_list, kit_bool_tuple, kit_bool_dict, kit_int_bool, kit_int_int, kit_int_str, kit_int_list, kit_int_tuple, kit_int_dict, kit_str_bool, kit_str_int, kit_str_str, kit_str_list, kit_str_tuple, kit_str_dict, kit_list_bool, kit_list_int, kit_list_str, kit_list_list, kit_list_tuple, kit_list_dict, kit_tuple_bool, kit_tuple_int, kit_tuple_str, kit_tuple_list, kit_tuple_tuple, kit_tuple_dict, kit_dict_bool, kit_dict_int, kit_dict_str, kit_dict_list, kit_dict_tuple, kit_dict_dict, String.reduceEq, String.reduceNe, ne_eq, not_false_eq_true, not_true_eq_false, decide_false, decide_true, Bool.not_false, Bool.not_true, Bool.or_false, Bool.false_or, Bool.or_true, Bool.true_or, gTupH, wipe, tYes, exists_eq', exists_eq, exists_const, tFor_eq, tLc_eq, sp_is_amid]
  unfold rowFault at k
  simp only [decide_eq_true_eq, Bool.not_true]
  by_cases h1 : m = "closed"
  · simpa [h1] using k
  by_cases h2 : isAmid w' m = true
  · simpa [h1, h2] using k
  by_cases h3 : w' = "read" <;> by_cases h4 : w' = "head" <;> by_cases h5 : n < 1 <;> simp_all
  all_goals (intro z; omega)
def markAfter (w m : Str) : Str := if m = "closed" ∨ w = "close" then "closed" else if w = "begin" then markOf true (isIn m) else if w = "finish" then markOf false (isIn m) else if w = "head" then markOf (isOut m) true else if w = "body" ∨ w = "drain" then markOf (isOut m) false else m
def sp_mark_after (_ : PySem.W.Frag) : Sp := fun vs H Q _ => ∃ (w m : Str), vs = [.str w, .str m] ∧ Q (.str (markAfter w m)) H
theorem R_mark_after {P : Program} {w : World} {K : PySem.W.Frag} {mg : Str → Option Value} {base : Heap} (T : Tx K mg) : FnR P w K mg base CX0 3 (He.ga K "mark_after") (sp_mark_after K) := by
  obtain ⟨fd, F⟩ := T.d_mark_after
  refine My.FunD.R F sc_mark_after (fun vs H Q E h => by obtain ⟨w', m, rfl, k⟩ := h; rfl) (fun _ _ _ _ _ _ us hl => match us, hl with | [_, _], _ => rfl) (fun cdv A outer s H vs Q E hr h => ?_)
  obtain ⟨w', m, rfl, k⟩ := h
  refine ⟨_, (pss_cons (ps_if (PW.pt (pw_or (pt_cmpR op_eq (pv 1) pe_str (nomark _)) (pw_or1 (pt_cmpR op_eq (pv 0) pe_str (nomark _))))) (pss_one (ps_ret pe_str)) pss_nil)
      (pss_cons (ps_if (pt_cmpR op_eq (pv 0) pe_str (nomark _)) (pss_one (ps_ret (pe_callR (R_mark_of T) (hr.mono (by decide)) rfl T.g_mark_of T.k_mark_of pass0 (pa_cons pe_bl (pa_cons (pe_callR (R_is_in T) (hr.mono (by decide)) rfl T.g_is_in T.k_is_in pass0 (pa_cons (pv 1) pa_nil)) pa_nil))))) pss_nil)
      (pss_cons (ps_if (pt_cmpR op_eq (pv 0) pe_str (nomark _)) (pss_one (ps_ret (pe_callR (R_mark_of T) (hr.mono (by decide)) rfl T.g_mark_of T.k_mark_of pass0 (pa_cons pe_bl (pa_cons (pe_callR (R_is_in T) (hr.mono (by decide)) rfl T.g_is_in T.k_is_in pass0 (pa_cons (pv 1) pa_nil)) pa_nil))))) pss_nil)
      (pss_cons (ps_if (pt_cmpR op_eq (pv 0) pe_str (nomark _)) (pss_one (ps_ret (pe_callR (R_mark_of T) (hr.mono (by decide)) rfl T.g_mark_of T.k_mark_of pass0 (pa_cons (pe_callR (R_is_out T) (hr.mono (by decide)) rfl T.g_is_out T.k_is_out pass0 (pa_cons (pv 1) pa_nil)) (pa_cons pe_bl pa_nil))))) pss_nil)
      (pss_cons (ps_if (PW.pt (pw_or (pt_cmpR op_eq (pv 0) pe_str (nomark _)) (pw_or1 (pt_cmpR op_eq (pv 0) pe_str (nomark _))))) (pss_one (ps_ret (pe_callR (R_mark_of T) (hr.mono (by decide)) rfl T.g_mark_of T.k_mark_of pass0 (pa_cons (pe_callR (R_is_out T) (hr.mono (by decide)) rfl T.g_is_out T.k_is_out pass0 (pa_cons (pv 1) pa_nil)) (pa_cons pe_bl pa_nil))))) pss_nil)
      (pss_one (ps_ret (pv 1)))))))), ?_⟩
  simp only [tSeq, tAsg, tRet, tRetN, tIfS, tDrop, tNext, tBreak, tCont, tVar, tC, tOp, tUn, tB, tTest, tAnd, tOr, tNot, tAndV, tOrV, tNotV, tIf, tNil, tCons, tTup, tLst, tCB, tCallR, tMethR, tPropR, StX.tMakeR, tFld, sFld, sFldAug, tPar, tPar3, gName, gNil, gCons, gTup, gSub, rI, rI0, rU, rEq, rNe, mIxL, mIxT, mLenL, mLenT, mLenS, mLenD, mLenK, mList, mTupL, mInt, mAbs, mMax, mMin, mStr, mAddS, mIsN, mNotN, rIxS, rIxL, rSetL, rAppend, rExtendT, rPopAt, rCat, rIn, tBM, tBM0, tChain, tNever, scal, L2.start, cxK, iRng1, iRng2, tDNewK, tDGet, tDGet2, sDPut, tDIn, tDNotIn, DGet_dk, DPut_dk, IsD_dk, tyV_list, isLst_lst, isDk_dk, dkOf_dk, atI_0, atI_1, atI_2, atI_3, ixN_30, ixN_31, ixN_32, List.map, List.replicate, List.length_cons, List.length_nil, List.nil_append, List.cons_append, List.append_nil, Nat.reduceSub, Nat.reduceAdd, List.getElem?_cons_zero, List.getElem?_cons_succ, List.set_cons_zero, List.set_cons_succ, List.cons.injEq, Option.some.injEq, V.int.injEq, V.str.injEq, V.bl.injEq, V.ref.injEq, HO.ins.injEq, HO.lst.injEq, HO.tup.injEq, HO.dK.injEq, exists_eq_left, exists_eq_left', exists_eq_right, exists_eq_right', exists_and_left, exists_and_right, true_and, and_true, and_self, if_true, if_false, Bool.false_eq_true, Bool.true_eq_false, eq_self, reduceCtorEq, false_and, and_false, upd_same, upd_upd, and_assoc, Int.reduceToNat, Int.reducePow, Int.reduceMul, Int.reduceAdd, Int.reduceNeg, mIsi, mIsi2, kdV_non, kdV_bl, kdV_int, kdV_str, kdV_ref, kdO_lst, kdO_tup, kdO_dK, V.ty.injEq, mAll, mAny, kit_NoneType_bool, kit_NoneType_int, kit_NoneType_str, kit_NoneType_list, kit_NoneType_tuple, kit_NoneType_dict, kit_bool_bool, kit_bool_int, kit_bool_str, kit_bool_list, kit_bool_tuple, kit_bool_dict, kit_int_bool, kit_int_int, kit_int_str, kit_int_list, kit_int_tuple, kit_int_dict, kit_str_bool, kit_str_int, kit_str_str, kit_str_list, kit_str_tuple, kit_str_dict, kit_list_bool, kit_list_int, kit_list_str, kit_list_list, kit_list_tuple, kit_list_dict, kit_tuple_bool, kit_tuple_int, kit_tuple_str, kit_tuple_list, kit_tuple_tuple, kit_tuple_dict, kit_dict_bool, kit_dict_int, kit_dict_str, kit_dict_list, kit_dict_tuple, kit_dict_dict, String.reduceEq, String.reduceNe, ne_eq, not_false_eq_true, not_true_eq_false, decide_false, decide_true, Bool.not_false, Bool.not_true, Bool.or_false, Bool.false_or, Bool.or_true, Bool.true_or, gTupH, wipe, tYes, exists_eq', exists_eq, exists_const, tFor_eq, tLc_eq, sp_is_out, sp_is_in, sp_mark_of]
  unfold markAfter at k
  simp only [decide_eq_true_eq]
  repeat' split
  all_goals simp_all
def lf (n c s q g b : V) : List (Str × V) := [("number", n), ("cause", c), ("state", s), ("queue", q), ("sending", g), ("is_lent", b)]
section
variable (n c s q g b v : V)
theorem lf_number : (lf n c s q g b).lookup ("number" : Str) = some n := by rfl
theorem lf_state : (lf n c s q g b).lookup ("state" : Str) = some s := by rfl
theorem lf_queue : (lf n c s q g b).lookup ("queue" : Str) = some q := by rfl
theorem lf_sending : (lf n c s q g b).lookup ("sending" : Str) = some g := by rfl
theorem lp_state : putF "state" v (lf n c s q g b) = lf n c v q g b := by rfl
theorem lp_queue : putF "queue" v (lf n c s q g b) = lf n c s v g b := by rfl
theorem lp_sending : putF "sending" v (lf n c s q g b) = lf n c s q v b := by rfl
theorem lp_all : putF "is_lent" b (putF "sending" g (putF "queue" q (putF "state" s (putF "cause" c (putF "number" n []))))) = lf n c s q g b := by rfl
theorem lf_len : (lf n c s q g b).length = 6 := rfl
theorem ln_need : (lf n c s q g b).lookup ("need" : Str) = none := by rfl
theorem ln_ask : (lf n c s q g b).lookup ("ask" : Str) = none := by rfl
theorem ln_begin : (lf n c s q g b).lookup ("begin" : Str) = none := by rfl
theorem ln_finish : (lf n c s q g b).lookup ("finish" : Str) = none := by rfl
theorem ln_read : (lf n c s q g b).lookup ("read" : Str) = none := by rfl
theorem ln_head : (lf n c s q g b).lookup ("head" : Str) = none := by rfl
theorem ln_body : (lf n c s q g b).lookup ("body" : Str) = none := by rfl
theorem ln_drain : (lf n c s q g b).lookup ("drain" : Str) = none := by rfl
end
/-- a line at a (its queue at l): its mark, the tags, what is sent -/
structure LineAt (K : PySem.W.Frag) (H : Hp) (a l : Addr) (m : Str) (q : List Str) (g : Str) : Prop where
  ob : ∃ (dx : Addr), H a = some (.ins (He.ga K "Line") dx (lf (.int 0) .non (.str m) (.ref l) (.str g) (.bl false)))
  qu : H l = some (.lst (q.map V.str))
  ne : a ≠ l
  sz : q.length ≤ 1000
theorem six : 6 < 1000 := by decide
def sp_Line_mark (K : PySem.W.Frag) : Sp := fun vs H Q _ => ∃ (a l : Addr) (m : Str) (q : List Str) (g : Str), vs = [.ref a] ∧ LineAt K H a l m q g ∧ Q (.str m) H
theorem R_Line_mark {P : Program} {w : World} {K : PySem.W.Frag} {mg : Str → Option Value} {base : Heap} (T : Tx K mg) : FnR P w K mg base CX0 1 (My.prpG "Line" "mark" K) (sp_Line_mark K) := by
  obtain ⟨fd, F⟩ := T.d_Line_mark
  refine My.FunD.R F sc_Line_mark (fun vs H Q E h => by obtain ⟨a, l, m, q, g, rfl, ⟨⟨dx, ha⟩, hl, hn, hz⟩, k⟩ := h; rfl) (fun _ _ _ _ _ _ us hl => match us, hl with | [_], _ => rfl) (fun cdv A outer s H vs Q E hr h => ?_)
  obtain ⟨a, l, m, q, g, rfl, ⟨⟨dx, ha⟩, hl, hn, hz⟩, k⟩ := h
  refine ⟨_, (pss_one (ps_ret (pe_fld (pv 0) rfl))), ?_⟩
  simp only [tSeq, tAsg, tRet, tRetN, tIfS, tDrop, tNext, tBreak, tCont, tVar, tC, tOp, tUn, tB, tTest, tAnd, tOr, tNot, tAndV, tOrV, tNotV, tIf, tNil, tCons, tTup, tLst, tCB, tCallR, tMethR, tPropR, StX.tMakeR, tFld, sFld, sFldAug, tPar, tPar3, gName, gNil, gCons, gTup, gSub, rI, rI0, rU, rEq, rNe, mIxL, mIxT, mLenL, mLenT, mLenS, mLenD, mLenK, mList, mTupL, mInt, mAbs, mMax, mMin, mStr, mAddS, mIsN, mNotN, rIxS, rIxL, rSetL, rAppend, rExtendT, rPopAt, rCat, rIn, tBM, tBM0, tChain, tNever, scal, L2.start, cxK, iRng1, iRng2, tDNewK, tDGet, tDGet2, sDPut, tDIn, tDNotIn, DGet_dk, DPut_dk, IsD_dk, tyV_list, isLst_lst, isDk_dk, dkOf_dk, atI_0, atI_1, atI_2, atI_3, ixN_30, ixN_31, ixN_32, List.map, List.replicate, List.length_cons, List.length_nil, List.nil_append, List.cons_append, List.append_nil, Nat.reduceSub, Nat.reduceAdd, List.getElem?_cons_zero, List.getElem?_cons_succ, List.set_cons_zero, List.set_cons_succ, List.cons.injEq, Option.some.injEq, V.int.injEq, V.str.injEq, V.bl.injEq, V.ref.injEq, HO.ins.injEq, HO.lst.injEq, HO.tup.injEq, HO.dK.injEq, exists_eq_left, exists_eq_left', exists_eq_right, exists_eq_right', exists_and_left, exists_and_right, true_and, and_true, and_self, if_true, if_false, Bool.false_eq_true, Bool.true_eq_false, eq_self, reduceCtorEq, false_and, and_false, upd_same, upd_upd, and_assoc, Int.reduceToNat, Int.reducePow, Int.reduceMul, Int.reduceAdd, Int.reduceNeg, mIsi, mIsi2, kdV_non, kdV_bl, kdV_int, kdV_str, kdV_ref, kdO_lst, kdO_tup, kdO_dK, V.ty.injEq, mAll, mAny, kit_NoneType_bool, kit_NoneType_int, kit_NoneType_str, kit_NoneType_list, kit_NoneType_tuple, kit_NoneType_dict, kit_bool_bool, kit_bool_int, kit_bool_str, kit_bool_list, kit_bool_tuple, kit_bool_dict, kit_int_bool, kit_int_int, kit_int_str, kit_int_list, kit_int_tuple, kit_int_dict, kit_str_bool, kit_str_int, kit_str_str, kit_str_list, kit_str_tuple, kit_str_dict, kit_list_bool, kit_list_int, kit_list_str, kit_list_list, kit_list_tuple, kit_list_dict, kit_tuple_bool, kit_tuple_int, kit_tuple_str, kit_tuple_list, kit_tuple_tuple, kit_tuple_dict, kit_dict_bool, kit_dict_int, kit_dict_str, kit_dict_list, kit_dict_tuple, kit_dict_dict, String.reduceEq, String.reduceNe, ne_eq, not_false_eq_true, not_true_eq_false, decide_false, decide_true, Bool.not_false, Bool.not_true, Bool.or_false, Bool.false_or, Bool.or_true, Bool.true_or, gTupH, wipe, tYes, exists_eq', exists_eq, exists_const, tFor_eq, tLc_eq, ha, T.c_Line, T.f_Line_state, lf_state]
  exact k
def sp_Line_owed (K : PySem.W.Frag) : Sp := fun vs H Q _ => ∃ (a l : Addr) (m : Str) (q : List Str) (g : Str), vs = [.ref a] ∧ LineAt K H a l m q g ∧ Q (.int (q.length : Int)) H
theorem R_Line_owed {P : Program} {w : World} {K : PySem.W.Frag} {mg : Str → Option Value} {base : Heap} (T : Tx K mg) : FnR P w K mg base CX0 1 (My.prpG "Line" "owed" K) (sp_Line_owed K) := by
  obtain ⟨fd, F⟩ := T.d_Line_owed
  refine My.FunD.R F sc_Line_owed (fun vs H Q E h => by obtain ⟨a, l, m, q, g, rfl, ⟨⟨dx, ha⟩, hl, hn, hz⟩, k⟩ := h; rfl) (fun _ _ _ _ _ _ us hl => match us, hl with | [_], _ => rfl) (fun cdv A outer s H vs Q E hr h => ?_)
  obtain ⟨a, l, m, q, g, rfl, ⟨⟨dx, ha⟩, hl, hn, hz⟩, k⟩ := h
  refine ⟨_, (pss_one (ps_ret (pe_callB lenL (by rfl) T.n_len (by decide +kernel) (pa_cons (pe_fld (pv 0) rfl) pa_nil)))), ?_⟩
  simp only [tSeq, tAsg, tRet, tRetN, tIfS, tDrop, tNext, tBreak, tCont, tVar, tC, tOp, tUn, tB, tTest, tAnd, tOr, tNot, tAndV, tOrV, tNotV, tIf, tNil, tCons, tTup, tLst, tCB, tCallR, tMethR, tPropR, StX.tMakeR, tFld, sFld, sFldAug, tPar, tPar3, gName, gNil, gCons, gTup, gSub, rI, rI0, rU, rEq, rNe, mIxL, mIxT, mLenL, mLenT, mLenS, mLenD, mLenK, mList, mTupL, mInt, mAbs, mMax, mMin, mStr, mAddS, mIsN, mNotN, rIxS, rIxL, rSetL, rAppend, rExtendT, rPopAt, rCat, rIn, tBM, tBM0, tChain, tNever, scal, L2.start, cxK, iRng1, iRng2, tDNewK, tDGet, tDGet2, sDPut, tDIn, tDNotIn, DGet_dk, DPut_dk, IsD_dk, tyV_list, isLst_lst, isDk_dk, dkOf_dk, atI_0, atI_1, atI_2, atI_3, ixN_30, ixN_31, ixN_32, List.map, List.replicate, List.length_cons, List.length_nil, List.nil_append, List.cons_append, List.append_nil, Nat.reduceSub, Nat.reduceAdd, List.getElem?_cons_zero, List.getElem?_cons_succ, List.set_cons_zero, List.set_cons_succ, List.cons.injEq, Option.some.injEq, V.int.injEq, V.str.injEq, V.bl.injEq, V.ref.injEq, HO.ins.injEq, HO.lst.injEq, HO.tup.injEq, HO.dK.injEq, exists_eq_left, exists_eq_left', exists_eq_right, exists_eq_right', exists_and_left, exists_and_right, true_and, and_true, and_self, if_true, if_false, Bool.false_eq_true, Bool.true_eq_false, eq_self, reduceCtorEq, false_and, and_false, upd_same, upd_upd, and_assoc, Int.reduceToNat, Int.reducePow, Int.reduceMul, Int.reduceAdd, Int.reduceNeg, mIsi, mIsi2, kdV_non, kdV_bl, kdV_int, kdV_str, kdV_ref, kdO_lst, kdO_tup, kdO_dK, V.ty.injEq, mAll, mAny, kit_NoneType_bool, kit_NoneType_int, kit_NoneType_str, kit_NoneType_list, kit_NoneType_tuple, kit_NoneType_dict, kit_bool_bool, kit_bool_int, kit_bool_str, kit_bool_list, kit_bool_tuple, kit_bool_dict, kit_int_bool, kit_int_int, kit_int_str, kit_int_list, kit_int_tuple, kit_int_dict, kit_str_bool, kit_str_int, kit_str_str, kit_str_list, kit_str_tuple, kit_str_dict, kit_list_bool, kit_list_int, kit_list_str, kit_list_list, kit_list_tuple, kit_list_dict, kit_tuple_bool, kit_tuple_int, kit_tuple_str, kit_tuple_list, kit_tuple_tuple, kit_tuple_dict, kit_dict_bool, kit_dict_int, kit_dict_str, kit_dict_list, kit_dict_tuple, kit_dict_dict, String.reduceEq, String.reduceNe, ne_eq, not_false_eq_true, not_true_eq_false, decide_false, decide_true, Bool.not_false, Bool.not_true, Bool.or_false, Bool.false_or, Bool.or_true, Bool.true_or, gTupH, wipe, tYes, exists_eq', exists_eq, exists_const, tFor_eq, tLc_eq, ha, hl, T.c_Line, T.f_Line_queue, lf_queue, List.length_map]
  exact k
def sp_Line_is_clean (K : PySem.W.Frag) : Sp := fun vs H Q _ => ∃ (a l : Addr) (m : Str) (q : List Str) (g : Str), vs = [.ref a] ∧ LineAt K H a l m q g ∧ Q (.bl (decide (m = "whole") && decide (q = []))) H
theorem R_Line_is_clean {P : Program} {w : World} {K : PySem.W.Frag} {mg : Str → Option Value} {base : Heap} (T : Tx K mg) : FnR P w K mg base CX0 1 (My.prpG "Line" "is_clean" K) (sp_Line_is_clean K) := by
  obtain ⟨fd, F⟩ := T.d_Line_is_clean
  refine My.FunD.R F sc_Line_is_clean (fun vs H Q E h => by obtain ⟨a, l, m, q, g, rfl, ⟨⟨dx, ha⟩, hl, hn, hz⟩, k⟩ := h; rfl) (fun _ _ _ _ _ _ us hl => match us, hl with | [_], _ => rfl) (fun cdv A outer s H vs Q E hr h => ?_)
  obtain ⟨a, l, m, q, g, rfl, ⟨⟨dx, ha⟩, hl, hn, hz⟩, k⟩ := h
  refine ⟨_, (pss_one (ps_ret (pe_and (pe_cmpR op_eq (pe_fld (pv 0) rfl) pe_str (nomark _)) (pe_one (pe_cmpR op_eq (pe_callB lenL (by rfl) T.n_len (by decide +kernel) (pa_cons (pe_fld (pv 0) rfl) pa_nil)) pe_int (nomark _)))))), ?_⟩
  simp only [tSeq, tAsg, tRet, tRetN, tIfS, tDrop, tNext, tBreak, tCont, tVar, tC, tOp, tUn, tB, tTest, tAnd, tOr, tNot, tAndV, tOrV, tNotV, tIf, tNil, tCons, tTup, tLst, tCB, tCallR, tMethR, tPropR, StX.tMakeR, tFld, sFld, sFldAug, tPar, tPar3, gName, gNil, gCons, gTup, gSub, rI, rI0, rU, rEq, rNe, mIxL, mIxT, mLenL, mLenT, mLenS, mLenD, mLenK, mList, mTupL, mInt, mAbs, mMax, mMin, mStr, mAddS, mIsN, mNotN, rIxS, rIxL, rSetL, rAppend, rExtendT, rPopAt, rCat, rIn, tBM, tBM0, tChain, tNever, scal, L2.start, cxK, iRng1, iRng2, tDNewK, tDGet, tDGet2, sDPut, tDIn, tDNotIn, DGet_dk, DPut_dk, IsD_dk, tyV_list, isLst_lst, isDk_dk, dkOf_dk, atI_0, atI_1, atI_2, atI_3, ixN_30, ixN_31, ixN_32, List.map, List.replicate, List.length_cons, List.length_nil, List.nil_append, List.cons_append, List.append_nil, Nat.reduceSub, Nat.reduceAdd, List.getElem?_cons_zero, List.getElem?_cons_succ, List.set_cons_zero, List.set_cons_succ, List.cons.injEq, Option.some.injEq, V.int.injEq, V.str.injEq, V.bl.injEq, V.ref.injEq, HO.ins.injEq, HO.lst.injEq, HO.tup.injEq, HO.dK.injEq, exists_eq_left, exists_eq_left', exists_eq_right, exists_eq_right', exists_and_left, exists_and_right, true_and, and_true, and_self, if_true, if_false, Bool.false_eq_true, Bool.true_eq_false, eq_self, reduceCtorEq, false_and, and_false, upd_same, upd_upd, and_assoc, Int.reduceToNat, Int.reducePow, Int.reduceMul, Int.reduceAdd, Int.reduceNeg, mIsi, mIsi2, kdV_non, kdV_bl, kdV_int, kdV_str, kdV_ref, kdO_lst, kdO_tup, kdO_dK, V.ty.injEq, mAll, mAny, kit_NoneType_bool, kit_NoneType_int, kit_NoneType_str, kit_NoneType_list, kit_NoneType_tuple, kit_NoneType_dict, kit_bool_bool, kit_bool_int, kit_bool_str, kit_bool_list, kit_bool_tuple, kit_bool_dict, kit_int_bool, kit_int_int, kit_int_str, kit_int_list, kit_int_tuple, kit_int_dict, kit_str_bool, kit_str_int, kit_str_str, kit_str_list, kit_str_tuple, kit_str_dict, kit_list_bool, kit_list_int, kit_list_str, kit_list_list, kit_list_tuple, kit_list_dict, kit_tuple_bool, kit_tuple_int, kit_tuple_str, kit_tuple_list, kit_tuple_tuple, kit_tuple_dict, kit_dict_bool, kit_dict_int, kit_dict_str, kit_dict_list, kit_dict_tuple, kit_dict_dict, String.reduceEq, String.reduceNe, ne_eq, not_false_eq_true, not_true_eq_false, decide_false, decide_true, Bool.not_false, Bool.not_true, Bool.or_false, Bool.false_or, Bool.or_true, Bool.true_or, gTupH, wipe, tYes, exists_eq', exists_eq, exists_const, tFor_eq, tLc_eq, ha, hl, T.c_Line, T.f_Line_queue, T.f_Line_state, lf_queue, lf_state, List.length_map]
  have e : decide ((q.length : Int) = 0) = decide (q = []) := by cases q <;> simp; omega
  rw [e]
  by_cases h : m = "whole"
  · simpa [h] using k
  · simpa [h] using k
/-- the row meets no fault -/
def sp_Line_need (K : PySem.W.Frag) : Sp := fun vs H Q _ => ∃ (a l : Addr) (m : Str) (q : List Str) (g : Str) (w : Str) (n : Int), vs = [.ref a, .str w, .int n] ∧ LineAt K H a l m q g ∧ inV (.str w) LW = true ∧ rowFault w m n = .non ∧ Q .non H
theorem R_Line_need {P : Program} {w : World} {K : PySem.W.Frag} {mg : Str → Option Value} {base : Heap} (T : Tx K mg) : FnR P w K mg base CX0 7 (He.ma K (He.ga K "Line") "need") (sp_Line_need K) := by
  obtain ⟨fd, F⟩ := T.d_Line_need
  refine My.FunD.R F sc_Line_need (fun vs H Q E h => by obtain ⟨a, l, m, q, g, w', n, rfl, ⟨⟨dx, ha⟩, hl, hn, hz⟩, hw, hf, k⟩ := h; rfl) (fun _ _ _ _ _ _ us hl => match us, hl with | [_, _, _], _ => rfl) (fun cdv A outer s H vs Q E hr h => ?_)
  obtain ⟨a, l, m, q, g, w', n, rfl, ⟨⟨dx, ha⟩, hl, hn, hz⟩, hw, hf, k⟩ := h
  refine ⟨_, (pss_cons (ps_set (i := 3) sc_Line_need.nd rfl (by first | exact Or.inl rfl | exact Or.inr rfl) (pe_callR (R_row_fault T) (hr.mono (by decide)) rfl T.g_row_fault T.k_row_fault pass0 (pa_cons (pv 1) (pa_cons (pe_fld (pv 0) rfl) (pa_cons (pv 2) pa_nil)))))
      (pss_cons (ps_if (pt_cmpR op_eq (pv 3) pe_str (nomark _)) (pss_one ps_never) pss_nil)
      (pss_cons (ps_if (pt_cmpR op_eq (pv 3) pe_str (nomark _)) (pss_one ps_never) pss_nil)
      (pss_one (ps_if (pt_cmpR op_eq (pv 3) pe_str (nomark _)) (pss_one ps_never) pss_nil))))), ?_⟩
  simp only [tSeq, tAsg, tRet, tRetN, tIfS, tDrop, tNext, tBreak, tCont, tVar, tC, tOp, tUn, tB, tTest, tAnd, tOr, tNot, tAndV, tOrV, tNotV, tIf, tNil, tCons, tTup, tLst, tCB, tCallR, tMethR, tPropR, StX.tMakeR, tFld, sFld, sFldAug, tPar, tPar3, gName, gNil, gCons, gTup, gSub, rI, rI0, rU, rEq, rNe, mIxL, mIxT, mLenL, mLenT, mLenS, mLenD, mLenK, mList, mTupL, mInt, mAbs, mMax, mMin, mStr, mAddS, mIsN, mNotN, rIxS, rIxL, rSetL, rAppend, rExtendT, rPopAt, rCat, rIn, tBM, tBM0, tChain, tNever, scal, L2.start, cxK, iRng1, iRng2, tDNewK, tDGet, tDGet2, sDPut, tDIn, tDNotIn, DGet_dk, DPut_dk, IsD_dk, tyV_list, isLst_lst, isDk_dk, dkOf_dk, atI_0, atI_1, atI_2, atI_3, ixN_30, ixN_31, ixN_32, List.map, List.replicate, List.length_cons, List.length_nil, List.nil_append, List.cons_append, List.append_nil, Nat.reduceSub, Nat.reduceAdd, List.getElem?_cons_zero, List.getElem?_cons_succ, List.set_cons_zero, List.set_cons_succ, List.cons.injEq, Option.some.injEq, V.int.injEq, V.str.injEq, V.bl.injEq, V.ref.injEq, HO.ins.injEq, HO.lst.injEq, HO.tup.injEq, HO.dK.injEq, exists_eq_left, exists_eq_left', exists_eq_right, exists_eq_right', exists_and_left, exists_and_right, true_and, and_true, and_self, if_true, if_false, Bool.false_eq_true, Bool.true_eq_false, eq_self, reduceCtorEq, false_and, and_false, upd_same, upd_upd, and_assoc, Int.reduceToNat, Int.reducePow, Int.reduceMul, Int.reduceAdd, Int.reduceNeg, mIsi, mIsi2, kdV_non, kdV_bl, kdV_int, kdV_str, kdV_ref, kdO_lst, kdO_tup, kdO_dK, V.ty.injEq, mAll, mAny, kit_NoneType_bool, kit_NoneType_int, kit_NoneType_str, kit_NoneType_list, kit_NoneType_tuple, kit_NoneType_dict, kit_bool_bool, kit_bool_int, kit_bool_str, kit_bool_list, kit_bool_tuple, kit_bool_dict, kit_int_bool, kit_int_int, kit_int_str, kit_int_list, kit_int_tuple, kit_int_dict, kit_str_bool, kit_str_int, kit_str_str, kit_str_list, kit_str_tuple, kit_str_dict, kit_list_bool, kit_list_int, kit_list_str, kit_list_list, kit_list_tuple, kit_list_dict, kit_tuple_bool, kit_tuple_int, kit_tuple_str, kit_tuple_list, kit_tuple_tuple, kit_tuple_dict, kit_dict_bool, kit_dict_int, kit_dict_str, kit_dict_list, kit_dict_tuple, kit_dict_dict, String.reduceEq, String.reduceNe, ne_eq, not_false_eq_true, not_true_eq_false, decide_false, decide_true, Bool.not_false, Bool.not_true, Bool.or_false, Bool.false_or, Bool.or_true, Bool.true_or, gTupH, wipe, tYes, exists_eq', exists_eq, exists_const, tFor_eq, tLc_eq, ha, T.c_Line, T.f_Line_state, lf_state, sp_row_fault, hw, hf]
  simpa using k
end K30

set_option Elab.async false
set_option linter.all false
set_option maxRecDepth 100000
set_option maxHeartbeats 4000000
namespace K30
open PySem PySem.Spec PyProof.Rows L2 My
theorem LineAt.put {K : PySem.W.Frag} {H : Hp} {a l : Addr} {m' : Str} {q : List Str} {g' : Str} {dx : Addr} (hl : H l = some (.lst (q.map V.str))) (hn : a ≠ l) (hz : q.length ≤ 1000) :
    LineAt K (upd H a (.ins (He.ga K "Line") dx (lf (.int 0) .non (.str m') (.ref l) (.str g') (.bl false)))) a l m' q g' :=
  ⟨⟨dx, upd_same⟩, by rw [upd_ne hn.symm]; exact hl, hn, hz⟩
/-- all but what stands at a and l is kept -/
def Kp2 (a l : Addr) (H H' : Hp) : Prop := ∀ b o, b ≠ a → b ≠ l → H b = some o → H' b = some o
def sp_Line_begin (K : PySem.W.Frag) : Sp := fun vs H Q _ => ∃ (a l : Addr) (m : Str) (q : List Str) (g : Str) (t : Str), vs = [.ref a, .str t] ∧ LineAt K H a l m q g ∧ rowFault "begin" m 0 = .non ∧ ∀ H', LineAt K H' a l (markAfter "begin" m) q t → Kp2 a l H H' → Q .non H'
theorem R_Line_begin {P : Program} {w : World} {K : PySem.W.Frag} {mg : Str → Option Value} {base : Heap} (T : Tx K mg) : FnR P w K mg base CX0 9 (He.ma K (He.ga K "Line") "begin") (sp_Line_begin K) := by
  obtain ⟨fd, F⟩ := T.d_Line_begin
  refine My.FunD.R F sc_Line_begin (fun vs H Q E h => by obtain ⟨a, l, m, q, g, t, rfl, hL, hf, k⟩ := h; rfl) (fun _ _ _ _ _ _ us hl => match us, hl with | [_, _], _ => rfl) (fun cdv A outer s H vs Q E hr h => ?_)
  obtain ⟨a, l, m, q, g, t, rfl, hL, hf, k⟩ := h
  refine ⟨_, (pss_cons (ps_expr (pe_methR (pv 0) T.c_Line T.m_Line_need (R_Line_need T) (hr.mono (by decide)) pass0 (pa_cons pe_str (pa_cons pe_int pa_nil))))
      (pss_cons (ps_fld (pv 0) (pe_callR (R_mark_after T) (hr.mono (by decide)) rfl T.g_mark_after T.k_mark_after pass0 (pa_cons pe_str (pa_cons (pe_fld (pv 0) rfl) pa_nil))) rfl)
      (pss_one (ps_fld (pv 0) (pv 1) rfl)))), ?_⟩
  obtain ⟨dx, ha⟩ := hL.ob
  simp only [tSeq, tAsg, tRet, tRetN, tIfS, tDrop, tNext, tBreak, tCont, tVar, tC, tOp, tUn, tB, tTest, tAnd, tOr, tNot, tAndV, tOrV, tNotV, tIf, tNil, tCons, tTup, tLst, tCB, tCallR, tMethR, tPropR, StX.tMakeR, tFld, sFld, sFldAug, tPar, tPar3, gName, gNil, gCons, gTup, gSub, rI, rI0, rU, rEq, rNe, mIxL, mIxT, mLenL, mLenT, mLenS, mLenD, mLenK, mList, mTupL, mInt, mAbs, mMax, mMin, mStr, mAddS, mIsN, mNotN, rIxS, rIxL, rSetL, rAppend, rExtendT, rPopAt, rCat, rIn, tBM, tBM0, tChain, tNever, scal, L2.start, cxK, iRng1, iRng2, tDNewK, tDGet, tDGet2, sDPut, tDIn, tDNotIn, DGet_dk, DPut_dk, IsD_dk, tyV_list, isLst_lst, isDk_dk, dkOf_dk, atI_0, atI_1, atI_2, atI_3, ixN_30, ixN_31, ixN_32, List.map, List.replicate, List.length_cons, List.length_nil, List.nil_append, List.cons_append, List.append_nil, Nat.reduceSub, Nat.reduceAdd, List.getElem?_cons_zero, List.getElem?_cons_succ, List.set_cons_zero, List.set_cons_succ, List.cons.injEq, Option.some.injEq, V.int.injEq, V.str.injEq, V.bl.injEq, V.ref.injEq, HO.ins.injEq, HO.lst.injEq, HO.tup.injEq, HO.dK.injEq, exists_eq_left, exists_eq_left', exists_eq_right, exists_eq_right', exists_and_left, exists_and_right, true_and, and_true, and_self, if_true, if_false, Bool.false_eq_true, Bool.true_eq_false, eq_self, reduceCtorEq, false_and, and_false, upd_same, upd_upd, and_assoc, Int.reduceToNat, Int.reducePow, Int.reduceMul, Int.reduceAdd, Int.reduceNeg, mIsi, mIsi2, kdV_non, kdV_bl, kdV_int, kdV_str, kdV_ref, kdO_lst, kdO_tup, kdO_dK, V.ty.injEq, mAll, mAny, kit_NoneType_bool, kit_NoneType_int, kit_NoneType_str, kit_NoneType_list, kit_NoneType_tuple, kit_NoneType_dict, kit_bool_bool, kit_bool_int, kit_bool_str, kit_bool_list, kit_bool_tuple, kit_bool_dict, kit_int_bool, kit_int_int, kit_int_str, kit_int_list, kit_int_tuple, kit_int_dict, kit_str_bool, kit_str_int, kit_str_str, kit_str_list, kit_str_tuple, kit_str_dict, kit_list_bool, kit_list_int, kit_list_str, kit_list_list, kit_list_tuple, kit_list_dict, kit_tuple_bool, kit_tuple_int, kit_tuple_str, kit_tuple_list, kit_tuple_tuple, kit_tuple_dict, kit_dict_bool, kit_dict_int, kit_dict_str, kit_dict_list, kit_dict_tuple, kit_dict_dict, String.reduceEq, String.reduceNe, ne_eq, not_false_eq_true, not_true_eq_false, decide_false, decide_true, Bool.not_false, Bool.not_true, Bool.or_false, Bool.false_or, Bool.or_true, Bool.true_or, gTupH, wipe, tYes, exists_eq', exists_eq, exists_const, tFor_eq, tLc_eq, ha, T.c_Line, T.f_Line_state, T.f_Line_sending, lf_state, lp_state, lp_sending, ln_need, sp_Line_need, sp_mark_after, lf_len, six]
  refine ⟨l, m, ⟨q, g, hL⟩, rfl, hf, k _ (LineAt.put hL.qu hL.ne hL.sz) fun b o n1 n2 h => ?_⟩
  rw [upd_ne n1]; exact h
def sp_Line_finish (K : PySem.W.Frag) : Sp := fun vs H Q _ => ∃ (a l : Addr) (m : Str) (q : List Str) (g : Str), vs = [.ref a] ∧ LineAt K H a l m q g ∧ rowFault "finish" m 0 = .non ∧ q.length < 1000 ∧ ∀ H', LineAt K H' a l (markAfter "finish" m) (q ++ [g]) g → Kp2 a l H H' → Q .non H'
theorem R_Line_finish {P : Program} {w : World} {K : PySem.W.Frag} {mg : Str → Option Value} {base : Heap} (T : Tx K mg) : FnR P w K mg base CX0 9 (He.ma K (He.ga K "Line") "finish") (sp_Line_finish K) := by
  obtain ⟨fd, F⟩ := T.d_Line_finish
  refine My.FunD.R F sc_Line_finish (fun vs H Q E h => by obtain ⟨a, l, m, q, g, rfl, hL, hf, hz, k⟩ := h; rfl) (fun _ _ _ _ _ _ us hl => match us, hl with | [_], _ => rfl) (fun cdv A outer s H vs Q E hr h => ?_)
  obtain ⟨a, l, m, q, g, rfl, hL, hf, hz, k⟩ := h
  refine ⟨_, (pss_cons (ps_expr (pe_methR (pv 0) T.c_Line T.m_Line_need (R_Line_need T) (hr.mono (by decide)) pass0 (pa_cons pe_str (pa_cons pe_int pa_nil))))
      (pss_cons (ps_fld (pv 0) (pe_callR (R_mark_after T) (hr.mono (by decide)) rfl T.g_mark_after T.k_mark_after pass0 (pa_cons pe_str (pa_cons (pe_fld (pv 0) rfl) pa_nil))) rfl)
      (pss_one (ps_expr (pe_bm PySem.F.plainAttrs_list PySem.F.slot_list_append PySem.F.type_list_append mt_append (pe_fld (pv 0) rfl) (pa_cons (pe_fld (pv 0) rfl) pa_nil)))))), ?_⟩
  obtain ⟨dx, ha⟩ := hL.ob
  have n1 := hL.ne
  have n2 := hL.ne.symm
  have hl := hL.qu
  simp only [tSeq, tAsg, tRet, tRetN, tIfS, tDrop, tNext, tBreak, tCont, tVar, tC, tOp, tUn, tB, tTest, tAnd, tOr, tNot, tAndV, tOrV, tNotV, tIf, tNil, tCons, tTup, tLst, tCB, tCallR, tMethR, tPropR, StX.tMakeR, tFld, sFld, sFldAug, tPar, tPar3, gName, gNil, gCons, gTup, gSub, rI, rI0, rU, rEq, rNe, mIxL, mIxT, mLenL, mLenT, mLenS, mLenD, mLenK, mList, mTupL, mInt, mAbs, mMax, mMin, mStr, mAddS, mIsN, mNotN, rIxS, rIxL, rSetL, rAppend, rExtendT, rPopAt, rCat, rIn, tBM, tBM0, tChain, tNever, scal, L2.start, cxK, iRng1, iRng2, tDNewK, tDGet, tDGet2, sDPut, tDIn, tDNotIn, DGet_dk, DPut_dk, IsD_dk, tyV_list, isLst_lst, isDk_dk, dkOf_dk, atI_0, atI_1, atI_2, atI_3, ixN_30, ixN_31, ixN_32, List.map, List.replicate, List.length_cons, List.length_nil, List.nil_append, List.cons_append, List.append_nil, Nat.reduceSub, Nat.reduceAdd, List.getElem?_cons_zero, List.getElem?_cons_succ, List.set_cons_zero, List.set_cons_succ, List.cons.injEq, Option.some.injEq, V.int.injEq, V.str.injEq, V.bl.injEq, V.ref.injEq, HO.ins.injEq, HO.lst.injEq, HO.tup.injEq, HO.dK.injEq, exists_eq_left, exists_eq_left', exists_eq_right, exists_eq_right', exists_and_left, exists_and_right, true_and, and_true, and_self, if_true, if_false, Bool.false_eq_true, Bool.true_eq_false, eq_self, reduceCtorEq, false_and, and_false, upd_same, upd_upd, and_assoc, Int.reduceToNat, Int.reducePow, Int.reduceMul, Int.reduceAdd, Int.reduceNeg, mIsi, mIsi2, kdV_non, kdV_bl, kdV_int, kdV_str, kdV_ref, kdO_lst, kdO_tup, kdO_dK, V.ty.injEq, mAll, mAny, kit_NoneType_bool, kit_NoneType_int, kit_NoneType_str, kit_NoneType_list, kit_NoneType_tuple, kit_NoneType_dict, kit_bool_bool, kit_bool_int, kit_bool_str, kit_bool_list, kit_bool_tuple, kit_bool_dict, kit_int_bool, kit_int_int, kit_int_str, kit_int_list, kit_int_tuple, kit_int_dict, kit_str_bool, kit_str_int, kit_str_str, kit_str_list, kit_str_tuple, kit_str_dict, kit_list_bool, kit_list_int, kit_list_str, kit_list_list, kit_list_tuple, kit_list_dict, kit_tuple_bool, kit_tuple_int, kit_tuple_str, kit_tuple_list, kit_tuple_tuple, kit_tuple_dict, kit_dict_bool, kit_dict_int, kit_dict_str, kit_dict_list, kit_dict_tuple, kit_dict_dict, String.reduceEq, String.reduceNe, ne_eq, not_false_eq_true, not_true_eq_false, decide_false, decide_true, Bool.not_false, Bool.not_true, Bool.or_false, Bool.false_or, Bool.or_true, Bool.true_or, gTupH, wipe, tYes, exists_eq', exists_eq, exists_const, tFor_eq, tLc_eq, ha, hl, upd_ne n1, upd_ne n2, T.c_Line, T.f_Line_state, T.f_Line_sending, T.f_Line_queue, lf_state, lf_sending, lf_queue, lp_state, lp_sending, ln_need, sp_Line_need, sp_mark_after, lf_len, six, List.length_map]
  refine ⟨l, m, ⟨q, g, hL⟩, rfl, hf, Nat.lt_trans hz (by decide), k _ ⟨⟨dx, ?_⟩, ?_, n1, ?_⟩ fun b o z1 z2 h => ?_⟩
  · rw [upd_ne n1, upd_same]
  · rw [upd_same, List.map_append]; rfl
  · simp; omega
  · rw [upd_ne z2, upd_ne z1]; exact h
def sp_Line_read (K : PySem.W.Frag) : Sp := fun vs H Q _ => ∃ (a l : Addr) (m : Str) (q : List Str) (g t : Str), vs = [.ref a] ∧ LineAt K H a l m (t :: q) g ∧ rowFault "read" m 1 = .non ∧ ∀ H', LineAt K H' a l m q g → Kp2 a l H H' → Q (.str t) H'
theorem rf_one {w m : Str} {n : Nat} (h : rowFault w m 1 = .non) : rowFault w m ((n + 1 : Nat) : Int) = .non := by
  unfold rowFault at h ⊢
  have : ¬ (((n + 1 : Nat) : Int) < 1) := by omega
  have h1 : ¬ ((1 : Int) < 1) := by omega
  simp only [this, h1, and_false, if_false] at h ⊢
  exact h
theorem erase0 (t : V) (q : List V) : (t :: q).eraseIdx 0 = q := rfl
theorem sq0 (n : Nat) : seqIndex? 0 (n + 1) = some 0 := by
  unfold seqIndex?
  simp
theorem R_Line_read {P : Program} {w : World} {K : PySem.W.Frag} {mg : Str → Option Value} {base : Heap} (T : Tx K mg) : FnR P w K mg base CX0 9 (He.ma K (He.ga K "Line") "read") (sp_Line_read K) := by
  obtain ⟨fd, F⟩ := T.d_Line_read
  refine My.FunD.R F sc_Line_read (fun vs H Q E h => by obtain ⟨a, l, m, q, g, t, rfl, hL, hf, k⟩ := h; rfl) (fun _ _ _ _ _ _ us hl => match us, hl with | [_], _ => rfl) (fun cdv A outer s H vs Q E hr h => ?_)
  obtain ⟨a, l, m, q, g, t, rfl, hL, hf, k⟩ := h
  refine ⟨_, (pss_cons (ps_expr (pe_methR (pv 0) T.c_Line T.m_Line_need (R_Line_need T) (hr.mono (by decide)) pass0 (pa_cons pe_str (pa_cons (pe_callB lenL (by rfl) T.n_len (by decide +kernel) (pa_cons (pe_fld (pv 0) rfl) pa_nil)) pa_nil))))
      (pss_one (ps_ret (pe_bm PySem.F.plainAttrs_list PySem.F.slot_list_pop PySem.F.type_list_pop mt_popAt (pe_fld (pv 0) rfl) (pa_cons pe_int pa_nil))))), ?_⟩
  obtain ⟨dx, ha⟩ := hL.ob
  have n1 := hL.ne
  have n2 := hL.ne.symm
  have hl := hL.qu
  simp only [tSeq, tAsg, tRet, tRetN, tIfS, tDrop, tNext, tBreak, tCont, tVar, tC, tOp, tUn, tB, tTest, tAnd, tOr, tNot, tAndV, tOrV, tNotV, tIf, tNil, tCons, tTup, tLst, tCB, tCallR, tMethR, tPropR, StX.tMakeR, tFld, sFld, sFldAug, tPar, tPar3, gName, gNil, gCons, gTup, gSub, rI, rI0, rU, rEq, rNe, mIxL, mIxT, mLenL, mLenT, mLenS, mLenD, mLenK, mList, mTupL, mInt, mAbs, mMax, mMin, mStr, mAddS, mIsN, mNotN, rIxS, rIxL, rSetL, rAppend, rExtendT, rPopAt, rCat, rIn, tBM, tBM0, tChain, tNever, scal, L2.start, cxK, iRng1, iRng2, tDNewK, tDGet, tDGet2, sDPut, tDIn, tDNotIn, DGet_dk, DPut_dk, IsD_dk, tyV_list, isLst_lst, isDk_dk, dkOf_dk, atI_0, atI_1, atI_2, atI_3, ixN_30, ixN_31, ixN_32, List.map, List.replicate, List.length_cons, List.length_nil, List.nil_append, List.cons_append, List.append_nil, Nat.reduceSub, Nat.reduceAdd, List.getElem?_cons_zero, List.getElem?_cons_succ, List.set_cons_zero, List.set_cons_succ, List.cons.injEq, Option.some.injEq, V.int.injEq, V.str.injEq, V.bl.injEq, V.ref.injEq, HO.ins.injEq, HO.lst.injEq, HO.tup.injEq, HO.dK.injEq, exists_eq_left, exists_eq_left', exists_eq_right, exists_eq_right', exists_and_left, exists_and_right, true_and, and_true, and_self, if_true, if_false, Bool.false_eq_true, Bool.true_eq_false, eq_self, reduceCtorEq, false_and, and_false, upd_same, upd_upd, and_assoc, Int.reduceToNat, Int.reducePow, Int.reduceMul, Int.reduceAdd, Int.reduceNeg, mIsi, mIsi2, kdV_non, kdV_bl, kdV_int, kdV_str, kdV_ref, kdO_lst, kdO_tup, kdO_dK, V.ty.injEq, mAll, mAny, kit_NoneType_bool, kit_NoneType_int, kit_NoneType_str, kit_NoneType_list, kit_NoneType_tuple, kit_NoneType_dict, kit_bool_bool, kit_bool_int, kit_bool_str, kit_bool_list, kit_bool_tuple, kit_bool_dict, kit_int_bool, kit_int_int, kit_int_str, kit_int_list, kit_int_tuple, kit_int_dict, kit_str_bool, kit_str_int, kit_str_str, kit_str_list, kit_str_tuple, kit_str_dict, kit_list_bool, kit_list_int, kit_list_str, kit_list_list, kit_list_tuple, kit_list_dict, kit_tuple_bool, kit_tuple_int, kit_tuple_str, kit_tuple_list, kit_tuple_tuple, kit_tuple_dict, kit_dict_bool, kit_dict_int, kit_dict_str, kit_dict_list, kit_dict_tuple, kit_dict_dict, String.reduceEq, String.reduceNe, ne_eq, not_false_eq_true, not_true_eq_false, decide_false, decide_true, Bool.not_false, Bool.not_true, Bool.or_false, Bool.false_or, Bool.or_true, Bool.true_or, gTupH, wipe, tYes, exists_eq', exists_eq, exists_const, tFor_eq, tLc_eq, ha, hl, T.c_Line, T.f_Line_queue, lf_queue, ln_need, sp_Line_need, List.length_map, sq0, erase0]
  refine ⟨l, m, ⟨_, _, hL⟩, rfl, rf_one hf, by decide, by decide, k _ ⟨⟨dx, ?_⟩, ?_, n1, ?_⟩ fun b o z1 z2 h => ?_⟩
  · rw [upd_ne n1]; exact ha
  · rw [upd_same]
  · have := hL.sz; simp at this; omega
  · rw [upd_ne z2]; exact h
def sp_Line_head (K : PySem.W.Frag) : Sp := fun vs H Q _ => ∃ (a l : Addr) (m : Str) (q : List Str) (g t : Str), vs = [.ref a] ∧ LineAt K H a l m (t :: q) g ∧ rowFault "head" m 1 = .non ∧ ∀ H', LineAt K H' a l (markAfter "head" m) (t :: q) g → Kp2 a l H H' → Q (.str t) H'
theorem R_Line_head {P : Program} {w : World} {K : PySem.W.Frag} {mg : Str → Option Value} {base : Heap} (T : Tx K mg) : FnR P w K mg base CX0 9 (He.ma K (He.ga K "Line") "head") (sp_Line_head K) := by
  obtain ⟨fd, F⟩ := T.d_Line_head
  refine My.FunD.R F sc_Line_head (fun vs H Q E h => by obtain ⟨a, l, m, q, g, t, rfl, hL, hf, k⟩ := h; rfl) (fun _ _ _ _ _ _ us hl => match us, hl with | [_], _ => rfl) (fun cdv A outer s H vs Q E hr h => ?_)
  obtain ⟨a, l, m, q, g, t, rfl, hL, hf, k⟩ := h
  refine ⟨_, (pss_cons (ps_expr (pe_methR (pv 0) T.c_Line T.m_Line_need (R_Line_need T) (hr.mono (by decide)) pass0 (pa_cons pe_str (pa_cons (pe_callB lenL (by rfl) T.n_len (by decide +kernel) (pa_cons (pe_fld (pv 0) rfl) pa_nil)) pa_nil))))
      (pss_cons (ps_fld (pv 0) (pe_callR (R_mark_after T) (hr.mono (by decide)) rfl T.g_mark_after T.k_mark_after pass0 (pa_cons pe_str (pa_cons (pe_fld (pv 0) rfl) pa_nil))) rfl)
      (pss_one (ps_ret (pe_ix ixL (pe_fld (pv 0) rfl) pe_int (fun _ _ => rfl)))))), ?_⟩
  obtain ⟨dx, ha⟩ := hL.ob
  have n1 := hL.ne
  have n2 := hL.ne.symm
  have hl := hL.qu
  simp only [tSeq, tAsg, tRet, tRetN, tIfS, tDrop, tNext, tBreak, tCont, tVar, tC, tOp, tUn, tB, tTest, tAnd, tOr, tNot, tAndV, tOrV, tNotV, tIf, tNil, tCons, tTup, tLst, tCB, tCallR, tMethR, tPropR, StX.tMakeR, tFld, sFld, sFldAug, tPar, tPar3, gName, gNil, gCons, gTup, gSub, rI, rI0, rU, rEq, rNe, mIxL, mIxT, mLenL, mLenT, mLenS, mLenD, mLenK, mList, mTupL, mInt, mAbs, mMax, mMin, mStr, mAddS, mIsN, mNotN, rIxS, rIxL, rSetL, rAppend, rExtendT, rPopAt, rCat, rIn, tBM, tBM0, tChain, tNever, scal, L2.start, cxK, iRng1, iRng2, tDNewK, tDGet, tDGet2, sDPut, tDIn, tDNotIn, DGet_dk, DPut_dk, IsD_dk, tyV_list, isLst_lst, isDk_dk, dkOf_dk, atI_0, atI_1, atI_2, atI_3, ixN_30, ixN_31, ixN_32, List.map, List.replicate, List.length_cons, List.length_nil, List.nil_append, List.cons_append, List.append_nil, Nat.reduceSub, Nat.reduceAdd, List.getElem?_cons_zero, List.getElem?_cons_succ, List.set_cons_zero, List.set_cons_succ, List.cons.injEq, Option.some.injEq, V.int.injEq, V.str.injEq, V.bl.injEq, V.ref.injEq, HO.ins.injEq, HO.lst.injEq, HO.tup.injEq, HO.dK.injEq, exists_eq_left, exists_eq_left', exists_eq_right, exists_eq_right', exists_and_left, exists_and_right, true_and, and_true, and_self, if_true, if_false, Bool.false_eq_true, Bool.true_eq_false, eq_self, reduceCtorEq, false_and, and_false, upd_same, upd_upd, and_assoc, Int.reduceToNat, Int.reducePow, Int.reduceMul, Int.reduceAdd, Int.reduceNeg, mIsi, mIsi2, kdV_non, kdV_bl, kdV_int, kdV_str, kdV_ref, kdO_lst, kdO_tup, kdO_dK, V.ty.injEq, mAll, mAny, kit_NoneType_bool, kit_NoneType_int, kit_NoneType_str, kit_NoneType_list, kit_NoneType_tuple, kit_NoneType_dict, kit_bool_bool, kit_bool_int, kit_bool_str, kit_bool_list, kit_bool_tuple, kit_bool_dict, kit_int_bool, kit_int_int, kit_int_str, kit_int_list, kit_int_tuple, kit_int_dict, kit_str_bool, kit_str_int, kit_str_str, kit_str_list, kit_str_tuple, kit_str_dict, kit_list_bool, kit_list_int, kit_list_str, kit_list_list, kit_list_tuple, kit_list_dict, kit_tuple_bool, kit_tuple_int, kit_tuple_str, kit_tuple_list, kit_tuple_tuple, kit_tuple_dict, kit_dict_bool, kit_dict_int, kit_dict_str, kit_dict_list, kit_dict_tuple, kit_dict_dict, String.reduceEq, String.reduceNe, ne_eq, not_false_eq_true, not_true_eq_false, decide_false, decide_true, Bool.not_false, Bool.not_true, Bool.or_false, Bool.false_or, Bool.or_true, Bool.true_or, gTupH, wipe, tYes, exists_eq', exists_eq, exists_const, tFor_eq, tLc_eq, ha, hl, upd_ne n1, upd_ne n2, T.c_Line, T.f_Line_queue, T.f_Line_state, lf_queue, lf_state, lp_state, ln_need, sp_Line_need, sp_mark_after, lf_len, six, List.length_map, sq0, erase0]
  refine ⟨l, m, ⟨_, _, hL⟩, rfl, rf_one hf, k _ (LineAt.put hl n1 hL.sz) fun b o z1 z2 h => ?_⟩
  rw [upd_ne z1]; exact h
def sp_Line_body (K : PySem.W.Frag) : Sp := fun vs H Q _ => ∃ (a l : Addr) (m : Str) (q : List Str) (g t : Str), vs = [.ref a] ∧ LineAt K H a l m (t :: q) g ∧ rowFault "body" m 1 = .non ∧ ∀ H', LineAt K H' a l (markAfter "body" m) q g → Kp2 a l H H' → Q (.str t) H'
theorem R_Line_body {P : Program} {w : World} {K : PySem.W.Frag} {mg : Str → Option Value} {base : Heap} (T : Tx K mg) : FnR P w K mg base CX0 9 (He.ma K (He.ga K "Line") "body") (sp_Line_body K) := by
  obtain ⟨fd, F⟩ := T.d_Line_body
  refine My.FunD.R F sc_Line_body (fun vs H Q E h => by obtain ⟨a, l, m, q, g, t, rfl, hL, hf, k⟩ := h; rfl) (fun _ _ _ _ _ _ us hl => match us, hl with | [_], _ => rfl) (fun cdv A outer s H vs Q E hr h => ?_)
  obtain ⟨a, l, m, q, g, t, rfl, hL, hf, k⟩ := h
  refine ⟨_, (pss_cons (ps_expr (pe_methR (pv 0) T.c_Line T.m_Line_need (R_Line_need T) (hr.mono (by decide)) pass0 (pa_cons pe_str (pa_cons (pe_callB lenL (by rfl) T.n_len (by decide +kernel) (pa_cons (pe_fld (pv 0) rfl) pa_nil)) pa_nil))))
      (pss_cons (ps_fld (pv 0) (pe_callR (R_mark_after T) (hr.mono (by decide)) rfl T.g_mark_after T.k_mark_after pass0 (pa_cons pe_str (pa_cons (pe_fld (pv 0) rfl) pa_nil))) rfl)
      (pss_one (ps_ret (pe_bm PySem.F.plainAttrs_list PySem.F.slot_list_pop PySem.F.type_list_pop mt_popAt (pe_fld (pv 0) rfl) (pa_cons pe_int pa_nil)))))), ?_⟩
  obtain ⟨dx, ha⟩ := hL.ob
  have n1 := hL.ne
  have n2 := hL.ne.symm
  have hl := hL.qu
  simp only [tSeq, tAsg, tRet, tRetN, tIfS, tDrop, tNext, tBreak, tCont, tVar, tC, tOp, tUn, tB, tTest, tAnd, tOr, tNot, tAndV, tOrV, tNotV, tIf, tNil, tCons, tTup, tLst, tCB, tCallR, tMethR, tPropR, StX.tMakeR, tFld, sFld, sFldAug, tPar, tPar3, gName, gNil, gCons, gTup, gSub, rI, rI0, rU, rEq, rNe, mIxL, mIxT, mLenL, mLenT, mLenS, mLenD, mLenK, mList, mTupL, mInt, mAbs, mMax, mMin, mStr, mAddS, mIsN, mNotN, rIxS, rIxL, rSetL, rAppend, rExtendT, rPopAt, rCat, rIn, tBM, tBM0, tChain, tNever, scal, L2.start, cxK, iRng1, iRng2, tDNewK, tDGet, tDGet2, sDPut, tDIn, tDNotIn, DGet_dk, DPut_dk, IsD_dk, tyV_list, isLst_lst, isDk_dk, dkOf_dk, atI_0, atI_1, atI_2, atI_3, ixN_30, ixN_31, ixN_32, List.map, List.replicate, List.length_cons, List.length_nil, List.nil_append, List.cons_append, List.append_nil, Nat.reduceSub, Nat.reduceAdd, List.getElem?_cons_zero, List.getElem?_cons_succ, List.set_cons_zero, List.set_cons_succ, List.cons.injEq, Option.some.injEq, V.int.injEq, V.str.injEq, V.bl.injEq, V.ref.injEq, HO.ins.injEq, HO.lst.injEq, HO.tup.injEq, HO.dK.injEq, exists_eq_left, exists_eq_left', exists_eq_right, exists_eq_right', exists_and_left, exists_and_right, true_and, and_true, and_self, if_true, if_false, Bool.false_eq_true, Bool.true_eq_false, eq_self, reduceCtorEq, false_and, and_false, upd_same, upd_upd, and_assoc, Int.reduceToNat, Int.reducePow, Int.reduceMul, Int.reduceAdd, Int.reduceNeg, mIsi, mIsi2, kdV_non, kdV_bl, kdV_int, kdV_str, kdV_ref, kdO_lst, kdO_tup, kdO_dK, V.ty.injEq, mAll, mAny, kit_NoneType_bool, kit_NoneType_int, kit_NoneType_str, kit_NoneType_list, kit_NoneType_tuple, kit_NoneType_dict, kit_bool_bool, kit_bool_int, kit_bool_str, kit_bool_list, kit_bool_tuple, kit_bool_dict, kit_int_bool, kit_int_int, kit_int_str, kit_int_list, kit_int_tuple, kit_int_dict, kit_str_bool, kit_str_int, kit_str_str, kit_str_list, kit_str_tuple, kit_str_dict, kit_list_bool, kit_list_int, kit_list_str, kit_list_list, kit_list_tuple, kit_list_dict, kit_tuple_bool, kit_tuple_int, kit_tuple_str, kit_tuple_list, kit_tuple_tuple, kit_tuple_dict, kit_dict_bool, kit_dict_int, kit_dict_str, kit_dict_list, kit_dict_tuple, kit_dict_dict, String.reduceEq, String.reduceNe, ne_eq, not_false_eq_true, not_true_eq_false, decide_false, decide_true, Bool.not_false, Bool.not_true, Bool.or_false, Bool.false_or, Bool.or_true, Bool.true_or, gTupH, wipe, tYes, exists_eq', exists_eq, exists_const, tFor_eq, tLc_eq, ha, hl, upd_ne n1, upd_ne n2, T.c_Line, T.f_Line_queue, T.f_Line_state, lf_queue, lf_state, lp_state, ln_need, sp_Line_need, sp_mark_after, lf_len, six, List.length_map, sq0, erase0]
  refine ⟨l, m, ⟨_, _, hL⟩, rfl, rf_one hf, by decide, by decide, k _ ⟨⟨dx, ?_⟩, ?_, n1, ?_⟩ fun b o z1 z2 h => ?_⟩
  · rw [upd_ne n1, upd_same]
  · rw [upd_same]
  · have := hL.sz; simp at this; omega
  · rw [upd_ne z2, upd_ne z1]; exact h
end K30

set_option Elab.async false
set_option linter.all false
set_option maxRecDepth 100000
set_option maxHeartbeats 4000000
namespace K30
open PySem PySem.Spec PyProof.Rows L2 My
def sp_Line_drain (K : PySem.W.Frag) : Sp := fun vs H Q _ => ∃ (a l : Addr) (m : Str) (q : List Str) (g : Str), vs = [.ref a] ∧ LineAt K H a l m q g ∧ ∀ H' p l', H p = none → H l' = none → l' ≠ p → H' p = some (.lst (q.map V.str)) → LineAt K H' a l' (markAfter "drain" m) [] g → Kp a H H' → Q (.ref p) H'
theorem R_Line_drain {P : Program} {w : World} {K : PySem.W.Frag} {mg : Str → Option Value} {base : Heap} (T : Tx K mg) : FnR P w K mg base CX0 5 (He.ma K (He.ga K "Line") "drain") (sp_Line_drain K) := by
  obtain ⟨fd, F⟩ := T.d_Line_drain
  refine My.FunD.R F sc_Line_drain (fun vs H Q E h => by obtain ⟨a, l, m, q, g, rfl, hL, k⟩ := h; rfl) (fun _ _ _ _ _ _ us hl => match us, hl with | [_], _ => rfl) (fun cdv A outer s H vs Q E hr h => ?_)
  obtain ⟨a, l, m, q, g, rfl, hL, k⟩ := h
  refine ⟨_, (pss_cons (ps_set (i := 1) sc_Line_drain.nd rfl (by first | exact Or.inl rfl | exact Or.inr rfl) (pe_callTy listL (by rfl) T.n_list (by decide +kernel) (pa_cons (pe_fld (pv 0) rfl) pa_nil)))
      (pss_cons (ps_fld (pv 0) (pe_callR (R_mark_after T) (hr.mono (by decide)) rfl T.g_mark_after T.k_mark_after pass0 (pa_cons pe_str (pa_cons (pe_fld (pv 0) rfl) pa_nil))) rfl)
      (pss_cons (ps_fld (pv 0) (pe_lst pa_nil) rfl)
      (pss_one (ps_ret (pv 1)))))), ?_⟩
  obtain ⟨dx, ha⟩ := hL.ob
  have n1 := hL.ne
  have n2 := hL.ne.symm
  have hl := hL.qu
  simp only [tSeq, tAsg, tRet, tRetN, tIfS, tDrop, tNext, tBreak, tCont, tVar, tC, tOp, tUn, tB, tTest, tAnd, tOr, tNot, tAndV, tOrV, tNotV, tIf, tNil, tCons, tTup, tLst, tCB, tCallR, tMethR, tPropR, StX.tMakeR, tFld, sFld, sFldAug, tPar, tPar3, gName, gNil, gCons, gTup, gSub, rI, rI0, rU, rEq, rNe, mIxL, mIxT, mLenL, mLenT, mLenS, mLenD, mLenK, mList, mTupL, mInt, mAbs, mMax, mMin, mStr, mAddS, mIsN, mNotN, rIxS, rIxL, rSetL, rAppend, rExtendT, rPopAt, rCat, rIn, tBM, tBM0, tChain, tNever, scal, L2.start, cxK, iRng1, iRng2, tDNewK, tDGet, tDGet2, sDPut, tDIn, tDNotIn, DGet_dk, DPut_dk, IsD_dk, tyV_list, isLst_lst, isDk_dk, dkOf_dk, atI_0, atI_1, atI_2, atI_3, ixN_30, ixN_31, ixN_32, List.map, List.replicate, List.length_cons, List.length_nil, List.nil_append, List.cons_append, List.append_nil, Nat.reduceSub, Nat.reduceAdd, List.getElem?_cons_zero, List.getElem?_cons_succ, List.set_cons_zero, List.set_cons_succ, List.cons.injEq, Option.some.injEq, V.int.injEq, V.str.injEq, V.bl.injEq, V.ref.injEq, HO.ins.injEq, HO.lst.injEq, HO.tup.injEq, HO.dK.injEq, exists_eq_left, exists_eq_left', exists_eq_right, exists_eq_right', exists_and_left, exists_and_right, true_and, and_true, and_self, if_true, if_false, Bool.false_eq_true, Bool.true_eq_false, eq_self, reduceCtorEq, false_and, and_false, upd_same, upd_upd, and_assoc, Int.reduceToNat, Int.reducePow, Int.reduceMul, Int.reduceAdd, Int.reduceNeg, mIsi, mIsi2, kdV_non, kdV_bl, kdV_int, kdV_str, kdV_ref, kdO_lst, kdO_tup, kdO_dK, V.ty.injEq, mAll, mAny, kit_NoneType_bool, kit_NoneType_int, kit_NoneType_str, kit_NoneType_list, kit_NoneType_tuple, kit_NoneType_dict, kit_bool_bool, kit_bool_int, kit_bool_str, kit_bool_list, kit_bool_tuple, kit_bool_dict, kit_int_bool, kit_int_int, kit_int_str, kit_int_list, kit_int_tuple, kit_int_dict, kit_str_bool, kit_str_int, kit_str_str, kit_str_list, kit_str_tuple, kit_str_dict, kit_list_bool, kit_list_int, kit_list_str, kit_list_list, kit_list_tuple, kit_list_dict, kit_tuple_bool, kit_tuple_int, kit_tuple_str, kit_tuple_list, kit_tuple_tuple, kit_tuple_dict, kit_dict_bool, kit_dict_int, kit_dict_str, kit_dict_list, kit_dict_tuple, kit_dict_dict, String.reduceEq, String.reduceNe, ne_eq, not_false_eq_true, not_true_eq_false, decide_false, decide_true, Bool.not_false, Bool.not_true, Bool.or_false, Bool.false_or, Bool.or_true, Bool.true_or, gTupH, wipe, tYes, exists_eq', exists_eq, exists_const, tFor_eq, tLc_eq, ha, hl, T.c_Line, T.f_Line_queue, T.f_Line_state, lf_queue, lf_state, lp_state, sp_mark_after, lf_len, six]
  intro p hp
  have np : a ≠ p := ne_of_none ha hp
  simp only [tSeq, tAsg, tRet, tRetN, tIfS, tDrop, tNext, tBreak, tCont, tVar, tC, tOp, tUn, tB, tTest, tAnd, tOr, tNot, tAndV, tOrV, tNotV, tIf, tNil, tCons, tTup, tLst, tCB, tCallR, tMethR, tPropR, StX.tMakeR, tFld, sFld, sFldAug, tPar, tPar3, gName, gNil, gCons, gTup, gSub, rI, rI0, rU, rEq, rNe, mIxL, mIxT, mLenL, mLenT, mLenS, mLenD, mLenK, mList, mTupL, mInt, mAbs, mMax, mMin, mStr, mAddS, mIsN, mNotN, rIxS, rIxL, rSetL, rAppend, rExtendT, rPopAt, rCat, rIn, tBM, tBM0, tChain, tNever, scal, L2.start, cxK, iRng1, iRng2, tDNewK, tDGet, tDGet2, sDPut, tDIn, tDNotIn, DGet_dk, DPut_dk, IsD_dk, tyV_list, isLst_lst, isDk_dk, dkOf_dk, atI_0, atI_1, atI_2, atI_3, ixN_30, ixN_31, ixN_32, List.map, List.replicate, List.length_cons, List.length_nil, List.nil_append, List.cons_append, List.append_nil, Nat.reduceSub, Nat.reduceAdd, List.getElem?_cons_zero, List.getElem?_cons_succ, List.set_cons_zero, List.set_cons_succ, List.cons.injEq, Option.some.injEq, V.int.injEq, V.str.injEq, V.bl.injEq, V.ref.injEq, HO.ins.injEq, HO.lst.injEq, HO.tup.injEq, HO.dK.injEq, exists_eq_left, exists_eq_left', exists_eq_right, exists_eq_right', exists_and_left, exists_and_right, true_and, and_true, and_self, if_true, if_false, Bool.false_eq_true, Bool.true_eq_false, eq_self, reduceCtorEq, false_and, and_false, upd_same, upd_upd, and_assoc, Int.reduceToNat, Int.reducePow, Int.reduceMul, Int.reduceAdd, Int.reduceNeg, mIsi, mIsi2, kdV_non, kdV_bl, kdV_int, kdV_str, kdV_ref, kdO_lst, kdO_tup, kdO_dK, V.ty.injEq, mAll, mAny, kit_NoneType_bool, kit_NoneType_int, kit_NoneType_str, kit_NoneType_list, kit_NoneType_tuple, kit_NoneType_dict, kit_bool_bool, kit_bool_int, kit_bool_str, kit_bool_list, kit_bool_tuple, kit_bool_dict, kit_int_bool, kit_int_int, kit_int_str, kit_int_list, kit_int_tuple, kit_int_dict, kit_str_bool, kit_str_int, kit_str_str, kit_str_list, kit_str_tuple, kit_str_dict, kit_list_bool, kit_list_int, kit_list_str, kit_list_list, kit_list_tuple, kit_list_dict, kit_tuple_bool, kit_tuple_int, kit_tuple_str, kit_tuple_list, kit_tuple_tuple, kit_tuple_dict, kit_dict_bool, kit_dict_int, kit_dict_str, kit_dict_list, kit_dict_tuple, kit_dict_dict, String.reduceEq, String.reduceNe, ne_eq, not_false_eq_true, not_true_eq_false, decide_false, decide_true, Bool.not_false, Bool.not_true, Bool.or_false, Bool.false_or, Bool.or_true, Bool.true_or, gTupH, wipe, tYes, exists_eq', exists_eq, exists_const, tFor_eq, tLc_eq, upd_ne np, ha, T.c_Line, T.f_Line_queue, T.f_Line_state, lf_queue, lf_state, lp_state, lp_queue, sp_mark_after, lf_len, six]
  refine ⟨Nat.zero_le _, fun l' hl' => ?_⟩
  have na : a ≠ l' := fun e => by rw [← e, upd_same] at hl'; cases hl'
  have hl2 : upd H p (.lst (q.map V.str)) l' = none := by rw [upd_ne na.symm] at hl'; exact hl'
  have nl : l' ≠ p := fun e => by rw [e, upd_same] at hl2; cases hl2
  have hl3 : H l' = none := by rw [upd_ne nl] at hl2; exact hl2
  simp only [tSeq, tAsg, tRet, tRetN, tIfS, tDrop, tNext, tBreak, tCont, tVar, tC, tOp, tUn, tB, tTest, tAnd, tOr, tNot, tAndV, tOrV, tNotV, tIf, tNil, tCons, tTup, tLst, tCB, tCallR, tMethR, tPropR, StX.tMakeR, tFld, sFld, sFldAug, tPar, tPar3, gName, gNil, gCons, gTup, gSub, rI, rI0, rU, rEq, rNe, mIxL, mIxT, mLenL, mLenT, mLenS, mLenD, mLenK, mList, mTupL, mInt, mAbs, mMax, mMin, mStr, mAddS, mIsN, mNotN, rIxS, rIxL, rSetL, rAppend, rExtendT, rPopAt, rCat, rIn, tBM, tBM0, tChain, tNever, scal, L2.start, cxK, iRng1, iRng2, tDNewK, tDGet, tDGet2, sDPut, tDIn, tDNotIn, DGet_dk, DPut_dk, IsD_dk, tyV_list, isLst_lst, isDk_dk, dkOf_dk, atI_0, atI_1, atI_2, atI_3, ixN_30, ixN_31, ixN_32, List.map, List.replicate, List.length_cons, List.length_nil, List.nil_append, List.cons_append, List.append_nil, Nat.reduceSub, Nat.reduceAdd, List.getElem?_cons_zero, List.getElem?_cons_succ, List.set_cons_zero, List.set_cons_succ, List.cons.injEq, Option.some.injEq, V.int.injEq, V.str.injEq, V.bl.injEq, V.ref.injEq, HO.ins.injEq, HO.lst.injEq, HO.tup.injEq, HO.dK.injEq, exists_eq_left, exists_eq_left', exists_eq_right, exists_eq_right', exists_and_left, exists_and_right, true_and, and_true, and_self, if_true, if_false, Bool.false_eq_true, Bool.true_eq_false, eq_self, reduceCtorEq, false_and, and_false, upd_same, upd_upd, and_assoc, Int.reduceToNat, Int.reducePow, Int.reduceMul, Int.reduceAdd, Int.reduceNeg, mIsi, mIsi2, kdV_non, kdV_bl, kdV_int, kdV_str, kdV_ref, kdO_lst, kdO_tup, kdO_dK, V.ty.injEq, mAll, mAny, kit_NoneType_bool, kit_NoneType_int, kit_NoneType_str, kit_NoneType_list, kit_NoneType_tuple, kit_NoneType_dict, kit_bool_bool, kit_bool_int, kit_bool_str, kit_bool_list, kit_bool_tuple, kit_bool_dict, kit_int_bool, kit_int_int, kit_int_str, kit_int_list, kit_int_tuple, kit_int_dict, kit_str_bool, kit_str_int, kit_str_str, kit_str_list, kit_str_tuple, kit_str_dict, kit_list_bool, kit_list_int, kit_list_str, kit_list_list, kit_list_tuple, kit_list_dict, kit_tuple_bool, kit_tuple_int, kit_tuple_str, kit_tuple_list, kit_tuple_tuple, kit_tuple_dict, kit_dict_bool, kit_dict_int, kit_dict_str, kit_dict_list, kit_dict_tuple, kit_dict_dict, String.reduceEq, String.reduceNe, ne_eq, not_false_eq_true, not_true_eq_false, decide_false, decide_true, Bool.not_false, Bool.not_true, Bool.or_false, Bool.false_or, Bool.or_true, Bool.true_or, gTupH, wipe, tYes, exists_eq', exists_eq, exists_const, tFor_eq, tLc_eq, upd_ne na, T.c_Line, T.f_Line_queue, lp_queue, lf_len, six]
  refine k _ p l' hp hl3 nl ?_ ⟨⟨dx, upd_same⟩, ?_, na, Nat.zero_le _⟩ fun b o z h => ?_
  · rw [upd_ne np.symm, upd_ne nl.symm, upd_ne np.symm, upd_same]
  · rw [upd_ne na.symm, upd_same]; rfl
  · rw [upd_ne z, upd_ne (ne_of_none h hl3), upd_ne z, upd_ne (ne_of_none h hp)]; exact h
def spi_Line_ask (K : PySem.W.Frag) : Sp := fun vs H Q _ => ∃ (a l p : Addr) (m : Str) (q ts : List Str) (g : Str), vs = [.ref a, .ref p] ∧ LineAt K H a l m q g ∧ H p = some (.tup (ts.map V.str)) ∧ rowFault "ask" m 0 = .non ∧ q.length + ts.length ≤ 1000 ∧ ∀ H', LineAt K H' a l m (q ++ ts) g → Kp2 a l H H' → Q .non H'
def sp_Line_ask (K : PySem.W.Frag) : Sp := fun vs H Q _ => ∃ (a l : Addr) (m : Str) (q ts : List Str) (g : Str), vs = .ref a :: ts.map V.str ∧ LineAt K H a l m q g ∧ rowFault "ask" m 0 = .non ∧ q.length + ts.length ≤ 1000 ∧ ∀ H', LineAt K H' a l m (q ++ ts) g → Kp2 a l H H' → Q .non H'
theorem R_Line_ask {P : Program} {w : World} {K : PySem.W.Frag} {mg : Str → Option Value} {base : Heap} (T : Tx K mg) : FnR P w K mg base CX0 9 (He.ma K (He.ga K "Line") "ask") (sp_Line_ask K) := by
  obtain ⟨fd, F⟩ := T.d_Line_ask
  refine FnR.imp (My.FunD.Rs (ps := ["self"]) (pv := "tags") (sp := spi_Line_ask K) F sc_Line_ask (fun kV doc pm an cdv ct => StX.bind_star1 (B := fun l => bindArgs (PySem.W.fnOf D_Line_ask.name D_Line_ask.qual D_Line_ask.params D_Line_ask.body D_Line_ask.scope .none kV doc pm an cdv ct) ⟨l, []⟩) (fun _ => rfl) (fun _ _ _ => rfl)) (fun cdv A outer s H vs Q E hr h => ?_)) fun vs H Q E h => ?_
  · obtain ⟨a, l, p, m, q, ts, g, rfl, hL, hp, hf, hz, k⟩ := h
    refine ⟨_, (pss_cons (ps_expr (pe_methR (pv 0) T.c_Line T.m_Line_need (R_Line_need T) (hr.mono (by decide)) pass0 (pa_cons pe_str (pa_cons pe_int pa_nil))))
      (pss_one (ps_expr (pe_bm PySem.F.plainAttrs_list PySem.F.slot_list_extend PySem.F.type_list_extend mt_extendT (pe_fld (pv 0) rfl) (pa_cons (pv 1) pa_nil))))), ?_⟩
    obtain ⟨dx, ha⟩ := hL.ob
    have n1 := hL.ne
    have hl := hL.qu
    simp only [tSeq, tAsg, tRet, tRetN, tIfS, tDrop, tNext, tBreak, tCont, tVar, tC, tOp, tUn, tB, tTest, tAnd, tOr, tNot, tAndV, tOrV, tNotV, tIf, tNil, tCons, tTup, tLst, tCB, tCallR, tMethR, tPropR, StX.tMakeR, tFld, sFld, sFldAug, tPar, tPar3, gName, gNil, gCons, gTup, gSub, rI, rI0, rU, rEq, rNe, mIxL, mIxT, mLenL, mLenT, mLenS, mLenD, mLenK, mList, mTupL, mInt, mAbs, mMax, mMin, mStr, mAddS, mIsN, mNotN, rIxS, rIxL, rSetL, rAppend, rExtendT, rPopAt, rCat, rIn, tBM, tBM0, tChain, tNever, scal, L2.start, cxK, iRng1, iRng2, tDNewK, tDGet, tDGet2, sDPut, tDIn, tDNotIn, DGet_dk, DPut_dk, IsD_dk, tyV_list, isLst_lst, isDk_dk, dkOf_dk, atI_0, atI_1, atI_2, atI_3, ixN_30, ixN_31, ixN_32, List.map, List.replicate, List.length_cons, List.length_nil, List.nil_append, List.cons_append, List.append_nil, Nat.reduceSub, Nat.reduceAdd, List.getElem?_cons_zero, List.getElem?_cons_succ, List.set_cons_zero, List.set_cons_succ, List.cons.injEq, Option.some.injEq, V.int.injEq, V.str.injEq, V.bl.injEq, V.ref.injEq, HO.ins.injEq, HO.lst.injEq, HO.tup.injEq, HO.dK.injEq, exists_eq_left, exists_eq_left', exists_eq_right, exists_eq_right', exists_and_left, exists_and_right, true_and, and_true, and_self, if_true, if_false, Bool.false_eq_true, Bool.true_eq_false, eq_self, reduceCtorEq, false_and, and_false, upd_same, upd_upd, and_assoc, Int.reduceToNat, Int.reducePow, Int.reduceMul, Int.reduceAdd, Int.reduceNeg, mIsi, mIsi2, kdV_non, kdV_bl, kdV_int, kdV_str, kdV_ref, kdO_lst, kdO_tup, kdO_dK, V.ty.injEq, mAll, mAny, kit_NoneType_bool, kit_NoneType_int, kit_NoneType_str, kit_NoneType_list, kit_NoneType_tuple, kit_NoneType_dict, kit_bool_bool, kit_bool_int, kit_bool_str, kit_bool_list, kit_bool_tuple, kit_bool_dict, kit_int_bool, kit_int_int, kit_int_str, kit_int_list, kit_int_tuple, kit_int_dict, kit_str_bool, kit_str_int, kit_str_str, kit_str_list, kit_str_tuple, kit_str_dict, kit_list_bool, kit_list_int, kit_list_str, kit_list_list, kit_list_tuple, kit_list_dict, kit_tuple_bool, kit_tuple_int, kit_tuple_str, kit_tuple_list, kit_tuple_tuple, kit_tuple_dict, kit_dict_bool, kit_dict_int, kit_dict_str, kit_dict_list, kit_dict_tuple, kit_dict_dict, String.reduceEq, String.reduceNe, ne_eq, not_false_eq_true, not_true_eq_false, decide_false, decide_true, Bool.not_false, Bool.not_true, Bool.or_false, Bool.false_or, Bool.or_true, Bool.true_or, gTupH, wipe, tYes, exists_eq', exists_eq, exists_const, tFor_eq, tLc_eq, ha, hl, T.c_Line, T.f_Line_queue, lf_queue, ln_need, sp_Line_need, List.length_map]
    refine ⟨l, m, ⟨_, _, hL⟩, rfl, hf, ts.map V.str, SqT.of hp, ?_, k _ ⟨⟨dx, ?_⟩, ?_, n1, ?_⟩ fun b o z1 z2 h => ?_⟩
    · rw [List.length_map]; exact Nat.le_trans hz (by decide)
    · rw [upd_ne n1]; exact ha
    · rw [upd_same, List.map_append]
    · simp; omega
    · rw [upd_ne z2]; exact h
  · obtain ⟨a, l, m, q, ts, g, rfl, hL, hf, hz, k⟩ := h
    refine ⟨[.ref a], ts.map V.str, rfl, rfl, ?_, fun p hp => ?_⟩
    · rw [List.length_map]; exact Nat.le_trans (by omega) (show 1000 ≤ sizeLine by decide)
    · obtain ⟨dx, ha⟩ := hL.ob
      have e1 : a ≠ p := ne_of_none ha hp
      have e2 : l ≠ p := ne_of_none hL.qu hp
      refine ⟨a, l, p, m, q, ts, g, rfl, ⟨⟨dx, by rw [upd_ne e1]; exact ha⟩, by rw [upd_ne e2]; exact hL.qu, hL.ne, hL.sz⟩, upd_same, hf, hz, fun H' h1 h2 => k H' h1 fun b o z1 z2 h => h2 b o z1 z2 ?_⟩
      rw [upd_ne (ne_of_none h hp)]; exact h
def spi_Line_init (K : PySem.W.Frag) : Sp := fun vs H Q _ => ∃ (a dx : Addr), vs = [.ref a, .int 0] ∧ H a = some (.ins (He.ga K "Line") dx []) ∧ ∀ H' l, H l = none → LineAt K H' a l "whole" [] "" → Kp a H H' → Q .non H'
def sp_Line___init__ (K : PySem.W.Frag) : Sp := fun vs H Q E => spi_Line_init K (vs ++ [.int 0]) H Q E
theorem R_Line___init__ {P : Program} {w : World} {K : PySem.W.Frag} {mg : Str → Option Value} {base : Heap} (T : Tx K mg) : FnR P w K mg base CX0 1 (He.ma K (He.ga K "Line") "__init__") (sp_Line___init__ K) := by
  obtain ⟨fd, F⟩ := T.d_Line___init__
  refine My.FunD.Rd (sp := spi_Line_init K) 1 0 F sc_Line___init__ (fun vs H Q E h => by obtain ⟨a, dx, rfl, _⟩ := h; rfl) (by intro h; cases h) rfl (fun T kV doc pm an cdv ct us its h1 h2 => ?_) (fun cdv A outer s H vs Q E hr h => ?_)
  · match us, its, h1, h2 with
    | [_], [_], _, _ => exact ⟨_, rfl, rfl⟩
  · obtain ⟨a, dx, rfl, ha, k⟩ := h
    refine ⟨_, (pss_cons (ps_fld (pv 0) (pv 1) rfl)
      (pss_cons (ps_fld (pv 0) pe_non rfl)
      (pss_cons (ps_fld (pv 0) pe_str rfl)
      (pss_cons (ps_fld (pv 0) (pe_lst pa_nil) rfl)
      (pss_cons (ps_fld (pv 0) pe_str rfl)
      (pss_one (ps_fld (pv 0) pe_bl rfl))))))), ?_⟩
    simp only [tSeq, tAsg, tRet, tRetN, tIfS, tDrop, tNext, tBreak, tCont, tVar, tC, tOp, tUn, tB, tTest, tAnd, tOr, tNot, tAndV, tOrV, tNotV, tIf, tNil, tCons, tTup, tLst, tCB, tCallR, tMethR, tPropR, StX.tMakeR, tFld, sFld, sFldAug, tPar, tPar3, gName, gNil, gCons, gTup, gSub, rI, rI0, rU, rEq, rNe, mIxL, mIxT, mLenL, mLenT, mLenS, mLenD, mLenK, mList, mTupL, mInt, mAbs, mMax, mMin, mStr, mAddS, mIsN, mNotN, rIxS, rIxL, rSetL, rAppend, rExtendT, rPopAt, rCat, rIn, tBM, tBM0, tChain, tNever, scal, L2.start, cxK, iRng1, iRng2, tDNewK, tDGet, tDGet2, sDPut, tDIn, tDNotIn, DGet_dk, DPut_dk, IsD_dk, tyV_list, isLst_lst, isDk_dk, dkOf_dk, atI_0, atI_1, atI_2, atI_3, ixN_30, ixN_31, ixN_32, List.map, List.replicate, List.length_cons, List.length_nil, List.nil_append, List.cons_append, List.append_nil, Nat.reduceSub, Nat.reduceAdd, List.getElem?_cons_zero, List.getElem?_cons_succ, List.set_cons_zero, List.set_cons_succ, List.cons.injEq, Option.some.injEq, V.int.injEq, V.str.injEq, V.bl.injEq, V.ref.injEq, HO.ins.injEq, HO.lst.injEq, HO.tup.injEq, HO.dK.injEq, exists_eq_left, exists_eq_left', exists_eq_right, exists_eq_right', exists_and_left, exists_and_right, true_and, and_true, and_self, if_true, if_false, Bool.false_eq_true, Bool.true_eq_false, eq_self, reduceCtorEq, false_and, and_false, upd_same, upd_upd, and_assoc, Int.reduceToNat, Int.reducePow, Int.reduceMul, Int.reduceAdd, Int.reduceNeg, mIsi, mIsi2, kdV_non, kdV_bl, kdV_int, kdV_str, kdV_ref, kdO_lst, kdO_tup, kdO_dK, V.ty.injEq, mAll, mAny, kit_NoneType_bool, kit_NoneType_int, kit_NoneType_str, kit_NoneType_list, kit_NoneType_tuple, kit_NoneType_dict, kit_bool_bool, kit_bool_int, kit_bool_str, kit_bool_list, kit_bool_tuple, kit_bool_dict, kit_int_bool, kit_int_int, kit_int_str, kit_int_list, kit_int_tuple, kit_int_dict, kit_str_bool, kit_str_int, kit_str_str, kit_str_list, kit_str_tuple, kit_str_dict, kit_list_bool, kit_list_int, kit_list_str, kit_list_list, kit_list_tuple, kit_list_dict, kit_tuple_bool, kit_tuple_int, kit_tuple_str, kit_tuple_list, kit_tuple_tuple, kit_tuple_dict, kit_dict_bool, kit_dict_int, kit_dict_str, kit_dict_list, kit_dict_tuple, kit_dict_dict, String.reduceEq, String.reduceNe, ne_eq, not_false_eq_true, not_true_eq_false, decide_false, decide_true, Bool.not_false, Bool.not_true, Bool.or_false, Bool.false_or, Bool.or_true, Bool.true_or, gTupH, wipe, tYes, exists_eq', exists_eq, exists_const, tFor_eq, tLc_eq, ha, T.c_Line, T.f_Line_number, T.f_Line_cause, T.f_Line_state, T.f_Line_queue]
    refine ⟨by decide, by show 1 < 1000; decide, by show 2 < 1000; decide, Nat.zero_le _, fun p hp => ?_⟩
    have np : a ≠ p := fun e => by rw [← e, upd_same] at hp; cases hp
    have hp2 : H p = none := by rw [upd_ne np.symm] at hp; exact hp
    simp only [tSeq, tAsg, tRet, tRetN, tIfS, tDrop, tNext, tBreak, tCont, tVar, tC, tOp, tUn, tB, tTest, tAnd, tOr, tNot, tAndV, tOrV, tNotV, tIf, tNil, tCons, tTup, tLst, tCB, tCallR, tMethR, tPropR, StX.tMakeR, tFld, sFld, sFldAug, tPar, tPar3, gName, gNil, gCons, gTup, gSub, rI, rI0, rU, rEq, rNe, mIxL, mIxT, mLenL, mLenT, mLenS, mLenD, mLenK, mList, mTupL, mInt, mAbs, mMax, mMin, mStr, mAddS, mIsN, mNotN, rIxS, rIxL, rSetL, rAppend, rExtendT, rPopAt, rCat, rIn, tBM, tBM0, tChain, tNever, scal, L2.start, cxK, iRng1, iRng2, tDNewK, tDGet, tDGet2, sDPut, tDIn, tDNotIn, DGet_dk, DPut_dk, IsD_dk, tyV_list, isLst_lst, isDk_dk, dkOf_dk, atI_0, atI_1, atI_2, atI_3, ixN_30, ixN_31, ixN_32, List.map, List.replicate, List.length_cons, List.length_nil, List.nil_append, List.cons_append, List.append_nil, Nat.reduceSub, Nat.reduceAdd, List.getElem?_cons_zero, List.getElem?_cons_succ, List.set_cons_zero, List.set_cons_succ, List.cons.injEq, Option.some.injEq, V.int.injEq, V.str.injEq, V.bl.injEq, V.ref.injEq, HO.ins.injEq, HO.lst.injEq, HO.tup.injEq, HO.dK.injEq, exists_eq_left, exists_eq_left', exists_eq_right, exists_eq_right', exists_and_left, exists_and_right, true_and, and_true, and_self, if_true, if_false, Bool.false_eq_true, Bool.true_eq_false, eq_self, reduceCtorEq, false_and, and_false, upd_same, upd_upd, and_assoc, Int.reduceToNat, Int.reducePow, Int.reduceMul, Int.reduceAdd, Int.reduceNeg, mIsi, mIsi2, kdV_non, kdV_bl, kdV_int, kdV_str, kdV_ref, kdO_lst, kdO_tup, kdO_dK, V.ty.injEq, mAll, mAny, kit_NoneType_bool, kit_NoneType_int, kit_NoneType_str, kit_NoneType_list, kit_NoneType_tuple, kit_NoneType_dict, kit_bool_bool, kit_bool_int, kit_bool_str, kit_bool_list, kit_bool_tuple, kit_bool_dict, kit_int_bool, kit_int_int, kit_int_str, kit_int_list, kit_int_tuple, kit_int_dict, kit_str_bool, kit_str_int, kit_str_str, kit_str_list, kit_str_tuple, kit_str_dict, kit_list_bool, kit_list_int, kit_list_str, kit_list_list, kit_list_tuple, kit_list_dict, kit_tuple_bool, kit_tuple_int, kit_tuple_str, kit_tuple_list, kit_tuple_tuple, kit_tuple_dict, kit_dict_bool, kit_dict_int, kit_dict_str, kit_dict_list, kit_dict_tuple, kit_dict_dict, String.reduceEq, String.reduceNe, ne_eq, not_false_eq_true, not_true_eq_false, decide_false, decide_true, Bool.not_false, Bool.not_true, Bool.or_false, Bool.false_or, Bool.or_true, Bool.true_or, gTupH, wipe, tYes, exists_eq', exists_eq, exists_const, tFor_eq, tLc_eq, upd_ne np, T.c_Line, T.f_Line_queue, T.f_Line_sending, T.f_Line_is_lent, lp_all]
    refine ⟨by show 3 < 1000; decide, by show 4 < 1000; decide, by show 5 < 1000; decide, k _ p hp2 ⟨⟨dx, upd_same⟩, ?_, np, Nat.zero_le _⟩ fun b o z h => ?_⟩
    · rw [upd_ne np.symm, upd_same]; rfl
    · rw [upd_ne z, upd_ne (ne_of_none h hp2), upd_ne z]; exact h
end K30

set_option Elab.async false
set_option linter.all false
set_option maxRecDepth 100000
set_option maxHeartbeats 4000000
namespace K30
open PySem PySem.Spec PyProof.Rows L2 My
def BagL (l : List V) (n : Nat) : Prop := ∃ x0 x1 x2 : Int, l = [.int x0, .int x1, .int x2] ∧ 0 ≤ x0 ∧ 0 ≤ x1 ∧ x1 < 2 ^ 40 ∧ 0 ≤ x2 ∧ x2 ≤ n
theorem cmulR {i j : Int} (h1 : 0 ≤ j) (h2 : j < 2 ^ 60) : CMul i j := Or.inr ⟨by omega, by omega⟩
theorem cmulL {i j : Int} (h1 : 0 ≤ i) (h2 : i < 2 ^ 60) : CMul i j := Or.inl ⟨by omega, by omega⟩
theorem cdivW {i j : Int} (h1 : 0 < j) (h2 : j < 2 ^ 200) : CDivW i j := wide_div (b := 200) h1 (by omega) (by decide) (by decide)
theorem pow60 : (2 : Nat) ^ 60 ≤ 2 ^ 4096 := Nat.pow_le_pow_right (by decide) (by decide)
theorem cpow {i j : Int} (h1 : 0 ≤ i) (h2 : i < 2 ^ 60) (h3 : 0 ≤ j) (h4 : j ≤ 64) : CPowW i j := ⟨h3, h4, Nat.lt_of_lt_of_le (show i.natAbs < 2 ^ 60 by omega) pow60⟩
def sp_l_draw (_ : PySem.W.Frag) : Sp := fun vs H Q _ => ∃ (b : Addr) (m : Int) (n : Nat) (l : List V), vs = [.ref b, .int m] ∧ H b = some (.lst l) ∧ BagL l n ∧ 0 < m ∧ m < 2 ^ 20 ∧ n ≤ 1000000 ∧ ∀ (r : Int) (l' : List V), 0 ≤ r → r < m → BagL l' (n + 1) → Q (.int r) (upd H b (.lst l'))
theorem R_l_draw {P : Program} {w : World} {K : PySem.W.Frag} {mg : Str → Option Value} {base : Heap} (T : Tx K mg) : FnR P w K mg base CX0 1 (He.ga K "_law_draw") (sp_l_draw K) := by
  obtain ⟨fd, F⟩ := T.d_l_draw
  refine My.FunD.R F sc_l_draw (fun vs H Q E h => by obtain ⟨b, m, n, l, rfl, hb, ⟨x0, x1, x2, rfl, h0, h1, h1', h2, h2'⟩, m0, m1, hn, k⟩ := h; rfl) (fun _ _ _ _ _ _ us hl => match us, hl with | [_, _], _ => rfl) (fun cdv A outer s H vs Q E hr h => ?_)
  obtain ⟨b, m, n, l, rfl, hb, ⟨x0, x1, x2, rfl, h0, h1, h1', h2, h2'⟩, m0, m1, hn, k⟩ := h
  refine ⟨_, (pss_cons (ps_if (pt_cmpR op_gt (pe_ix ixL (pv 0) pe_int (fun _ _ => rfl)) pe_int (nomark _)) (pss_cons (ps_set (i := 2) sc_l_draw.nd rfl (by first | exact Or.inl rfl | exact Or.inr rfl) (pe_op op_mod (pe_callTy int1 (by rfl) T.n_int (by decide +kernel) (pa_cons (pe_ix ixL (pv 0) pe_int (fun _ _ => rfl)) pa_nil)) (pv 1)))
      (pss_cons (ps_asg (pe_op op_fdivW (pe_ix ixL (pv 0) pe_int (fun _ _ => rfl)) (pv 1)) (pg_sub (pv 0) pe_int set_list))
      (pss_one (ps_ret (pv 2))))) pss_nil)
      (pss_cons (ps_set (i := 3) sc_l_draw.nd rfl (by first | exact Or.inl rfl | exact Or.inr rfl) (pe_op op_add (pe_ix ixL (pv 0) pe_int (fun _ _ => rfl)) pe_int))
      (pss_cons (ps_asg (pv 3) (pg_sub (pv 0) pe_int set_list))
      (pss_cons (ps_set (i := 4) sc_l_draw.nd rfl (by first | exact Or.inl rfl | exact Or.inr rfl) (pe_op op_mod (pe_callTy int1 (by rfl) T.n_int (by decide +kernel) (pa_cons (pe_op op_add (pe_op op_add (pe_op op_mul (pe_ix ixL (pv 0) pe_int (fun _ _ => rfl)) pe_int) (pe_op op_mul (pe_op op_mul pe_int (pv 3)) (pv 3))) pe_int) pa_nil)) pe_int))
      (pss_cons (ps_asg (pv 4) (pg_sub (pv 0) pe_int set_list))
      (pss_one (ps_ret (pe_op op_mod (pe_op op_mod (pe_callTy int1 (by rfl) T.n_int (by decide +kernel) (pa_cons (pe_op op_add (pe_op op_powW (pe_op op_fdiv (pv 4) pe_int) pe_int) (pe_op op_fdiv (pv 4) pe_int)) pa_nil)) pe_int) (pv 1))))))))), ?_⟩
  simp only [tSeq, tAsg, tRet, tRetN, tIfS, tDrop, tNext, tBreak, tCont, tVar, tC, tOp, tUn, tB, tTest, tAnd, tOr, tNot, tAndV, tOrV, tNotV, tIf, tNil, tCons, tTup, tLst, tCB, tCallR, tMethR, tPropR, StX.tMakeR, tFld, sFld, sFldAug, tPar, tPar3, gName, gNil, gCons, gTup, gSub, rI, rI0, rU, rEq, rNe, mIxL, mIxT, mLenL, mLenT, mLenS, mLenD, mLenK, mList, mTupL, mInt, mAbs, mMax, mMin, mStr, mAddS, mIsN, mNotN, rIxS, rIxL, rSetL, rAppend, rExtendT, rPopAt, rCat, rIn, tBM, tBM0, tChain, tNever, scal, L2.start, cxK, iRng1, iRng2, tDNewK, tDGet, tDGet2, sDPut, tDIn, tDNotIn, DGet_dk, DPut_dk, IsD_dk, tyV_list, isLst_lst, isDk_dk, dkOf_dk, atI_0, atI_1, atI_2, atI_3, ixN_30, ixN_31, ixN_32, List.map, List.replicate, List.length_cons, List.length_nil, List.nil_append, List.cons_append, List.append_nil, Nat.reduceSub, Nat.reduceAdd, List.getElem?_cons_zero, List.getElem?_cons_succ, List.set_cons_zero, List.set_cons_succ, List.cons.injEq, Option.some.injEq, V.int.injEq, V.str.injEq, V.bl.injEq, V.ref.injEq, HO.ins.injEq, HO.lst.injEq, HO.tup.injEq, HO.dK.injEq, exists_eq_left, exists_eq_left', exists_eq_right, exists_eq_right', exists_and_left, exists_and_right, true_and, and_true, and_self, if_true, if_false, Bool.false_eq_true, Bool.true_eq_false, eq_self, reduceCtorEq, false_and, and_false, upd_same, upd_upd, and_assoc, Int.reduceToNat, Int.reducePow, Int.reduceMul, Int.reduceAdd, Int.reduceNeg, mIsi, mIsi2, kdV_non, kdV_bl, kdV_int, kdV_str, kdV_ref, kdO_lst, kdO_tup, kdO_dK, V.ty.injEq, mAll, mAny, kit_NoneType_bool, kit_NoneType_int, kit_NoneType_str, kit_NoneType_list, kit_NoneType_tuple, kit_NoneType_dict, kit_bool_bool, kit_bool_int, kit_bool_str, kit_bool_list, kit_bool_tuple, kit_bool_dict, kit_int_bool, kit_int_int, kit_int_str, kit_int_list, kit_int_tuple, kit_int_dict, kit_str_bool, kit_str_int, kit_str_str, kit_str_list, kit_str_tuple, kit_str_dict, kit_list_bool, kit_list_int, kit_list_str, kit_list_list, kit_list_tuple, kit_list_dict, kit_tuple_bool, kit_tuple_int, kit_tuple_str, kit_tuple_list, kit_tuple_tuple, kit_tuple_dict, kit_dict_bool, kit_dict_int, kit_dict_str, kit_dict_list, kit_dict_tuple, kit_dict_dict, String.reduceEq, String.reduceNe, ne_eq, not_false_eq_true, not_true_eq_false, decide_false, decide_true, Bool.not_false, Bool.not_true, Bool.or_false, Bool.false_or, Bool.or_true, Bool.true_or, gTupH, wipe, tYes, exists_eq', exists_eq, exists_const, tFor_eq, tLc_eq, hb]
  refine ite_dec (fun g => ?_) (fun g => ?_)
  · refine ⟨m0, cdivW m0 (by omega), k _ _ (Int.emod_nonneg _ (by omega)) (Int.emod_lt_of_pos _ m0) ⟨_, x1, x2, rfl, Int.ediv_nonneg h0 (by omega), h1, h1', h2, by omega⟩⟩
  · have e1 : 0 ≤ (x1 * 40692 + 12211 * (x2 + 1) * (x2 + 1) + 77) % 2147483399 := Int.emod_nonneg _ (by decide)
    have e2 : (x1 * 40692 + 12211 * (x2 + 1) * (x2 + 1) + 77) % 2147483399 < 2147483399 := Int.emod_lt_of_pos _ (by decide)
    generalize (x1 * 40692 + 12211 * (x2 + 1) * (x2 + 1) + 77) % 2147483399 = y at e1 e2 ⊢
    refine ⟨cmulL h1 (by omega), cmulL (by decide) (by decide), cmulR (by omega) (by omega), by decide, ⟨by decide, by decide⟩, cpow (by omega) (by omega) (by decide) (by decide), ⟨by decide, by decide⟩, by decide, m0, k _ _ (Int.emod_nonneg _ (by omega)) (Int.emod_lt_of_pos _ m0) ⟨x0, y, x2 + 1, rfl, h0, e1, by omega, by omega, by omega⟩⟩
def sp_l_source (K : PySem.W.Frag) : Sp := fun vs H Q _ => ∃ (a : Addr) (ns : List Int) (i : Nat), vs = [.ref a, .int (i : Int)] ∧ SqL K H a (ns.map V.int) ∧ i ≤ 1000 ∧ ∀ (p : Addr) (l : List V), H p = none → BagL l 0 → Q (.ref p) (upd H p (.lst l))
theorem bag0 {c z : Int} {i : Nat} (hc : 0 ≤ c) (hi : i ≤ 1000) : BagL [.int c, .int (z % 2147483579 + 9176 * (i : Int) + 41), .int 0] 0 := by
  have e1 : 0 ≤ z % 2147483579 := Int.emod_nonneg _ (by decide)
  have e2 : z % 2147483579 < 2147483579 := Int.emod_lt_of_pos _ (by decide)
  exact ⟨c, _, 0, rfl, hc, by omega, by omega, by omega, by omega⟩
theorem R_l_source {P : Program} {w : World} {K : PySem.W.Frag} {mg : Str → Option Value} {base : Heap} (T : Tx K mg) : FnR P w K mg base CX0 1 (He.ga K "_law_source") (sp_l_source K) := by
  obtain ⟨fd, F⟩ := T.d_l_source
  refine My.FunD.R F sc_l_source (fun vs H Q E h => by obtain ⟨a, ns, i, rfl, hS, hi, k⟩ := h; rfl) (fun _ _ _ _ _ _ us hl => match us, hl with | [_, _], _ => rfl) (fun cdv A outer s H vs Q E hr h => ?_)
  obtain ⟨a, ns, i, rfl, hS, hi, k⟩ := h
  refine ⟨_, (pss_cons (ps_set (i := 2) sc_l_source.nd rfl (by first | exact Or.inl rfl | exact Or.inr rfl) (pe_ifExp (pt_cmpR op_lt (pv 1) (pe_callB lenK (by rfl) T.n_len (by decide +kernel) (pa_cons (pv 0) pa_nil)) (nomark _)) (pe_callTy int1 (by rfl) T.n_int (by decide +kernel) (pa_cons (pe_ix ix_list (pv 0) (pv 1) (fun _ _ => rfl)) pa_nil)) pe_int))
      (pss_cons (ps_set (i := 3) sc_l_source.nd rfl (by first | exact Or.inl rfl | exact Or.inr rfl) (pe_ifExp (pt_cmpR op_ge (pe_callB abs1 (by rfl) T.n_abs (by decide +kernel) (pa_cons (pv 2) pa_nil)) (pe_op op_powW pe_int pe_int) (nomark _)) (pe_callB abs1 (by rfl) T.n_abs (by decide +kernel) (pa_cons (pv 2) pa_nil)) pe_int))
      (pss_one (ps_ret (pe_lst (pa_cons (pv 3) (pa_cons (pe_op op_add (pe_op op_add (pe_op op_mod (pe_callTy int1 (by rfl) T.n_int (by decide +kernel) (pa_cons (pv 2) pa_nil)) pe_int) (pe_op op_mul pe_int (pv 1))) pe_int) (pa_cons pe_int pa_nil)))))))), ?_⟩
  simp only [tSeq, tAsg, tRet, tRetN, tIfS, tDrop, tNext, tBreak, tCont, tVar, tC, tOp, tUn, tB, tTest, tAnd, tOr, tNot, tAndV, tOrV, tNotV, tIf, tNil, tCons, tTup, tLst, tCB, tCallR, tMethR, tPropR, StX.tMakeR, tFld, sFld, sFldAug, tPar, tPar3, gName, gNil, gCons, gTup, gSub, rI, rI0, rU, rEq, rNe, mIxL, mIxT, mLenL, mLenT, mLenS, mLenD, mLenK, mList, mTupL, mInt, mAbs, mMax, mMin, mStr, mAddS, mIsN, mNotN, rIxS, rIxL, rSetL, rAppend, rExtendT, rPopAt, rCat, rIn, tBM, tBM0, tChain, tNever, scal, L2.start, cxK, iRng1, iRng2, tDNewK, tDGet, tDGet2, sDPut, tDIn, tDNotIn, DGet_dk, DPut_dk, IsD_dk, tyV_list, isLst_lst, isDk_dk, dkOf_dk, atI_0, atI_1, atI_2, atI_3, ixN_30, ixN_31, ixN_32, List.map, List.replicate, List.length_cons, List.length_nil, List.nil_append, List.cons_append, List.append_nil, Nat.reduceSub, Nat.reduceAdd, List.getElem?_cons_zero, List.getElem?_cons_succ, List.set_cons_zero, List.set_cons_succ, List.cons.injEq, Option.some.injEq, V.int.injEq, V.str.injEq, V.bl.injEq, V.ref.injEq, HO.ins.injEq, HO.lst.injEq, HO.tup.injEq, HO.dK.injEq, exists_eq_left, exists_eq_left', exists_eq_right, exists_eq_right', exists_and_left, exists_and_right, true_and, and_true, and_self, if_true, if_false, Bool.false_eq_true, Bool.true_eq_false, eq_self, reduceCtorEq, false_and, and_false, upd_same, upd_upd, and_assoc, Int.reduceToNat, Int.reducePow, Int.reduceMul, Int.reduceAdd, Int.reduceNeg, mIsi, mIsi2, kdV_non, kdV_bl, kdV_int, kdV_str, kdV_ref, kdO_lst, kdO_tup, kdO_dK, V.ty.injEq, mAll, mAny, kit_NoneType_bool, kit_NoneType_int, kit_NoneType_str, kit_NoneType_list, kit_NoneType_tuple, kit_NoneType_dict, kit_bool_bool, kit_bool_int, kit_bool_str, kit_bool_list, kit_bool_tuple, kit_bool_dict, kit_int_bool, kit_int_int, kit_int_str, kit_int_list, kit_int_tuple, kit_int_dict, kit_str_bool, kit_str_int, kit_str_str, kit_str_list, kit_str_tuple, kit_str_dict, kit_list_bool, kit_list_int, kit_list_str, kit_list_list, kit_list_tuple, kit_list_dict, kit_tuple_bool, kit_tuple_int, kit_tuple_str, kit_tuple_list, kit_tuple_tuple, kit_tuple_dict, kit_dict_bool, kit_dict_int, kit_dict_str, kit_dict_list, kit_dict_tuple, kit_dict_dict, String.reduceEq, String.reduceNe, ne_eq, not_false_eq_true, not_true_eq_false, decide_false, decide_true, Bool.not_false, Bool.not_true, Bool.or_false, Bool.false_or, Bool.or_true, Bool.true_or, gTupH, wipe, tYes, exists_eq', exists_eq, exists_const, tFor_eq, tLc_eq]
  have c1 : CPowW 10 18 := cpow (by decide) (by decide) (by decide) (by decide)
  have c2 : CMul 9176 (i : Int) := cmulL (by decide) (by decide)
  refine ⟨_, hS, ite_dec (fun g => ?_) (fun g => ?_)⟩
  · have hi' : i < ns.length := by rw [List.length_map] at g; omega
    refine ⟨_, hS, _, atI_cell hi', _, rfl, c1, ite_dec (fun g2 => ?_) (fun g2 => ?_)⟩
    · exact ⟨by decide, c2, by decide, fun p hp => k p _ hp (bag0 (by split <;> omega) hi)⟩
    · exact ⟨by decide, c2, by decide, fun p hp => k p _ hp (bag0 (by decide) hi)⟩
  · refine ⟨c1, ite_dec (fun g2 => ?_) (fun g2 => ?_)⟩
    · exact ⟨by decide, c2, by decide, fun p hp => k p _ hp (bag0 (z := 0) (by decide) hi)⟩
    · exact ⟨by decide, c2, by decide, fun p hp => k p _ hp (bag0 (z := 0) (by decide) hi)⟩
end K30

set_option Elab.async false
set_option linter.all false
set_option maxRecDepth 100000
set_option maxHeartbeats 4000000
namespace K30
open PySem PySem.Spec PyProof.Rows L2 My
mutual
def dpt : Nat → PyData → Bool
  | _, .none => true
  | _, .bool _ => true
  | _, .int _ => true
  | _, .str _ => true
  | 0, .list _ => false
  | 0, .tuple _ => false
  | n + 1, .list ds => decide (ds.length ≤ 100000) && dpts n ds
  | n + 1, .tuple ds => decide (ds.length ≤ 100000) && dpts n ds
  | _, .dict _ => false
def dpts : Nat → List PyData → Bool
  | _, [] => true
  | n, d :: ds => dpt n d && dpts n ds
end
theorem dpts_get : ∀ {n : Nat} {ds : List PyData} {i : Nat} {d : PyData}, dpts n ds = true → ds[i]? = some d → dpt n d = true
  | n, [], i, d, _, h => by cases i <;> cases h
  | n, e :: ds, 0, d, h, hd => by
    injection hd with hd
    subst hd
    rw [dpts] at h
    exact (Bool.and_eq_true_iff.mp h).1
  | n, e :: ds, i + 1, d, h, hd => by
    rw [dpts] at h
    exact dpts_get (i := i) (Bool.and_eq_true_iff.mp h).2 hd
def sp_l_same (n : Nat) : Sp := fun vs H Q _ => ∃ (x y : V) (d : PyData), vs = [x, y] ∧ Da H x d ∧ Da H y d ∧ dpt n d = true ∧ ∀ H', Same H H' → Q (.bl true) H'
theorem R_same_step {P : Program} {w : World} {K : PySem.W.Frag} {mg : Str → Option Value} {base : Heap} (T : Tx K mg) (n : Nat) (ih : FnR P w K mg base CX0 (n + 1) (He.ga K "_law_same") (sp_l_same n)) : FnR P w K mg base CX0 (n + 2) (He.ga K "_law_same") (sp_l_same (n + 1)) := by
  obtain ⟨fd, F⟩ := T.d_l_same
  refine My.FunD.R F sc_l_same (fun vs H Q E h => by obtain ⟨x, y, d, rfl, _⟩ := h; rfl) (fun _ _ _ _ _ _ us hl => match us, hl with | [_, _], _ => rfl) (fun cdv A outer s H vs Q E hr h => ?_)
  obtain ⟨x, y, d, rfl, hx, hy, hd, k⟩ := h
  refine ⟨_, (pss_cons (ps_if (PW.pt (pw_or (pt_cmpR isN (pv 1) pe_non (nomark _)) (pw_or1 (pt_val (pe_callB isi1 (by rfl) T.n_isinstance (by decide +kernel) (pa_cons (pv 1) (pa_cons (pe_bltn (v := .ty "bool") (by rfl) T.n_bool (by decide +kernel) rfl) pa_nil))))))) (pss_one (ps_ret (pe_ifExp (pt_cmpR isN (pv 1) pe_non (nomark _)) (pe_cmpR isN (pv 0) pe_non (nomark _)) (pe_and (pe_callB isi1 (by rfl) T.n_isinstance (by decide +kernel) (pa_cons (pv 0) (pa_cons (pe_bltn (v := .ty "bool") (by rfl) T.n_bool (by decide +kernel) rfl) pa_nil))) (pe_one (pe_cmpR op_eq (pv 0) (pv 1) (nomark _))))))) pss_nil)
      (pss_cons (ps_if (pt_cmpR op_ne (pe_callB isi1 (by rfl) T.n_isinstance (by decide +kernel) (pa_cons (pv 1) (pa_cons (pe_bltn (v := .ty "tuple") (by rfl) T.n_tuple (by decide +kernel) rfl) pa_nil))) (pe_callB isi1 (by rfl) T.n_isinstance (by decide +kernel) (pa_cons (pv 0) (pa_cons (pe_bltn (v := .ty "tuple") (by rfl) T.n_tuple (by decide +kernel) rfl) pa_nil))) (nomark _)) (pss_one (ps_ret pe_bl)) pss_nil)
      (pss_cons (ps_if (pt_cmpR op_ne (pe_callB isi1 (by rfl) T.n_isinstance (by decide +kernel) (pa_cons (pv 1) (pa_cons (pe_bltn (v := .ty "list") (by rfl) T.n_list (by decide +kernel) rfl) pa_nil))) (pe_callB isi1 (by rfl) T.n_isinstance (by decide +kernel) (pa_cons (pv 0) (pa_cons (pe_bltn (v := .ty "list") (by rfl) T.n_list (by decide +kernel) rfl) pa_nil))) (nomark _)) (pss_one (ps_ret pe_bl)) pss_nil)
      (pss_cons (ps_if (pt_val (pe_callB isi2 (by rfl) T.n_isinstance (by decide +kernel) (pa_cons (pv 1) (pa_cons (pe_tup (pa_cons (pe_bltn (v := .ty "tuple") (by rfl) T.n_tuple (by decide +kernel) rfl) (pa_cons (pe_bltn (v := .ty "list") (by rfl) T.n_list (by decide +kernel) rfl) pa_nil))) pa_nil)))) (pss_one (ps_ret (pe_and (pe_cmpR op_eq (pe_callB call_len (by rfl) T.n_len (by decide +kernel) (pa_cons (pv 0) pa_nil)) (pe_callB call_len (by rfl) T.n_len (by decide +kernel) (pa_cons (pv 1) pa_nil)) (nomark _)) (pe_one (pe_callB (all1 rfl) (by rfl) T.n_all (by decide +kernel) (pa_cons (pe_lc (own := [("_law_one", 2), ("_law_two", 3)]) (g := gTupH 2 (gCons (gName 2) (gCons (gName 3) gNil))) (tt := tYes) rfl sc_l_same.nd (RZ.pi_zipA (by rfl) T.n_zip (pa_cons (pv 0) (pa_cons (pv 1) pa_nil))) (blkOk_by (own := [("_law_one", 2), ("_law_two", 3)]) (N := ["_law_actual", "_law_due", "_law_one", "_law_two"]) (sc := defScope s_l_same) (by decide +kernel)) (fun _ _ _ _ _ => by exact (pg_tupH rfl (pgs_cons (pg_name (i := 2) sc_l_same.nd rfl (by first | exact Or.inl rfl | exact Or.inr rfl)) (pgs_cons (pg_name (i := 3) sc_l_same.nd rfl (by first | exact Or.inl rfl | exact Or.inr rfl)) pgs_nil)))) (fun _ _ _ _ _ => by exact pts_nil) (fun _ _ _ _ _ => by exact (pe_callR ih (hr.mono (Nat.le_refl _)) rfl T.g__law_same T.k__law_same pass0 (pa_cons (pv 2) (pa_cons (pv 3) pa_nil))))) pa_nil)))))) pss_nil)
      (pss_cons (ps_if (pt_val (pe_callB isi1 (by rfl) T.n_isinstance (by decide +kernel) (pa_cons (pv 1) (pa_cons (pe_bltn (v := .ty "int") (by rfl) T.n_int (by decide +kernel) rfl) pa_nil)))) (pss_one (ps_ret (pe_and (pe_callB isi1 (by rfl) T.n_isinstance (by decide +kernel) (pa_cons (pv 0) (pa_cons (pe_bltn (v := .ty "int") (by rfl) T.n_int (by decide +kernel) rfl) pa_nil))) (pe_and (pe_not (pe_callB isi1 (by rfl) T.n_isinstance (by decide +kernel) (pa_cons (pv 0) (pa_cons (pe_bltn (v := .ty "bool") (by rfl) T.n_bool (by decide +kernel) rfl) pa_nil)))) (pe_one (pe_cmpR op_eq (pv 0) (pv 1) (nomark _))))))) pss_nil)
      (pss_one (ps_ret (pe_and (pe_callB isi1 (by rfl) T.n_isinstance (by decide +kernel) (pa_cons (pv 0) (pa_cons (pe_bltn (v := .ty "str") (by rfl) T.n_str (by decide +kernel) rfl) pa_nil))) (pe_one (pe_cmpR op_eq (pv 0) (pv 1) (nomark _))))))))))), ?_⟩
  cases hx with
  | non => cases hy with
    | non =>
      simp only [tSeq, tAsg, tRet, tRetN, tIfS, tDrop, tNext, tBreak, tCont, tVar, tC, tOp, tUn, tB, tTest, tAnd, tOr, tNot, tAndV, tOrV, tNotV, tIf, tNil, tCons, tTup, tLst, tCB, tCallR, tMethR, tPropR, StX.tMakeR, tFld, sFld, sFldAug, tPar, tPar3, gName, gNil, gCons, gTup, gSub, rI, rI0, rU, rEq, rNe, mIxL, mIxT, mLenL, mLenT, mLenS, mLenD, mLenK, mList, mTupL, mInt, mAbs, mMax, mMin, mStr, mAddS, mIsN, mNotN, rIxS, rIxL, rSetL, rAppend, rExtendT, rPopAt, rCat, rIn, tBM, tBM0, tChain, tNever, scal, L2.start, cxK, iRng1, iRng2, tDNewK, tDGet, tDGet2, sDPut, tDIn, tDNotIn, DGet_dk, DPut_dk, IsD_dk, tyV_list, isLst_lst, isDk_dk, dkOf_dk, atI_0, atI_1, atI_2, atI_3, ixN_30, ixN_31, ixN_32, List.map, List.replicate, List.length_cons, List.length_nil, List.nil_append, List.cons_append, List.append_nil, Nat.reduceSub, Nat.reduceAdd, List.getElem?_cons_zero, List.getElem?_cons_succ, List.set_cons_zero, List.set_cons_succ, List.cons.injEq, Option.some.injEq, V.int.injEq, V.str.injEq, V.bl.injEq, V.ref.injEq, HO.ins.injEq, HO.lst.injEq, HO.tup.injEq, HO.dK.injEq, exists_eq_left, exists_eq_left', exists_eq_right, exists_eq_right', exists_and_left, exists_and_right, true_and, and_true, and_self, if_true, if_false, Bool.false_eq_true, Bool.true_eq_false, eq_self, reduceCtorEq, false_and, and_false, upd_same, upd_upd, and_assoc, Int.reduceToNat, Int.reducePow, Int.reduceMul, Int.reduceAdd, Int.reduceNeg, mIsi, mIsi2, kdV_non, kdV_bl, kdV_int, kdV_str, kdV_ref, kdO_lst, kdO_tup, kdO_dK, V.ty.injEq, mAll, mAny, kit_NoneType_bool, kit_NoneType_int, kit_NoneType_str, kit_NoneType_list, kit_NoneType_tuple, kit_NoneType_dict, kit_bool_bool, kit_bool_int, kit_bool_str, kit_bool_list, kit_bool_tuple, kit_bool_dict, kit_int_bool, kit_int_int, kit_int_str, kit_int_list, kit_int_tuple, kit_int_dict, kit_str_bool, kit_str_int, kit_str_str, kit_str_list, kit_str_tuple, kit_str_dict, kit_list_bool, kit_list_int, kit_list_str, kit_list_list, kit_list_tuple, kit_list_dict, kit_tuple_bool, kit_tuple_int, kit_tuple_str, kit_tuple_list, kit_tuple_tuple, kit_tuple_dict, kit_dict_bool, kit_dict_int, kit_dict_str, kit_dict_list, kit_dict_tuple, kit_dict_dict, String.reduceEq, String.reduceNe, ne_eq, not_false_eq_true, not_true_eq_false, decide_false, decide_true, Bool.not_false, Bool.not_true, Bool.or_false, Bool.false_or, Bool.or_true, Bool.true_or, gTupH, wipe, tYes, exists_eq', exists_eq, exists_const, tFor_eq, tLc_eq]
      exact k H (Same.refl H)
  | bl b => cases hy with
    | bl b =>
      simp only [tSeq, tAsg, tRet, tRetN, tIfS, tDrop, tNext, tBreak, tCont, tVar, tC, tOp, tUn, tB, tTest, tAnd, tOr, tNot, tAndV, tOrV, tNotV, tIf, tNil, tCons, tTup, tLst, tCB, tCallR, tMethR, tPropR, StX.tMakeR, tFld, sFld, sFldAug, tPar, tPar3, gName, gNil, gCons, gTup, gSub, rI, rI0, rU, rEq, rNe, mIxL, mIxT, mLenL, mLenT, mLenS, mLenD, mLenK, mList, mTupL, mInt, mAbs, mMax, mMin, mStr, mAddS, mIsN, mNotN, rIxS, rIxL, rSetL, rAppend, rExtendT, rPopAt, rCat, rIn, tBM, tBM0, tChain, tNever, scal, L2.start, cxK, iRng1, iRng2, tDNewK, tDGet, tDGet2, sDPut, tDIn, tDNotIn, DGet_dk, DPut_dk, IsD_dk, tyV_list, isLst_lst, isDk_dk, dkOf_dk, atI_0, atI_1, atI_2, atI_3, ixN_30, ixN_31, ixN_32, List.map, List.replicate, List.length_cons, List.length_nil, List.nil_append, List.cons_append, List.append_nil, Nat.reduceSub, Nat.reduceAdd, List.getElem?_cons_zero, List.getElem?_cons_succ, List.set_cons_zero, List.set_cons_succ, List.cons.injEq, Option.some.injEq, V.int.injEq, V.str.injEq, V.bl.injEq, V.ref.injEq, HO.ins.injEq, HO.lst.injEq, HO.tup.injEq, HO.dK.injEq, exists_eq_left, exists_eq_left', exists_eq_right, exists_eq_right', exists_and_left, exists_and_right, true_and, and_true, and_self, if_true, if_false, Bool.false_eq_true, Bool.true_eq_false, eq_self, reduceCtorEq, false_and, and_false, upd_same, upd_upd, and_assoc, Int.reduceToNat, Int.reducePow, Int.reduceMul, Int.reduceAdd, Int.reduceNeg, mIsi, mIsi2, kdV_non, kdV_bl, kdV_int, kdV_str, kdV_ref, kdO_lst, kdO_tup, kdO_dK, V.ty.injEq, mAll, mAny, kit_NoneType_bool, kit_NoneType_int, kit_NoneType_str, kit_NoneType_list, kit_NoneType_tuple, kit_NoneType_dict, kit_bool_bool, kit_bool_int, kit_bool_str, kit_bool_list, kit_bool_tuple, kit_bool_dict, kit_int_bool, kit_int_int, kit_int_str, kit_int_list, kit_int_tuple, kit_int_dict, kit_str_bool, kit_str_int, kit_str_str, kit_str_list, kit_str_tuple, kit_str_dict, kit_list_bool, kit_list_int, kit_list_str, kit_list_list, kit_list_tuple, kit_list_dict, kit_tuple_bool, kit_tuple_int, kit_tuple_str, kit_tuple_list, kit_tuple_tuple, kit_tuple_dict, kit_dict_bool, kit_dict_int, kit_dict_str, kit_dict_list, kit_dict_tuple, kit_dict_dict, String.reduceEq, String.reduceNe, ne_eq, not_false_eq_true, not_true_eq_false, decide_false, decide_true, Bool.not_false, Bool.not_true, Bool.or_false, Bool.false_or, Bool.or_true, Bool.true_or, gTupH, wipe, tYes, exists_eq', exists_eq, exists_const, tFor_eq, tLc_eq]
      exact k H (Same.refl H)
  | int i => cases hy with
    | int i =>
      simp only [tSeq, tAsg, tRet, tRetN, tIfS, tDrop, tNext, tBreak, tCont, tVar, tC, tOp, tUn, tB, tTest, tAnd, tOr, tNot, tAndV, tOrV, tNotV, tIf, tNil, tCons, tTup, tLst, tCB, tCallR, tMethR, tPropR, StX.tMakeR, tFld, sFld, sFldAug, tPar, tPar3, gName, gNil, gCons, gTup, gSub, rI, rI0, rU, rEq, rNe, mIxL, mIxT, mLenL, mLenT, mLenS, mLenD, mLenK, mList, mTupL, mInt, mAbs, mMax, mMin, mStr, mAddS, mIsN, mNotN, rIxS, rIxL, rSetL, rAppend, rExtendT, rPopAt, rCat, rIn, tBM, tBM0, tChain, tNever, scal, L2.start, cxK, iRng1, iRng2, tDNewK, tDGet, tDGet2, sDPut, tDIn, tDNotIn, DGet_dk, DPut_dk, IsD_dk, tyV_list, isLst_lst, isDk_dk, dkOf_dk, atI_0, atI_1, atI_2, atI_3, ixN_30, ixN_31, ixN_32, List.map, List.replicate, List.length_cons, List.length_nil, List.nil_append, List.cons_append, List.append_nil, Nat.reduceSub, Nat.reduceAdd, List.getElem?_cons_zero, List.getElem?_cons_succ, List.set_cons_zero, List.set_cons_succ, List.cons.injEq, Option.some.injEq, V.int.injEq, V.str.injEq, V.bl.injEq, V.ref.injEq, HO.ins.injEq, HO.lst.injEq, HO.tup.injEq, HO.dK.injEq, exists_eq_left, exists_eq_left', exists_eq_right, exists_eq_right', exists_and_left, exists_and_right, true_and, and_true, and_self, if_true, if_false, Bool.false_eq_true, Bool.true_eq_false, eq_self, reduceCtorEq, false_and, and_false, upd_same, upd_upd, and_assoc, Int.reduceToNat, Int.reducePow, Int.reduceMul, Int.reduceAdd, Int.reduceNeg, mIsi, mIsi2, kdV_non, kdV_bl, kdV_int, kdV_str, kdV_ref, kdO_lst, kdO_tup, kdO_dK, V.ty.injEq, mAll, mAny, kit_NoneType_bool, kit_NoneType_int, kit_NoneType_str, kit_NoneType_list, kit_NoneType_tuple, kit_NoneType_dict, kit_bool_bool, kit_bool_int, kit_bool_str, kit_bool_list, kit_bool_tuple, kit_bool_dict, kit_int_bool, kit_int_int, kit_int_str, kit_int_list, kit_int_tuple, kit_int_dict, kit_str_bool, kit_str_int, kit_str_str, kit_str_list, kit_str_tuple, kit_str_dict, kit_list_bool, kit_list_int, kit_list_str, kit_list_list, kit_list_tuple, kit_list_dict, kit_tuple_bool, kit_tuple_int, kit_tuple_str, kit_tuple_list, kit_tuple_tuple, kit_tuple_dict, kit_dict_bool, kit_dict_int, kit_dict_str, kit_dict_list, kit_dict_tuple, kit_dict_dict, String.reduceEq, String.reduceNe, ne_eq, not_false_eq_true, not_true_eq_false, decide_false, decide_true, Bool.not_false, Bool.not_true, Bool.or_false, Bool.false_or, Bool.or_true, Bool.true_or, gTupH, wipe, tYes, exists_eq', exists_eq, exists_const, tFor_eq, tLc_eq]
      exact ⟨by decide, fun p hp => k _ (Same.new hp)⟩
  | str i => cases hy with
    | str i =>
      simp only [tSeq, tAsg, tRet, tRetN, tIfS, tDrop, tNext, tBreak, tCont, tVar, tC, tOp, tUn, tB, tTest, tAnd, tOr, tNot, tAndV, tOrV, tNotV, tIf, tNil, tCons, tTup, tLst, tCB, tCallR, tMethR, tPropR, StX.tMakeR, tFld, sFld, sFldAug, tPar, tPar3, gName, gNil, gCons, gTup, gSub, rI, rI0, rU, rEq, rNe, mIxL, mIxT, mLenL, mLenT, mLenS, mLenD, mLenK, mList, mTupL, mInt, mAbs, mMax, mMin, mStr, mAddS, mIsN, mNotN, rIxS, rIxL, rSetL, rAppend, rExtendT, rPopAt, rCat, rIn, tBM, tBM0, tChain, tNever, scal, L2.start, cxK, iRng1, iRng2, tDNewK, tDGet, tDGet2, sDPut, tDIn, tDNotIn, DGet_dk, DPut_dk, IsD_dk, tyV_list, isLst_lst, isDk_dk, dkOf_dk, atI_0, atI_1, atI_2, atI_3, ixN_30, ixN_31, ixN_32, List.map, List.replicate, List.length_cons, List.length_nil, List.nil_append, List.cons_append, List.append_nil, Nat.reduceSub, Nat.reduceAdd, List.getElem?_cons_zero, List.getElem?_cons_succ, List.set_cons_zero, List.set_cons_succ, List.cons.injEq, Option.some.injEq, V.int.injEq, V.str.injEq, V.bl.injEq, V.ref.injEq, HO.ins.injEq, HO.lst.injEq, HO.tup.injEq, HO.dK.injEq, exists_eq_left, exists_eq_left', exists_eq_right, exists_eq_right', exists_and_left, exists_and_right, true_and, and_true, and_self, if_true, if_false, Bool.false_eq_true, Bool.true_eq_false, eq_self, reduceCtorEq, false_and, and_false, upd_same, upd_upd, and_assoc, Int.reduceToNat, Int.reducePow, Int.reduceMul, Int.reduceAdd, Int.reduceNeg, mIsi, mIsi2, kdV_non, kdV_bl, kdV_int, kdV_str, kdV_ref, kdO_lst, kdO_tup, kdO_dK, V.ty.injEq, mAll, mAny, kit_NoneType_bool, kit_NoneType_int, kit_NoneType_str, kit_NoneType_list, kit_NoneType_tuple, kit_NoneType_dict, kit_bool_bool, kit_bool_int, kit_bool_str, kit_bool_list, kit_bool_tuple, kit_bool_dict, kit_int_bool, kit_int_int, kit_int_str, kit_int_list, kit_int_tuple, kit_int_dict, kit_str_bool, kit_str_int, kit_str_str, kit_str_list, kit_str_tuple, kit_str_dict, kit_list_bool, kit_list_int, kit_list_str, kit_list_list, kit_list_tuple, kit_list_dict, kit_tuple_bool, kit_tuple_int, kit_tuple_str, kit_tuple_list, kit_tuple_tuple, kit_tuple_dict, kit_dict_bool, kit_dict_int, kit_dict_str, kit_dict_list, kit_dict_tuple, kit_dict_dict, String.reduceEq, String.reduceNe, ne_eq, not_false_eq_true, not_true_eq_false, decide_false, decide_true, Bool.not_false, Bool.not_true, Bool.or_false, Bool.false_or, Bool.or_true, Bool.true_or, gTupH, wipe, tYes, exists_eq', exists_eq, exists_const, tFor_eq, tLc_eq]
      exact ⟨by decide, fun p hp => k _ (Same.new hp)⟩
  | @lst a1 xs1 ds e1 k1 => cases hy with
    | @lst a2 xs2 _ e2 k2 =>
      simp only [tSeq, tAsg, tRet, tRetN, tIfS, tDrop, tNext, tBreak, tCont, tVar, tC, tOp, tUn, tB, tTest, tAnd, tOr, tNot, tAndV, tOrV, tNotV, tIf, tNil, tCons, tTup, tLst, tCB, tCallR, tMethR, tPropR, StX.tMakeR, tFld, sFld, sFldAug, tPar, tPar3, gName, gNil, gCons, gTup, gSub, rI, rI0, rU, rEq, rNe, mIxL, mIxT, mLenL, mLenT, mLenS, mLenD, mLenK, mList, mTupL, mInt, mAbs, mMax, mMin, mStr, mAddS, mIsN, mNotN, rIxS, rIxL, rSetL, rAppend, rExtendT, rPopAt, rCat, rIn, tBM, tBM0, tChain, tNever, scal, L2.start, cxK, iRng1, iRng2, tDNewK, tDGet, tDGet2, sDPut, tDIn, tDNotIn, DGet_dk, DPut_dk, IsD_dk, tyV_list, isLst_lst, isDk_dk, dkOf_dk, atI_0, atI_1, atI_2, atI_3, ixN_30, ixN_31, ixN_32, List.map, List.replicate, List.length_cons, List.length_nil, List.nil_append, List.cons_append, List.append_nil, Nat.reduceSub, Nat.reduceAdd, List.getElem?_cons_zero, List.getElem?_cons_succ, List.set_cons_zero, List.set_cons_succ, List.cons.injEq, Option.some.injEq, V.int.injEq, V.str.injEq, V.bl.injEq, V.ref.injEq, HO.ins.injEq, HO.lst.injEq, HO.tup.injEq, HO.dK.injEq, exists_eq_left, exists_eq_left', exists_eq_right, exists_eq_right', exists_and_left, exists_and_right, true_and, and_true, and_self, if_true, if_false, Bool.false_eq_true, Bool.true_eq_false, eq_self, reduceCtorEq, false_and, and_false, upd_same, upd_upd, and_assoc, Int.reduceToNat, Int.reducePow, Int.reduceMul, Int.reduceAdd, Int.reduceNeg, mIsi, mIsi2, kdV_non, kdV_bl, kdV_int, kdV_str, kdV_ref, kdO_lst, kdO_tup, kdO_dK, V.ty.injEq, mAll, mAny, kit_NoneType_bool, kit_NoneType_int, kit_NoneType_str, kit_NoneType_list, kit_NoneType_tuple, kit_NoneType_dict, kit_bool_bool, kit_bool_int, kit_bool_str, kit_bool_list, kit_bool_tuple, kit_bool_dict, kit_int_bool, kit_int_int, kit_int_str, kit_int_list, kit_int_tuple, kit_int_dict, kit_str_bool, kit_str_int, kit_str_str, kit_str_list, kit_str_tuple, kit_str_dict, kit_list_bool, kit_list_int, kit_list_str, kit_list_list, kit_list_tuple, kit_list_dict, kit_tuple_bool, kit_tuple_int, kit_tuple_str, kit_tuple_list, kit_tuple_tuple, kit_tuple_dict, kit_dict_bool, kit_dict_int, kit_dict_str, kit_dict_list, kit_dict_tuple, kit_dict_dict, String.reduceEq, String.reduceNe, ne_eq, not_false_eq_true, not_true_eq_false, decide_false, decide_true, Bool.not_false, Bool.not_true, Bool.or_false, Bool.false_or, Bool.or_true, Bool.true_or, gTupH, wipe, tYes, exists_eq', exists_eq, exists_const, tFor_eq, tLc_eq, e1, e2]
      refine ⟨by decide, fun p hp => ?_⟩
      have n1 := ne_of_none e1 hp
      have n2 := ne_of_none e2 hp
      have l12 : xs1.length = xs2.length := k1.length.trans k2.length.symm
      rw [dpt] at hd
      obtain ⟨hln, hds⟩ := Bool.and_eq_true_iff.mp hd
      have hln := of_decide_eq_true hln
      simp only [tSeq, tAsg, tRet, tRetN, tIfS, tDrop, tNext, tBreak, tCont, tVar, tC, tOp, tUn, tB, tTest, tAnd, tOr, tNot, tAndV, tOrV, tNotV, tIf, tNil, tCons, tTup, tLst, tCB, tCallR, tMethR, tPropR, StX.tMakeR, tFld, sFld, sFldAug, tPar, tPar3, gName, gNil, gCons, gTup, gSub, rI, rI0, rU, rEq, rNe, mIxL, mIxT, mLenL, mLenT, mLenS, mLenD, mLenK, mList, mTupL, mInt, mAbs, mMax, mMin, mStr, mAddS, mIsN, mNotN, rIxS, rIxL, rSetL, rAppend, rExtendT, rPopAt, rCat, rIn, tBM, tBM0, tChain, tNever, scal, L2.start, cxK, iRng1, iRng2, tDNewK, tDGet, tDGet2, sDPut, tDIn, tDNotIn, DGet_dk, DPut_dk, IsD_dk, tyV_list, isLst_lst, isDk_dk, dkOf_dk, atI_0, atI_1, atI_2, atI_3, ixN_30, ixN_31, ixN_32, List.map, List.replicate, List.length_cons, List.length_nil, List.nil_append, List.cons_append, List.append_nil, Nat.reduceSub, Nat.reduceAdd, List.getElem?_cons_zero, List.getElem?_cons_succ, List.set_cons_zero, List.set_cons_succ, List.cons.injEq, Option.some.injEq, V.int.injEq, V.str.injEq, V.bl.injEq, V.ref.injEq, HO.ins.injEq, HO.lst.injEq, HO.tup.injEq, HO.dK.injEq, exists_eq_left, exists_eq_left', exists_eq_right, exists_eq_right', exists_and_left, exists_and_right, true_and, and_true, and_self, if_true, if_false, Bool.false_eq_true, Bool.true_eq_false, eq_self, reduceCtorEq, false_and, and_false, upd_same, upd_upd, and_assoc, Int.reduceToNat, Int.reducePow, Int.reduceMul, Int.reduceAdd, Int.reduceNeg, mIsi, mIsi2, kdV_non, kdV_bl, kdV_int, kdV_str, kdV_ref, kdO_lst, kdO_tup, kdO_dK, V.ty.injEq, mAll, mAny, kit_NoneType_bool, kit_NoneType_int, kit_NoneType_str, kit_NoneType_list, kit_NoneType_tuple, kit_NoneType_dict, kit_bool_bool, kit_bool_int, kit_bool_str, kit_bool_list, kit_bool_tuple, kit_bool_dict, kit_int_bool, kit_int_int, kit_int_str, kit_int_list, kit_int_tuple, kit_int_dict, kit_str_bool, kit_str_int, kit_str_str, kit_str_list, kit_str_tuple, kit_str_dict, kit_list_bool, kit_list_int, kit_list_str, kit_list_list, kit_list_tuple, kit_list_dict, kit_tuple_bool, kit_tuple_int, kit_tuple_str, kit_tuple_list, kit_tuple_tuple, kit_tuple_dict, kit_dict_bool, kit_dict_int, kit_dict_str, kit_dict_list, kit_dict_tuple, kit_dict_dict, String.reduceEq, String.reduceNe, ne_eq, not_false_eq_true, not_true_eq_false, decide_false, decide_true, Bool.not_false, Bool.not_true, Bool.or_false, Bool.false_or, Bool.or_true, Bool.true_or, gTupH, wipe, tYes, exists_eq', exists_eq, exists_const, tFor_eq, tLc_eq, upd_ne n1, upd_ne n2, e1, e2]
      have s0 : Same H (upd H p (.tup [.ty "tuple", .ty "list"])) := Same.new hp
      refine ⟨xs1.length, Or.inl ⟨xs1, SqL.of (s0 _ _ e1), rfl⟩, xs2.length, Or.inl ⟨xs2, SqL.of (s0 _ _ e2), rfl⟩, ?_⟩
      rw [if_pos (decide_eq_true (by rw [l12]))]
      generalize upd H p (.tup [.ty "tuple", .ty "list"]) = G at s0 ⊢
      simp only [RZ.iZipA, tCons, tNil, tVar]
      refine ⟨_, rfl, _, rfl, a1, a2, xs1, xs2, rfl, Or.inl ⟨SqL.of (s0 _ _ e1), SqL.of (s0 _ _ e2), fun D hD => ?_⟩⟩
      refine loopC_it (walk_zip (K := K) (a := a1) (b := a2) (xs := xs1) (ys := xs2) (n := xs1.length) (by omega)) (fun i H' => Same G H' ∧ H' D = some (.lst (List.replicate i (.bl true)))) ⟨Same.new hD, ?_⟩ (fun i H' _ h => ⟨SqL.of (h.1 _ _ (s0 _ _ e1)), SqL.of (h.1 _ _ (s0 _ _ e2))⟩) (fun i x H' H'' hi h y => ?_) (fun H' h => ?_)
      · rw [upd_same]; rfl
      · obtain ⟨B, u, v, rfl, hB, rfl, hu, hv⟩ := y
        have hu' : xs1[i]? = some u := hu
        have hv' : xs2[i]? = some v := hv
        obtain ⟨h1, h2⟩ := h
        have nB : D ≠ B := ne_of_none h2 hB
        simp only [tSeq, tAsg, tRet, tRetN, tIfS, tDrop, tNext, tBreak, tCont, tVar, tC, tOp, tUn, tB, tTest, tAnd, tOr, tNot, tAndV, tOrV, tNotV, tIf, tNil, tCons, tTup, tLst, tCB, tCallR, tMethR, tPropR, StX.tMakeR, tFld, sFld, sFldAug, tPar, tPar3, gName, gNil, gCons, gTup, gSub, rI, rI0, rU, rEq, rNe, mIxL, mIxT, mLenL, mLenT, mLenS, mLenD, mLenK, mList, mTupL, mInt, mAbs, mMax, mMin, mStr, mAddS, mIsN, mNotN, rIxS, rIxL, rSetL, rAppend, rExtendT, rPopAt, rCat, rIn, tBM, tBM0, tChain, tNever, scal, L2.start, cxK, iRng1, iRng2, tDNewK, tDGet, tDGet2, sDPut, tDIn, tDNotIn, DGet_dk, DPut_dk, IsD_dk, tyV_list, isLst_lst, isDk_dk, dkOf_dk, atI_0, atI_1, atI_2, atI_3, ixN_30, ixN_31, ixN_32, List.map, List.replicate, List.length_cons, List.length_nil, List.nil_append, List.cons_append, List.append_nil, Nat.reduceSub, Nat.reduceAdd, List.getElem?_cons_zero, List.getElem?_cons_succ, List.set_cons_zero, List.set_cons_succ, List.cons.injEq, Option.some.injEq, V.int.injEq, V.str.injEq, V.bl.injEq, V.ref.injEq, HO.ins.injEq, HO.lst.injEq, HO.tup.injEq, HO.dK.injEq, exists_eq_left, exists_eq_left', exists_eq_right, exists_eq_right', exists_and_left, exists_and_right, true_and, and_true, and_self, if_true, if_false, Bool.false_eq_true, Bool.true_eq_false, eq_self, reduceCtorEq, false_and, and_false, upd_same, upd_upd, and_assoc, Int.reduceToNat, Int.reducePow, Int.reduceMul, Int.reduceAdd, Int.reduceNeg, mIsi, mIsi2, kdV_non, kdV_bl, kdV_int, kdV_str, kdV_ref, kdO_lst, kdO_tup, kdO_dK, V.ty.injEq, mAll, mAny, kit_NoneType_bool, kit_NoneType_int, kit_NoneType_str, kit_NoneType_list, kit_NoneType_tuple, kit_NoneType_dict, kit_bool_bool, kit_bool_int, kit_bool_str, kit_bool_list, kit_bool_tuple, kit_bool_dict, kit_int_bool, kit_int_int, kit_int_str, kit_int_list, kit_int_tuple, kit_int_dict, kit_str_bool, kit_str_int, kit_str_str, kit_str_list, kit_str_tuple, kit_str_dict, kit_list_bool, kit_list_int, kit_list_str, kit_list_list, kit_list_tuple, kit_list_dict, kit_tuple_bool, kit_tuple_int, kit_tuple_str, kit_tuple_list, kit_tuple_tuple, kit_tuple_dict, kit_dict_bool, kit_dict_int, kit_dict_str, kit_dict_list, kit_dict_tuple, kit_dict_dict, String.reduceEq, String.reduceNe, ne_eq, not_false_eq_true, not_true_eq_false, decide_false, decide_true, Bool.not_false, Bool.not_true, Bool.or_false, Bool.false_or, Bool.or_true, Bool.true_or, gTupH, wipe, tYes, exists_eq', exists_eq, exists_const, tFor_eq, tLc_eq, sp_l_same]
        obtain ⟨du, hdu, au⟩ := k1.get hu'
        obtain ⟨dv, hdv, av⟩ := k2.get hv'
        rw [hdu] at hdv
        injection hdv with hdv
        subst hdv
        have sB : Same H (upd H' B (.tup [u, v])) := Same.upd_new (s0.trans h1) hB
        refine ⟨du, Da.same sB _ _ au, Da.same sB _ _ av, dpts_get hds hdu, fun H2 s2 => ?_⟩
        refine ⟨_, s2 _ _ (by rw [upd_ne nB]; exact h2), ?_, ?_⟩
        · rw [List.length_replicate]
          have := k1.length
          exact Nat.lt_of_lt_of_le (show i < 100001 by omega) (by decide)
        · refine ⟨fun b o hb => ?_, ?_⟩
          · rw [upd_ne (ne_of_none hb hD)]
            exact s2 _ _ (Same.upd_new h1 hB _ _ hb)
          · rw [← List.replicate_succ', List.replicate_succ]
      · obtain ⟨h1, h2⟩ := h
        refine ⟨_, h2, List.replicate xs1.length true, by simp, ?_⟩
        have e : (List.replicate xs1.length true).all id = true := by simp
        rw [e]
        exact k _ (s0.trans h1)
  | @tup a1 xs1 ds e1 k1 => cases hy with
    | @tup a2 xs2 _ e2 k2 =>
      simp only [tSeq, tAsg, tRet, tRetN, tIfS, tDrop, tNext, tBreak, tCont, tVar, tC, tOp, tUn, tB, tTest, tAnd, tOr, tNot, tAndV, tOrV, tNotV, tIf, tNil, tCons, tTup, tLst, tCB, tCallR, tMethR, tPropR, StX.tMakeR, tFld, sFld, sFldAug, tPar, tPar3, gName, gNil, gCons, gTup, gSub, rI, rI0, rU, rEq, rNe, mIxL, mIxT, mLenL, mLenT, mLenS, mLenD, mLenK, mList, mTupL, mInt, mAbs, mMax, mMin, mStr, mAddS, mIsN, mNotN, rIxS, rIxL, rSetL, rAppend, rExtendT, rPopAt, rCat, rIn, tBM, tBM0, tChain, tNever, scal, L2.start, cxK, iRng1, iRng2, tDNewK, tDGet, tDGet2, sDPut, tDIn, tDNotIn, DGet_dk, DPut_dk, IsD_dk, tyV_list, isLst_lst, isDk_dk, dkOf_dk, atI_0, atI_1, atI_2, atI_3, ixN_30, ixN_31, ixN_32, List.map, List.replicate, List.length_cons, List.length_nil, List.nil_append, List.cons_append, List.append_nil, Nat.reduceSub, Nat.reduceAdd, List.getElem?_cons_zero, List.getElem?_cons_succ, List.set_cons_zero, List.set_cons_succ, List.cons.injEq, Option.some.injEq, V.int.injEq, V.str.injEq, V.bl.injEq, V.ref.injEq, HO.ins.injEq, HO.lst.injEq, HO.tup.injEq, HO.dK.injEq, exists_eq_left, exists_eq_left', exists_eq_right, exists_eq_right', exists_and_left, exists_and_right, true_and, and_true, and_self, if_true, if_false, Bool.false_eq_true, Bool.true_eq_false, eq_self, reduceCtorEq, false_and, and_false, upd_same, upd_upd, and_assoc, Int.reduceToNat, Int.reducePow, Int.reduceMul, Int.reduceAdd, Int.reduceNeg, mIsi, mIsi2, kdV_non, kdV_bl, kdV_int, kdV_str, kdV_ref, kdO_lst, kdO_tup, kdO_dK, V.ty.injEq, mAll, mAny, kit_NoneType_bool, kit_NoneType_int, kit_NoneType_str, kit_NoneType_list, kit_NoneType_tuple, kit_NoneType_dict, kit_bool_bool, kit_bool_int, kit_bool_str, kit_bool_list, kit_bool_tuple, kit_bool_dict, kit_int_bool, kit_int_int, kit_int_str, kit_int_list, kit_int_tuple, kit_int_dict, kit_str_bool, kit_str_int, kit_str_str, kit_str_list, kit_str_tuple, kit_str_dict, kit_list_bool, kit_list_int, kit_list_str, kit_list_list, kit_list_tuple, kit_list_dict, kit_tuple_bool, kit_tuple_int, kit_tuple_str, kit_tuple_list, kit_tuple_tuple, kit_tuple_dict, kit_dict_bool, kit_dict_int, kit_dict_str, kit_dict_list, kit_dict_tuple, kit_dict_dict, String.reduceEq, String.reduceNe, ne_eq, not_false_eq_true, not_true_eq_false, decide_false, decide_true, Bool.not_false, Bool.not_true, Bool.or_false, Bool.false_or, Bool.or_true, Bool.true_or, gTupH, wipe, tYes, exists_eq', exists_eq, exists_const, tFor_eq, tLc_eq, e1, e2]
      refine ⟨by decide, fun p hp => ?_⟩
      have n1 := ne_of_none e1 hp
      have n2 := ne_of_none e2 hp
      have l12 : xs1.length = xs2.length := k1.length.trans k2.length.symm
      rw [dpt] at hd
      obtain ⟨hln, hds⟩ := Bool.and_eq_true_iff.mp hd
      have hln := of_decide_eq_true hln
      simp only [tSeq, tAsg, tRet, tRetN, tIfS, tDrop, tNext, tBreak, tCont, tVar, tC, tOp, tUn, tB, tTest, tAnd, tOr, tNot, tAndV, tOrV, tNotV, tIf, tNil, tCons, tTup, tLst, tCB, tCallR, tMethR, tPropR, StX.tMakeR, tFld, sFld, sFldAug, tPar, tPar3, gName, gNil, gCons, gTup, gSub, rI, rI0, rU, rEq, rNe, mIxL, mIxT, mLenL, mLenT, mLenS, mLenD, mLenK, mList, mTupL, mInt, mAbs, mMax, mMin, mStr, mAddS, mIsN, mNotN, rIxS, rIxL, rSetL, rAppend, rExtendT, rPopAt, rCat, rIn, tBM, tBM0, tChain, tNever, scal, L2.start, cxK, iRng1, iRng2, tDNewK, tDGet, tDGet2, sDPut, tDIn, tDNotIn, DGet_dk, DPut_dk, IsD_dk, tyV_list, isLst_lst, isDk_dk, dkOf_dk, atI_0, atI_1, atI_2, atI_3, ixN_30, ixN_31, ixN_32, List.map, List.replicate, List.length_cons, List.length_nil, List.nil_append, List.cons_append, List.append_nil, Nat.reduceSub, Nat.reduceAdd, List.getElem?_cons_zero, List.getElem?_cons_succ, List.set_cons_zero, List.set_cons_succ, List.cons.injEq, Option.some.injEq, V.int.injEq, V.str.injEq, V.bl.injEq, V.ref.injEq, HO.ins.injEq, HO.lst.injEq, HO.tup.injEq, HO.dK.injEq, exists_eq_left, exists_eq_left', exists_eq_right, exists_eq_right', exists_and_left, exists_and_right, true_and, and_true, and_self, if_true, if_false, Bool.false_eq_true, Bool.true_eq_false, eq_self, reduceCtorEq, false_and, and_false, upd_same, upd_upd, and_assoc, Int.reduceToNat, Int.reducePow, Int.reduceMul, Int.reduceAdd, Int.reduceNeg, mIsi, mIsi2, kdV_non, kdV_bl, kdV_int, kdV_str, kdV_ref, kdO_lst, kdO_tup, kdO_dK, V.ty.injEq, mAll, mAny, kit_NoneType_bool, kit_NoneType_int, kit_NoneType_str, kit_NoneType_list, kit_NoneType_tuple, kit_NoneType_dict, kit_bool_bool, kit_bool_int, kit_bool_str, kit_bool_list, kit_bool_tuple, kit_bool_dict, kit_int_bool, kit_int_int, kit_int_str, kit_int_list, kit_int_tuple, kit_int_dict, kit_str_bool, kit_str_int, kit_str_str, kit_str_list, kit_str_tuple, kit_str_dict, kit_list_bool, kit_list_int, kit_list_str, kit_list_list, kit_list_tuple, kit_list_dict, kit_tuple_bool, kit_tuple_int, kit_tuple_str, kit_tuple_list, kit_tuple_tuple, kit_tuple_dict, kit_dict_bool, kit_dict_int, kit_dict_str, kit_dict_list, kit_dict_tuple, kit_dict_dict, String.reduceEq, String.reduceNe, ne_eq, not_false_eq_true, not_true_eq_false, decide_false, decide_true, Bool.not_false, Bool.not_true, Bool.or_false, Bool.false_or, Bool.or_true, Bool.true_or, gTupH, wipe, tYes, exists_eq', exists_eq, exists_const, tFor_eq, tLc_eq, upd_ne n1, upd_ne n2, e1, e2]
      have s0 : Same H (upd H p (.tup [.ty "tuple", .ty "list"])) := Same.new hp
      refine ⟨xs1.length, Or.inr ⟨xs1, SqT.of (s0 _ _ e1), rfl⟩, xs2.length, Or.inr ⟨xs2, SqT.of (s0 _ _ e2), rfl⟩, ?_⟩
      rw [if_pos (decide_eq_true (by rw [l12]))]
      generalize upd H p (.tup [.ty "tuple", .ty "list"]) = G at s0 ⊢
      simp only [RZ.iZipA, tCons, tNil, tVar]
      refine ⟨_, rfl, _, rfl, a1, a2, xs1, xs2, rfl, Or.inr ⟨SqT.of (s0 _ _ e1), SqT.of (s0 _ _ e2), fun D hD => ?_⟩⟩
      refine loopC_it (walk_zipT (K := K) (a := a1) (b := a2) (xs := xs1) (ys := xs2) (n := xs1.length) (by omega)) (fun i H' => Same G H' ∧ H' D = some (.lst (List.replicate i (.bl true)))) ⟨Same.new hD, ?_⟩ (fun i H' _ h => ⟨SqT.of (h.1 _ _ (s0 _ _ e1)), SqT.of (h.1 _ _ (s0 _ _ e2))⟩) (fun i x H' H'' hi h y => ?_) (fun H' h => ?_)
      · rw [upd_same]; rfl
      · obtain ⟨B, u, v, rfl, hB, rfl, hu, hv⟩ := y
        have hu' : xs1[i]? = some u := hu
        have hv' : xs2[i]? = some v := hv
        obtain ⟨h1, h2⟩ := h
        have nB : D ≠ B := ne_of_none h2 hB
        simp only [tSeq, tAsg, tRet, tRetN, tIfS, tDrop, tNext, tBreak, tCont, tVar, tC, tOp, tUn, tB, tTest, tAnd, tOr, tNot, tAndV, tOrV, tNotV, tIf, tNil, tCons, tTup, tLst, tCB, tCallR, tMethR, tPropR, StX.tMakeR, tFld, sFld, sFldAug, tPar, tPar3, gName, gNil, gCons, gTup, gSub, rI, rI0, rU, rEq, rNe, mIxL, mIxT, mLenL, mLenT, mLenS, mLenD, mLenK, mList, mTupL, mInt, mAbs, mMax, mMin, mStr, mAddS, mIsN, mNotN, rIxS, rIxL, rSetL, rAppend, rExtendT, rPopAt, rCat, rIn, tBM, tBM0, tChain, tNever, scal, L2.start, cxK, iRng1, iRng2, tDNewK, tDGet, tDGet2, sDPut, tDIn, tDNotIn, DGet_dk, DPut_dk, IsD_dk, tyV_list, isLst_lst, isDk_dk, dkOf_dk, atI_0, atI_1, atI_2, atI_3, ixN_30, ixN_31, ixN_32, List.map, List.replicate, List.length_cons, List.length_nil, List.nil_append, List.cons_append, List.append_nil, Nat.reduceSub, Nat.reduceAdd, List.getElem?_cons_zero, List.getElem?_cons_succ, List.set_cons_zero, List.set_cons_succ, List.cons.injEq, Option.some.injEq, V.int.injEq, V.str.injEq, V.bl.injEq, V.ref.injEq, HO.ins.injEq, HO.lst.injEq, HO.tup.injEq, HO.dK.injEq, exists_eq_left, exists_eq_left', exists_eq_right, exists_eq_right', exists_and_left, exists_and_right, true_and, and_true, and_self, if_true, if_false, Bool.false_eq_true, Bool.true_eq_false, eq_self, reduceCtorEq, false_and, and_false, upd_same, upd_upd, and_assoc, Int.reduceToNat, Int.reducePow, Int.reduceMul, Int.reduceAdd, Int.reduceNeg, mIsi, mIsi2, kdV_non, kdV_bl, kdV_int, kdV_str, kdV_ref, kdO_lst, kdO_tup, kdO_dK, V.ty.injEq, mAll, mAny, kit_NoneType_bool, kit_NoneType_int, kit_NoneType_str, kit_NoneType_list, kit_NoneType_tuple, kit_NoneType_dict, kit_bool_bool, kit_bool_int, kit_bool_str, kit_bool_list, kit_bool_tuple, kit_bool_dict, kit_int_bool, kit_int_int, kit_int_str, kit_int_list, kit_int_tuple, kit_int_dict, kit_str_bool, kit_str_int, kit_str_str, kit_str_list, kit_str_tuple, kit_str_dict, kit_list_bool, kit_list_int, kit_list_str, kit_list_list, kit_list_tuple, kit_list_dict, kit_tuple_bool, kit_tuple_int, kit_tuple_str, kit_tuple_list, kit_tuple_tuple, kit_tuple_dict, kit_dict_bool, kit_dict_int, kit_dict_str, kit_dict_list, kit_dict_tuple, kit_dict_dict, String.reduceEq, String.reduceNe, ne_eq, not_false_eq_true, not_true_eq_false, decide_false, decide_true, Bool.not_false, Bool.not_true, Bool.or_false, Bool.false_or, Bool.or_true, Bool.true_or, gTupH, wipe, tYes, exists_eq', exists_eq, exists_const, tFor_eq, tLc_eq, sp_l_same]
        obtain ⟨du, hdu, au⟩ := k1.get hu'
        obtain ⟨dv, hdv, av⟩ := k2.get hv'
        rw [hdu] at hdv
        injection hdv with hdv
        subst hdv
        have sB : Same H (upd H' B (.tup [u, v])) := Same.upd_new (s0.trans h1) hB
        refine ⟨du, Da.same sB _ _ au, Da.same sB _ _ av, dpts_get hds hdu, fun H2 s2 => ?_⟩
        refine ⟨_, s2 _ _ (by rw [upd_ne nB]; exact h2), ?_, ?_⟩
        · rw [List.length_replicate]
          have := k1.length
          exact Nat.lt_of_lt_of_le (show i < 100001 by omega) (by decide)
        · refine ⟨fun b o hb => ?_, ?_⟩
          · rw [upd_ne (ne_of_none hb hD)]
            exact s2 _ _ (Same.upd_new h1 hB _ _ hb)
          · rw [← List.replicate_succ', List.replicate_succ]
      · obtain ⟨h1, h2⟩ := h
        refine ⟨_, h2, List.replicate xs1.length true, by simp, ?_⟩
        have e : (List.replicate xs1.length true).all id = true := by simp
        rw [e]
        exact k _ (s0.trans h1)
theorem R_same_base {P : Program} {w : World} {K : PySem.W.Frag} {mg : Str → Option Value} {base : Heap} (T : Tx K mg) : FnR P w K mg base CX0 1 (He.ga K "_law_same") (sp_l_same 0) := by
  obtain ⟨fd, F⟩ := T.d_l_same
  refine My.FunD.R F sc_l_same (fun vs H Q E h => by obtain ⟨x, y, d, rfl, _⟩ := h; rfl) (fun _ _ _ _ _ _ us hl => match us, hl with | [_, _], _ => rfl) (fun cdv A outer s H vs Q E hr h => ?_)
  obtain ⟨x, y, d, rfl, hx, hy, hd, k⟩ := h
  refine ⟨_, (pss_cons (ps_if (PW.pt (pw_or (pt_cmpR isN (pv 1) pe_non (nomark _)) (pw_or1 (pt_val (pe_callB isi1 (by rfl) T.n_isinstance (by decide +kernel) (pa_cons (pv 1) (pa_cons (pe_bltn (v := .ty "bool") (by rfl) T.n_bool (by decide +kernel) rfl) pa_nil))))))) (pss_one (ps_ret (pe_ifExp (pt_cmpR isN (pv 1) pe_non (nomark _)) (pe_cmpR isN (pv 0) pe_non (nomark _)) (pe_and (pe_callB isi1 (by rfl) T.n_isinstance (by decide +kernel) (pa_cons (pv 0) (pa_cons (pe_bltn (v := .ty "bool") (by rfl) T.n_bool (by decide +kernel) rfl) pa_nil))) (pe_one (pe_cmpR op_eq (pv 0) (pv 1) (nomark _))))))) pss_nil)
      (pss_cons (ps_if (pt_cmpR op_ne (pe_callB isi1 (by rfl) T.n_isinstance (by decide +kernel) (pa_cons (pv 1) (pa_cons (pe_bltn (v := .ty "tuple") (by rfl) T.n_tuple (by decide +kernel) rfl) pa_nil))) (pe_callB isi1 (by rfl) T.n_isinstance (by decide +kernel) (pa_cons (pv 0) (pa_cons (pe_bltn (v := .ty "tuple") (by rfl) T.n_tuple (by decide +kernel) rfl) pa_nil))) (nomark _)) (pss_one (ps_ret pe_bl)) pss_nil)
      (pss_cons (ps_if (pt_cmpR op_ne (pe_callB isi1 (by rfl) T.n_isinstance (by decide +kernel) (pa_cons (pv 1) (pa_cons (pe_bltn (v := .ty "list") (by rfl) T.n_list (by decide +kernel) rfl) pa_nil))) (pe_callB isi1 (by rfl) T.n_isinstance (by decide +kernel) (pa_cons (pv 0) (pa_cons (pe_bltn (v := .ty "list") (by rfl) T.n_list (by decide +kernel) rfl) pa_nil))) (nomark _)) (pss_one (ps_ret pe_bl)) pss_nil)
      (pss_cons (ps_if (pt_val (pe_callB isi2 (by rfl) T.n_isinstance (by decide +kernel) (pa_cons (pv 1) (pa_cons (pe_tup (pa_cons (pe_bltn (v := .ty "tuple") (by rfl) T.n_tuple (by decide +kernel) rfl) (pa_cons (pe_bltn (v := .ty "list") (by rfl) T.n_list (by decide +kernel) rfl) pa_nil))) pa_nil)))) (pss_one ps_never) pss_nil)
      (pss_cons (ps_if (pt_val (pe_callB isi1 (by rfl) T.n_isinstance (by decide +kernel) (pa_cons (pv 1) (pa_cons (pe_bltn (v := .ty "int") (by rfl) T.n_int (by decide +kernel) rfl) pa_nil)))) (pss_one (ps_ret (pe_and (pe_callB isi1 (by rfl) T.n_isinstance (by decide +kernel) (pa_cons (pv 0) (pa_cons (pe_bltn (v := .ty "int") (by rfl) T.n_int (by decide +kernel) rfl) pa_nil))) (pe_and (pe_not (pe_callB isi1 (by rfl) T.n_isinstance (by decide +kernel) (pa_cons (pv 0) (pa_cons (pe_bltn (v := .ty "bool") (by rfl) T.n_bool (by decide +kernel) rfl) pa_nil)))) (pe_one (pe_cmpR op_eq (pv 0) (pv 1) (nomark _))))))) pss_nil)
      (pss_one (ps_ret (pe_and (pe_callB isi1 (by rfl) T.n_isinstance (by decide +kernel) (pa_cons (pv 0) (pa_cons (pe_bltn (v := .ty "str") (by rfl) T.n_str (by decide +kernel) rfl) pa_nil))) (pe_one (pe_cmpR op_eq (pv 0) (pv 1) (nomark _))))))))))), ?_⟩
  cases hx with
  | non => cases hy with
    | non =>
      simp only [tSeq, tAsg, tRet, tRetN, tIfS, tDrop, tNext, tBreak, tCont, tVar, tC, tOp, tUn, tB, tTest, tAnd, tOr, tNot, tAndV, tOrV, tNotV, tIf, tNil, tCons, tTup, tLst, tCB, tCallR, tMethR, tPropR, StX.tMakeR, tFld, sFld, sFldAug, tPar, tPar3, gName, gNil, gCons, gTup, gSub, rI, rI0, rU, rEq, rNe, mIxL, mIxT, mLenL, mLenT, mLenS, mLenD, mLenK, mList, mTupL, mInt, mAbs, mMax, mMin, mStr, mAddS, mIsN, mNotN, rIxS, rIxL, rSetL, rAppend, rExtendT, rPopAt, rCat, rIn, tBM, tBM0, tChain, tNever, scal, L2.start, cxK, iRng1, iRng2, tDNewK, tDGet, tDGet2, sDPut, tDIn, tDNotIn, DGet_dk, DPut_dk, IsD_dk, tyV_list, isLst_lst, isDk_dk, dkOf_dk, atI_0, atI_1, atI_2, atI_3, ixN_30, ixN_31, ixN_32, List.map, List.replicate, List.length_cons, List.length_nil, List.nil_append, List.cons_append, List.append_nil, Nat.reduceSub, Nat.reduceAdd, List.getElem?_cons_zero, List.getElem?_cons_succ, List.set_cons_zero, List.set_cons_succ, List.cons.injEq, Option.some.injEq, V.int.injEq, V.str.injEq, V.bl.injEq, V.ref.injEq, HO.ins.injEq, HO.lst.injEq, HO.tup.injEq, HO.dK.injEq, exists_eq_left, exists_eq_left', exists_eq_right, exists_eq_right', exists_and_left, exists_and_right, true_and, and_true, and_self, if_true, if_false, Bool.false_eq_true, Bool.true_eq_false, eq_self, reduceCtorEq, false_and, and_false, upd_same, upd_upd, and_assoc, Int.reduceToNat, Int.reducePow, Int.reduceMul, Int.reduceAdd, Int.reduceNeg, mIsi, mIsi2, kdV_non, kdV_bl, kdV_int, kdV_str, kdV_ref, kdO_lst, kdO_tup, kdO_dK, V.ty.injEq, mAll, mAny, kit_NoneType_bool, kit_NoneType_int, kit_NoneType_str, kit_NoneType_list, kit_NoneType_tuple, kit_NoneType_dict, kit_bool_bool, kit_bool_int, kit_bool_str, kit_bool_list, kit_bool_tuple, kit_bool_dict, kit_int_bool, kit_int_int, kit_int_str, kit_int_list, kit_int_tuple, kit_int_dict, kit_str_bool, kit_str_int, kit_str_str, kit_str_list, kit_str_tuple, kit_str_dict, kit_list_bool, kit_list_int, kit_list_str, kit_list_list, kit_list_tuple, kit_list_dict, kit_tuple_bool, kit_tuple_int, kit_tuple_str, kit_tuple_list, kit_tuple_tuple, kit_tuple_dict, kit_dict_bool, kit_dict_int, kit_dict_str, kit_dict_list, kit_dict_tuple, kit_dict_dict, String.reduceEq, String.reduceNe, ne_eq, not_false_eq_true, not_true_eq_false, decide_false, decide_true, Bool.not_false, Bool.not_true, Bool.or_false, Bool.false_or, Bool.or_true, Bool.true_or, gTupH, wipe, tYes, exists_eq', exists_eq, exists_const, tFor_eq, tLc_eq]
      exact k H (Same.refl H)
  | bl b => cases hy with
    | bl b =>
      simp only [tSeq, tAsg, tRet, tRetN, tIfS, tDrop, tNext, tBreak, tCont, tVar, tC, tOp, tUn, tB, tTest, tAnd, tOr, tNot, tAndV, tOrV, tNotV, tIf, tNil, tCons, tTup, tLst, tCB, tCallR, tMethR, tPropR, StX.tMakeR, tFld, sFld, sFldAug, tPar, tPar3, gName, gNil, gCons, gTup, gSub, rI, rI0, rU, rEq, rNe, mIxL, mIxT, mLenL, mLenT, mLenS, mLenD, mLenK, mList, mTupL, mInt, mAbs, mMax, mMin, mStr, mAddS, mIsN, mNotN, rIxS, rIxL, rSetL, rAppend, rExtendT, rPopAt, rCat, rIn, tBM, tBM0, tChain, tNever, scal, L2.start, cxK, iRng1, iRng2, tDNewK, tDGet, tDGet2, sDPut, tDIn, tDNotIn, DGet_dk, DPut_dk, IsD_dk, tyV_list, isLst_lst, isDk_dk, dkOf_dk, atI_0, atI_1, atI_2, atI_3, ixN_30, ixN_31, ixN_32, List.map, List.replicate, List.length_cons, List.length_nil, List.nil_append, List.cons_append, List.append_nil, Nat.reduceSub, Nat.reduceAdd, List.getElem?_cons_zero, List.getElem?_cons_succ, List.set_cons_zero, List.set_cons_succ, List.cons.injEq, Option.some.injEq, V.int.injEq, V.str.injEq, V.bl.injEq, V.ref.injEq, HO.ins.injEq, HO.lst.injEq, HO.tup.injEq, HO.dK.injEq, exists_eq_left, exists_eq_left', exists_eq_right, exists_eq_right', exists_and_left, exists_and_right, true_and, and_true, and_self, if_true, if_false, Bool.false_eq_true, Bool.true_eq_false, eq_self, reduceCtorEq, false_and, and_false, upd_same, upd_upd, and_assoc, Int.reduceToNat, Int.reducePow, Int.reduceMul, Int.reduceAdd, Int.reduceNeg, mIsi, mIsi2, kdV_non, kdV_bl, kdV_int, kdV_str, kdV_ref, kdO_lst, kdO_tup, kdO_dK, V.ty.injEq, mAll, mAny, kit_NoneType_bool, kit_NoneType_int, kit_NoneType_str, kit_NoneType_list, kit_NoneType_tuple, kit_NoneType_dict, kit_bool_bool, kit_bool_int, kit_bool_str, kit_bool_list, kit_bool_tuple, kit_bool_dict, kit_int_bool, kit_int_int, kit_int_str, kit_int_list, kit_int_tuple, kit_int_dict, kit_str_bool, kit_str_int, kit_str_str, kit_str_list, kit_str_tuple, kit_str_dict, kit_list_bool, kit_list_int, kit_list_str, kit_list_list, kit_list_tuple, kit_list_dict, kit_tuple_bool, kit_tuple_int, kit_tuple_str, kit_tuple_list, kit_tuple_tuple, kit_tuple_dict, kit_dict_bool, kit_dict_int, kit_dict_str, kit_dict_list, kit_dict_tuple, kit_dict_dict, String.reduceEq, String.reduceNe, ne_eq, not_false_eq_true, not_true_eq_false, decide_false, decide_true, Bool.not_false, Bool.not_true, Bool.or_false, Bool.false_or, Bool.or_true, Bool.true_or, gTupH, wipe, tYes, exists_eq', exists_eq, exists_const, tFor_eq, tLc_eq]
      exact k H (Same.refl H)
  | int i => cases hy with
    | int i =>
      simp only [tSeq, tAsg, tRet, tRetN, tIfS, tDrop, tNext, tBreak, tCont, tVar, tC, tOp, tUn, tB, tTest, tAnd, tOr, tNot, tAndV, tOrV, tNotV, tIf, tNil, tCons, tTup, tLst, tCB, tCallR, tMethR, tPropR, StX.tMakeR, tFld, sFld, sFldAug, tPar, tPar3, gName, gNil, gCons, gTup, gSub, rI, rI0, rU, rEq, rNe, mIxL, mIxT, mLenL, mLenT, mLenS, mLenD, mLenK, mList, mTupL, mInt, mAbs, mMax, mMin, mStr, mAddS, mIsN, mNotN, rIxS, rIxL, rSetL, rAppend, rExtendT, rPopAt, rCat, rIn, tBM, tBM0, tChain, tNever, scal, L2.start, cxK, iRng1, iRng2, tDNewK, tDGet, tDGet2, sDPut, tDIn, tDNotIn, DGet_dk, DPut_dk, IsD_dk, tyV_list, isLst_lst, isDk_dk, dkOf_dk, atI_0, atI_1, atI_2, atI_3, ixN_30, ixN_31, ixN_32, List.map, List.replicate, List.length_cons, List.length_nil, List.nil_append, List.cons_append, List.append_nil, Nat.reduceSub, Nat.reduceAdd, List.getElem?_cons_zero, List.getElem?_cons_succ, List.set_cons_zero, List.set_cons_succ, List.cons.injEq, Option.some.injEq, V.int.injEq, V.str.injEq, V.bl.injEq, V.ref.injEq, HO.ins.injEq, HO.lst.injEq, HO.tup.injEq, HO.dK.injEq, exists_eq_left, exists_eq_left', exists_eq_right, exists_eq_right', exists_and_left, exists_and_right, true_and, and_true, and_self, if_true, if_false, Bool.false_eq_true, Bool.true_eq_false, eq_self, reduceCtorEq, false_and, and_false, upd_same, upd_upd, and_assoc, Int.reduceToNat, Int.reducePow, Int.reduceMul, Int.reduceAdd, Int.reduceNeg, mIsi, mIsi2, kdV_non, kdV_bl, kdV_int, kdV_str, kdV_ref, kdO_lst, kdO_tup, kdO_dK, V.ty.injEq, mAll, mAny, kit_NoneType_bool, kit_NoneType_int, kit_NoneType_str, kit_NoneType_list, kit_NoneType_tuple, kit_NoneType_dict, kit_bool_bool, kit_bool_int, kit_bool_str, kit_bool_list, kit_bool_tuple, kit_bool_dict, kit_int_bool, kit_int_int, kit_int_str, kit_int_list, kit_int_tuple, kit_int_dict, kit_str_bool, kit_str_int, kit_str_str, kit_str_list, kit_str_tuple, kit_str_dict, kit_list_bool, kit_list_int, kit_list_str, kit_list_list, kit_list_tuple, kit_list_dict, kit_tuple_bool, kit_tuple_int, kit_tuple_str, kit_tuple_list, kit_tuple_tuple, kit_tuple_dict, kit_dict_bool, kit_dict_int, kit_dict_str, kit_dict_list, kit_dict_tuple, kit_dict_dict, String.reduceEq, String.reduceNe, ne_eq, not_false_eq_true, not_true_eq_false, decide_false, decide_true, Bool.not_false, Bool.not_true, Bool.or_false, Bool.false_or, Bool.or_true, Bool.true_or, gTupH, wipe, tYes, exists_eq', exists_eq, exists_const, tFor_eq, tLc_eq]
      exact ⟨by decide, fun p hp => k _ (Same.new hp)⟩
  | str i => cases hy with
    | str i =>
      simp only [tSeq, tAsg, tRet, tRetN, tIfS, tDrop, tNext, tBreak, tCont, tVar, tC, tOp, tUn, tB, tTest, tAnd, tOr, tNot, tAndV, tOrV, tNotV, tIf, tNil, tCons, tTup, tLst, tCB, tCallR, tMethR, tPropR, StX.tMakeR, tFld, sFld, sFldAug, tPar, tPar3, gName, gNil, gCons, gTup, gSub, rI, rI0, rU, rEq, rNe, mIxL, mIxT, mLenL, mLenT, mLenS, mLenD, mLenK, mList, mTupL, mInt, mAbs, mMax, mMin, mStr, mAddS, mIsN, mNotN, rIxS, rIxL, rSetL, rAppend, rExtendT, rPopAt, rCat, rIn, tBM, tBM0, tChain, tNever, scal, L2.start, cxK, iRng1, iRng2, tDNewK, tDGet, tDGet2, sDPut, tDIn, tDNotIn, DGet_dk, DPut_dk, IsD_dk, tyV_list, isLst_lst, isDk_dk, dkOf_dk, atI_0, atI_1, atI_2, atI_3, ixN_30, ixN_31, ixN_32, List.map, List.replicate, List.length_cons, List.length_nil, List.nil_append, List.cons_append, List.append_nil, Nat.reduceSub, Nat.reduceAdd, List.getElem?_cons_zero, List.getElem?_cons_succ, List.set_cons_zero, List.set_cons_succ, List.cons.injEq, Option.some.injEq, V.int.injEq, V.str.injEq, V.bl.injEq, V.ref.injEq, HO.ins.injEq, HO.lst.injEq, HO.tup.injEq, HO.dK.injEq, exists_eq_left, exists_eq_left', exists_eq_right, exists_eq_right', exists_and_left, exists_and_right, true_and, and_true, and_self, if_true, if_false, Bool.false_eq_true, Bool.true_eq_false, eq_self, reduceCtorEq, false_and, and_false, upd_same, upd_upd, and_assoc, Int.reduceToNat, Int.reducePow, Int.reduceMul, Int.reduceAdd, Int.reduceNeg, mIsi, mIsi2, kdV_non, kdV_bl, kdV_int, kdV_str, kdV_ref, kdO_lst, kdO_tup, kdO_dK, V.ty.injEq, mAll, mAny, kit_NoneType_bool, kit_NoneType_int, kit_NoneType_str, kit_NoneType_list, kit_NoneType_tuple, kit_NoneType_dict, kit_bool_bool, kit_bool_int, kit_bool_str, kit_bool_list, kit_bool_tuple, kit_bool_dict, kit_int_bool, kit_int_int, kit_int_str, kit_int_list, kit_int_tuple, kit_int_dict, kit_str_bool, kit_str_int, kit_str_str, kit_str_list, kit_str_tuple, kit_str_dict, kit_list_bool, kit_list_int, kit_list_str, kit_list_list, kit_list_tuple, kit_list_dict, kit_tuple_bool, kit_tuple_int, kit_tuple_str, kit_tuple_list, kit_tuple_tuple, kit_tuple_dict, kit_dict_bool, kit_dict_int, kit_dict_str, kit_dict_list, kit_dict_tuple, kit_dict_dict, String.reduceEq, String.reduceNe, ne_eq, not_false_eq_true, not_true_eq_false, decide_false, decide_true, Bool.not_false, Bool.not_true, Bool.or_false, Bool.false_or, Bool.or_true, Bool.true_or, gTupH, wipe, tYes, exists_eq', exists_eq, exists_const, tFor_eq, tLc_eq]
      exact ⟨by decide, fun p hp => k _ (Same.new hp)⟩
  | lst e1 k1 => cases hd
  | tup e1 k1 => cases hd
theorem R_same {P : Program} {w : World} {K : PySem.W.Frag} {mg : Str → Option Value} {base : Heap} (T : Tx K mg) : ∀ n : Nat, FnR P w K mg base CX0 (n + 1) (He.ga K "_law_same") (sp_l_same n)
  | 0 => R_same_base T
  | n + 1 => R_same_step T n (R_same T n)
/-- to the depth 4 -/
theorem R_l_same {P : Program} {w : World} {K : PySem.W.Frag} {mg : Str → Option Value} {base : Heap} (T : Tx K mg) : FnR P w K mg base CX0 5 (He.ga K "_law_same") (sp_l_same 4) := R_same T 4
end K30

set_option Elab.async false
set_option linter.all false
set_option maxRecDepth 100000
set_option maxHeartbeats 4000000
namespace K30
open PySem PySem.Spec PyProof.Rows L2 My
theorem Kp2.trans {a l : Addr} {H H1 H2 : Hp} (x : Kp2 a l H H1) (y : Kp2 a l H1 H2) : Kp2 a l H H2 := fun b o n1 n2 h => y b o n1 n2 (x b o n1 n2 h)
theorem Kp2.same {a l : Addr} {H H1 : Hp} (x : Same H H1) : Kp2 a l H H1 := fun b o _ _ h => x b o h
theorem LineAt.same {K : PySem.W.Frag} {H H1 : Hp} {a l : Addr} {m g : Str} {q : List Str} (x : LineAt K H a l m q g) (s : Same H H1) : LineAt K H1 a l m q g := ⟨let ⟨dx, h⟩ := x.ob; ⟨dx, s _ _ h⟩, s _ _ x.qu, x.ne, x.sz⟩
def sp_l_asked (K : PySem.W.Frag) : Sp := fun vs H Q _ => ∃ (a l : Addr) (q : List Str) (g t : Str) (i : Int), vs = [.ref a, .str t, .int i] ∧ LineAt K H a l "whole" q g ∧ q.length < 1000 ∧ ∀ H' g', LineAt K H' a l "whole" (q ++ [t]) g' → Kp2 a l H H' → Q (.bl true) H'
theorem R_l_asked {P : Program} {w : World} {K : PySem.W.Frag} {mg : Str → Option Value} {base : Heap} (T : Tx K mg) : FnR P w K mg base CX0 11 (He.ga K "_law_asked") (sp_l_asked K) := by
  obtain ⟨fd, F⟩ := T.d_l_asked
  refine My.FunD.R F sc_l_asked (fun vs H Q E h => by obtain ⟨a, l, q, g, t, i, rfl, hL, hz, k⟩ := h; rfl) (fun _ _ _ _ _ _ us hl => match us, hl with | [_, _, _], _ => rfl) (fun cdv A outer s H vs Q E hr h => ?_)
  obtain ⟨a, l, q, g, t, i, rfl, hL, hz, k⟩ := h
  refine ⟨_, (pss_cons (ps_if (pt_cmpR op_eq (pv 2) pe_int (nomark _)) (pss_cons (ps_expr (pe_methR (pv 0) T.c_Line T.m_Line_ask (R_Line_ask T) (hr.mono (by decide)) pass0 (pa_cons (pv 1) pa_nil)))
      (pss_one (ps_ret pe_bl))) pss_nil)
      (pss_cons (ps_expr (pe_methR (pv 0) T.c_Line T.m_Line_begin (R_Line_begin T) (hr.mono (by decide)) pass0 (pa_cons (pv 1) pa_nil)))
      (pss_cons (ps_set (i := 3) sc_l_asked.nd rfl (by first | exact Or.inl rfl | exact Or.inr rfl) (pe_propR (pv 0) T.c_Line T.p_Line_mark (R_Line_mark T) (hr.mono (by decide)) pass0 rfl))
      (pss_cons (ps_expr (pe_methR0 (pv 0) T.c_Line T.m_Line_finish (R_Line_finish T) (hr.mono (by decide)) pass0))
      (pss_one (ps_ret (pe_and (pe_callR (R_l_same T) (hr.mono (by decide)) rfl T.g__law_same T.k__law_same pass0 (pa_cons (pv 3) (pa_cons pe_str pa_nil))) (pe_one (pe_callR (R_l_same T) (hr.mono (by decide)) rfl T.g__law_same T.k__law_same pass0 (pa_cons (pe_propR (pv 0) T.c_Line T.p_Line_mark (R_Line_mark T) (hr.mono (by decide)) pass0 rfl) (pa_cons pe_str pa_nil))))))))))), ?_⟩
  obtain ⟨dx, ha⟩ := hL.ob
  simp only [tSeq, tAsg, tRet, tRetN, tIfS, tDrop, tNext, tBreak, tCont, tVar, tC, tOp, tUn, tB, tTest, tAnd, tOr, tNot, tAndV, tOrV, tNotV, tIf, tNil, tCons, tTup, tLst, tCB, tCallR, tMethR, tPropR, StX.tMakeR, tFld, sFld, sFldAug, tPar, tPar3, gName, gNil, gCons, gTup, gSub, rI, rI0, rU, rEq, rNe, mIxL, mIxT, mLenL, mLenT, mLenS, mLenD, mLenK, mList, mTupL, mInt, mAbs, mMax, mMin, mStr, mAddS, mIsN, mNotN, rIxS, rIxL, rSetL, rAppend, rExtendT, rPopAt, rCat, rIn, tBM, tBM0, tChain, tNever, scal, L2.start, cxK, iRng1, iRng2, tDNewK, tDGet, tDGet2, sDPut, tDIn, tDNotIn, DGet_dk, DPut_dk, IsD_dk, tyV_list, isLst_lst, isDk_dk, dkOf_dk, atI_0, atI_1, atI_2, atI_3, ixN_30, ixN_31, ixN_32, List.map, List.replicate, List.length_cons, List.length_nil, List.nil_append, List.cons_append, List.append_nil, Nat.reduceSub, Nat.reduceAdd, List.getElem?_cons_zero, List.getElem?_cons_succ, List.set_cons_zero, List.set_cons_succ, List.cons.injEq, Option.some.injEq, V.int.injEq, V.str.injEq, V.bl.injEq, V.ref.injEq, HO.ins.injEq, HO.lst.injEq, HO.tup.injEq, HO.dK.injEq, exists_eq_left, exists_eq_left', exists_eq_right, exists_eq_right', exists_and_left, exists_and_right, true_and, and_true, and_self, if_true, if_false, Bool.false_eq_true, Bool.true_eq_false, eq_self, reduceCtorEq, false_and, and_false, upd_same, upd_upd, and_assoc, Int.reduceToNat, Int.reducePow, Int.reduceMul, Int.reduceAdd, Int.reduceNeg, mIsi, mIsi2, kdV_non, kdV_bl, kdV_int, kdV_str, kdV_ref, kdO_lst, kdO_tup, kdO_dK, V.ty.injEq, mAll, mAny, kit_NoneType_bool, kit_NoneType_int, kit_NoneType_str, kit_NoneType_list, kit_NoneType_tuple, kit_NoneType_dict, kit_bool_bool, kit_bool_int, kit_bool_str, kit_bool_list, kit_bool_tuple, kit_bool_dict, kit_int_bool, kit_int_int, kit_int_str, kit_int_list, kit_int_tuple, kit_int_dict, kit_str_bool, kit_str_int, kit_str_str, kit_str_list, kit_str_tuple, kit_str_dict, kit_list_bool, kit_list_int, kit_list_str, kit_list_list, kit_list_tuple, kit_list_dict, kit_tuple_bool, kit_tuple_int, kit_tuple_str, kit_tuple_list, kit_tuple_tuple, kit_tuple_dict, kit_dict_bool, kit_dict_int, kit_dict_str, kit_dict_list, kit_dict_tuple, kit_dict_dict, String.reduceEq, String.reduceNe, ne_eq, not_false_eq_true, not_true_eq_false, decide_false, decide_true, Bool.not_false, Bool.not_true, Bool.or_false, Bool.false_or, Bool.or_true, Bool.true_or, gTupH, wipe, tYes, exists_eq', exists_eq, exists_const, tFor_eq, tLc_eq, ha, ln_ask, ln_begin]
  refine ite_dec (fun _ => ?_) (fun _ => ?_)
  · exact ⟨a, l, "whole", q, [t], g, rfl, hL, rfl, by simp; omega, fun H' h1 h2 => k H' g h1 h2⟩
  · refine ⟨a, l, "whole", q, g, t, rfl, hL, rfl, fun H1 L1 k1 => ?_⟩
    obtain ⟨dx1, ha1⟩ := L1.ob
    simp only [tSeq, tAsg, tRet, tRetN, tIfS, tDrop, tNext, tBreak, tCont, tVar, tC, tOp, tUn, tB, tTest, tAnd, tOr, tNot, tAndV, tOrV, tNotV, tIf, tNil, tCons, tTup, tLst, tCB, tCallR, tMethR, tPropR, StX.tMakeR, tFld, sFld, sFldAug, tPar, tPar3, gName, gNil, gCons, gTup, gSub, rI, rI0, rU, rEq, rNe, mIxL, mIxT, mLenL, mLenT, mLenS, mLenD, mLenK, mList, mTupL, mInt, mAbs, mMax, mMin, mStr, mAddS, mIsN, mNotN, rIxS, rIxL, rSetL, rAppend, rExtendT, rPopAt, rCat, rIn, tBM, tBM0, tChain, tNever, scal, L2.start, cxK, iRng1, iRng2, tDNewK, tDGet, tDGet2, sDPut, tDIn, tDNotIn, DGet_dk, DPut_dk, IsD_dk, tyV_list, isLst_lst, isDk_dk, dkOf_dk, atI_0, atI_1, atI_2, atI_3, ixN_30, ixN_31, ixN_32, List.map, List.replicate, List.length_cons, List.length_nil, List.nil_append, List.cons_append, List.append_nil, Nat.reduceSub, Nat.reduceAdd, List.getElem?_cons_zero, List.getElem?_cons_succ, List.set_cons_zero, List.set_cons_succ, List.cons.injEq, Option.some.injEq, V.int.injEq, V.str.injEq, V.bl.injEq, V.ref.injEq, HO.ins.injEq, HO.lst.injEq, HO.tup.injEq, HO.dK.injEq, exists_eq_left, exists_eq_left', exists_eq_right, exists_eq_right', exists_and_left, exists_and_right, true_and, and_true, and_self, if_true, if_false, Bool.false_eq_true, Bool.true_eq_false, eq_self, reduceCtorEq, false_and, and_false, upd_same, upd_upd, and_assoc, Int.reduceToNat, Int.reducePow, Int.reduceMul, Int.reduceAdd, Int.reduceNeg, mIsi, mIsi2, kdV_non, kdV_bl, kdV_int, kdV_str, kdV_ref, kdO_lst, kdO_tup, kdO_dK, V.ty.injEq, mAll, mAny, kit_NoneType_bool, kit_NoneType_int, kit_NoneType_str, kit_NoneType_list, kit_NoneType_tuple, kit_NoneType_dict, kit_bool_bool, kit_bool_int, kit_bool_str, kit_bool_list, kit_bool_tuple, kit_bool_dict, kit_int_bool, kit_int_int, kit_int_str, kit_int_list, kit_int_tuple, kit_int_dict, kit_str_bool, kit_str_int, kit_str_str, kit_str_list, kit_str_tuple, kit_str_dict, kit_list_bool, kit_list_int, kit_list_str, kit_list_list, kit_list_tuple, kit_list_dict, kit_tuple_bool, kit_tuple_int, kit_tuple_str, kit_tuple_list, kit_tuple_tuple, kit_tuple_dict, kit_dict_bool, kit_dict_int, kit_dict_str, kit_dict_list, kit_dict_tuple, kit_dict_dict, String.reduceEq, String.reduceNe, ne_eq, not_false_eq_true, not_true_eq_false, decide_false, decide_true, Bool.not_false, Bool.not_true, Bool.or_false, Bool.false_or, Bool.or_true, Bool.true_or, gTupH, wipe, tYes, exists_eq', exists_eq, exists_const, tFor_eq, tLc_eq, ha1, ln_finish, sp_Line_mark]
    refine ⟨l, _, ⟨q, t, L1⟩, ⟨a, l, _, q, t, rfl, L1, rfl, hz, fun H2 A2 k2 => ?_⟩⟩
    obtain ⟨dx2, ha2⟩ := A2.ob
    simp only [tSeq, tAsg, tRet, tRetN, tIfS, tDrop, tNext, tBreak, tCont, tVar, tC, tOp, tUn, tB, tTest, tAnd, tOr, tNot, tAndV, tOrV, tNotV, tIf, tNil, tCons, tTup, tLst, tCB, tCallR, tMethR, tPropR, StX.tMakeR, tFld, sFld, sFldAug, tPar, tPar3, gName, gNil, gCons, gTup, gSub, rI, rI0, rU, rEq, rNe, mIxL, mIxT, mLenL, mLenT, mLenS, mLenD, mLenK, mList, mTupL, mInt, mAbs, mMax, mMin, mStr, mAddS, mIsN, mNotN, rIxS, rIxL, rSetL, rAppend, rExtendT, rPopAt, rCat, rIn, tBM, tBM0, tChain, tNever, scal, L2.start, cxK, iRng1, iRng2, tDNewK, tDGet, tDGet2, sDPut, tDIn, tDNotIn, DGet_dk, DPut_dk, IsD_dk, tyV_list, isLst_lst, isDk_dk, dkOf_dk, atI_0, atI_1, atI_2, atI_3, ixN_30, ixN_31, ixN_32, List.map, List.replicate, List.length_cons, List.length_nil, List.nil_append, List.cons_append, List.append_nil, Nat.reduceSub, Nat.reduceAdd, List.getElem?_cons_zero, List.getElem?_cons_succ, List.set_cons_zero, List.set_cons_succ, List.cons.injEq, Option.some.injEq, V.int.injEq, V.str.injEq, V.bl.injEq, V.ref.injEq, HO.ins.injEq, HO.lst.injEq, HO.tup.injEq, HO.dK.injEq, exists_eq_left, exists_eq_left', exists_eq_right, exists_eq_right', exists_and_left, exists_and_right, true_and, and_true, and_self, if_true, if_false, Bool.false_eq_true, Bool.true_eq_false, eq_self, reduceCtorEq, false_and, and_false, upd_same, upd_upd, and_assoc, Int.reduceToNat, Int.reducePow, Int.reduceMul, Int.reduceAdd, Int.reduceNeg, mIsi, mIsi2, kdV_non, kdV_bl, kdV_int, kdV_str, kdV_ref, kdO_lst, kdO_tup, kdO_dK, V.ty.injEq, mAll, mAny, kit_NoneType_bool, kit_NoneType_int, kit_NoneType_str, kit_NoneType_list, kit_NoneType_tuple, kit_NoneType_dict, kit_bool_bool, kit_bool_int, kit_bool_str, kit_bool_list, kit_bool_tuple, kit_bool_dict, kit_int_bool, kit_int_int, kit_int_str, kit_int_list, kit_int_tuple, kit_int_dict, kit_str_bool, kit_str_int, kit_str_str, kit_str_list, kit_str_tuple, kit_str_dict, kit_list_bool, kit_list_int, kit_list_str, kit_list_list, kit_list_tuple, kit_list_dict, kit_tuple_bool, kit_tuple_int, kit_tuple_str, kit_tuple_list, kit_tuple_tuple, kit_tuple_dict, kit_dict_bool, kit_dict_int, kit_dict_str, kit_dict_list, kit_dict_tuple, kit_dict_dict, String.reduceEq, String.reduceNe, ne_eq, not_false_eq_true, not_true_eq_false, decide_false, decide_true, Bool.not_false, Bool.not_true, Bool.or_false, Bool.false_or, Bool.or_true, Bool.true_or, gTupH, wipe, tYes, exists_eq', exists_eq, exists_const, tFor_eq, tLc_eq, sp_l_same]
    refine ⟨.str "out", .str _, .str _, rfl, fun H3 s3 => ?_⟩
    have L3 := A2.same s3
    obtain ⟨dx3, ha3⟩ := L3.ob
    simp only [tSeq, tAsg, tRet, tRetN, tIfS, tDrop, tNext, tBreak, tCont, tVar, tC, tOp, tUn, tB, tTest, tAnd, tOr, tNot, tAndV, tOrV, tNotV, tIf, tNil, tCons, tTup, tLst, tCB, tCallR, tMethR, tPropR, StX.tMakeR, tFld, sFld, sFldAug, tPar, tPar3, gName, gNil, gCons, gTup, gSub, rI, rI0, rU, rEq, rNe, mIxL, mIxT, mLenL, mLenT, mLenS, mLenD, mLenK, mList, mTupL, mInt, mAbs, mMax, mMin, mStr, mAddS, mIsN, mNotN, rIxS, rIxL, rSetL, rAppend, rExtendT, rPopAt, rCat, rIn, tBM, tBM0, tChain, tNever, scal, L2.start, cxK, iRng1, iRng2, tDNewK, tDGet, tDGet2, sDPut, tDIn, tDNotIn, DGet_dk, DPut_dk, IsD_dk, tyV_list, isLst_lst, isDk_dk, dkOf_dk, atI_0, atI_1, atI_2, atI_3, ixN_30, ixN_31, ixN_32, List.map, List.replicate, List.length_cons, List.length_nil, List.nil_append, List.cons_append, List.append_nil, Nat.reduceSub, Nat.reduceAdd, List.getElem?_cons_zero, List.getElem?_cons_succ, List.set_cons_zero, List.set_cons_succ, List.cons.injEq, Option.some.injEq, V.int.injEq, V.str.injEq, V.bl.injEq, V.ref.injEq, HO.ins.injEq, HO.lst.injEq, HO.tup.injEq, HO.dK.injEq, exists_eq_left, exists_eq_left', exists_eq_right, exists_eq_right', exists_and_left, exists_and_right, true_and, and_true, and_self, if_true, if_false, Bool.false_eq_true, Bool.true_eq_false, eq_self, reduceCtorEq, false_and, and_false, upd_same, upd_upd, and_assoc, Int.reduceToNat, Int.reducePow, Int.reduceMul, Int.reduceAdd, Int.reduceNeg, mIsi, mIsi2, kdV_non, kdV_bl, kdV_int, kdV_str, kdV_ref, kdO_lst, kdO_tup, kdO_dK, V.ty.injEq, mAll, mAny, kit_NoneType_bool, kit_NoneType_int, kit_NoneType_str, kit_NoneType_list, kit_NoneType_tuple, kit_NoneType_dict, kit_bool_bool, kit_bool_int, kit_bool_str, kit_bool_list, kit_bool_tuple, kit_bool_dict, kit_int_bool, kit_int_int, kit_int_str, kit_int_list, kit_int_tuple, kit_int_dict, kit_str_bool, kit_str_int, kit_str_str, kit_str_list, kit_str_tuple, kit_str_dict, kit_list_bool, kit_list_int, kit_list_str, kit_list_list, kit_list_tuple, kit_list_dict, kit_tuple_bool, kit_tuple_int, kit_tuple_str, kit_tuple_list, kit_tuple_tuple, kit_tuple_dict, kit_dict_bool, kit_dict_int, kit_dict_str, kit_dict_list, kit_dict_tuple, kit_dict_dict, String.reduceEq, String.reduceNe, ne_eq, not_false_eq_true, not_true_eq_false, decide_false, decide_true, Bool.not_false, Bool.not_true, Bool.or_false, Bool.false_or, Bool.or_true, Bool.true_or, gTupH, wipe, tYes, exists_eq', exists_eq, exists_const, tFor_eq, tLc_eq, ha3, sp_Line_mark]
    refine ⟨l, _, ⟨_, _, L3⟩, .str "whole", .str _, .str _, rfl, fun H4 s4 => ?_⟩
    exact k H4 t (L3.same s4) (k1.trans (k2.trans ((Kp2.same s3).trans (Kp2.same s4))))
def sp_l_answered (K : PySem.W.Frag) : Sp := fun vs H Q _ => ∃ (a l : Addr) (q : List Str) (g t : Str) (i : Int), vs = [.ref a, .str t, .int i] ∧ LineAt K H a l "whole" (t :: q) g ∧ ∀ H' g', LineAt K H' a l "whole" q g' → Kp2 a l H H' → Q (.bl true) H'
theorem R_l_answered {P : Program} {w : World} {K : PySem.W.Frag} {mg : Str → Option Value} {base : Heap} (T : Tx K mg) : FnR P w K mg base CX0 11 (He.ga K "_law_answered") (sp_l_answered K) := by
  obtain ⟨fd, F⟩ := T.d_l_answered
  refine My.FunD.R F sc_l_answered (fun vs H Q E h => by obtain ⟨a, l, q, g, t, i, rfl, hL, k⟩ := h; rfl) (fun _ _ _ _ _ _ us hl => match us, hl with | [_, _, _], _ => rfl) (fun cdv A outer s H vs Q E hr h => ?_)
  obtain ⟨a, l, q, g, t, i, rfl, hL, k⟩ := h
  refine ⟨_, (pss_cons (ps_if (pt_cmpR op_eq (pv 2) pe_int (nomark _)) (pss_one (ps_ret (pe_callR (R_l_same T) (hr.mono (by decide)) rfl T.g__law_same T.k__law_same pass0 (pa_cons (pe_methR0 (pv 0) T.c_Line T.m_Line_read (R_Line_read T) (hr.mono (by decide)) pass0) (pa_cons (pv 1) pa_nil))))) pss_nil)
      (pss_cons (ps_par3 (i := 3) (j := 4) (l := 5) (by rfl) sc_l_answered.nd rfl rfl rfl (by decide) (by decide) (by decide) rfl rfl rfl (pa_cons (pe_methR0 (pv 0) T.c_Line T.m_Line_head (R_Line_head T) (hr.mono (by decide)) pass0) (pa_cons (pe_propR (pv 0) T.c_Line T.p_Line_mark (R_Line_mark T) (hr.mono (by decide)) pass0 rfl) (pa_cons (pe_propR (pv 0) T.c_Line T.p_Line_owed (R_Line_owed T) (hr.mono (by decide)) pass0 rfl) pa_nil))) (by rfl))
      (pss_cons (ps_if (PW.pt (pw_or (pt_not (pt_val (pe_callR (R_l_same T) (hr.mono (by decide)) rfl T.g__law_same T.k__law_same pass0 (pa_cons (pv 4) (pa_cons pe_str pa_nil))))) (pw_or1 (pt_not (pt_val (pe_callR (R_l_same T) (hr.mono (by decide)) rfl T.g__law_same T.k__law_same pass0 (pa_cons (pv 3) (pa_cons (pv 1) pa_nil)))))))) (pss_one (ps_ret pe_bl)) pss_nil)
      (pss_one (ps_ret (pe_and (pe_callR (R_l_same T) (hr.mono (by decide)) rfl T.g__law_same T.k__law_same pass0 (pa_cons (pe_methR0 (pv 0) T.c_Line T.m_Line_body (R_Line_body T) (hr.mono (by decide)) pass0) (pa_cons (pv 1) pa_nil))) (pe_and (pe_callR (R_l_same T) (hr.mono (by decide)) rfl T.g__law_same T.k__law_same pass0 (pa_cons (pe_propR (pv 0) T.c_Line T.p_Line_owed (R_Line_owed T) (hr.mono (by decide)) pass0 rfl) (pa_cons (pe_op op_sub (pv 5) pe_int) pa_nil))) (pe_one (pe_callR (R_l_same T) (hr.mono (by decide)) rfl T.g__law_same T.k__law_same pass0 (pa_cons (pe_propR (pv 0) T.c_Line T.p_Line_mark (R_Line_mark T) (hr.mono (by decide)) pass0 rfl) (pa_cons pe_str pa_nil))))))))))), ?_⟩
  obtain ⟨dx, ha⟩ := hL.ob
  simp only [tSeq, tAsg, tRet, tRetN, tIfS, tDrop, tNext, tBreak, tCont, tVar, tC, tOp, tUn, tB, tTest, tAnd, tOr, tNot, tAndV, tOrV, tNotV, tIf, tNil, tCons, tTup, tLst, tCB, tCallR, tMethR, tPropR, StX.tMakeR, tFld, sFld, sFldAug, tPar, tPar3, gName, gNil, gCons, gTup, gSub, rI, rI0, rU, rEq, rNe, mIxL, mIxT, mLenL, mLenT, mLenS, mLenD, mLenK, mList, mTupL, mInt, mAbs, mMax, mMin, mStr, mAddS, mIsN, mNotN, rIxS, rIxL, rSetL, rAppend, rExtendT, rPopAt, rCat, rIn, tBM, tBM0, tChain, tNever, scal, L2.start, cxK, iRng1, iRng2, tDNewK, tDGet, tDGet2, sDPut, tDIn, tDNotIn, DGet_dk, DPut_dk, IsD_dk, tyV_list, isLst_lst, isDk_dk, dkOf_dk, atI_0, atI_1, atI_2, atI_3, ixN_30, ixN_31, ixN_32, List.map, List.replicate, List.length_cons, List.length_nil, List.nil_append, List.cons_append, List.append_nil, Nat.reduceSub, Nat.reduceAdd, List.getElem?_cons_zero, List.getElem?_cons_succ, List.set_cons_zero, List.set_cons_succ, List.cons.injEq, Option.some.injEq, V.int.injEq, V.str.injEq, V.bl.injEq, V.ref.injEq, HO.ins.injEq, HO.lst.injEq, HO.tup.injEq, HO.dK.injEq, exists_eq_left, exists_eq_left', exists_eq_right, exists_eq_right', exists_and_left, exists_and_right, true_and, and_true, and_self, if_true, if_false, Bool.false_eq_true, Bool.true_eq_false, eq_self, reduceCtorEq, false_and, and_false, upd_same, upd_upd, and_assoc, Int.reduceToNat, Int.reducePow, Int.reduceMul, Int.reduceAdd, Int.reduceNeg, mIsi, mIsi2, kdV_non, kdV_bl, kdV_int, kdV_str, kdV_ref, kdO_lst, kdO_tup, kdO_dK, V.ty.injEq, mAll, mAny, kit_NoneType_bool, kit_NoneType_int, kit_NoneType_str, kit_NoneType_list, kit_NoneType_tuple, kit_NoneType_dict, kit_bool_bool, kit_bool_int, kit_bool_str, kit_bool_list, kit_bool_tuple, kit_bool_dict, kit_int_bool, kit_int_int, kit_int_str, kit_int_list, kit_int_tuple, kit_int_dict, kit_str_bool, kit_str_int, kit_str_str, kit_str_list, kit_str_tuple, kit_str_dict, kit_list_bool, kit_list_int, kit_list_str, kit_list_list, kit_list_tuple, kit_list_dict, kit_tuple_bool, kit_tuple_int, kit_tuple_str, kit_tuple_list, kit_tuple_tuple, kit_tuple_dict, kit_dict_bool, kit_dict_int, kit_dict_str, kit_dict_list, kit_dict_tuple, kit_dict_dict, String.reduceEq, String.reduceNe, ne_eq, not_false_eq_true, not_true_eq_false, decide_false, decide_true, Bool.not_false, Bool.not_true, Bool.or_false, Bool.false_or, Bool.or_true, Bool.true_or, gTupH, wipe, tYes, exists_eq', exists_eq, exists_const, tFor_eq, tLc_eq, ha, ln_read, ln_head]
  refine ite_dec (fun _ => ?_) (fun _ => ?_)
  · refine ⟨a, l, "whole", q, g, t, rfl, hL, rfl, fun H1 L1 k1 => ?_⟩
    exact ⟨_, _, .str t, rfl, .str t, .str t, rfl, fun H2 s2 => k H2 g (L1.same s2) (k1.trans (Kp2.same s2))⟩
  · refine ⟨a, l, "whole", q, g, t, rfl, hL, rfl, fun H1 L1 k1 => ?_⟩
    obtain ⟨dx1, ha1⟩ := L1.ob
    simp only [tSeq, tAsg, tRet, tRetN, tIfS, tDrop, tNext, tBreak, tCont, tVar, tC, tOp, tUn, tB, tTest, tAnd, tOr, tNot, tAndV, tOrV, tNotV, tIf, tNil, tCons, tTup, tLst, tCB, tCallR, tMethR, tPropR, StX.tMakeR, tFld, sFld, sFldAug, tPar, tPar3, gName, gNil, gCons, gTup, gSub, rI, rI0, rU, rEq, rNe, mIxL, mIxT, mLenL, mLenT, mLenS, mLenD, mLenK, mList, mTupL, mInt, mAbs, mMax, mMin, mStr, mAddS, mIsN, mNotN, rIxS, rIxL, rSetL, rAppend, rExtendT, rPopAt, rCat, rIn, tBM, tBM0, tChain, tNever, scal, L2.start, cxK, iRng1, iRng2, tDNewK, tDGet, tDGet2, sDPut, tDIn, tDNotIn, DGet_dk, DPut_dk, IsD_dk, tyV_list, isLst_lst, isDk_dk, dkOf_dk, atI_0, atI_1, atI_2, atI_3, ixN_30, ixN_31, ixN_32, List.map, List.replicate, List.length_cons, List.length_nil, List.nil_append, List.cons_append, List.append_nil, Nat.reduceSub, Nat.reduceAdd, List.getElem?_cons_zero, List.getElem?_cons_succ, List.set_cons_zero, List.set_cons_succ, List.cons.injEq, Option.some.injEq, V.int.injEq, V.str.injEq, V.bl.injEq, V.ref.injEq, HO.ins.injEq, HO.lst.injEq, HO.tup.injEq, HO.dK.injEq, exists_eq_left, exists_eq_left', exists_eq_right, exists_eq_right', exists_and_left, exists_and_right, true_and, and_true, and_self, if_true, if_false, Bool.false_eq_true, Bool.true_eq_false, eq_self, reduceCtorEq, false_and, and_false, upd_same, upd_upd, and_assoc, Int.reduceToNat, Int.reducePow, Int.reduceMul, Int.reduceAdd, Int.reduceNeg, mIsi, mIsi2, kdV_non, kdV_bl, kdV_int, kdV_str, kdV_ref, kdO_lst, kdO_tup, kdO_dK, V.ty.injEq, mAll, mAny, kit_NoneType_bool, kit_NoneType_int, kit_NoneType_str, kit_NoneType_list, kit_NoneType_tuple, kit_NoneType_dict, kit_bool_bool, kit_bool_int, kit_bool_str, kit_bool_list, kit_bool_tuple, kit_bool_dict, kit_int_bool, kit_int_int, kit_int_str, kit_int_list, kit_int_tuple, kit_int_dict, kit_str_bool, kit_str_int, kit_str_str, kit_str_list, kit_str_tuple, kit_str_dict, kit_list_bool, kit_list_int, kit_list_str, kit_list_list, kit_list_tuple, kit_list_dict, kit_tuple_bool, kit_tuple_int, kit_tuple_str, kit_tuple_list, kit_tuple_tuple, kit_tuple_dict, kit_dict_bool, kit_dict_int, kit_dict_str, kit_dict_list, kit_dict_tuple, kit_dict_dict, String.reduceEq, String.reduceNe, ne_eq, not_false_eq_true, not_true_eq_false, decide_false, decide_true, Bool.not_false, Bool.not_true, Bool.or_false, Bool.false_or, Bool.or_true, Bool.true_or, gTupH, wipe, tYes, exists_eq', exists_eq, exists_const, tFor_eq, tLc_eq, ha1, sp_Line_mark, sp_Line_owed]
    refine ⟨l, _, ⟨_, _, L1⟩, l, _, _, ⟨_, L1⟩, _, _, .str "in", rfl, .str _, .str _, rfl, fun H2 s2 => ?_⟩
    simp only [tSeq, tAsg, tRet, tRetN, tIfS, tDrop, tNext, tBreak, tCont, tVar, tC, tOp, tUn, tB, tTest, tAnd, tOr, tNot, tAndV, tOrV, tNotV, tIf, tNil, tCons, tTup, tLst, tCB, tCallR, tMethR, tPropR, StX.tMakeR, tFld, sFld, sFldAug, tPar, tPar3, gName, gNil, gCons, gTup, gSub, rI, rI0, rU, rEq, rNe, mIxL, mIxT, mLenL, mLenT, mLenS, mLenD, mLenK, mList, mTupL, mInt, mAbs, mMax, mMin, mStr, mAddS, mIsN, mNotN, rIxS, rIxL, rSetL, rAppend, rExtendT, rPopAt, rCat, rIn, tBM, tBM0, tChain, tNever, scal, L2.start, cxK, iRng1, iRng2, tDNewK, tDGet, tDGet2, sDPut, tDIn, tDNotIn, DGet_dk, DPut_dk, IsD_dk, tyV_list, isLst_lst, isDk_dk, dkOf_dk, atI_0, atI_1, atI_2, atI_3, ixN_30, ixN_31, ixN_32, List.map, List.replicate, List.length_cons, List.length_nil, List.nil_append, List.cons_append, List.append_nil, Nat.reduceSub, Nat.reduceAdd, List.getElem?_cons_zero, List.getElem?_cons_succ, List.set_cons_zero, List.set_cons_succ, List.cons.injEq, Option.some.injEq, V.int.injEq, V.str.injEq, V.bl.injEq, V.ref.injEq, HO.ins.injEq, HO.lst.injEq, HO.tup.injEq, HO.dK.injEq, exists_eq_left, exists_eq_left', exists_eq_right, exists_eq_right', exists_and_left, exists_and_right, true_and, and_true, and_self, if_true, if_false, Bool.false_eq_true, Bool.true_eq_false, eq_self, reduceCtorEq, false_and, and_false, upd_same, upd_upd, and_assoc, Int.reduceToNat, Int.reducePow, Int.reduceMul, Int.reduceAdd, Int.reduceNeg, mIsi, mIsi2, kdV_non, kdV_bl, kdV_int, kdV_str, kdV_ref, kdO_lst, kdO_tup, kdO_dK, V.ty.injEq, mAll, mAny, kit_NoneType_bool, kit_NoneType_int, kit_NoneType_str, kit_NoneType_list, kit_NoneType_tuple, kit_NoneType_dict, kit_bool_bool, kit_bool_int, kit_bool_str, kit_bool_list, kit_bool_tuple, kit_bool_dict, kit_int_bool, kit_int_int, kit_int_str, kit_int_list, kit_int_tuple, kit_int_dict, kit_str_bool, kit_str_int, kit_str_str, kit_str_list, kit_str_tuple, kit_str_dict, kit_list_bool, kit_list_int, kit_list_str, kit_list_list, kit_list_tuple, kit_list_dict, kit_tuple_bool, kit_tuple_int, kit_tuple_str, kit_tuple_list, kit_tuple_tuple, kit_tuple_dict, kit_dict_bool, kit_dict_int, kit_dict_str, kit_dict_list, kit_dict_tuple, kit_dict_dict, String.reduceEq, String.reduceNe, ne_eq, not_false_eq_true, not_true_eq_false, decide_false, decide_true, Bool.not_false, Bool.not_true, Bool.or_false, Bool.false_or, Bool.or_true, Bool.true_or, gTupH, wipe, tYes, exists_eq', exists_eq, exists_const, tFor_eq, tLc_eq]
    refine ⟨_, _, .str t, rfl, .str _, .str _, rfl, fun H3 s3 => ?_⟩
    have L3 := (L1.same s2).same s3
    obtain ⟨dx3, ha3⟩ := L3.ob
    simp only [tSeq, tAsg, tRet, tRetN, tIfS, tDrop, tNext, tBreak, tCont, tVar, tC, tOp, tUn, tB, tTest, tAnd, tOr, tNot, tAndV, tOrV, tNotV, tIf, tNil, tCons, tTup, tLst, tCB, tCallR, tMethR, tPropR, StX.tMakeR, tFld, sFld, sFldAug, tPar, tPar3, gName, gNil, gCons, gTup, gSub, rI, rI0, rU, rEq, rNe, mIxL, mIxT, mLenL, mLenT, mLenS, mLenD, mLenK, mList, mTupL, mInt, mAbs, mMax, mMin, mStr, mAddS, mIsN, mNotN, rIxS, rIxL, rSetL, rAppend, rExtendT, rPopAt, rCat, rIn, tBM, tBM0, tChain, tNever, scal, L2.start, cxK, iRng1, iRng2, tDNewK, tDGet, tDGet2, sDPut, tDIn, tDNotIn, DGet_dk, DPut_dk, IsD_dk, tyV_list, isLst_lst, isDk_dk, dkOf_dk, atI_0, atI_1, atI_2, atI_3, ixN_30, ixN_31, ixN_32, List.map, List.replicate, List.length_cons, List.length_nil, List.nil_append, List.cons_append, List.append_nil, Nat.reduceSub, Nat.reduceAdd, List.getElem?_cons_zero, List.getElem?_cons_succ, List.set_cons_zero, List.set_cons_succ, List.cons.injEq, Option.some.injEq, V.int.injEq, V.str.injEq, V.bl.injEq, V.ref.injEq, HO.ins.injEq, HO.lst.injEq, HO.tup.injEq, HO.dK.injEq, exists_eq_left, exists_eq_left', exists_eq_right, exists_eq_right', exists_and_left, exists_and_right, true_and, and_true, and_self, if_true, if_false, Bool.false_eq_true, Bool.true_eq_false, eq_self, reduceCtorEq, false_and, and_false, upd_same, upd_upd, and_assoc, Int.reduceToNat, Int.reducePow, Int.reduceMul, Int.reduceAdd, Int.reduceNeg, mIsi, mIsi2, kdV_non, kdV_bl, kdV_int, kdV_str, kdV_ref, kdO_lst, kdO_tup, kdO_dK, V.ty.injEq, mAll, mAny, kit_NoneType_bool, kit_NoneType_int, kit_NoneType_str, kit_NoneType_list, kit_NoneType_tuple, kit_NoneType_dict, kit_bool_bool, kit_bool_int, kit_bool_str, kit_bool_list, kit_bool_tuple, kit_bool_dict, kit_int_bool, kit_int_int, kit_int_str, kit_int_list, kit_int_tuple, kit_int_dict, kit_str_bool, kit_str_int, kit_str_str, kit_str_list, kit_str_tuple, kit_str_dict, kit_list_bool, kit_list_int, kit_list_str, kit_list_list, kit_list_tuple, kit_list_dict, kit_tuple_bool, kit_tuple_int, kit_tuple_str, kit_tuple_list, kit_tuple_tuple, kit_tuple_dict, kit_dict_bool, kit_dict_int, kit_dict_str, kit_dict_list, kit_dict_tuple, kit_dict_dict, String.reduceEq, String.reduceNe, ne_eq, not_false_eq_true, not_true_eq_false, decide_false, decide_true, Bool.not_false, Bool.not_true, Bool.or_false, Bool.false_or, Bool.or_true, Bool.true_or, gTupH, wipe, tYes, exists_eq', exists_eq, exists_const, tFor_eq, tLc_eq, ha3, ln_body]
    refine ⟨a, l, _, q, g, t, rfl, L3, rfl, fun H4 L4 k4 => ?_⟩
    refine ⟨_, _, .str t, rfl, .str _, .str _, rfl, fun H5 s5 => ?_⟩
    have L5 := L4.same s5
    obtain ⟨dx5, ha5⟩ := L5.ob
    simp only [tSeq, tAsg, tRet, tRetN, tIfS, tDrop, tNext, tBreak, tCont, tVar, tC, tOp, tUn, tB, tTest, tAnd, tOr, tNot, tAndV, tOrV, tNotV, tIf, tNil, tCons, tTup, tLst, tCB, tCallR, tMethR, tPropR, StX.tMakeR, tFld, sFld, sFldAug, tPar, tPar3, gName, gNil, gCons, gTup, gSub, rI, rI0, rU, rEq, rNe, mIxL, mIxT, mLenL, mLenT, mLenS, mLenD, mLenK, mList, mTupL, mInt, mAbs, mMax, mMin, mStr, mAddS, mIsN, mNotN, rIxS, rIxL, rSetL, rAppend, rExtendT, rPopAt, rCat, rIn, tBM, tBM0, tChain, tNever, scal, L2.start, cxK, iRng1, iRng2, tDNewK, tDGet, tDGet2, sDPut, tDIn, tDNotIn, DGet_dk, DPut_dk, IsD_dk, tyV_list, isLst_lst, isDk_dk, dkOf_dk, atI_0, atI_1, atI_2, atI_3, ixN_30, ixN_31, ixN_32, List.map, List.replicate, List.length_cons, List.length_nil, List.nil_append, List.cons_append, List.append_nil, Nat.reduceSub, Nat.reduceAdd, List.getElem?_cons_zero, List.getElem?_cons_succ, List.set_cons_zero, List.set_cons_succ, List.cons.injEq, Option.some.injEq, V.int.injEq, V.str.injEq, V.bl.injEq, V.ref.injEq, HO.ins.injEq, HO.lst.injEq, HO.tup.injEq, HO.dK.injEq, exists_eq_left, exists_eq_left', exists_eq_right, exists_eq_right', exists_and_left, exists_and_right, true_and, and_true, and_self, if_true, if_false, Bool.false_eq_true, Bool.true_eq_false, eq_self, reduceCtorEq, false_and, and_false, upd_same, upd_upd, and_assoc, Int.reduceToNat, Int.reducePow, Int.reduceMul, Int.reduceAdd, Int.reduceNeg, mIsi, mIsi2, kdV_non, kdV_bl, kdV_int, kdV_str, kdV_ref, kdO_lst, kdO_tup, kdO_dK, V.ty.injEq, mAll, mAny, kit_NoneType_bool, kit_NoneType_int, kit_NoneType_str, kit_NoneType_list, kit_NoneType_tuple, kit_NoneType_dict, kit_bool_bool, kit_bool_int, kit_bool_str, kit_bool_list, kit_bool_tuple, kit_bool_dict, kit_int_bool, kit_int_int, kit_int_str, kit_int_list, kit_int_tuple, kit_int_dict, kit_str_bool, kit_str_int, kit_str_str, kit_str_list, kit_str_tuple, kit_str_dict, kit_list_bool, kit_list_int, kit_list_str, kit_list_list, kit_list_tuple, kit_list_dict, kit_tuple_bool, kit_tuple_int, kit_tuple_str, kit_tuple_list, kit_tuple_tuple, kit_tuple_dict, kit_dict_bool, kit_dict_int, kit_dict_str, kit_dict_list, kit_dict_tuple, kit_dict_dict, String.reduceEq, String.reduceNe, ne_eq, not_false_eq_true, not_true_eq_false, decide_false, decide_true, Bool.not_false, Bool.not_true, Bool.or_false, Bool.false_or, Bool.or_true, Bool.true_or, gTupH, wipe, tYes, exists_eq', exists_eq, exists_const, tFor_eq, tLc_eq, ha5]
    refine ⟨l, _, _, ⟨_, L5⟩, ?_⟩
    have e : ((q.length : Nat) : Int) = ((q.length + 1 : Nat) : Int) - 1 := by omega
    rw [← e]
    refine ⟨_, _, .int (q.length : Int), rfl, .int _, .int _, rfl, fun H6 s6 => ?_⟩
    have L6 := L5.same s6
    obtain ⟨dx6, ha6⟩ := L6.ob
    simp only [tSeq, tAsg, tRet, tRetN, tIfS, tDrop, tNext, tBreak, tCont, tVar, tC, tOp, tUn, tB, tTest, tAnd, tOr, tNot, tAndV, tOrV, tNotV, tIf, tNil, tCons, tTup, tLst, tCB, tCallR, tMethR, tPropR, StX.tMakeR, tFld, sFld, sFldAug, tPar, tPar3, gName, gNil, gCons, gTup, gSub, rI, rI0, rU, rEq, rNe, mIxL, mIxT, mLenL, mLenT, mLenS, mLenD, mLenK, mList, mTupL, mInt, mAbs, mMax, mMin, mStr, mAddS, mIsN, mNotN, rIxS, rIxL, rSetL, rAppend, rExtendT, rPopAt, rCat, rIn, tBM, tBM0, tChain, tNever, scal, L2.start, cxK, iRng1, iRng2, tDNewK, tDGet, tDGet2, sDPut, tDIn, tDNotIn, DGet_dk, DPut_dk, IsD_dk, tyV_list, isLst_lst, isDk_dk, dkOf_dk, atI_0, atI_1, atI_2, atI_3, ixN_30, ixN_31, ixN_32, List.map, List.replicate, List.length_cons, List.length_nil, List.nil_append, List.cons_append, List.append_nil, Nat.reduceSub, Nat.reduceAdd, List.getElem?_cons_zero, List.getElem?_cons_succ, List.set_cons_zero, List.set_cons_succ, List.cons.injEq, Option.some.injEq, V.int.injEq, V.str.injEq, V.bl.injEq, V.ref.injEq, HO.ins.injEq, HO.lst.injEq, HO.tup.injEq, HO.dK.injEq, exists_eq_left, exists_eq_left', exists_eq_right, exists_eq_right', exists_and_left, exists_and_right, true_and, and_true, and_self, if_true, if_false, Bool.false_eq_true, Bool.true_eq_false, eq_self, reduceCtorEq, false_and, and_false, upd_same, upd_upd, and_assoc, Int.reduceToNat, Int.reducePow, Int.reduceMul, Int.reduceAdd, Int.reduceNeg, mIsi, mIsi2, kdV_non, kdV_bl, kdV_int, kdV_str, kdV_ref, kdO_lst, kdO_tup, kdO_dK, V.ty.injEq, mAll, mAny, kit_NoneType_bool, kit_NoneType_int, kit_NoneType_str, kit_NoneType_list, kit_NoneType_tuple, kit_NoneType_dict, kit_bool_bool, kit_bool_int, kit_bool_str, kit_bool_list, kit_bool_tuple, kit_bool_dict, kit_int_bool, kit_int_int, kit_int_str, kit_int_list, kit_int_tuple, kit_int_dict, kit_str_bool, kit_str_int, kit_str_str, kit_str_list, kit_str_tuple, kit_str_dict, kit_list_bool, kit_list_int, kit_list_str, kit_list_list, kit_list_tuple, kit_list_dict, kit_tuple_bool, kit_tuple_int, kit_tuple_str, kit_tuple_list, kit_tuple_tuple, kit_tuple_dict, kit_dict_bool, kit_dict_int, kit_dict_str, kit_dict_list, kit_dict_tuple, kit_dict_dict, String.reduceEq, String.reduceNe, ne_eq, not_false_eq_true, not_true_eq_false, decide_false, decide_true, Bool.not_false, Bool.not_true, Bool.or_false, Bool.false_or, Bool.or_true, Bool.true_or, gTupH, wipe, tYes, exists_eq', exists_eq, exists_const, tFor_eq, tLc_eq, ha6]
    refine ⟨l, _, ⟨_, _, L6⟩, _, _, .str "whole", rfl, .str _, .str _, rfl, fun H7 s7 => ?_⟩
    exact k H7 g (L6.same s7) (k1.trans ((Kp2.same s2).trans ((Kp2.same s3).trans (k4.trans ((Kp2.same s5).trans ((Kp2.same s6).trans (Kp2.same s7)))))))
end K30

set_option Elab.async false
set_option linter.all false
set_option maxRecDepth 100000
set_option maxHeartbeats 4000000
namespace K30
open PySem PySem.Spec PyProof.Rows L2 My
def tag (n : Nat) : Str := (("t" : Str) ++ (toString (n : Int) : String) : Str)
def tags (k m : Nat) : List Str := (List.range (m - k)).map fun j => tag (k + j)
theorem num_len {n : Nat} (h : n ≤ 300) : (Str.ofString (toString (n : Int))).length ≤ 10 := by
  have z : (List.range 301).all (fun n => decide ((Str.ofString (toString (n : Int))).length ≤ 10)) = true := by decide +kernel
  have := List.all_eq_true.mp z n (List.mem_range.mpr (by omega))
  exact of_decide_eq_true this
theorem tags_self (k : Nat) : tags k k = [] := by unfold tags; rw [Nat.sub_self]; rfl
theorem tags_len (k m : Nat) : (tags k m).length = m - k := by unfold tags; simp
theorem tags_snoc {k m : Nat} (h : k ≤ m) : tags k (m + 1) = tags k m ++ [tag m] := by
  unfold tags
  rw [show m + 1 - k = (m - k) + 1 by omega, List.range_succ, List.map_append]
  simp [show k + (m - k) = m by omega]
theorem tags_cons {k m : Nat} (h : k < m) : tags k m = tag k :: tags (k + 1) m := by
  unfold tags
  rw [show m - k = (m - (k + 1)) + 1 by omega, List.range_succ_eq_map, List.map_cons, List.map_map]
  refine congrArg (List.cons (tag k)) (List.map_congr_left fun j _ => ?_)
  show tag (k + (j + 1)) = tag (k + 1 + j)
  congr 1
  omega
theorem log_small {n : Nat} (h : n ≤ 300) : (n : Int).natAbs.log2 < 1920 := by
  have : (n : Int).natAbs < 2 ^ 1920 := by
    have e : (n : Int).natAbs = n := by simp
    rw [e]
    exact Nat.lt_of_le_of_lt h (Nat.lt_of_lt_of_le (show 300 < 2 ^ 10 by decide) (Nat.pow_le_pow_right (by decide) (by decide)))
  exact PySem.Flt.log2_lt_of (by decide) this
theorem LineAt.frame {K : PySem.W.Frag} {H : Hp} {a l b : Addr} {m g : Str} {q : List Str} {o : HO} (x : LineAt K H a l m q g) (h1 : b ≠ a) (h2 : b ≠ l) : LineAt K (upd H b o) a l m q g := ⟨let ⟨dx, h⟩ := x.ob; ⟨dx, by rw [upd_ne h1.symm]; exact h⟩, by rw [upd_ne h2.symm]; exact x.qu, x.ne, x.sz⟩
def HInv (K : PySem.W.Frag) (H0 : Hp) (b a : Addr) (i : Nat) (σ : L2.St) (H' : Hp) : Prop := ∃ (l : Addr) (g : Str) (k m : Nat) (lb : List V) (v4 v5 v6 v7 : Option V), σ = [some (.ref b), some (.ref a), some (.int (m : Int)), some (.int (k : Int)), v4, v5, v6, v7] ∧
  LineAt K H' a l "whole" (tags k m) g ∧ H' b = some (.lst lb) ∧ BagL lb (2 + 2 * i) ∧ b ≠ a ∧ b ≠ l ∧ k ≤ m ∧ m ≤ i ∧ Kp b H0 H' ∧ H0 a = none ∧ H0 l = none
theorem dpts_strs : ∀ (n : Nat) (q : List Str), dpts n (q.map PyData.str) = true
  | n, [] => by rw [List.map_nil, dpts]
  | n, x :: q => by rw [List.map_cons, dpts, dpts_strs n q, dpt]; rfl
theorem tail_ok {K : PySem.W.Frag} {H1 : Hp} {x l : Addr} {q : List Str} {g : Str} {z : Int} {cc : Bool} {F R : Hp → Prop} (hL : LineAt K H1 x l "whole" q g) (hz : z = (q.length : Int)) (hc : cc = decide (q = [])) (k : ∀ H' g', LineAt K H' x l "whole" q g' → Same H1 H' → R H') :
    (∃ x_2 x_3, H1 x = some (HO.ins (He.ga K "Line") x_2 x_3)) ∧ sp_Line_owed K [.ref x] H1 (fun x_2 H1 => sp_l_same 4 [x_2, .int z] H1 (fun x_3 H1 => ∃ c, x_3 = .bl c ∧ if (!c) = true then F H1 else
      (∃ x_4 x_5, H1 x = some (HO.ins (He.ga K "Line") x_4 x_5)) ∧ sp_Line_is_clean K [.ref x] H1 (fun x_4 H1 => sp_l_same 4 [x_4, .bl cc] H1 (fun x_5 H1 => ∃ c, x_5 = .bl c ∧ if (!c) = true then F H1 else R H1) E0) E0) E0) E0 := by
  obtain ⟨dx, ha⟩ := hL.ob
  refine ⟨⟨_, _, ha⟩, x, l, _, q, g, rfl, hL, _, _, .int z, rfl, ?_, .int z, rfl, fun H2 s2 => ⟨true, rfl, iteF ?_⟩⟩
  · rw [← hz]; exact .int z
  have L2' := hL.same s2
  obtain ⟨dx2, ha2⟩ := L2'.ob
  refine ⟨⟨_, _, ha2⟩, x, l, _, q, g, rfl, L2', _, _, .bool _, rfl, .bl _, ?_, rfl, fun H3 s3 => ⟨true, rfl, iteF ?_⟩⟩
  · rw [hc]
    have e : (decide (Str.ofString "whole" = Str.ofString "whole") && decide (q = [])) = decide (q = []) := by simp
    rw [e]; exact .bl _
  exact k H3 g (L2'.same s3) (s2.trans s3)
def sp_l_holds (K : PySem.W.Frag) : Sp := fun vs H Q _ => ∃ (b : Addr) (l : List V), vs = [.ref b] ∧ H b = some (.lst l) ∧ BagL l 0 ∧ ∀ H', Kp b H H' → Q (.bl true) H'
theorem R_l_holds {P : Program} {w : World} {K : PySem.W.Frag} {mg : Str → Option Value} {base : Heap} (T : Tx K mg) : FnR P w K mg base CX0 13 (He.ga K "_law_holds") (sp_l_holds K) := by
  obtain ⟨fd, F⟩ := T.d_l_holds
  refine My.FunD.R F sc_l_holds (fun vs H Q E h => by obtain ⟨b, lb, rfl, hb, hB, k⟩ := h; rfl) (fun _ _ _ _ _ _ us hl => match us, hl with | [_], _ => rfl) (fun cdv A outer s H vs Q E hr h => ?_)
  obtain ⟨b, lb, rfl, hb, hB, k⟩ := h
  refine ⟨_, (pss_cons (ps_par3 (i := 1) (j := 2) (l := 3) (by rfl) sc_l_holds.nd rfl rfl rfl (by decide) (by decide) (by decide) rfl rfl rfl (pa_cons (pe_makeR0 T.m_Line (R_Line___init__ T) (hr.mono (by decide)) rfl T.g_Line pass0) (pa_cons pe_int (pa_cons pe_int pa_nil))) (by rfl))
      (pss_cons (ps_for PassesOwn.never rfl (pi_range1 rfl T.n_range (pa_cons (pe_op op_add pe_int (pe_callR (R_l_draw T) (hr.mono (by decide)) rfl T.g__law_draw T.k__law_draw pass0 (pa_cons (pv 0) (pa_cons (pe_ix ixL (pe_lst (pa_cons pe_int (pa_cons pe_int (pa_cons pe_int pa_nil)))) (pe_callR (R_l_draw T) (hr.mono (by decide)) rfl T.g__law_draw T.k__law_draw pass0 (pa_cons (pv 0) (pa_cons pe_int pa_nil))) (fun _ _ => rfl)) pa_nil)))) pa_nil)) (pg_name (i := 4) sc_l_holds.nd rfl (by first | exact Or.inl rfl | exact Or.inr rfl)) (pss_cons (ps_par (i := 5) (j := 6) (by rfl) sc_l_holds.nd rfl rfl (by decide) rfl rfl (pa_cons (pe_callR (R_l_draw T) (hr.mono (by decide)) rfl T.g__law_draw T.k__law_draw pass0 (pa_cons (pv 0) (pa_cons pe_int pa_nil))) (pa_cons (pe_callR (R_l_draw T) (hr.mono (by decide)) rfl T.g__law_draw T.k__law_draw pass0 (pa_cons (pv 0) (pa_cons pe_int pa_nil))) pa_nil)) (by rfl))
      (pss_cons (ps_if (pt_cmpR op_eq (pv 5) pe_int (nomark _)) (pss_cons (ps_if (pt_not (pt_val (pe_callR (R_l_same T) (hr.mono (by decide)) rfl T.g__law_same T.k__law_same pass0 (pa_cons (pe_methR0 (pv 1) T.c_Line T.m_Line_drain (R_Line_drain T) (hr.mono (by decide)) pass0) (pa_cons (pe_lc (own := [("_law_place", 7)]) (g := gName 7) (tt := tYes) rfl sc_l_holds.nd (pi_range2 rfl T.n_range (pa_cons (pv 3) (pa_cons (pv 2) pa_nil))) (blkOk_by (own := [("_law_place", 7)]) (N := ["_law_source_here", "_law_line", "_law_asked_here", "_law_answered_here", "_law_turn", "_law_deed", "_law_parts", "_law_place"]) (sc := defScope s_l_holds) (by decide +kernel)) (fun _ _ _ _ _ => by exact (pg_name (i := 7) sc_l_holds.nd rfl (by first | exact Or.inl rfl | exact Or.inr rfl))) (fun _ _ _ _ _ => by exact pts_nil) (fun _ _ _ _ _ => by exact (pe_op addS pe_str (pe_callTy str1 (by rfl) T.n_str (by decide +kernel) (pa_cons (pv 7) pa_nil))))) pa_nil))))) (pss_one (ps_ret pe_bl)) pss_nil)
      (pss_one (ps_set (i := 3) sc_l_holds.nd rfl (by first | exact Or.inl rfl | exact Or.inr rfl) (pv 2)))) (pss_one (ps_if (PW.pt (pw_or (pt_cmpR op_eq (pe_op op_mod (pv 5) pe_int) pe_int (nomark _)) (pw_or1 (pt_cmpR op_eq (pv 2) (pv 3) (nomark _))))) (pss_cons (ps_if (pt_not (pt_val (pe_callR (R_l_asked T) (hr.mono (by decide)) rfl T.g__law_asked T.k__law_asked pass0 (pa_cons (pv 1) (pa_cons (pe_op addS pe_str (pe_callTy str1 (by rfl) T.n_str (by decide +kernel) (pa_cons (pv 2) pa_nil))) (pa_cons (pv 6) pa_nil)))))) (pss_one (ps_ret pe_bl)) pss_nil)
      (pss_one (ps_set (i := 2) sc_l_holds.nd rfl (by first | exact Or.inl rfl | exact Or.inr rfl) (pe_op op_add (pv 2) pe_int)))) (pss_cons (ps_if (pt_not (pt_val (pe_callR (R_l_answered T) (hr.mono (by decide)) rfl T.g__law_answered T.k__law_answered pass0 (pa_cons (pv 1) (pa_cons (pe_op addS pe_str (pe_callTy str1 (by rfl) T.n_str (by decide +kernel) (pa_cons (pv 3) pa_nil))) (pa_cons (pv 6) pa_nil)))))) (pss_one (ps_ret pe_bl)) pss_nil)
      (pss_one (ps_set (i := 3) sc_l_holds.nd rfl (by first | exact Or.inl rfl | exact Or.inr rfl) (pe_op op_add (pv 3) pe_int)))))))
      (pss_one (ps_if (PW.pt (pw_or (pt_not (pt_val (pe_callR (R_l_same T) (hr.mono (by decide)) rfl T.g__law_same T.k__law_same pass0 (pa_cons (pe_propR (pv 1) T.c_Line T.p_Line_owed (R_Line_owed T) (hr.mono (by decide)) pass0 rfl) (pa_cons (pe_op op_sub (pv 2) (pv 3)) pa_nil))))) (pw_or1 (pt_not (pt_val (pe_callR (R_l_same T) (hr.mono (by decide)) rfl T.g__law_same T.k__law_same pass0 (pa_cons (pe_propR (pv 1) T.c_Line T.p_Line_is_clean (R_Line_is_clean T) (hr.mono (by decide)) pass0 rfl) (pa_cons (pe_cmpR op_eq (pv 2) (pv 3) (nomark _)) pa_nil)))))))) (pss_one (ps_ret pe_bl)) pss_nil)))))
      (pss_one (ps_ret pe_bl)))), ?_⟩
  simp only [tSeq, tAsg, tRet, tRetN, tIfS, tDrop, tNext, tBreak, tCont, tVar, tC, tOp, tUn, tB, tTest, tAnd, tOr, tNot, tAndV, tOrV, tNotV, tIf, tNil, tCons, tTup, tLst, tCB, tCallR, tMethR, tPropR, StX.tMakeR, tFld, sFld, sFldAug, tPar, tPar3, gName, gNil, gCons, gTup, gSub, rI, rI0, rU, rEq, rNe, mIxL, mIxT, mLenL, mLenT, mLenS, mLenD, mLenK, mList, mTupL, mInt, mAbs, mMax, mMin, mStr, mAddS, mIsN, mNotN, rIxS, rIxL, rSetL, rAppend, rExtendT, rPopAt, rCat, rIn, tBM, tBM0, tChain, tNever, scal, L2.start, cxK, iRng1, iRng2, tDNewK, tDGet, tDGet2, sDPut, tDIn, tDNotIn, DGet_dk, DPut_dk, IsD_dk, tyV_list, isLst_lst, isDk_dk, dkOf_dk, atI_0, atI_1, atI_2, atI_3, ixN_30, ixN_31, ixN_32, List.map, List.replicate, List.length_cons, List.length_nil, List.nil_append, List.cons_append, List.append_nil, Nat.reduceSub, Nat.reduceAdd, List.getElem?_cons_zero, List.getElem?_cons_succ, List.set_cons_zero, List.set_cons_succ, List.cons.injEq, Option.some.injEq, V.int.injEq, V.str.injEq, V.bl.injEq, V.ref.injEq, HO.ins.injEq, HO.lst.injEq, HO.tup.injEq, HO.dK.injEq, exists_eq_left, exists_eq_left', exists_eq_right, exists_eq_right', exists_and_left, exists_and_right, true_and, and_true, and_self, if_true, if_false, Bool.false_eq_true, Bool.true_eq_false, eq_self, reduceCtorEq, false_and, and_false, upd_same, upd_upd, and_assoc, Int.reduceToNat, Int.reducePow, Int.reduceMul, Int.reduceAdd, Int.reduceNeg, mIsi, mIsi2, kdV_non, kdV_bl, kdV_int, kdV_str, kdV_ref, kdO_lst, kdO_tup, kdO_dK, V.ty.injEq, mAll, mAny, kit_NoneType_bool, kit_NoneType_int, kit_NoneType_str, kit_NoneType_list, kit_NoneType_tuple, kit_NoneType_dict, kit_bool_bool, kit_bool_int, kit_bool_str, kit_bool_list, kit_bool_tuple, kit_bool_dict, kit_int_bool, kit_int_int, kit_int_str, kit_int_list, kit_int_tuple, kit_int_dict, kit_str_bool, kit_str_int, kit_str_str, kit_str_list, kit_str_tuple, kit_str_dict, kit_list_bool, kit_list_int, kit_list_str, kit_list_list, kit_list_tuple, kit_list_dict, kit_tuple_bool, kit_tuple_int, kit_tuple_str, kit_tuple_list, kit_tuple_tuple, kit_tuple_dict, kit_dict_bool, kit_dict_int, kit_dict_str, kit_dict_list, kit_dict_tuple, kit_dict_dict, String.reduceEq, String.reduceNe, ne_eq, not_false_eq_true, not_true_eq_false, decide_false, decide_true, Bool.not_false, Bool.not_true, Bool.or_false, Bool.false_or, Bool.or_true, Bool.true_or, gTupH, wipe, tYes, exists_eq', exists_eq, exists_const, tFor_eq, tLc_eq]
  intro x dx hx hdx hne
  have nbx : b ≠ x := ne_of_none hb hx
  have nbd : b ≠ dx := ne_of_none hb hdx
  refine ⟨x, dx, rfl, upd_same, fun H1 l hl L1 k1 => ⟨rfl, ?_⟩⟩
  have hb1 : H1 b = some (.lst lb) := k1 _ _ nbx (by rw [upd_ne nbx, upd_ne nbd]; exact hb)
  have nbl : b ≠ l := fun e => by rw [← e, upd_ne nbx, upd_ne nbd, hb] at hl; cases hl
  refine ⟨by decide, fun p hp => ?_⟩
  have nbp : b ≠ p := ne_of_none hb1 hp
  have nlp : l ≠ p := ne_of_none L1.qu hp
  obtain ⟨dx1, ha1⟩ := L1.ob
  have nxp : x ≠ p := ne_of_none ha1 hp
  refine ⟨b, 3, 0, lb, rfl, by rw [upd_ne nbp]; exact hb1, hB, by decide, by decide, by decide, fun r lb2 hr0 hr1 hB2 => ?_⟩
  simp only [tSeq, tAsg, tRet, tRetN, tIfS, tDrop, tNext, tBreak, tCont, tVar, tC, tOp, tUn, tB, tTest, tAnd, tOr, tNot, tAndV, tOrV, tNotV, tIf, tNil, tCons, tTup, tLst, tCB, tCallR, tMethR, tPropR, StX.tMakeR, tFld, sFld, sFldAug, tPar, tPar3, gName, gNil, gCons, gTup, gSub, rI, rI0, rU, rEq, rNe, mIxL, mIxT, mLenL, mLenT, mLenS, mLenD, mLenK, mList, mTupL, mInt, mAbs, mMax, mMin, mStr, mAddS, mIsN, mNotN, rIxS, rIxL, rSetL, rAppend, rExtendT, rPopAt, rCat, rIn, tBM, tBM0, tChain, tNever, scal, L2.start, cxK, iRng1, iRng2, tDNewK, tDGet, tDGet2, sDPut, tDIn, tDNotIn, DGet_dk, DPut_dk, IsD_dk, tyV_list, isLst_lst, isDk_dk, dkOf_dk, atI_0, atI_1, atI_2, atI_3, ixN_30, ixN_31, ixN_32, List.map, List.replicate, List.length_cons, List.length_nil, List.nil_append, List.cons_append, List.append_nil, Nat.reduceSub, Nat.reduceAdd, List.getElem?_cons_zero, List.getElem?_cons_succ, List.set_cons_zero, List.set_cons_succ, List.cons.injEq, Option.some.injEq, V.int.injEq, V.str.injEq, V.bl.injEq, V.ref.injEq, HO.ins.injEq, HO.lst.injEq, HO.tup.injEq, HO.dK.injEq, exists_eq_left, exists_eq_left', exists_eq_right, exists_eq_right', exists_and_left, exists_and_right, true_and, and_true, and_self, if_true, if_false, Bool.false_eq_true, Bool.true_eq_false, eq_self, reduceCtorEq, false_and, and_false, upd_same, upd_upd, and_assoc, Int.reduceToNat, Int.reducePow, Int.reduceMul, Int.reduceAdd, Int.reduceNeg, mIsi, mIsi2, kdV_non, kdV_bl, kdV_int, kdV_str, kdV_ref, kdO_lst, kdO_tup, kdO_dK, V.ty.injEq, mAll, mAny, kit_NoneType_bool, kit_NoneType_int, kit_NoneType_str, kit_NoneType_list, kit_NoneType_tuple, kit_NoneType_dict, kit_bool_bool, kit_bool_int, kit_bool_str, kit_bool_list, kit_bool_tuple, kit_bool_dict, kit_int_bool, kit_int_int, kit_int_str, kit_int_list, kit_int_tuple, kit_int_dict, kit_str_bool, kit_str_int, kit_str_str, kit_str_list, kit_str_tuple, kit_str_dict, kit_list_bool, kit_list_int, kit_list_str, kit_list_list, kit_list_tuple, kit_list_dict, kit_tuple_bool, kit_tuple_int, kit_tuple_str, kit_tuple_list, kit_tuple_tuple, kit_tuple_dict, kit_dict_bool, kit_dict_int, kit_dict_str, kit_dict_list, kit_dict_tuple, kit_dict_dict, String.reduceEq, String.reduceNe, ne_eq, not_false_eq_true, not_true_eq_false, decide_false, decide_true, Bool.not_false, Bool.not_true, Bool.or_false, Bool.false_or, Bool.or_true, Bool.true_or, gTupH, wipe, tYes, exists_eq', exists_eq, exists_const, tFor_eq, tLc_eq, upd_ne nbp.symm]
  have hr3 : r = 0 ∨ r = 1 ∨ r = 2 := by omega
  have pick : ∃ z : Int, atI [V.int 8, V.int 40, V.int 200] r = some (V.int z) ∧ 0 < z ∧ z ≤ 200 := by
    rcases hr3 with rfl | rfl | rfl
    · exact ⟨8, rfl, by decide, by decide⟩
    · exact ⟨40, rfl, by decide, by decide⟩
    · exact ⟨200, rfl, by decide, by decide⟩
  obtain ⟨z, hz, hz0, hz1⟩ := pick
  refine ⟨_, hz, ?_⟩
  refine ⟨b, z, 1, lb2, rfl, upd_same, hB2, hz0, by omega, by decide, fun r2 lb3 hr20 hr21 hB3 => ?_⟩
  simp only [tSeq, tAsg, tRet, tRetN, tIfS, tDrop, tNext, tBreak, tCont, tVar, tC, tOp, tUn, tB, tTest, tAnd, tOr, tNot, tAndV, tOrV, tNotV, tIf, tNil, tCons, tTup, tLst, tCB, tCallR, tMethR, tPropR, StX.tMakeR, tFld, sFld, sFldAug, tPar, tPar3, gName, gNil, gCons, gTup, gSub, rI, rI0, rU, rEq, rNe, mIxL, mIxT, mLenL, mLenT, mLenS, mLenD, mLenK, mList, mTupL, mInt, mAbs, mMax, mMin, mStr, mAddS, mIsN, mNotN, rIxS, rIxL, rSetL, rAppend, rExtendT, rPopAt, rCat, rIn, tBM, tBM0, tChain, tNever, scal, L2.start, cxK, iRng1, iRng2, tDNewK, tDGet, tDGet2, sDPut, tDIn, tDNotIn, DGet_dk, DPut_dk, IsD_dk, tyV_list, isLst_lst, isDk_dk, dkOf_dk, atI_0, atI_1, atI_2, atI_3, ixN_30, ixN_31, ixN_32, List.map, List.replicate, List.length_cons, List.length_nil, List.nil_append, List.cons_append, List.append_nil, Nat.reduceSub, Nat.reduceAdd, List.getElem?_cons_zero, List.getElem?_cons_succ, List.set_cons_zero, List.set_cons_succ, List.cons.injEq, Option.some.injEq, V.int.injEq, V.str.injEq, V.bl.injEq, V.ref.injEq, HO.ins.injEq, HO.lst.injEq, HO.tup.injEq, HO.dK.injEq, exists_eq_left, exists_eq_left', exists_eq_right, exists_eq_right', exists_and_left, exists_and_right, true_and, and_true, and_self, if_true, if_false, Bool.false_eq_true, Bool.true_eq_false, eq_self, reduceCtorEq, false_and, and_false, upd_same, upd_upd, and_assoc, Int.reduceToNat, Int.reducePow, Int.reduceMul, Int.reduceAdd, Int.reduceNeg, mIsi, mIsi2, kdV_non, kdV_bl, kdV_int, kdV_str, kdV_ref, kdO_lst, kdO_tup, kdO_dK, V.ty.injEq, mAll, mAny, kit_NoneType_bool, kit_NoneType_int, kit_NoneType_str, kit_NoneType_list, kit_NoneType_tuple, kit_NoneType_dict, kit_bool_bool, kit_bool_int, kit_bool_str, kit_bool_list, kit_bool_tuple, kit_bool_dict, kit_int_bool, kit_int_int, kit_int_str, kit_int_list, kit_int_tuple, kit_int_dict, kit_str_bool, kit_str_int, kit_str_str, kit_str_list, kit_str_tuple, kit_str_dict, kit_list_bool, kit_list_int, kit_list_str, kit_list_list, kit_list_tuple, kit_list_dict, kit_tuple_bool, kit_tuple_int, kit_tuple_str, kit_tuple_list, kit_tuple_tuple, kit_tuple_dict, kit_dict_bool, kit_dict_int, kit_dict_str, kit_dict_list, kit_dict_tuple, kit_dict_dict, String.reduceEq, String.reduceNe, ne_eq, not_false_eq_true, not_true_eq_false, decide_false, decide_true, Bool.not_false, Bool.not_true, Bool.or_false, Bool.false_or, Bool.or_true, Bool.true_or, gTupH, wipe, tYes, exists_eq', exists_eq, exists_const, tFor_eq, tLc_eq]
  have nxb : x ≠ b := nbx.symm
  refine ⟨by omega, by omega, loop_it (n := (1 + r2).toNat) walk_range (HInv K H b x) ?_ (fun _ _ _ _ _ => trivial) (fun i y σ H2 H3 hi hI hy => ?_) (fun σ H2 hI => ?_)⟩
  · refine ⟨l, "", 0, 0, lb3, none, none, none, none, rfl, ?_, upd_same, hB3, nbx, nbl, Nat.le_refl _, Nat.le_refl _, fun c o hc h => ?_, hx, ?_⟩
    rotate_left
    · have h1 : H1 c = some o := k1 _ _ (ne_of_none h hx) (by rw [upd_ne (ne_of_none h hx), upd_ne (ne_of_none h hdx)]; exact h)
      rw [upd_ne hc, upd_ne (ne_of_none h1 hp)]; exact h1
    · have e1 : l ≠ x := L1.ne.symm
      have e2 : l ≠ dx := fun e => by rw [e, upd_ne hne, upd_same] at hl; cases hl
      rw [upd_ne e1, upd_ne e2] at hl; exact hl
    rw [tags_self]
    exact (L1.same (Same.new hp)).frame nbx nbl
  · obtain ⟨rfl, rfl⟩ := hy
    obtain ⟨l, g, kk, m, lb, v4, v5, v6, v7, rfl, hL, hb2, hB, n1, n2, hkm, hmi, hK, hx0, hl0⟩ := hI
    have hi2 : i ≤ 200 := by omega
    simp only [tSeq, tAsg, tRet, tRetN, tIfS, tDrop, tNext, tBreak, tCont, tVar, tC, tOp, tUn, tB, tTest, tAnd, tOr, tNot, tAndV, tOrV, tNotV, tIf, tNil, tCons, tTup, tLst, tCB, tCallR, tMethR, tPropR, StX.tMakeR, tFld, sFld, sFldAug, tPar, tPar3, gName, gNil, gCons, gTup, gSub, rI, rI0, rU, rEq, rNe, mIxL, mIxT, mLenL, mLenT, mLenS, mLenD, mLenK, mList, mTupL, mInt, mAbs, mMax, mMin, mStr, mAddS, mIsN, mNotN, rIxS, rIxL, rSetL, rAppend, rExtendT, rPopAt, rCat, rIn, tBM, tBM0, tChain, tNever, scal, L2.start, cxK, iRng1, iRng2, tDNewK, tDGet, tDGet2, sDPut, tDIn, tDNotIn, DGet_dk, DPut_dk, IsD_dk, tyV_list, isLst_lst, isDk_dk, dkOf_dk, atI_0, atI_1, atI_2, atI_3, ixN_30, ixN_31, ixN_32, List.map, List.replicate, List.length_cons, List.length_nil, List.nil_append, List.cons_append, List.append_nil, Nat.reduceSub, Nat.reduceAdd, List.getElem?_cons_zero, List.getElem?_cons_succ, List.set_cons_zero, List.set_cons_succ, List.cons.injEq, Option.some.injEq, V.int.injEq, V.str.injEq, V.bl.injEq, V.ref.injEq, HO.ins.injEq, HO.lst.injEq, HO.tup.injEq, HO.dK.injEq, exists_eq_left, exists_eq_left', exists_eq_right, exists_eq_right', exists_and_left, exists_and_right, true_and, and_true, and_self, if_true, if_false, Bool.false_eq_true, Bool.true_eq_false, eq_self, reduceCtorEq, false_and, and_false, upd_same, upd_upd, and_assoc, Int.reduceToNat, Int.reducePow, Int.reduceMul, Int.reduceAdd, Int.reduceNeg, mIsi, mIsi2, kdV_non, kdV_bl, kdV_int, kdV_str, kdV_ref, kdO_lst, kdO_tup, kdO_dK, V.ty.injEq, mAll, mAny, kit_NoneType_bool, kit_NoneType_int, kit_NoneType_str, kit_NoneType_list, kit_NoneType_tuple, kit_NoneType_dict, kit_bool_bool, kit_bool_int, kit_bool_str, kit_bool_list, kit_bool_tuple, kit_bool_dict, kit_int_bool, kit_int_int, kit_int_str, kit_int_list, kit_int_tuple, kit_int_dict, kit_str_bool, kit_str_int, kit_str_str, kit_str_list, kit_str_tuple, kit_str_dict, kit_list_bool, kit_list_int, kit_list_str, kit_list_list, kit_list_tuple, kit_list_dict, kit_tuple_bool, kit_tuple_int, kit_tuple_str, kit_tuple_list, kit_tuple_tuple, kit_tuple_dict, kit_dict_bool, kit_dict_int, kit_dict_str, kit_dict_list, kit_dict_tuple, kit_dict_dict, String.reduceEq, String.reduceNe, ne_eq, not_false_eq_true, not_true_eq_false, decide_false, decide_true, Bool.not_false, Bool.not_true, Bool.or_false, Bool.false_or, Bool.or_true, Bool.true_or, gTupH, wipe, tYes, exists_eq', exists_eq, exists_const, tFor_eq, tLc_eq]
    refine ⟨b, 40, _, lb, rfl, hb2, hB, by decide, by decide, by omega, fun deed lbA d0 d1 hBA => ?_⟩
    refine ⟨b, 2, _, lbA, rfl, upd_same, hBA, by decide, by decide, by omega, fun parts lbB p0 p1 hBB => ?_⟩
    simp only [tSeq, tAsg, tRet, tRetN, tIfS, tDrop, tNext, tBreak, tCont, tVar, tC, tOp, tUn, tB, tTest, tAnd, tOr, tNot, tAndV, tOrV, tNotV, tIf, tNil, tCons, tTup, tLst, tCB, tCallR, tMethR, tPropR, StX.tMakeR, tFld, sFld, sFldAug, tPar, tPar3, gName, gNil, gCons, gTup, gSub, rI, rI0, rU, rEq, rNe, mIxL, mIxT, mLenL, mLenT, mLenS, mLenD, mLenK, mList, mTupL, mInt, mAbs, mMax, mMin, mStr, mAddS, mIsN, mNotN, rIxS, rIxL, rSetL, rAppend, rExtendT, rPopAt, rCat, rIn, tBM, tBM0, tChain, tNever, scal, L2.start, cxK, iRng1, iRng2, tDNewK, tDGet, tDGet2, sDPut, tDIn, tDNotIn, DGet_dk, DPut_dk, IsD_dk, tyV_list, isLst_lst, isDk_dk, dkOf_dk, atI_0, atI_1, atI_2, atI_3, ixN_30, ixN_31, ixN_32, List.map, List.replicate, List.length_cons, List.length_nil, List.nil_append, List.cons_append, List.append_nil, Nat.reduceSub, Nat.reduceAdd, List.getElem?_cons_zero, List.getElem?_cons_succ, List.set_cons_zero, List.set_cons_succ, List.cons.injEq, Option.some.injEq, V.int.injEq, V.str.injEq, V.bl.injEq, V.ref.injEq, HO.ins.injEq, HO.lst.injEq, HO.tup.injEq, HO.dK.injEq, exists_eq_left, exists_eq_left', exists_eq_right, exists_eq_right', exists_and_left, exists_and_right, true_and, and_true, and_self, if_true, if_false, Bool.false_eq_true, Bool.true_eq_false, eq_self, reduceCtorEq, false_and, and_false, upd_same, upd_upd, and_assoc, Int.reduceToNat, Int.reducePow, Int.reduceMul, Int.reduceAdd, Int.reduceNeg, mIsi, mIsi2, kdV_non, kdV_bl, kdV_int, kdV_str, kdV_ref, kdO_lst, kdO_tup, kdO_dK, V.ty.injEq, mAll, mAny, kit_NoneType_bool, kit_NoneType_int, kit_NoneType_str, kit_NoneType_list, kit_NoneType_tuple, kit_NoneType_dict, kit_bool_bool, kit_bool_int, kit_bool_str, kit_bool_list, kit_bool_tuple, kit_bool_dict, kit_int_bool, kit_int_int, kit_int_str, kit_int_list, kit_int_tuple, kit_int_dict, kit_str_bool, kit_str_int, kit_str_str, kit_str_list, kit_str_tuple, kit_str_dict, kit_list_bool, kit_list_int, kit_list_str, kit_list_list, kit_list_tuple, kit_list_dict, kit_tuple_bool, kit_tuple_int, kit_tuple_str, kit_tuple_list, kit_tuple_tuple, kit_tuple_dict, kit_dict_bool, kit_dict_int, kit_dict_str, kit_dict_list, kit_dict_tuple, kit_dict_dict, String.reduceEq, String.reduceNe, ne_eq, not_false_eq_true, not_true_eq_false, decide_false, decide_true, Bool.not_false, Bool.not_true, Bool.or_false, Bool.false_or, Bool.or_true, Bool.true_or, gTupH, wipe, tYes, exists_eq', exists_eq, exists_const, tFor_eq, tLc_eq]
    have hLB : LineAt K (upd H3 b (.lst lbB)) x l "whole" (tags kk m) g := hL.frame n1 n2
    have hbB : upd H3 b (.lst lbB) b = some (.lst lbB) := upd_same
    have hKG : Kp b H (upd H3 b (.lst lbB)) := fun c o hc h => by rw [upd_ne hc]; exact hK c o hc h
    generalize upd H3 b (.lst lbB) = G at hLB hbB hKG ⊢
    have hBC : BagL lbB (2 + 2 * (i + 1)) := by
      rw [show 2 + 2 * (i + 1) = 2 + 2 * i + 1 + 1 by omega]; exact hBB
    have askd : (m : Int).natAbs.log2 < 1920 ∧ (Str.ofString "t").length + (Str.ofString (toString (m : Int))).length ≤ sizeLine := ⟨log_small (by omega), Nat.le_trans (Nat.add_le_add (show (Str.ofString "t").length ≤ 1 by decide) (num_len (n := m) (by omega))) (by decide)⟩
    have anss : (kk : Int).natAbs.log2 < 1920 ∧ (Str.ofString "t").length + (Str.ofString (toString (kk : Int))).length ≤ sizeLine := ⟨log_small (by omega), Nat.le_trans (Nat.add_le_add (show (Str.ofString "t").length ≤ 1 by decide) (num_len (n := kk) (by omega))) (by decide)⟩
    have asks : sp_l_asked K [V.ref x, V.str (Str.ofString "t" ++ Str.ofString (toString (m : Int))), V.int parts] G (fun x_1 H1 => ∃ c, x_1 = V.bl c ∧ if (!c) = true then Q (V.bl false) H1 else
        (∃ x_2 x_3, H1 x = some (HO.ins (He.ga K "Line") x_2 x_3)) ∧ sp_Line_owed K [.ref x] H1 (fun x_2 H1 => sp_l_same 4 [x_2, .int ((m : Int) + 1 - (kk : Int))] H1 (fun x_3 H1 => ∃ c, x_3 = .bl c ∧ if (!c) = true then Q (V.bl false) H1 else
          (∃ x_4 x_5, H1 x = some (HO.ins (He.ga K "Line") x_4 x_5)) ∧ sp_Line_is_clean K [.ref x] H1 (fun x_4 H1 => sp_l_same 4 [x_4, .bl (decide ((m : Int) + 1 = (kk : Int)))] H1 (fun x_5 H1 => ∃ c, x_5 = .bl c ∧ if (!c) = true then Q (V.bl false) H1 else
            HInv K H b x (i + 1) [some (V.ref b), some (V.ref x), some (V.int ((m : Int) + 1)), some (V.int kk), some (V.int (0 + (i : Int))), some (V.int deed), some (V.int parts), v7] H1) E0) E0) E0) E0) E0 := by
      refine ⟨x, l, tags kk m, g, tag m, parts, rfl, hLB, by rw [tags_len]; omega, fun H4 g4 L4 k4 => ⟨true, rfl, iteF (tail_ok (q := tags kk m ++ [tag m]) (g := g4) L4 ?_ ?_ fun H5 g5 L5 s5 => ?_)⟩⟩
      · rw [List.length_append, tags_len]; simp; omega
      · have : ¬ ((m : Int) + 1 = (kk : Int)) := by omega
        rw [decide_eq_false this]; simp
      · refine ⟨l, g5, kk, m + 1, lbB, _, _, _, _, rfl, ?_, s5 _ _ (k4 _ _ n1 n2 hbB), hBC, n1, n2, by omega, by omega, fun c o hc h => s5 _ _ (k4 _ _ (ne_of_none h hx0) (ne_of_none h hl0) (hKG c o hc h)), hx0, hl0⟩
        rw [tags_snoc hkm]; exact L5
    refine ite_dec (fun hd => ?_) (fun hd => ?_)
    · obtain ⟨dxB, haB⟩ := hLB.ob
      refine ⟨_, _, haB, rfl, x, l, "whole", tags kk m, g, rfl, hLB, fun H4 P l' hP hl' nP hP4 L4 k4 => ?_⟩
      refine ⟨by omega, by omega, by omega, by omega, fun D hD => ?_⟩
      refine loopC_it (n := ((m : Int) - kk).toNat) walk_range (fun j H' => Same H4 H' ∧ H' D = some (.lst ((tags kk (kk + j)).map V.str))) ⟨Same.new hD, ?_⟩ (fun _ _ _ _ => trivial) (fun j y H' H'' hj h hy => ?_) (fun H5 h => ?_)
      · rw [upd_same, Nat.add_zero, tags_self]; rfl
      · obtain ⟨rfl, rfl⟩ := hy
        obtain ⟨h1, h2⟩ := h
        simp only [tSeq, tAsg, tRet, tRetN, tIfS, tDrop, tNext, tBreak, tCont, tVar, tC, tOp, tUn, tB, tTest, tAnd, tOr, tNot, tAndV, tOrV, tNotV, tIf, tNil, tCons, tTup, tLst, tCB, tCallR, tMethR, tPropR, StX.tMakeR, tFld, sFld, sFldAug, tPar, tPar3, gName, gNil, gCons, gTup, gSub, rI, rI0, rU, rEq, rNe, mIxL, mIxT, mLenL, mLenT, mLenS, mLenD, mLenK, mList, mTupL, mInt, mAbs, mMax, mMin, mStr, mAddS, mIsN, mNotN, rIxS, rIxL, rSetL, rAppend, rExtendT, rPopAt, rCat, rIn, tBM, tBM0, tChain, tNever, scal, L2.start, cxK, iRng1, iRng2, tDNewK, tDGet, tDGet2, sDPut, tDIn, tDNotIn, DGet_dk, DPut_dk, IsD_dk, tyV_list, isLst_lst, isDk_dk, dkOf_dk, atI_0, atI_1, atI_2, atI_3, ixN_30, ixN_31, ixN_32, List.map, List.replicate, List.length_cons, List.length_nil, List.nil_append, List.cons_append, List.append_nil, Nat.reduceSub, Nat.reduceAdd, List.getElem?_cons_zero, List.getElem?_cons_succ, List.set_cons_zero, List.set_cons_succ, List.cons.injEq, Option.some.injEq, V.int.injEq, V.str.injEq, V.bl.injEq, V.ref.injEq, HO.ins.injEq, HO.lst.injEq, HO.tup.injEq, HO.dK.injEq, exists_eq_left, exists_eq_left', exists_eq_right, exists_eq_right', exists_and_left, exists_and_right, true_and, and_true, and_self, if_true, if_false, Bool.false_eq_true, Bool.true_eq_false, eq_self, reduceCtorEq, false_and, and_false, upd_same, upd_upd, and_assoc, Int.reduceToNat, Int.reducePow, Int.reduceMul, Int.reduceAdd, Int.reduceNeg, mIsi, mIsi2, kdV_non, kdV_bl, kdV_int, kdV_str, kdV_ref, kdO_lst, kdO_tup, kdO_dK, V.ty.injEq, mAll, mAny, kit_NoneType_bool, kit_NoneType_int, kit_NoneType_str, kit_NoneType_list, kit_NoneType_tuple, kit_NoneType_dict, kit_bool_bool, kit_bool_int, kit_bool_str, kit_bool_list, kit_bool_tuple, kit_bool_dict, kit_int_bool, kit_int_int, kit_int_str, kit_int_list, kit_int_tuple, kit_int_dict, kit_str_bool, kit_str_int, kit_str_str, kit_str_list, kit_str_tuple, kit_str_dict, kit_list_bool, kit_list_int, kit_list_str, kit_list_list, kit_list_tuple, kit_list_dict, kit_tuple_bool, kit_tuple_int, kit_tuple_str, kit_tuple_list, kit_tuple_tuple, kit_tuple_dict, kit_dict_bool, kit_dict_int, kit_dict_str, kit_dict_list, kit_dict_tuple, kit_dict_dict, String.reduceEq, String.reduceNe, ne_eq, not_false_eq_true, not_true_eq_false, decide_false, decide_true, Bool.not_false, Bool.not_true, Bool.or_false, Bool.false_or, Bool.or_true, Bool.true_or, gTupH, wipe, tYes, exists_eq', exists_eq, exists_const, tFor_eq, tLc_eq]
        have ej : (kk : Int) + (j : Int) = ((kk + j : Nat) : Int) := by omega
        rw [ej]
        refine ⟨log_small (by omega), Nat.le_trans (Nat.add_le_add (show (Str.ofString "t").length ≤ 1 by decide) (num_len (n := kk + j) (by omega))) (by decide), _, h2, ?_, ?_, ?_⟩
        · rw [List.length_map, tags_len]; exact Nat.lt_of_le_of_lt (show _ ≤ 300 by omega) (by decide)
        · exact fun c o hc => by rw [upd_ne (ne_of_none hc hD)]; exact h1 _ _ hc
        · rw [show kk + (j + 1) = (kk + j) + 1 by omega, tags_snoc (by omega), List.map_append]; rfl
      · obtain ⟨h1, h2⟩ := h
        have e : kk + ((m : Int) - kk).toNat = m := by omega
        rw [e] at h2
        refine ⟨_, _, .list ((tags kk m).map PyData.str), rfl, .lst (h1 _ _ hP4) (DaAll.strs _), .lst h2 (DaAll.strs _), ?_, fun H6 s6 => ⟨true, rfl, iteF ?_⟩⟩
        · rw [dpt, dpts_strs, List.length_map, tags_len, decide_eq_true (by omega)]; rfl
        · refine tail_ok (q := []) (g := g) ((L4.same h1).same s6) ?_ rfl fun H7 g7 L7 s7 => ?_
          · show (m : Int) - m = 0; omega
          · refine ⟨l', g7, m, m, lbB, _, _, _, _, rfl, ?_, s7 _ _ (s6 _ _ (h1 _ _ (k4 _ _ n1 hbB))), hBC, n1, ne_of_none hbB hl', Nat.le_refl _, by omega, fun c o hc h => s7 _ _ (s6 _ _ (h1 _ _ (k4 _ _ (ne_of_none h hx0) (hKG c o hc h)))), hx0, ?_⟩
            rotate_left
            · cases q0 : H l' with
              | none => rfl
              | some u =>
                have : l' ≠ b := fun e => by rw [e] at hl'; rw [hbB] at hl'; cases hl'
                rw [hKG _ _ this q0] at hl'; cases hl'
            rw [tags_self]; exact L7
    · refine ⟨by decide, ite_dec (fun _ => ⟨askd.1, askd.2, asks⟩) (fun _ => ite_dec (fun _ => ⟨askd.1, askd.2, asks⟩) (fun hne => ⟨anss.1, anss.2, ?_⟩))⟩
      have hlt : kk < m := by omega
      have hLC : LineAt K G x l "whole" (tag kk :: tags (kk + 1) m) g := by rw [← tags_cons hlt]; exact hLB
      refine ⟨x, l, tags (kk + 1) m, g, tag kk, parts, rfl, hLC, fun H4 g4 L4 k4 => ⟨true, rfl, iteF (tail_ok (q := tags (kk + 1) m) (g := g4) L4 ?_ ?_ fun H5 g5 L5 s5 => ?_)⟩⟩
      · rw [tags_len]; omega
      · by_cases z : (m : Int) = (kk : Int) + 1
        · have e : m = kk + 1 := by omega
          rw [decide_eq_true z, e, tags_self]; rfl
        · rw [decide_eq_false z, tags_cons (by omega)]; rfl
      · exact ⟨l, g5, kk + 1, m, lbB, _, _, _, _, rfl, L5, s5 _ _ (k4 _ _ n1 n2 hbB), hBC, n1, n2, by omega, by omega, fun c o hc h => s5 _ _ (k4 _ _ (ne_of_none h hx0) (ne_of_none h hl0) (hKG c o hc h)), hx0, hl0⟩
  · obtain ⟨_, _, _, _, _, _, _, _, _, _, _, _, _, _, _, _, _, hK, _, _⟩ := hI
    simp only [tSeq, tAsg, tRet, tRetN, tIfS, tDrop, tNext, tBreak, tCont, tVar, tC, tOp, tUn, tB, tTest, tAnd, tOr, tNot, tAndV, tOrV, tNotV, tIf, tNil, tCons, tTup, tLst, tCB, tCallR, tMethR, tPropR, StX.tMakeR, tFld, sFld, sFldAug, tPar, tPar3, gName, gNil, gCons, gTup, gSub, rI, rI0, rU, rEq, rNe, mIxL, mIxT, mLenL, mLenT, mLenS, mLenD, mLenK, mList, mTupL, mInt, mAbs, mMax, mMin, mStr, mAddS, mIsN, mNotN, rIxS, rIxL, rSetL, rAppend, rExtendT, rPopAt, rCat, rIn, tBM, tBM0, tChain, tNever, scal, L2.start, cxK, iRng1, iRng2, tDNewK, tDGet, tDGet2, sDPut, tDIn, tDNotIn, DGet_dk, DPut_dk, IsD_dk, tyV_list, isLst_lst, isDk_dk, dkOf_dk, atI_0, atI_1, atI_2, atI_3, ixN_30, ixN_31, ixN_32, List.map, List.replicate, List.length_cons, List.length_nil, List.nil_append, List.cons_append, List.append_nil, Nat.reduceSub, Nat.reduceAdd, List.getElem?_cons_zero, List.getElem?_cons_succ, List.set_cons_zero, List.set_cons_succ, List.cons.injEq, Option.some.injEq, V.int.injEq, V.str.injEq, V.bl.injEq, V.ref.injEq, HO.ins.injEq, HO.lst.injEq, HO.tup.injEq, HO.dK.injEq, exists_eq_left, exists_eq_left', exists_eq_right, exists_eq_right', exists_and_left, exists_and_right, true_and, and_true, and_self, if_true, if_false, Bool.false_eq_true, Bool.true_eq_false, eq_self, reduceCtorEq, false_and, and_false, upd_same, upd_upd, and_assoc, Int.reduceToNat, Int.reducePow, Int.reduceMul, Int.reduceAdd, Int.reduceNeg, mIsi, mIsi2, kdV_non, kdV_bl, kdV_int, kdV_str, kdV_ref, kdO_lst, kdO_tup, kdO_dK, V.ty.injEq, mAll, mAny, kit_NoneType_bool, kit_NoneType_int, kit_NoneType_str, kit_NoneType_list, kit_NoneType_tuple, kit_NoneType_dict, kit_bool_bool, kit_bool_int, kit_bool_str, kit_bool_list, kit_bool_tuple, kit_bool_dict, kit_int_bool, kit_int_int, kit_int_str, kit_int_list, kit_int_tuple, kit_int_dict, kit_str_bool, kit_str_int, kit_str_str, kit_str_list, kit_str_tuple, kit_str_dict, kit_list_bool, kit_list_int, kit_list_str, kit_list_list, kit_list_tuple, kit_list_dict, kit_tuple_bool, kit_tuple_int, kit_tuple_str, kit_tuple_list, kit_tuple_tuple, kit_tuple_dict, kit_dict_bool, kit_dict_int, kit_dict_str, kit_dict_list, kit_dict_tuple, kit_dict_dict, String.reduceEq, String.reduceNe, ne_eq, not_false_eq_true, not_true_eq_false, decide_false, decide_true, Bool.not_false, Bool.not_true, Bool.or_false, Bool.false_or, Bool.or_true, Bool.true_or, gTupH, wipe, tYes, exists_eq', exists_eq, exists_const, tFor_eq, tLc_eq]
    exact k _ hK
end K30

set_option Elab.async false
set_option linter.all false
set_option maxRecDepth 100000
set_option maxHeartbeats 0
namespace K30
open PySem PySem.Spec PyProof.Rows L2 My
theorem SqL.kp {K : PySem.W.Frag} {b a : Addr} {H H' : Hp} {xs : List V} (h : SqL K H a xs) (k : Kp b H H') (n : H b = none) : SqL K H' a xs := by
  rcases h with (h | ⟨o, h⟩) | h
  · exact .inl (.inl (k _ _ (ne_of_none h n) h))
  · exact .inl (.inr ⟨o, k _ _ (ne_of_none h n) h⟩)
  · exact .inr h
def sp_law (K : PySem.W.Frag) : Sp := fun vs H Q _ => ∃ (a : Addr) (ns : List Int), vs = [.ref a] ∧ SqL K H a (ns.map V.int) ∧ ns.length ≤ 63 ∧ ∀ H', Q (.bl true) H'
theorem ok_law {P : Program} {w : World} {K : PySem.W.Frag} {mg : Str → Option Value} {base : Heap} {fd : FuncData} (F : L2.FunD K D_law.name D_law.qual D_law.params D_law.body D_law.scope (D_law.dvs K) (D_law.kws K) (He.ga K "law") fd) (T : Tx K mg) : FnOk P w K mg base CX0 15 (He.ga K "law") fd ["_law_script"] (sp_law K) := by
  refine FunD.ok F sc_law (fun vs H Q E h => by obtain ⟨a, ns, rfl, hS, hlen, k⟩ := h; rfl) (fun cdv A outer s H vs Q E hr h => ?_)
  obtain ⟨a, ns, rfl, hS, hlen, k⟩ := h
  suffices hh : ∃ t, PSs (cxOf CX0 P w K mg base ["_law_script", "_law_place"] "law" (defScope s_law) (He.ga K "law") cdv A outer s H E).nox (defBody s_law) t ∧ t { nx := fun _ H' => Q .non H', rt := Q } (start ["_law_script", "_law_place"] [.ref a]) H by
    obtain ⟨t, ht, hq⟩ := hh
    exact ⟨t, ht.nox, hq⟩
  refine ⟨_, (pss_cons (ps_for PassesOwn.never rfl (pi_range1 rfl T.n_range (pa_cons (pe_callB (max2 rfl) (by rfl) T.n_max (by decide +kernel) (pa_cons pe_int (pa_cons (pe_callB (min2 rfl) (by rfl) T.n_min (by decide +kernel) (pa_cons pe_int (pa_cons (pe_callB lenK (by rfl) T.n_len (by decide +kernel) (pa_cons (pv 0) pa_nil)) pa_nil))) pa_nil))) pa_nil)) (pg_name (i := 1) sc_law.nd rfl (by first | exact Or.inl rfl | exact Or.inr rfl)) (pss_one (ps_if (pt_not (pt_val (pe_callR (R_l_holds T) (hr.mono (by decide)) rfl T.g__law_holds T.k__law_holds pass0 (pa_cons (pe_callR (R_l_source T) (hr.mono (by decide)) rfl T.g__law_source T.k__law_source pass0 (pa_cons (pv 0) (pa_cons (pv 1) pa_nil))) pa_nil)))) (pss_one (ps_ret pe_bl)) pss_nil)))
      (pss_one (ps_ret pe_bl))), ?_⟩
  simp only [tSeq, tAsg, tRet, tRetN, tIfS, tDrop, tNext, tBreak, tCont, tVar, tC, tOp, tUn, tB, tTest, tAnd, tOr, tNot, tAndV, tOrV, tNotV, tIf, tNil, tCons, tTup, tLst, tCB, tCallR, tMethR, tPropR, StX.tMakeR, tFld, sFld, sFldAug, tPar, tPar3, gName, gNil, gCons, gTup, gSub, rI, rI0, rU, rEq, rNe, mIxL, mIxT, mLenL, mLenT, mLenS, mLenD, mLenK, mList, mTupL, mInt, mAbs, mMax, mMin, mStr, mAddS, mIsN, mNotN, rIxS, rIxL, rSetL, rAppend, rExtendT, rPopAt, rCat, rIn, tBM, tBM0, tChain, tNever, scal, L2.start, cxK, iRng1, iRng2, tDNewK, tDGet, tDGet2, sDPut, tDIn, tDNotIn, DGet_dk, DPut_dk, IsD_dk, tyV_list, isLst_lst, isDk_dk, dkOf_dk, atI_0, atI_1, atI_2, atI_3, ixN_30, ixN_31, ixN_32, List.map, List.replicate, List.length_cons, List.length_nil, List.nil_append, List.cons_append, List.append_nil, Nat.reduceSub, Nat.reduceAdd, List.getElem?_cons_zero, List.getElem?_cons_succ, List.set_cons_zero, List.set_cons_succ, List.cons.injEq, Option.some.injEq, V.int.injEq, V.str.injEq, V.bl.injEq, V.ref.injEq, HO.ins.injEq, HO.lst.injEq, HO.tup.injEq, HO.dK.injEq, exists_eq_left, exists_eq_left', exists_eq_right, exists_eq_right', exists_and_left, exists_and_right, true_and, and_true, and_self, if_true, if_false, Bool.false_eq_true, Bool.true_eq_false, eq_self, reduceCtorEq, false_and, and_false, upd_same, upd_upd, and_assoc, Int.reduceToNat, Int.reducePow, Int.reduceMul, Int.reduceAdd, Int.reduceNeg, mIsi, mIsi2, kdV_non, kdV_bl, kdV_int, kdV_str, kdV_ref, kdO_lst, kdO_tup, kdO_dK, V.ty.injEq, mAll, mAny, kit_NoneType_bool, kit_NoneType_int, kit_NoneType_str, kit_NoneType_list, kit_NoneType_tuple, kit_NoneType_dict, kit_bool_bool, kit_bool_int, kit_bool_str, kit_bool_list, kit_bool_tuple, kit_bool_dict, kit_int_bool, kit_int_int, kit_int_str, kit_int_list, kit_int_tuple, kit_int_dict, kit_str_bool, kit_str_int, kit_str_str, kit_str_list, kit_str_tuple, kit_str_dict, kit_list_bool, kit_list_int, kit_list_str, kit_list_list, kit_list_tuple, kit_list_dict, kit_tuple_bool, kit_tuple_int, kit_tuple_str, kit_tuple_list, kit_tuple_tuple, kit_tuple_dict, kit_dict_bool, kit_dict_int, kit_dict_str, kit_dict_list, kit_dict_tuple, kit_dict_dict, String.reduceEq, String.reduceNe, ne_eq, not_false_eq_true, not_true_eq_false, decide_false, decide_true, Bool.not_false, Bool.not_true, Bool.or_false, Bool.false_or, Bool.or_true, Bool.true_or, gTupH, wipe, tYes, exists_eq', exists_eq, exists_const, tFor_eq, tLc_eq]
  refine ⟨_, hS, ?_⟩
  have hN : ∃ N : Nat, N ≤ 6 ∧ (if (if ((List.map V.int ns).length : Int) < 6 then ((List.map V.int ns).length : Int) else 6) > 1 then if ((List.map V.int ns).length : Int) < 6 then ((List.map V.int ns).length : Int) else 6 else 1) = (N : Int) := by
    refine ⟨max 1 (min 6 ns.length), by omega, ?_⟩
    rw [List.length_map]
    split <;> split <;> omega
  obtain ⟨N, hN6, eN⟩ := hN
  rw [eN]
  refine ⟨by omega, by omega, loop_it (n := N) walk_range (fun i σ H' => ∃ v, σ = [some (.ref a), v] ∧ SqL K H' a (ns.map V.int)) ⟨none, rfl, hS⟩ (fun _ _ _ _ _ => trivial) (fun i y σ H2 H3 hi hI hy => ?_) (fun σ H2 hI => ?_)⟩
  · obtain ⟨rfl, rfl⟩ := hy
    obtain ⟨v, rfl, hS2⟩ := hI
    simp only [tSeq, tAsg, tRet, tRetN, tIfS, tDrop, tNext, tBreak, tCont, tVar, tC, tOp, tUn, tB, tTest, tAnd, tOr, tNot, tAndV, tOrV, tNotV, tIf, tNil, tCons, tTup, tLst, tCB, tCallR, tMethR, tPropR, StX.tMakeR, tFld, sFld, sFldAug, tPar, tPar3, gName, gNil, gCons, gTup, gSub, rI, rI0, rU, rEq, rNe, mIxL, mIxT, mLenL, mLenT, mLenS, mLenD, mLenK, mList, mTupL, mInt, mAbs, mMax, mMin, mStr, mAddS, mIsN, mNotN, rIxS, rIxL, rSetL, rAppend, rExtendT, rPopAt, rCat, rIn, tBM, tBM0, tChain, tNever, scal, L2.start, cxK, iRng1, iRng2, tDNewK, tDGet, tDGet2, sDPut, tDIn, tDNotIn, DGet_dk, DPut_dk, IsD_dk, tyV_list, isLst_lst, isDk_dk, dkOf_dk, atI_0, atI_1, atI_2, atI_3, ixN_30, ixN_31, ixN_32, List.map, List.replicate, List.length_cons, List.length_nil, List.nil_append, List.cons_append, List.append_nil, Nat.reduceSub, Nat.reduceAdd, List.getElem?_cons_zero, List.getElem?_cons_succ, List.set_cons_zero, List.set_cons_succ, List.cons.injEq, Option.some.injEq, V.int.injEq, V.str.injEq, V.bl.injEq, V.ref.injEq, HO.ins.injEq, HO.lst.injEq, HO.tup.injEq, HO.dK.injEq, exists_eq_left, exists_eq_left', exists_eq_right, exists_eq_right', exists_and_left, exists_and_right, true_and, and_true, and_self, if_true, if_false, Bool.false_eq_true, Bool.true_eq_false, eq_self, reduceCtorEq, false_and, and_false, upd_same, upd_upd, and_assoc, Int.reduceToNat, Int.reducePow, Int.reduceMul, Int.reduceAdd, Int.reduceNeg, mIsi, mIsi2, kdV_non, kdV_bl, kdV_int, kdV_str, kdV_ref, kdO_lst, kdO_tup, kdO_dK, V.ty.injEq, mAll, mAny, kit_NoneType_bool, kit_NoneType_int, kit_NoneType_str, kit_NoneType_list, kit_NoneType_tuple, kit_NoneType_dict, kit_bool_bool, kit_bool_int, kit_bool_str, kit_bool_list, kit_bool_tuple, kit_bool_dict, kit_int_bool, kit_int_int, kit_int_str, kit_int_list, kit_int_tuple, kit_int_dict, kit_str_bool, kit_str_int, kit_str_str, kit_str_list, kit_str_tuple, kit_str_dict, kit_list_bool, kit_list_int, kit_list_str, kit_list_list, kit_list_tuple, kit_list_dict, kit_tuple_bool, kit_tuple_int, kit_tuple_str, kit_tuple_list, kit_tuple_tuple, kit_tuple_dict, kit_dict_bool, kit_dict_int, kit_dict_str, kit_dict_list, kit_dict_tuple, kit_dict_dict, String.reduceEq, String.reduceNe, ne_eq, not_false_eq_true, not_true_eq_false, decide_false, decide_true, Bool.not_false, Bool.not_true, Bool.or_false, Bool.false_or, Bool.or_true, Bool.true_or, gTupH, wipe, tYes, exists_eq', exists_eq, exists_const, tFor_eq, tLc_eq]
    rw [show (0 : Int) + (i : Int) = (i : Int) by omega]
    refine ⟨a, ns, i, rfl, hS2, by omega, fun p l hp hB => ⟨p, l, rfl, upd_same, hB, fun H4 k4 => ⟨true, rfl, iteF ?_⟩⟩⟩
    have k5 : Kp p H3 H4 := fun c o hc h => k4 c o hc (by rw [upd_ne hc]; exact h)
    exact SqL.kp hS2 k5 hp
  · simp only [tSeq, tAsg, tRet, tRetN, tIfS, tDrop, tNext, tBreak, tCont, tVar, tC, tOp, tUn, tB, tTest, tAnd, tOr, tNot, tAndV, tOrV, tNotV, tIf, tNil, tCons, tTup, tLst, tCB, tCallR, tMethR, tPropR, StX.tMakeR, tFld, sFld, sFldAug, tPar, tPar3, gName, gNil, gCons, gTup, gSub, rI, rI0, rU, rEq, rNe, mIxL, mIxT, mLenL, mLenT, mLenS, mLenD, mLenK, mList, mTupL, mInt, mAbs, mMax, mMin, mStr, mAddS, mIsN, mNotN, rIxS, rIxL, rSetL, rAppend, rExtendT, rPopAt, rCat, rIn, tBM, tBM0, tChain, tNever, scal, L2.start, cxK, iRng1, iRng2, tDNewK, tDGet, tDGet2, sDPut, tDIn, tDNotIn, DGet_dk, DPut_dk, IsD_dk, tyV_list, isLst_lst, isDk_dk, dkOf_dk, atI_0, atI_1, atI_2, atI_3, ixN_30, ixN_31, ixN_32, List.map, List.replicate, List.length_cons, List.length_nil, List.nil_append, List.cons_append, List.append_nil, Nat.reduceSub, Nat.reduceAdd, List.getElem?_cons_zero, List.getElem?_cons_succ, List.set_cons_zero, List.set_cons_succ, List.cons.injEq, Option.some.injEq, V.int.injEq, V.str.injEq, V.bl.injEq, V.ref.injEq, HO.ins.injEq, HO.lst.injEq, HO.tup.injEq, HO.dK.injEq, exists_eq_left, exists_eq_left', exists_eq_right, exists_eq_right', exists_and_left, exists_and_right, true_and, and_true, and_self, if_true, if_false, Bool.false_eq_true, Bool.true_eq_false, eq_self, reduceCtorEq, false_and, and_false, upd_same, upd_upd, and_assoc, Int.reduceToNat, Int.reducePow, Int.reduceMul, Int.reduceAdd, Int.reduceNeg, mIsi, mIsi2, kdV_non, kdV_bl, kdV_int, kdV_str, kdV_ref, kdO_lst, kdO_tup, kdO_dK, V.ty.injEq, mAll, mAny, kit_NoneType_bool, kit_NoneType_int, kit_NoneType_str, kit_NoneType_list, kit_NoneType_tuple, kit_NoneType_dict, kit_bool_bool, kit_bool_int, kit_bool_str, kit_bool_list, kit_bool_tuple, kit_bool_dict, kit_int_bool, kit_int_int, kit_int_str, kit_int_list, kit_int_tuple, kit_int_dict, kit_str_bool, kit_str_int, kit_str_str, kit_str_list, kit_str_tuple, kit_str_dict, kit_list_bool, kit_list_int, kit_list_str, kit_list_list, kit_list_tuple, kit_list_dict, kit_tuple_bool, kit_tuple_int, kit_tuple_str, kit_tuple_list, kit_tuple_tuple, kit_tuple_dict, kit_dict_bool, kit_dict_int, kit_dict_str, kit_dict_list, kit_dict_tuple, kit_dict_dict, String.reduceEq, String.reduceNe, ne_eq, not_false_eq_true, not_true_eq_false, decide_false, decide_true, Bool.not_false, Bool.not_true, Bool.or_false, Bool.false_or, Bool.or_true, Bool.true_or, gTupH, wipe, tYes, exists_eq', exists_eq, exists_const, tFor_eq, tLc_eq]
    exact k _
abbrev Rw : PySem.W.OpenRow := PySem.W.OpenLaw.row PySem.Challenge.rw_owedanswers_k30_answers_in_order
abbrev hk : PySem.W.Hook := My.hookM 5 fa fn
def ob (s : PySem.W.SharedT) : He.AlD := My.obsMG 5 fa fn (HandSHeadRun.getT s)
theorem ob_eq (s : PySem.W.SharedT) : ob s = hk.obs s.abs := My.obsMG_eq (HandSHeadRun.getT_eq s)
def names : List PySem.Str := (["_wall", "OwedError", "Amid", "Closed", "Starved", "LINE_WORDS", "is_out", "is_in", "mark_of", "is_amid", "row_fault", "mark_after", "Line", "_law_source", "_law_draw", "_law_of", "_law_same", "_law_asked", "_law_answered", "_law_holds"] : List PySem.Str)
theorem run (w : World) : HandSHeadRun.RunEq Rw (PySem.W.view Rw.prog [24]) hk ob 3000 names w := by
  intro os
  kernel_rfl
theorem facts {P : Program} {w : World} {K : PySem.W.Frag} {h : Heap} {mg : Str → Option Value} {f : Addr} (X : K.In h) (G : h.Ns mainGlobals mg) (hfa : mg ("law" : Str) = some (.ref f)) (c : My.SaysM fa fn K) :
    ∃ fd : FuncData, (∀ (s : Shared) (v : Value), BindsTo s fd ⟨[v], []⟩ [("_law_script", v)]) ∧ ∀ base : Heap, K.In base → base.Ns mainGlobals mg → FnOk P w K mg base CX0 15 f fd ["_law_script"] (sp_law K) := by
  have T : Tx K mg := ⟨⟨h, X, G⟩, c⟩
  obtain ⟨fd, F⟩ := T.d_law
  have e := hfa.symm.trans T.g_law
  cases e
  have b := FunD.bindsA (ps := ["_law_script"]) F fun _ _ _ _ _ _ us hl => match us, hl with | [_], _ => rfl
  exact ⟨fd, fun s v => b s [v] rfl, fun base _ _ => ok_law F T⟩
end K30
open PySem PySem.W PySem.Calls PyProof.Rows
theorem PySem.Challenge.cw_owedanswers_k30_answers_in_order_holds : PySem.Challenge.rw_owedanswers_k30_answers_in_order.Holds := by
  w_on; o_law
  refine HandSHeadRun.head_any (r := OpenLaw.row PySem.Challenge.rw_owedanswers_k30_answers_in_order) (q := view (OpenLaw.row PySem.Challenge.rw_owedanswers_k30_answers_in_order).prog [24]) (H := K30.hk) (ob := K30.ob) (M := 3000) (loose := K30.names) (d := HandSHeadRun.topDef (OpenLaw.row PySem.Challenge.rw_owedanswers_k30_answers_in_order).prog 24) (kwd := []) K30.ob_eq
    (by kernel_rfl) (fun s => by kernel_rfl) K30.run (by kernel_rfl) (by kernel_rfl) (by kernel_rfl) (by rfl) (by first | assumption | decide +kernel) (by decide +kernel) ⟨rfl, rfl, rfl, rfl, rfl, by decide +kernel⟩ ?hw ?hc
  case hw => w_witness2
  case hc =>
    refine L2.walk_ofE (l := PySem.Challenge.rw_owedanswers_k30_answers_in_order) (n := 63) (k := 15) (x := "_law_script") (CX := L2.CX0) rfl (by decide) (by kernel_rfl) ⟨rfl, by decide, by decide⟩ ?F (fun _ _ _ _ z => z)
    intro w mg fa h Y G hmg0
    obtain ⟨K, KX, c⟩ := Y
    have hmg : mg ("law" : PySem.Str) = some (.ref fa) := by
      have e : (HandSHeadRun.topDef (OpenLaw.row PySem.Challenge.rw_owedanswers_k30_answers_in_order).prog 24).name = ("law" : PySem.Str) := by kernel_rfl
      rw [← e]
      exact hmg0
    obtain ⟨fd, hb, hF⟩ := K30.facts (P := (PySem.Challenge.rw_owedanswers_k30_answers_in_order).prog) (w := w) KX G hmg c
    exact ⟨K, fd, K30.sp_law K, KX, hb, fun H a ns hl hO hS => ⟨a, ns, rfl, hS, hl, fun _ => rfl⟩, hF⟩

