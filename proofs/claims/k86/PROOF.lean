import PyProof.Rows.All
import Wide.All
import OpenK.AllK
import Wide.FinOn
import KE.KStateDown
import HandS.Base
import HandS.Call
import HandS.Ends
import HandS.More
import HandS.Words
import HandS.WordsExc
import HandS.Defaults
import HandS.Property
import HandS.ClsMeth
import HandS.Star
import HandS.EndBits
import HandS.Head0
import HandS.Head1
import HandS.Head2
import HandS.HeadEnd
import HandS.HeadHook1
import HandS.HeadHook2
import HandS.HeadNt
import HandS.ForMost
import HandS.SlotsOwn
import HandS.IterVal
import HandS.IsInst
import HandS.OwnEq
import HandS.Flow
import HandS.Wide
import HandS.FStr
import HandS.SortInts
import HandS.Zip
import HandS.Conv
import HandS.NoneIn
import HandS.MakeKw
import KE.KStar
import KE.KCallOwn
import HandS.DictComp
import KE.KDictPairs
import KE.KDictList
import KE.GoesMore
import HandS.Walk
import HandS.List
import HandS.Comp
import HandS.Text
import HandS.WordsList
import HandS.TupAny
import PyProof.InstEq
import PyProof.FactsAll.object_2
import OpenK.KMeth
import KE.KOpsOwn
import HandS.MakeKwOnly
import OpenK.KMore
import HandS.DictEq
import KE.KEqSeq
import PyProof.ReprRoads
import HandS.Evl
import PyProof.ReprBulk
import PyProof.FitsInt
import KE.IntTextLaws
import HandS.Exc
import HandS.GenList
import PyProof.P3Eq
import PyProof.StrBlock2
import HandS.Style
import PySem.Challenge.RW_gapshares_k86_whole_stores_taken_back
set_option Elab.async false
set_option linter.all false
set_option maxRecDepth 100000
set_option maxHeartbeats 4000000
/-! The head: checks of the part of the heap at told addresses; three looks of one run put together. -/
namespace G
open PySem PySem.W PySem.Calls PyProof.Rows L2

/-! ### checks -/
abbrev Ck : Type := Frag → Bool
def ckGlo (x : PySem.Str) (a : Addr) : Ck := fun K => He.eqO (nsIn K mainGlobals x) (some (some (.ref a)))
def ckFree (x : PySem.Str) : Ck := fun K => He.eqO (nsIn K mainGlobals x) (some none)
def ckInt (x : PySem.Str) (i : Int) : Ck := fun K => match nsIn K mainGlobals x with
  | some (some (.int j _)) => decide (j = i)
  | _ => false
def ckStr (x z : PySem.Str) : Ck := fun K => match nsIn K mainGlobals x with
  | some (some (.str y _)) => decide (y = z)
  | _ => false
def ckCls (C : Addr) : Ck := fun K => plainGet K C PySem.Str.empty && (hasDictIn K C && (plainOver K C && He.eqO (findIn K (.ref C) "__setattr__") (some (some (.builtin "object.__setattr__")))))
def ckNo (C : Addr) (f : PySem.Str) : Ck := fun K => He.eqO (findIn K (.ref C) f) (some none)
def ckMeth (C : Addr) (m : PySem.Str) (f : Addr) : Ck := fun K => He.eqO (findIn K (.ref C) m) (some (some (.ref f))) && (isFn K (.ref f) && keepIn K (.ref f))
def ckMk (C f : Addr) : Ck := fun K => makesIn K C && (He.eqO (findIn K (.ref C) "__init__") (some (some (.ref f))) && (isFn K (.ref f) && keepIn K (.ref C)))
def ckRec (p : Addr) (T : String) (g : Addr) : Ck := fun K => match recIn K p T with
  | some (.ref f :: _) => decide (f = g)
  | _ => false
def ckProp (C : Addr) (f : PySem.Str) (p g : Addr) : Ck := fun K => He.eqO (findIn K (.ref C) f) (some (some (.ref p))) && (He.eqO (specialIn K (.ref p) "__get__") (some (some (.builtin "property.__get__"))) && (decide (takesIn K (.ref p) = some true) && ckRec p "property" g K))
def ckRead (C : Addr) : Ck := fun K => readsIn K C (.type "type") && He.eqO (specialIn K (.ref C) "__getattribute__") (some (some (.builtin "type.__getattribute__")))
def ckWrap (C : Addr) (T gid : String) (m : PySem.Str) (p g : Addr) : Ck := fun K => (match findCls K (.ref C) (.type "type") m with
    | some (.get (.builtin g') (.ref p') .none (.ref D)) => decide (g' = gid) && (decide (p' = p) && decide (D = C))
    | _ => false) && (ckRec p T g K && fnIn K g)
def ckTyI (C : Addr) : Ck := fun K => He.eqO (findIn K (.ref C) "__class__") (some (some (.builtin "object.__class__"))) && (He.eqO (specialIn K (.builtin "object.__class__") "__get__") (some (some (.builtin "getset_descriptor.__get__"))) && (decide (takesIn K (.builtin "object.__class__") = some true) && decide (mroIn K C (.type "object") = some true)))
structure TyI (K : Frag) (C : Addr) : Prop where
  ha : findIn K (.ref C) "__class__" = some (some (.builtin "object.__class__"))
  hn : specialIn K (.builtin "object.__class__") "__get__" = some (some (.builtin "getset_descriptor.__get__"))
  htk : takesIn K (.builtin "object.__class__") = some true
  hm : mroIn K C (.type "object") = some true
def ckPset (C : Addr) (f : PySem.Str) (p g : Addr) : Ck := fun K => He.eqO (takerIn K C f) (some (some (.ref p))) && (decide (typeIn K (.ref p) = some (.type "property")) && (match recIn K p "property" with
  | some (_ :: .ref f :: _) => decide (f = g)
  | _ => false))
def ckNf (C : Addr) (t : Value) : Ck := fun K => notFirst K C t
def ckIsi (t c : Value) (b : Bool) : Ck := fun K => decide (kitOne K t c = some b)
section
variable {K : Frag} {h : Heap} {mg : PySem.Str → Option Value}
theorem ba {a b : Bool} (h : (a && b) = true) : a = true ∧ b = true := Bool.and_eq_true_iff.mp h
theorem glo_ok (X : K.In h) (G : h.Ns mainGlobals mg) {x : PySem.Str} {a : Addr} (c : ckGlo x a K = true) : mg x = some (.ref a) := mg_of X G (He.eqO_ok c)
theorem free_ok (X : K.In h) (G : h.Ns mainGlobals mg) {x : PySem.Str} (c : ckFree x K = true) : mg x = none := mg_none_of X G (He.eqO_ok c)
theorem int_ok (X : K.In h) (G : h.Ns mainGlobals mg) {x : PySem.Str} {i : Int} (c : ckInt x i K = true) : ∃ t, mg x = some (.int i t) := by
  unfold ckInt at c
  split at c
  · rename_i j t e
    have e2 : j = i := of_decide_eq_true c
    subst e2
    exact ⟨t, mg_of X G e⟩
  · cases c
theorem str_ok (X : K.In h) (G : h.Ns mainGlobals mg) {x z : PySem.Str} (c : ckStr x z K = true) : ∃ t, mg x = some (.str z t) := by
  unfold ckStr at c
  split at c
  · rename_i y t e
    have e2 : y = z := of_decide_eq_true c
    subst e2
    exact ⟨t, mg_of X G e⟩
  · cases c
theorem cls_ok {C : Addr} (c : ckCls C K = true) : Cls K C := by
  obtain ⟨c1, c⟩ := ba c
  obtain ⟨c2, c⟩ := ba c
  obtain ⟨c3, c4⟩ := ba c
  exact ⟨c1, c2, c3, He.eqO_ok c4⟩
theorem no_ok {C : Addr} {f : PySem.Str} (c : ckNo C f K = true) : NoAttr K C f := He.eqO_ok c
theorem meth_ok {C f : Addr} {m : PySem.Str} (c : ckMeth C m f K = true) : Meth K C m f := by
  obtain ⟨c1, c⟩ := ba c
  obtain ⟨c2, c3⟩ := ba c
  exact ⟨He.eqO_ok c1, c2, c3⟩
theorem mk_ok {C f : Addr} (c : ckMk C f K = true) : Mk K C f := by
  obtain ⟨c1, c⟩ := ba c
  obtain ⟨c2, c⟩ := ba c
  obtain ⟨c3, c4⟩ := ba c
  exact ⟨c1, He.eqO_ok c2, c3, c4⟩
theorem rec_ok {p g : Addr} {T : String} (c : ckRec p T g K = true) : ∃ rest, recIn K p T = some (.ref g :: rest) := by
  unfold ckRec at c
  split at c
  · rename_i f r e
    have e2 : f = g := of_decide_eq_true c
    subst e2
    exact ⟨r, e⟩
  · cases c
theorem prop_ok {C p g : Addr} {f : PySem.Str} (c : ckProp C f p g K = true) : PropOf K C f p g := by
  obtain ⟨c1, c⟩ := ba c
  obtain ⟨c2, c⟩ := ba c
  obtain ⟨c3, c4⟩ := ba c
  exact ⟨He.eqO_ok c1, He.eqO_ok c2, of_decide_eq_true c3, rec_ok c4⟩
theorem read_ok {C : Addr} (c : ckRead C K = true) : ClX.CRead K C (.type "type") := by
  obtain ⟨c1, c2⟩ := ba c
  exact ⟨c1, He.eqO_ok c2⟩
theorem wrap_ok {C p g : Addr} {T gid : String} {m : PySem.Str} (c : ckWrap C T gid m p g K = true) :
    findCls K (.ref C) (.type "type") m = some (.get (.builtin gid) (.ref p) .none (.ref C)) ∧ (∃ rest, recIn K p T = some (.ref g :: rest)) ∧ fnIn K g = true := by
  obtain ⟨h1, h2⟩ := ba c
  obtain ⟨h3, h4⟩ := ba h2
  refine ⟨?_, rec_ok h3, h4⟩
  split at h1
  · rename_i g' p' D e
    obtain ⟨k1, k⟩ := ba h1
    obtain ⟨k2, k3⟩ := ba k
    rw [e, of_decide_eq_true k1, of_decide_eq_true k2, of_decide_eq_true k3]
  · cases h1
theorem cmet_ok {C p g : Addr} {m : PySem.Str} (c : ckWrap C "classmethod" "classmethod.__get__" m p g K = true) : ClX.CMet K C (.type "type") m p g := by
  obtain ⟨c1, c2, c3⟩ := wrap_ok c
  exact ⟨c1, c2, c3⟩
theorem tyi_ok {C : Addr} (c : ckTyI C K = true) : TyI K C := by
  obtain ⟨c1, c⟩ := ba c
  obtain ⟨c2, c⟩ := ba c
  obtain ⟨c3, c4⟩ := ba c
  exact ⟨He.eqO_ok c1, He.eqO_ok c2, of_decide_eq_true c3, of_decide_eq_true c4⟩
theorem pset_ok {C p g : Addr} {f : PySem.Str} (c : ckPset C f p g K = true) : takerIn K C f = some (some (.ref p)) ∧ typeIn K (.ref p) = some (.type "property") ∧ ∃ a rest, recIn K p "property" = some (a :: .ref g :: rest) := by
  obtain ⟨c1, c⟩ := ba c
  obtain ⟨c2, c3⟩ := ba c
  refine ⟨He.eqO_ok c1, of_decide_eq_true c2, ?_⟩
  split at c3
  · rename_i a f r e
    have e2 : f = g := of_decide_eq_true c3
    subst e2
    exact ⟨a, r, e⟩
  · cases c3
theorem isi_ok {t c : Value} {b : Bool} (h : ckIsi t c b K = true) : kitOne K t c = some b := of_decide_eq_true h
end

/-! ### the Hook -/
abbrev AlX : Type := Bool × List He5.FnW
def obsX (cks : List Ck) (fn : List He5.DefA) (K : Frag) : AlX := ((cks.all fun c => c K) && fn.all fun d => d.ok K, fn.map fun d => He5.fnA K (d.at_ K))
def valX (fn : List He5.DefA) : AlX := (true, fn.map He5.DefA.val)
def SaysX (cks : List Ck) (fn : List He5.DefA) (K : Frag) : Prop := obsX cks fn K = valX fn
def obsXG (as : List Addr) (cks : List Ck) (fn : List He5.DefA) (g : Addr → Option Obj) : AlX := obsX cks fn (He.frG g as)
def hookX (as : List Addr) (cks : List Ck) (fn : List He5.DefA) : Hook where
  α := AlX
  obs := fun s => obsXG as cks fn s.heap.get?
  val := fun _ => valX fn
  says := fun _ h => ∃ K : Frag, K.In h ∧ SaysX cks fn K
  of := fun _ _ e => ⟨_, He.frG_in, e⟩
  keeps := fun _ _ _ ⟨K, hK, c⟩ k => ⟨K, Frag.In.keeps hK k, c⟩
theorem obsXG_eq {as : List Addr} {cks : List Ck} {fn : List He5.DefA} {g : Addr → Option Obj} {s : Shared} (h : ∀ a, g a = s.heap.get? a) : obsXG as cks fn g = (hookX as cks fn).obs s := by
  have e : g = s.heap.get? := funext h
  rw [e] <;> rfl
section
variable {cks : List Ck} {fn : List He5.DefA} {K : Frag}
theorem SaysX.ck (c : SaysX cks fn K) (i : Nat) {f : Ck} (h : cks[i]? = some f) : f K = true := by
  have c1 := (ba (show ((cks.all fun f => f K) && fn.all fun d => d.ok K) = true from congrArg (fun z : AlX => z.1) c)).1
  exact List.all_eq_true.mp c1 f (List.mem_of_getElem? h)
theorem SaysX.fd (c : SaysX cks fn K) (i : Nat) {d : He5.DefA} (h : fn[i]? = some d) : ∃ fd, FunD K d.name d.qual d.params d.body d.scope (d.dvs K) (d.kws K) (d.at_ K) fd := by
  have c2 := (ba (show ((cks.all fun f => f K) && fn.all fun d => d.ok K) = true from congrArg (fun z : AlX => z.1) c)).2
  have e : fn.map (fun d => He5.fnA K (d.at_ K)) = fn.map He5.DefA.val := congrArg (fun z : AlX => z.2) c
  have e2 : (fn.map fun d => He5.fnA K (d.at_ K))[i]? = (fn.map He5.DefA.val)[i]? := by rw [e]
  rw [List.getElem?_map, List.getElem?_map, h] at e2
  exact He5.DefA.funD (Option.some.inj e2) (List.all_eq_true.mp c2 d (List.mem_of_getElem? h))
end

/-! ### three looks of one run -/
theorem map3 {α β γ δ : Type} {o : Option α} {f : α → β} {g : α → γ} {k : α → δ} {b : β} {c : γ} {d : δ} (h1 : o.map f = some b) (h2 : o.map g = some c) (h3 : o.map k = some d) : o.map (fun s => (f s, g s, k s)) = some (b, c, d) := by
  cases o with
  | none => cases h1
  | some a =>
    have e1 : f a = b := Option.some.inj h1
    have e2 : g a = c := Option.some.inj h2
    have e3 : k a = d := Option.some.inj h3
    show some (f a, g a, k a) = _
    rw [e1, e2, e3]
end G
set_option Elab.async false
set_option linter.all false
set_option maxRecDepth 100000
set_option maxHeartbeats 4000000
/-! Calls by positional promises; a class's own len, [], str, comparison; static methods; classes held by a local name; a property set. -/
namespace G
open PySem PySem.Spec PyProof.Rows L2
theorem ins_at {X : Cx} {pins : List (Addr × Obj)} {σ : L2.St} {H : Hp} {s : Shared} {a C dx : Addr} {fs : List (Str × V)} (I : Inv X pins σ H s) (h : H a = some (.ins C dx fs)) :
    ∃ od, PySem.W.InstAt s.heap a (PySem.W.instObj C dx) C (some od) := by
  obtain ⟨mA, J, _⟩ := ins_get I.hok h
  obtain ⟨od, J, _⟩ := J.look
  exact ⟨od, J⟩
theorem fnIn_of {K : PySem.W.Frag} {x qual : Str} {params : Arguments} {body : List Stmt} {scope : Scope} {dvs : List V} {kws : List (Str × V)} {f : Addr} {fd : FuncData} (F : FunD K x qual params body scope dvs kws f fd) : PySem.W.fnIn K f = true := by
  obtain ⟨oc, od, dV, kV, doc, pm, an, cdv, ct, osl, e, l, _⟩ := F.ex
  unfold PySem.W.fnIn
  rw [l] <;> rfl
/-- one def without a star: its promise by positional values -/
theorem fr_mk {P : Program} {w : World} {K : PySem.W.Frag} {mg : Str → Option Value} {base : Heap} {x qual : Str} {st : Stmt} {f : Addr} {N ps : List Str} {k : Nat} {sp : Sp}
    (F : ∃ fd, FunD K x qual (defArgs st) (defBody st) (defScope st) [] [] f fd) (S : FnScope N ps (defScope st))
    (hb : ∀ (kV doc pm : Value) (an : Option Addr) (cdv ct : Value) (us : List Value), us.length = ps.length → bindArgs (PySem.W.fnOf x qual (defArgs st) (defBody st) (defScope st) .none kV doc pm an cdv ct) ⟨us, []⟩ = pure (ps.zip us))
    (len : ∀ vs H Q E, sp vs H Q E → vs.length = ps.length)
    (hbody : ∀ (cdv : Value) (A : Around) (outer : List Env) (s : Shared) (H : Hp) (vs : List V) (Q : VK) (E : XK), Room k (A.deeper (envOfC qual (defScope st) s.heap.objs.size f cdv)) → sp vs H Q E →
      ∃ t, PSs (cxOf CX0 P w K mg base N qual (defScope st) f cdv A outer s H E).nox (defBody st) t ∧ t { nx := fun _ H' => Q .non H', rt := Q } (start N vs) H) : FnR P w K mg base CX0 (k + 1) f sp := by
  obtain ⟨fd, F⟩ := F
  have z : FnOk P w K mg base CX0 (k + 1) f fd ps sp := F.ok S len fun cdv A outer s H vs Q E hr h => by
    obtain ⟨t, h1, h2⟩ := hbody cdv A outer s H vs Q E hr h
    exact ⟨t, h1.nox, h2⟩
  have y := z.raw (F.bindsN hb) .nil
  exact y.imp fun vs H Q E h => by rw [List.append_nil]; exact h
/-- the same as FnOk (the law's own def) -/
theorem fok_mk {P : Program} {w : World} {K : PySem.W.Frag} {mg : Str → Option Value} {base : Heap} {x qual : Str} {st : Stmt} {f : Addr} {fd : FuncData} {N ps : List Str} {k : Nat} {sp : Sp}
    (F : FunD K x qual (defArgs st) (defBody st) (defScope st) [] [] f fd) (S : FnScope N ps (defScope st))
    (len : ∀ vs H Q E, sp vs H Q E → vs.length = ps.length)
    (hbody : ∀ (cdv : Value) (A : Around) (outer : List Env) (s : Shared) (H : Hp) (vs : List V) (Q : VK) (E : XK), Room k (A.deeper (envOfC qual (defScope st) s.heap.objs.size f cdv)) → sp vs H Q E →
      ∃ t, PSs (cxOf CX0 P w K mg base N qual (defScope st) f cdv A outer s H E).nox (defBody st) t ∧ t { nx := fun _ H' => Q .non H', rt := Q } (start N vs) H) : FnOk P w K mg base CX0 (k + 1) f fd ps sp :=
  F.ok S len fun cdv A outer s H vs Q E hr h => by
    obtain ⟨t, h1, h2⟩ := hbody cdv A outer s H vs Q E hr h
    exact ⟨t, h1.nox, h2⟩
/-- one def whose last parameter is a star -/
theorem fr_star {P : Program} {w : World} {K : PySem.W.Frag} {mg : Str → Option Value} {base : Heap} {x qual pv : Str} {st : Stmt} {f : Addr} {N ps : List Str} {k : Nat} {sp : Sp}
    (F : ∃ fd, FunD K x qual (defArgs st) (defBody st) (defScope st) [] [] f fd) (S : FnScope N (ps ++ [pv]) (defScope st))
    (hb : ∀ (kV doc pm : Value) (an : Option Addr) (cdv ct : Value) (us rest : List Value), us.length = ps.length → bindArgs (PySem.W.fnOf x qual (defArgs st) (defBody st) (defScope st) .none kV doc pm an cdv ct) ⟨us ++ rest, []⟩ = (newTuple rest >>= fun t => pure (ps.zip us ++ [(pv, t)])))
    (hbody : ∀ (cdv : Value) (A : Around) (outer : List Env) (s : Shared) (H : Hp) (vs : List V) (Q : VK) (E : XK), Room k (A.deeper (envOfC qual (defScope st) s.heap.objs.size f cdv)) → sp vs H Q E →
      ∃ t, PSs (cxOf CX0 P w K mg base N qual (defScope st) f cdv A outer s H E).nox (defBody st) t ∧ t { nx := fun _ H' => Q .non H', rt := Q } (start N vs) H) :
    FnR P w K mg base CX0 (k + 1) f (fun vs H Q E => ∃ ws rest, vs = ws ++ rest ∧ ws.length = ps.length ∧ rest.length ≤ sizeLine ∧ ∀ p, H p = Option.none → sp (ws ++ [V.ref p]) (upd H p (.tup rest)) Q E) := by
  obtain ⟨fd, F⟩ := F
  obtain ⟨oc, od, dV, kV, doc, pm, an, cdv, ct, osl, e, l, hcd, hd, _⟩ := F.ex
  rcases hd with ⟨_, e2⟩ | ⟨e2, _⟩
  · subst e2
    subst e
    exact StX.fn_star l hcd S StX.cxUp_none (hb kV doc pm an cdv ct) fun A outer s H vs Q E hr h => by
      obtain ⟨t, h1, h2⟩ := hbody cdv A outer s H vs Q E hr h
      exact ⟨t, h1.nox, h2⟩
  · exact absurd rfl e2

/-! ### readings and rules -/
def tCallR (sp : Sp) (E : XK) (t : TA) : TE := fun σ H Q => t σ H fun vs H1 => sp vs H1 Q E
def tCallS (K : PySem.W.Frag) (sp : Sp) (E : XK) (te : TE) : TE := fun σ H Q => te σ H fun y H1 => ∃ a xs, y = V.ref a ∧ (SqT K H1 a xs ∨ SqL K H1 a xs) ∧ sp xs H1 Q E
def tSMeth (C : Addr) (sp : Sp) (E : XK) (ta : TE) (t : TA) : TE := fun σ H Q => ta σ H fun x H1 => x = .ref C ∧ t σ H1 fun vs H2 => sp vs H2 Q E
def kMake (C : Addr) (sp : Sp) (E : XK) (vs : List V) (H : Hp) (Q : VK) : Prop := ∀ x dx, H x = Option.none → H dx = Option.none → dx ≠ x →
  sp (V.ref x :: vs) (upd (upd H dx (.own x)) x (.ins C dx [])) (fun v H2 => v = .non ∧ Q (.ref x) H2) E
def tMakeV (i : Nat) (C : Addr) (sp : Sp) (E : XK) (t : TA) : TE := fun σ H Q => σ[i]? = some (some (.ref C)) ∧ t σ H fun vs H1 => kMake C sp E vs H1 Q
def tMakeG (C : Addr) (sp : Sp) (E : XK) (t : TA) : TE := fun σ H Q => t σ H fun vs H1 => kMake C sp E vs H1 Q
def tMakeS (K : PySem.W.Frag) (C : Addr) (sp : Sp) (E : XK) (te : TE) : TE := fun σ H Q => te σ H fun y H1 => ∃ a xs, y = V.ref a ∧ (SqT K H1 a xs ∨ SqL K H1 a xs) ∧ kMake C sp E xs H1 Q
def tMakeVS (K : PySem.W.Frag) (i : Nat) (C : Addr) (sp : Sp) (E : XK) (te : TE) : TE := fun σ H Q => σ[i]? = some (some (.ref C)) ∧ tMakeS K C sp E te σ H Q
section
variable {X : Cx} {CX : CXT} {k i : Nat} {f g C p : Addr} {sp : Sp} {E : XK} {x m : Str} {mc : Value} {e o : Expr} {es : List Expr} {te ta : TE} {t : TA} {pp sp_ pos apos : Pos} {pl : Sem Bool}
theorem pe_callR (F : FnR X.prog X.w X.K X.mg X.base CX k f sp) (hr : Room k X.A) (hg : Gl X x) (hm : X.mg x = some (.ref f)) (hk : PySem.W.keepIn X.K (.ref f) = true) (hx : Passes CX X E) (ha : PA X (e :: es) t)
    (hdb : (x == ("__debug__" : Str)) = false := by decide) (he : starEach (e :: es) X.env = (false, eval e X.env) :: starEach es X.env := by rfl) (hpl : (backTo pos (starEach es X.env)).any (·.1) = false := by rfl) :
    PE X (.Call (.Name x pp) (e :: es) [] pos) (tCallR sp E t) := by
  refine ⟨fun pins s σ H Q I h => ?_⟩
  refine wpAny_Call_Name_kw (ld_glob I hg hm ?_ hdb)
  refine PySem.W.callWith_K (h₀ := X.base) I.ok.mod.kin hk (thn (ha.run pos pins s σ H _ I h) fun us s1 ⟨vs, H1, I1, r, q⟩ => ⟨I1.kIn, ?_⟩) he hpl
  exact wpAny_call (run_fnR F hr hx I1 r q)
theorem getsmet_ok {pins : List (Addr × Obj)} {σ : L2.St} {H : Hp} {s : Shared} {A : Around} {E : Value → Shared → Prop} {b : Bool} {Q : Value → Shared → Prop} (I : Inv X pins σ H s) (r : ClX.CRead X.K C mc)
    (at_ : PySem.W.findCls X.K (.ref C) mc m = some (.get (.builtin "staticmethod.__get__") (.ref p) .none (.ref C))) (rc : ∃ rest, PySem.W.recIn X.K p "staticmethod" = some (.ref g :: rest))
    (h : ∀ s', Inv X pins σ H s' → Q (.ref g) s') : wpAny (model X.prog X.w) A (getAttr (.ref C) m b) Q E s := by
  obtain ⟨rest, hp⟩ := rc
  refine PySem.W.cls_bind I.kIn r.rd at_ ?_
  exact wpAny_call (PySem.W.sm_get (s := { s with toks := s.toks + 1 }) I.kIn hp (PySem.W.handed_on rfl (h _ (I.tok _))))
/-- C.m(..), m a static method -/
theorem pe_smeth (he : PE X o ta) (r : ClX.CRead X.K C mc) (c : PySem.W.findCls X.K (.ref C) mc m = some (.get (.builtin "staticmethod.__get__") (.ref p) .none (.ref C)) ∧ (∃ rest, PySem.W.recIn X.K p "staticmethod" = some (.ref g :: rest)) ∧ PySem.W.fnIn X.K g = true)
    (F : FnR X.prog X.w X.K X.mg X.base CX k g sp) (hr : Room k X.A) (hk : PySem.W.keepIn X.K (.ref g) = true) (hx : Passes CX X E) (ha : PA X (e :: es) t)
    (hst : starEach (e :: es) X.env = (false, eval e X.env) :: starEach es X.env := by rfl) (hpl : (backTo pos (starEach es X.env)).any (·.1) = false := by rfl)
    (ht : eval (.Call (.Attribute o m apos) (e :: es) [] pos) X.env = (do
      let ov ← eval o X.env
      standAt apos.atName
      let (f, first) ← holding [ov] (getMethod ov m pl)
      callWith pos f first (backTo pos (starEach (e :: es) X.env)) (backToKw pos (keywordEach [] X.env))) := by rfl) : PE X (.Call (.Attribute o m apos) (e :: es) [] pos) (tSMeth C sp E ta t) := by
  refine ⟨fun pins s σ H Q I h => ?_⟩
  rw [ht]
  refine wpAny_bind (thn (he.run pins s σ H _ I h) fun u s1 ⟨x, H1, I1, rx, ex, q⟩ => ?_)
  subst ex
  obtain rfl : u = Value.ref C := rx
  refine wpAny_bind (wpAny_standAt (wpAny_bind (wpAny_holding (PySem.W.method_cls I1.kIn r.ga (getsmet_ok I1 r c.1 c.2.1 fun s2 I2 => ?_)))))
  refine PySem.W.callWith_K (first := []) (h₀ := X.base) I.ok.mod.kin hk (thn (ha.run pos pins s2 σ H1 _ I2 q) fun us s3 ⟨vs, H2, I3, r3, q2⟩ => ⟨I3.kIn, ?_⟩) hst hpl
  exact wpAny_call (run_fnR F hr hx I3 r3 q2)
theorem run_mk {pins : List (Addr × Obj)} {σ : L2.St} {H : Hp} {s : Shared} {Q : VK} {us : List Value} {vs : List V} (M : Mk X.K C f) (F : FnR X.prog X.w X.K X.mg X.base CX k f sp) (hr : Room (k + 1) X.A) (hx : Passes CX X E) (I : Inv X pins σ H s) (r : Vals vs us)
    (h : kMake C sp E vs H Q) : wpAny (model X.prog X.w) X.A (call (.ref C) us) (EP X pins σ Q) X.xe s := StX.run_makeR M F hr hx I r h
theorem pe_makeG (M : Mk X.K C f) (F : FnR X.prog X.w X.K X.mg X.base CX k f sp) (hr : Room (k + 1) X.A) (hg : Gl X x) (hm : X.mg x = some (.ref C)) (hx : Passes CX X E) (ha : PA X (e :: es) t) (hdb : (x == ("__debug__" : Str)) = false := by decide)
    (he : starEach (e :: es) X.env = (false, eval e X.env) :: starEach es X.env := by rfl) (hpl : (backTo pos (starEach es X.env)).any (·.1) = false := by rfl) : PE X (.Call (.Name x pp) (e :: es) [] pos) (tMakeG C sp E t) := by
  refine ⟨fun pins s σ H Q I h => ?_⟩
  refine wpAny_Call_Name_kw (ld_glob I hg hm ?_ hdb)
  refine PySem.W.callWith_K (h₀ := X.base) I.ok.mod.kin M.kp (thn (ha.run pos pins s σ H _ I h) fun us s1 ⟨vs, H1, I1, r, q⟩ => ⟨I1.kIn, ?_⟩) he hpl
  exact run_mk M F hr hx I1 r q
/-- C( *y) -/
theorem pe_makeS (M : Mk X.K C f) (F : FnR X.prog X.w X.K X.mg X.base CX k f sp) (hr : Room (k + 1) X.A) (hg : Gl X x) (hm : X.mg x = some (.ref C)) (hx : Passes CX X E) (he : PE X e te) (hd : (x == ("__debug__" : Str)) = false := by decide)
    (hst : starEach [.Starred e sp_] X.env = [(true, eval e X.env)] := by rfl) : PE X (.Call (.Name x pp) [.Starred e sp_] [] pos) (tMakeS X.K C sp E te) := by
  refine ⟨fun pins s σ H Q I h => ?_⟩
  refine wpAny_Call_Name_kw (ld_glob I hg hm ?_ hd)
  refine PySem.W.callWith_S (h₀ := X.base) I.ok.mod.kin M.kp (thn (he.run pins s σ H _ I h) fun v s1 ⟨y, H1, I1, ry, a, xs, ey, hxs, q⟩ => ?_) hst
  subst ey
  obtain rfl : v = Value.ref a := ry
  exact StX.star_any I1 hxs fun us s2 I2 rv => ⟨I2.kIn, run_mk M F hr hx I2 rv q⟩
/-- c(e, ..), c a local name that holds the class -/
theorem pe_makeV (M : Mk X.K C f) (F : FnR X.prog X.w X.K X.mg X.base CX k f sp) (hr : Room (k + 1) X.A) (hx : Passes CX X E) (hN : X.N[i]? = some x) (hv : Vis X.env.scope x) (ha : PA X (e :: es) t)
    (hd : (x == ("__debug__" : Str)) = false := by decide) (hcd : (x == ("__classdict__" : Str)) = false := by decide)
    (he : starEach (e :: es) X.env = (false, eval e X.env) :: starEach es X.env := by rfl) (hpl : (backTo pos (starEach es X.env)).any (·.1) = false := by rfl) : PE X (.Call (.Name x pp) (e :: es) [] pos) (tMakeV i C sp E t) := by
  refine ⟨fun pins s σ H Q I h => ?_⟩
  obtain ⟨hs, h⟩ := h
  refine wpAny_Call_Name_kw (thn ((pe_var (pos := pp) (i := i) hN hv hd hcd).run pins s σ H (fun v H1 => v = .ref C ∧ H1 = H) I ⟨.ref C, hs, rfl, rfl⟩) fun u s1 ⟨v, H1, I1, r1, ev, eH⟩ => ?_)
  subst ev
  rw [eH] at I1
  cases r1
  refine PySem.W.callWith_K (h₀ := X.base) I.ok.mod.kin M.kp (thn (ha.run pos pins s1 σ H _ I1 h) fun us s2 ⟨vs, H2, I2, r, q⟩ => ⟨I2.kIn, ?_⟩) he hpl
  exact run_mk M F hr hx I2 r q
theorem pe_makeVS (M : Mk X.K C f) (F : FnR X.prog X.w X.K X.mg X.base CX k f sp) (hr : Room (k + 1) X.A) (hx : Passes CX X E) (hN : X.N[i]? = some x) (hv : Vis X.env.scope x) (he : PE X e te)
    (hd : (x == ("__debug__" : Str)) = false := by decide) (hcd : (x == ("__classdict__" : Str)) = false := by decide)
    (hst : starEach [.Starred e sp_] X.env = [(true, eval e X.env)] := by rfl) : PE X (.Call (.Name x pp) [.Starred e sp_] [] pos) (tMakeVS X.K i C sp E te) := by
  refine ⟨fun pins s σ H Q I h => ?_⟩
  obtain ⟨hs, h⟩ := h
  refine wpAny_Call_Name_kw (thn ((pe_var (pos := pp) (i := i) hN hv hd hcd).run pins s σ H (fun v H1 => v = .ref C ∧ H1 = H) I ⟨.ref C, hs, rfl, rfl⟩) fun u s1 ⟨v, H1, I1, r1, ev, eH⟩ => ?_)
  subst ev
  rw [eH] at I1
  cases r1
  refine PySem.W.callWith_S (h₀ := X.base) I.ok.mod.kin M.kp (thn (he.run pins s1 σ H _ I1 h) fun v s2 ⟨y, H1, I2, ry, a, xs, ey, hxs, q⟩ => ?_) hst
  subst ey
  obtain rfl : v = Value.ref a := ry
  exact StX.star_any I2 hxs fun us s3 I3 rv => ⟨I3.kIn, run_mk M F hr hx I3 rv q⟩

/-! ### a class's own len, [], str, comparison -/
def rLenOwn (C : Addr) (sp : Sp) (E : XK) : List V → Hp → VK → Prop := fun xs H Q => ∃ a dx fs, xs = [V.ref a] ∧ H a = some (.ins C dx fs) ∧ sp [.ref a] H (fun z H' => ∃ n : Int, z = .int n ∧ (0 ≤ n ∧ n < 2 ^ 63) ∧ Q (.int n) H') E
theorem call_lenOwn (hm : Meth X.K C "__len__" g) (F : FnR X.prog X.w X.K X.mg X.base CX k g sp) (hr : Room (k + 1) X.A) (hx : Passes CX X E) : CallR X (.builtin "len") (rLenOwn C sp E) := by
  intro pins s σ H xs us Q I r h
  obtain ⟨a, dx, fs, rfl, ha, q⟩ := h
  obtain ⟨u, rfl, ru⟩ := r.one
  cases (show u = Value.ref a from ru)
  obtain ⟨od, J⟩ := ins_at I ha
  obtain ⟨m, hF⟩ := I.fr
  refine PySem.W.len_K hF I.ok.mod.kin J hm.at_ hm.fn (wpAny_mono (wpAny_call (SlX.run_at (us := [.ref a]) (ws := [.ref a]) F hr.in1 I.env0.in1 hx I (.cons rfl .nil) q)) (fun w s' z => ?_) fun _ _ x => x)
  obtain ⟨z', H', I', rz, n, ez, hn, qz⟩ := z
  subst ez
  obtain ⟨t, e⟩ := (show ∃ t, w = Value.int n t from rz)
  cases e
  exact ⟨hn, .int n, H', I'.tok _, ⟨_, rfl⟩, qz⟩
def rStrOwn (C : Addr) (sp : Sp) (E : XK) : List V → Hp → VK → Prop := fun xs H Q => ∃ a dx fs, xs = [V.ref a] ∧ H a = some (.ins C dx fs) ∧ sp [.ref a] H (fun z H' => ∃ y : Str, z = .str y ∧ Q (.str y) H') E
theorem call_strOwn (hm : Meth X.K C "__str__" g) (F : FnR X.prog X.w X.K X.mg X.base CX k g sp) (hr : Room (k + 2) X.A) (hx : Passes CX X E) : CallR X (.type "str") (rStrOwn C sp E) := by
  intro pins s σ H xs us Q I r h
  obtain ⟨a, dx, fs, rfl, ha, q⟩ := h
  obtain ⟨u, rfl, ru⟩ := r.one
  cases (show u = Value.ref a from ru)
  obtain ⟨od, J⟩ := ins_at I ha
  have hr2 : Room k X.A.in1.in1 := (show Room (k + 1) X.A.in1 from Room.in1 hr).in1
  refine PySem.W.kso_call hr2.units0 I.kIn J hm.at_ hm.fn (wpAny_mono (wpAny_call (SlX.run_at (us := [.ref a]) (ws := [.ref a]) F hr2 I.env0.in1.in1 hx I (.cons rfl .nil) q)) (fun w s' z => ?_) fun _ _ x => x)
  obtain ⟨z', H', I', rz, y, ez, qz⟩ := z
  subst ez
  obtain ⟨t, e⟩ := (show ∃ t, w = Value.str y t from rz)
  cases e
  exact ⟨.str y, H', I', ⟨_, rfl⟩, qz⟩
def PlainOx (b : Expr) : Prop := ∀ o i, subscripted b true o i = runValue (.builtin "lifetime.subscript" ⟨[o, i], []⟩)
def rIxOwn (C : Addr) (sp : Sp) (E : XK) : R2 := fun x y H Q => ∃ a dx fs, x = .ref a ∧ H a = some (.ins C dx fs) ∧ sp [x, y] H Q E
theorem pe_ixOwn {a b : Expr} {ta tb : TE} (hm : Meth X.K C "__getitem__" g) (hf : PySem.W.fnIn X.K g = true) (F : FnR X.prog X.w X.K X.mg X.base CX k g sp) (hr : Room (k + 1) X.A) (hx : Passes CX X E) (ha : PE X a ta) (hb : PE X b tb) (hs : PlainOx b) :
    PE X (.Subscript a b pos) (tOp (rIxOwn C sp E) ta tb) := by
  refine ⟨fun pins s σ H Q I h => ?_⟩
  refine Subscript_ (binT ha hb I h fun v u s2 x y H2 I2 rx ry q => ?_)
  obtain ⟨c, dx, fs, rfl, hc, q⟩ := q
  cases (show v = Value.ref c from rx)
  obtain ⟨od, J⟩ := ins_at I2 hc
  obtain ⟨m, hF⟩ := I2.fr
  refine PySem.W.sub_K hF I2.ok.mod.kin J hm.at_ hf hm.fn ?_ (hs _ _)
  exact wpAny_call (SlX.run_at (us := [.ref c, u]) (ws := [.ref c, y]) F hr.in1 I2.env0.in1 hx I2 (.cons rfl (.cons ry .nil)) q)
/-- the type of what stands on the right -/
inductive TyS (H : Hp) : V → Value → Prop where
  | int (i : Int) : TyS H (.int i) (.type "int")
  | ins {a C dx : Addr} {fs : List (Str × V)} (h : H a = some (.ins C dx fs)) : TyS H (.ref a) (.ref C)
theorem tyS_look {pins : List (Addr × Obj)} {σ : L2.St} {H : Hp} {s : Shared} {y : V} {u t : Value} {M : Model} (I : Inv X pins σ H s) (r : RelV y u) (h : TyS H y t) : PySem.W.Looks M s.heap (typeOf u) t := by
  cases h with
  | int i =>
    obtain ⟨tk, rfl⟩ := (show ∃ tk, u = Value.int i tk from r)
    exact .of_pure rfl
  | ins h =>
    cases (show u = Value.ref _ from r)
    obtain ⟨od, J⟩ := ins_at I h
    exact J.type
def rOwnC (K : PySem.W.Frag) (C : Addr) (sp : Sp) (E : XK) : R2 := fun x y H Q => ∃ a dx fs t, x = .ref a ∧ H a = some (.ins C dx fs) ∧ TyS H y t ∧ PySem.W.notFirst K C t = true ∧ sp [x, y] H Q E
theorem op_ownC {op : CmpOp} (hop : ∀ a b, compareOp op a b = richCompare op a b) (hs : PySem.W.findIn X.K (.ref C) (cmpInfo op).2.1 = some (some (.ref g))) (hf : PySem.W.isFn X.K (.ref g) = true) (F : FnR X.prog X.w X.K X.mg X.base CX k g sp)
    (hr : Room k X.A) (hx : Passes CX X E) : OpR X (compareOp op) (rOwnC X.K C sp E) := by
  intro pins s σ H x y v u Q I rx ry h
  obtain ⟨a, dx, fs, t, rfl, ha, ty, hn, q⟩ := h
  cases (show v = Value.ref a from rx)
  obtain ⟨od, J⟩ := ins_at I ha
  obtain ⟨m, hF⟩ := I.fr
  rw [hop]
  refine PySem.W.cmp_K (op := op) (tb := t) hr.units0 hF I.ok.mod.kin J (tyS_look I ry ty) hn hs hf ?_
  refine wpAny_mono (wpAny_call (run_fnR (us := [.ref a, u]) (vs := [.ref a, y]) F hr hx I (.cons rfl (.cons ry .nil)) q)) (fun w s' z => ?_) fun _ _ x => x
  obtain ⟨z', H', I', rz, qz⟩ := z
  exact SlX.cmpback rz ⟨z', H', I', rz, qz⟩

/-! ### o.f = e, f a property with a setter -/
structure PropSet (K : PySem.W.Frag) (C : Addr) (f : Str) (p g : Addr) : Prop where
  tk : PySem.W.takerIn K C f = some (some (.ref p))
  ty : PySem.W.typeIn K (.ref p) = some (.type "property")
  rc : ∃ a rest, PySem.W.recIn K p "property" = some (a :: .ref g :: rest)
def sPset (C : Addr) (sp : Sp) (E : XK) (ta tv : TE) : TS := fun D σ H => tv σ H fun y H1 => ta σ H1 fun x H2 => ∃ a dx fs, x = .ref a ∧ H2 a = some (.ins C dx fs) ∧ sp [x, y] H2 (fun _ H3 => D.nx σ H3) E
theorem ps_pset {value : Expr} {tv : TE} {pos' : Pos} (c : Cls X.K C) (ps : PropSet X.K C m p g) (F : FnR X.prog X.w X.K X.mg X.base CX k g sp) (hr : Room (k + 2) X.A) (hx : Passes CX X E) (ha : PE X o ta) (hv : PE X value tv)
    (hs : swapsWith value (some (.Attribute o m pos')) pos.line X.env = pure false) : PS X (.Assign [.Attribute o m pos'] value pos) (sPset C sp E ta tv) := by
  refine ⟨fun pins s σ H D I h => ?_⟩
  refine plainObj_wpAny_Assign_Attribute (thn (hv.run pins s σ H _ I h) fun u s1 ⟨y, H1, I1, ry, q⟩ => thn (ha.run pins s1 σ H1 _ I1 q) fun ov s2 ⟨x, H2, I2, rx, a, dx, fs, ex, ea, q2⟩ => ?_) hs
  subst ex
  obtain rfl : ov = Value.ref a := rx
  obtain ⟨od, J⟩ := ins_at I2 ea
  obtain ⟨mm, hF⟩ := I2.fr
  obtain ⟨b, rest, hrc⟩ := ps.rc
  have hr2 : Room k X.A.in1.in1 := (show Room (k + 1) X.A.in1 from Room.in1 hr).in1
  have I3 := I2.tok (s2.toks + 1)
  refine PySem.W.set_prop hF I.ok.mod.kin J c.sa c.po ps.tk ps.ty hrc (codeAny_mono (SlX.run_at (us := [.ref a, u]) (ws := [.ref a, y]) F hr2 I3.env0.in1.in1 hx I3 (.cons rfl (.cons ry .nil)) q2) fun r s' z => ?_)
  rcases r with e | (v | _ | _ | _)
  · exact z
  · exact z.elim
  · exact z.elim
  · exact z.elim
  all_goals
    first
    | exact z.elim
    | (obtain ⟨v', H3, I4, _, q3⟩ := z
       exact ⟨σ, H3, I4, q3⟩)
end
end G
set_option Elab.async false
set_option linter.all false
set_option maxRecDepth 100000
set_option maxHeartbeats 4000000
/-! enumerate over a tuple; tuple(d); a tuple known to its object; dict of a tuple of pairs; a display with one star and one pair. -/
namespace G
open PySem PySem.Spec PyProof.Rows L2

/-! ### enumerate(t), t a tuple -/
theorem meets_enum_tuple (l : Addr) (items : Array Value) (n : Nat) (dct : Option Addr) (sl : Array (Option Value)) :
    Meets (Builtin.«enumerate.__new__» ⟨[.type "enumerate", .ref l], []⟩) (fun _ R s => s.heap.get? l = some { cls := .type "tuple", dict := dct, data := .seq items n, slots := sl } ∧
      R (.ok (.ret (.ref (s.heap.push { cls := .type "tuple_iterator", data := .fields #[.ref l, .int 0 0] }).objs.size)))
        { s with heap := (s.heap.push { cls := .type "tuple_iterator", data := .fields #[.ref l, .int 0 0] }).push { cls := .type "enumerate", data := .fields #[.none, .bool false, .ref s.heap.objs.size, rawInt 0, .none, .none] } }) :=
  .of_wp fun prog w A R s h => by
    obtain ⟨hp, g, d, tk, os⟩ := s; obtain ⟨hl, h⟩ := h
    have hsub := sub_enumerate
    have hL : Heap.IsTuple (Shared.heap ⟨hp, g, d, tk, os⟩) l items := ⟨_, hl, rfl, n, rfl⟩
    wp_walk using AutoSeq1.wpAny_loadPart' hl
    refine wpAny_stack_any fun st => wpAny_pure ?_
    split
    · rename_i c _ _ _ _ _
      cases (c == Value.type "enumerate")
      · wp_walk using AutoSeq1.wpAny_loadPart' hl, wpAny_pyIter_tuple hL
        exact ⟨_, rfl, h⟩
      · wp_walk using AutoSeq1.wpAny_loadPart' hl, wpAny_pyIter_tuple hL
        exact ⟨_, rfl, h⟩
    · wp_walk using AutoSeq1.wpAny_loadPart' hl, wpAny_pyIter_tuple hL
      exact ⟨_, rfl, h⟩
theorem call_enum_tuple {prog : Program} {w : World} {A : Around} {E : Value → Shared → Prop} {s : Shared} {l : Addr} {items : Array Value} {Q : Value → Shared → Prop} (hL : s.heap.IsTuple l items)
    (h : ∀ h', IsEnum h' (s.heap.objs.size + 1) s.heap.objs.size 0 .none → h'.IsTupleIter s.heap.objs.size l 0 → h'.objs.size = s.heap.objs.size + 2 →
      (∀ b o, s.heap.get? b = some o → h'.get? b = some o) → Q (.ref (s.heap.objs.size + 1)) { s with heap := h' }) :
    wpAny (model prog w) A (call (.type "enumerate") [.ref l]) Q E s := by
  obtain ⟨⟨c, dct, dt, sl⟩, hl, hc, n, hd⟩ := hL
  have hc' : c = .type "tuple" := hc
  have hd' : dt = .seq items n := hd
  subst hc' hd'
  refine callType_new F.called_enumerate (by decide) (F.typeCall_enumerate_1 _) (F.newCall_enumerate_1 _) (fun obj => F.args_object_init_2 obj _) F.entry_enumerate_new
    (meets_enum_tuple l items n dct sl) ⟨hl, ?_⟩
  have hz : (s.heap.push { cls := .type "tuple_iterator", data := .fields #[.ref l, .int 0 0] }).objs.size = s.heap.objs.size + 1 := Heap.size_push ..
  show _ ∧ _
  rw [hz]
  have he : IsEnum ((s.heap.push { cls := .type "tuple_iterator", data := .fields #[.ref l, .int 0 0] }).push
      { cls := .type "enumerate", data := .fields #[.none, .bool false, .ref s.heap.objs.size, rawInt 0, .none, .none] }) (s.heap.objs.size + 1) s.heap.objs.size 0 .none := by
    have := Heap.get?_push_size (s.heap.push { cls := .type "tuple_iterator", data := .fields #[.ref l, .int 0 0] })
      (o := { cls := .type "enumerate", data := .fields #[.none, .bool false, .ref s.heap.objs.size, rawInt 0, .none, .none] }) rfl
    rw [hz] at this; exact this
  exact ⟨⟨_, he, rfl⟩, h _ he ⟨_, Heap.get?_push_of_some _ (Heap.get?_push_size _ rfl), rfl, rfl⟩ (by rw [Heap.size_push, hz]) fun b o x => Heap.get?_push_of_some _ (Heap.get?_push_of_some _ x)⟩
theorem enumT_end {prog : Program} {w : World} {A : Around} {E : Value → Shared → Prop} {s : Shared} {e it l : Addr} {i : Int} {j : Nat} {items : Array Value} {old : Value} {Q : Option Value → Shared → Prop} (hh : A.handled = none)
    (he : IsEnum s.heap e it i old) (hit : s.heap.IsTupleIter it l j) (hl : s.heap.IsTuple l items) (hx : items[j]? = none)
    (hQ : ∀ h', Heap.ExtBut it s.heap h' → Q none { s with heap := h' }) : wpAny (model prog w) A (pyNext (.ref e)) Q E s := by
  have ty : s.TypeIs (.ref e) "enumerate" := ⟨_, he, rfl⟩
  unfold pyNext
  refine wpAny_bind (wpAny_attempt (wpAny_callSpecial?_slot (name := Str.ofString "__next__") ty F.slot_enumerate_next
    (wpAny_call_entry F.slot_enumerate_next ty F.entry_enumerate_next ?_ (F.args_enumerate_next_1 _))))
  show wpAny _ _ (field (.ref e) 2 >>= _) _ _ _
  refine wpAny_bind (wpAny_field he rfl (x := .ref it) rfl ?_)
  refine wpAny_bind (wpAny_nextOf_tuple_end hh hit hl hx fun h' x he' hx' => ?_)
  obtain ⟨o, ho, hc⟩ := hx'
  exact wpAny_bind (wpAny_isInstance (T := "StopIteration") (b := true) ⟨o, ho, hc⟩ isSubtype_stop (wpAny_pure (hQ _ he')))
def ItU (K : PySem.W.Frag) (a : Addr) : It :=
  ⟨fun i H => ∃ (xs : List V) (x : V), SqT K H a xs ∧ xs[i]? = some x, fun i H v H' => ∃ T x, v = .ref T ∧ H T = none ∧ H' = upd H T (.tup [.int (i : Nat), x]) ∧ ∀ xs, SqT K H a xs → xs[i]? = some x, fun i H => ∃ xs : List V, SqT K H a xs ∧ xs.length ≤ i⟩
theorem turn_enumT {P : Program} {w : World} {K : PySem.W.Frag} {elts : List Expr} {kk : Nat} {tpos : Pos} (a e it : Addr) :
    Turn P w K (.Tuple elts kk tpos) (ItU K a) [e, it] e (fun i h => (∃ old, IsEnum h e it ((i : Nat) : Int) old) ∧ h.IsTupleIter it a i ∧ e ≠ it ∧ a ≠ it ∧ a ≠ e) where
  mem := by simp
  obj := fun i h st b hb => by
    obtain ⟨⟨old, he⟩, ⟨o, ho, hc, hd⟩, _⟩ := st
    have e' : b = e ∨ b = it := by simpa using hb
    rcases e' with z | z
    · rw [z]; exact ⟨_, he, fun v q => nomatch q⟩
    · rw [z]; exact ⟨o, ho, fun v q => by rw [hd] at q; cases q⟩
  keep := fun i h h' st k => let ⟨⟨old, he⟩, hi, hne⟩ := st; ⟨⟨old, k e (by simp) _ he⟩, hi.at fun o q => k it (by simp) o q, hne⟩
  item := by
    intro X hP hw hK hc i pins s σ H E I hf st hg
    subst hP hw hK
    obtain ⟨⟨old, he⟩, hit, hne, hai, hae⟩ := st
    obtain ⟨xs, x, hq, hx⟩ := hg
    obtain ⟨its, rv, p, hz⟩ := I.tuple hq
    obtain ⟨u, hu, ru⟩ := rv.get hx
    have hel : e < s.heap.objs.size := Heap.lt_size he
    have hil : it < s.heap.objs.size := by obtain ⟨_, q, _⟩ := hit; exact Heap.lt_size q
    have hi : i < its.toArray.size := by
      have := (List.getElem?_eq_some_iff.mp hu).1
      simpa using this
    refine wpAny_pyNext_enum_itemD (Draws.tuple (prog := X.prog) (w := X.w) (A := X.A.in1) (show X.A.in1.handled = none from I.ok.hd hc) it a hai its.toArray) he ⟨hit, (show s.heap.IsTuple a its.toArray from p)⟩ hi hne (by simp [hne, Ne.symm hae]) fun y h' tk hy ho hst hT hsz hk => ?_
    have ey : u = y := by
      have h1 : its.toArray[i]? = some u := by simpa using hu
      rw [h1] at hy
      exact Option.some.inj hy
    subst ey
    refine ⟨_, rfl, wpAny_letOwnedTupleGo_enum (s := { s with heap := h', toks := tk + 1 }) ho fun h'' he' sb => ?_⟩
    have hT2 : h''.get? s.heap.objs.size = some { cls := .type "tuple", data := .seq #[.int i tk, u] } := (sb.2 _ (Nat.ne_of_gt hel)).trans hT
    have new : ObjOk X.prog X.w (upd H s.heap.objs.size (.tup [.int (i : Nat), x])) h'' s.heap.objs.size (.tup [.int (i : Nat), x]) :=
      ⟨by show 2 ≤ sizeLine; decide, [.int i tk, u], .cons ⟨_, rfl⟩ (.cons ru .nil), ⟨_, hT2, rfl, _, rfl⟩⟩
    have I1 : Inv X pins σ (upd H s.heap.objs.size (.tup [.int (i : Nat), x])) { s with heap := h'', toks := tk + 1 } :=
      I.turnedNew (ch := [e, it]) (fun b ob hb q => (sb.2 b (fun z => hb (by simp [z]))).trans (hk b ob (fun z => hb (by simp [z])) (fun z => hb (by simp [z])) q)) hf (Nat.le_refl _) new
    refine ⟨.ref s.heap.objs.size, _, I1, rfl, ⟨_, x, rfl, I.hok.fresh (Nat.le_refl _), rfl, fun ys hy => by rw [I.tuple_inj hy hq]; exact hx⟩, ⟨⟨u, ?_⟩, hst.1.at fun o q => (sb.2 it (Ne.symm hne)).trans q, hne, hai, hae⟩, fun b hb => ?_⟩
    · have e1 : ((i + 1 : Nat) : Int) = (i : Int) + 1 := by omega
      rw [e1]; exact he'
    · have hb' : b < s.heap.objs.size := by
        have e' : b = e ∨ b = it := by simpa using hb
        rcases e' with z | z
        · rw [z]; exact hel
        · rw [z]; exact hil
      rw [upd_ne (Nat.ne_of_lt hb')]
      exact (hf b hb).1
  done := by
    intro X hP hw hK hc i pins s σ H E I hf st hg
    subst hP hw hK
    obtain ⟨⟨old, he⟩, hit, hne, hai, hae⟩ := st
    obtain ⟨xs, hq, hx⟩ := hg
    obtain ⟨its, rv, p, hz⟩ := I.tuple hq
    obtain ⟨f0, f1, f2, f3, f4, f5⟩ := hf it (by simp)
    have hl := rv.length
    exact enumT_end (I.ok.hd hc) he hit (show s.heap.IsTuple a its.toArray from p) (by simp; omega) fun h' eb => ⟨rfl, I.turned (t' := s.toks) (fun b o hb q => eb b o hb q) f0 f1 f3 f4 f5⟩
  self := fun A i s Q E st h => let ⟨⟨_, he⟩, _⟩ := st; wpAny_pyIter_enum he h
def iEnumT (K : PySem.W.Frag) (ta : TA) : TI := fun σ H R => ta σ H fun vs H1 => ∃ a xs, vs = [.ref a] ∧ SqT K H1 a xs ∧ R (ItU K a) H1
theorem pi_enumT {X : Cx} {e : Expr} {ta : TA} {p pos tpos : Pos} {elts : List Expr} {kk : Nat} (hg : Gl X "enumerate") (hm : X.mg "enumerate" = none) (ha : PA X [e] ta) (hs : starEach [e] X.env = [(false, eval e X.env)] := by rfl) :
    PI X (.Tuple elts kk tpos) (.Call (.Name "enumerate" p) [e] [] pos) (iEnumT X.K ta) := by
  refine ⟨fun pins s σ H R I h => ?_⟩
  refine Call_ (ld_blt I hg hm boot_enumerate (PyProof.Rows.callWith_type1 (thn (ha.run pos pins s σ H _ I h) fun us s1 ⟨vs, H1, I1, r1, q1⟩ => ?_) hs rfl))
  obtain ⟨a, xs, ex, hq, q⟩ := q1
  subst ex
  obtain ⟨u, eu, rx⟩ := vals1 r1
  subst eu
  obtain rfl : u = Value.ref a := rx
  obtain ⟨its, rv, p', hz⟩ := I1.tuple hq
  have hal : a < s1.heap.objs.size := p'.lt
  refine call_enum_tuple (show s1.heap.IsTuple a its.toArray from p') fun h' he hit hsz hk => wpAny_pyIter_enum he ?_
  have I2 : Inv X pins σ H1 { s1 with heap := h' } := I1.kept (t' := s1.toks) hk
  refine ⟨s1.heap.objs.size + 1, [s1.heap.objs.size + 1, s1.heap.objs.size], _, _, H1, rfl, I2, turn_enumT a (s1.heap.objs.size + 1) s1.heap.objs.size, ⟨⟨.none, he⟩, hit, Nat.succ_ne_self _, Nat.ne_of_lt hal, Nat.ne_of_lt (Nat.lt_succ_of_lt hal)⟩, fun b hb => ?_, q⟩
  have e' : b = s1.heap.objs.size + 1 ∨ b = s1.heap.objs.size := by simpa using hb
  have hle : s1.heap.objs.size ≤ b := by
    rcases e' with z | z
    · rw [z]; exact Nat.le_add_right _ _
    · rw [z]; exact Nat.le_refl _
  exact I1.fpOk hle (I1.hok.fresh hle)
/-- the forms one uses: a for over enumerate(t) -/
theorem for_enumT {K : PySem.W.Frag} {a : Addr} {xs : List V} {g : TG} {tb : TS} {D : Ends} {σ : L2.St} {H : Hp} (Pv : Nat → L2.St → Hp → Prop) (h0 : Pv 0 σ H) (hl : ∀ i σ H, i ≤ xs.length → Pv i σ H → SqT K H a xs) (hu : ∀ i σ H ys, i ≤ xs.length → Pv i σ H → SqT K H a ys → ys = xs)
    (hs : ∀ i x σ H T, xs[i]? = some x → Pv i σ H → H T = none → g (.ref T) σ (upd H T (.tup [.int (i : Nat), x])) fun σ2 H2 => tb { D with nx := Pv (i + 1), ct := Pv (i + 1), bk := D.nx } σ2 H2) (hd : ∀ σ H, Pv xs.length σ H → D.nx σ H) :
    ∃ W : Nat → Nat → L2.St → Hp → Prop, (∃ m, W 0 m σ H) ∧ ∀ i m σ H, W i m σ H → ((ItU K a).stop i H ∧ D.nx σ H) ∨
      ((ItU K a).go i H ∧ ∃ N : L2.St → Hp → Prop, (∀ σ' H', N σ' H' → ∃ m', m' < m ∧ W (i + 1) m' σ' H') ∧ ∀ x H', (ItU K a).yld i H x H' → g x σ H' fun σ2 H2 => tb { D with nx := N, ct := N, bk := D.nx } σ2 H2) := by
  refine ⟨fun i m σ H => m = xs.length - i ∧ i ≤ xs.length ∧ Pv i σ H, ⟨xs.length - 0, rfl, Nat.zero_le _, h0⟩, ?_⟩
  rintro i m σ H ⟨rfl, hi, p⟩
  have q := hl i σ H hi p
  by_cases hlt : i < xs.length
  · refine .inr ⟨⟨xs, xs[i], q, List.getElem?_eq_getElem hlt⟩, Pv (i + 1), fun σ' H' p' => ⟨xs.length - (i + 1), by omega, rfl, hlt, p'⟩, fun v H' y => ?_⟩
    obtain ⟨T, x, ev, hT, eH, hx⟩ := y
    subst ev
    subst eH
    exact hs i x σ H T (hx xs q) p hT
  · have e : i = xs.length := by omega
    subst e
    exact .inl ⟨⟨xs, q, Nat.le_refl _⟩, hd σ H p⟩

/-! ### tuple(d) -/
section
variable {prog : Program} {w : World} {A : Around} {E : Value → Shared → Prop} {s : Shared} {T : String} {r d : Addr} {n : Nat} {P : Nat → Value → Prop} {OK : Heap → Prop}
theorem kdl_collect {Q : List Value → Shared → Prop} (K : PySem.W.KdlSrc prog w T r d n P OK) (hh : A.handled = none) (hok : OK s.heap) (hn : n ≤ sizeLine)
    (hQ : ∀ (h' : Heap) (tk : Nat) (acc : Array Value), (∀ b o, s.heap.get? b = some o → h'.get? b = some o) → ItemsOf P acc n → Q acc.toList { s with heap := h', toks := tk }) : wpAny (model prog w) A (collect (.ref r)) Q E s := by
  unfold collect
  refine wpAny_bind (wpAny_runValue (codeAny_builtin F.entry_proto_collect ?_))
  rw [Around.under_plainId F.plain_proto_collect _]
  show wpAny _ A.in1 (newList [] >>= fun l => again (.builtin "list.__iadd__" ⟨[l, .ref r], []⟩)) _ _ s
  refine wpAny_bind (wpAny_newObj_type ?_)
  refine wpAny_pure ⟨plainId_quiet F.plain_list_iadd _, codeAny_builtin F.entry_list_iadd ?_⟩
  rw [Around.under_plainId F.plain_list_iadd _]
  show wpAny _ A.in1 (Builtin.List.listExtendWith (.ref s.heap.objs.size) (.ref r) (.ref s.heap.objs.size)) _ _ _
  have hS : (s.heap.push { cls := .type "list", data := .seq ([] : List Value).toArray }).get? s.heap.objs.size = some { cls := .type "list", data := .seq #[] 0 } := Heap.get?_push_size _ rfl
  obtain ⟨l1, l2⟩ := K.there _ hok
  refine wpAny_mono (PySem.W.kdl_extend (A := A) (R := fun rr s' => rr = .ok (.ret (.ref s.heap.objs.size)) ∧ ∃ (h' : Heap) (tk : Nat) (acc : Array Value) (c' : Nat), s' = { s with heap := h', toks := tk } ∧
      (∀ b o, s.heap.get? b = some o → h'.get? b = some o) ∧ h'.get? s.heap.objs.size = some { cls := .type "list", dict := none, data := .seq acc c', slots := #[] } ∧ ItemsOf P acc n)
    (s := { s with heap := s.heap.push { cls := .type "list", data := .seq ([] : List Value).toArray } }) K hh (K.keep _ _ hok fun b _ o e => Heap.get?_push_of_some _ e) s.heap.objs.size (Nat.ne_of_gt l1) (Nat.ne_of_gt l2) (.ref s.heap.objs.size) 0 hS
    (fun h' tk acc c' hk e hi => ⟨rfl, h', tk, acc, c', rfl, fun b o q => hk b o (Nat.ne_of_lt (Heap.lt_size q)) (Heap.get?_push_of_some _ q), e, hi⟩) hn) (fun fin s' h => ?_) (fun e s' h => ?_)
  · cases fin with
    | done f =>
      obtain ⟨e, h', tk, acc, c', rfl, hk, hS', hi⟩ := h
      cases e
      show wpAny _ A (load s.heap.objs.size >>= _) _ _ _
      exact wpAny_bind (wpAny_load hS' (wpAny_pure (hQ h' tk acc hk hi)))
    | again c' =>
      refine ⟨h.1, codeAny_mono h.2 fun rr s'' hr' => ?_⟩
      obtain ⟨e, h', tk, acc, c'', rfl, hk, hS', hi⟩ := hr'
      subst e
      show wpAny _ A (load s.heap.objs.size >>= _) _ _ _
      exact wpAny_bind (wpAny_load hS' (wpAny_pure (hQ h' tk acc hk hi)))
  · cases h.1
theorem code_tuple_kdl {Q₁ : Value → Shared → Prop} (K : PySem.W.KdlSrc prog w T r d n P OK) (hh : A.handled = none) (hok : OK s.heap) (hn : n ≤ sizeLine)
    (h : ∀ (h' : Heap) (tk : Nat) (acc : Array Value), (∀ b o, s.heap.get? b = some o → h'.get? b = some o) → ItemsOf P acc n →
      Q₁ (.ref h'.objs.size) { s with heap := h'.push { cls := .type "tuple", data := .seq acc }, toks := tk }) (hT : (Value.type T == Value.type "tuple") = false) :
    codeAny (model prog w) A (.call (.builtin "tuple.__new__") ⟨[.type "tuple", .ref r], []⟩) (wants Q₁ E) s := by
  refine codeAny_of_tree ?_
  show wpAny _ A.in1 (do checkBuiltinCall "tuple.__new__" ⟨[.type "tuple", .ref r], []⟩; again (.builtin "tuple.__new__" ⟨[.type "tuple", .ref r], []⟩)) _ _ s
  refine wpAny_bind (wpAny_of_eq (F.newCall_tuple_1 _) (wpAny_pure ⟨plainId_quiet F.plain_tuple_new _, codeAny_builtin F.entry_tuple_new ?_⟩))
  rw [Around.under_plainId F.plain_tuple_new _]
  have hsub := sub_tuple_self
  have hinit := init_tuple_lookup
  have hmh := madeHere_tuple
  have hTI : s.TypeIs (.ref r) T := K.type s hok
  have hh1 : A.in1.handled = none := hh
  wp_walk using wpAny_typeOf hTI, kdl_collect (A := A.in1) K hh1 hok hn
  all_goals
    intro h' tk acc hk hacc
    show wpAny _ _ (Builtin.Tuple.tupleExact acc.toList.toArray >>= fun v => ret v) _ _ _
    unfold Builtin.Tuple.tupleExact
    refine wpAny_bind (wpAny_newObj_type ?_ (by show acc.toList.toArray.size ≤ sizeLine; simp only [Array.toArray_toList]; rw [hacc.1]; exact hn))
    refine wpAny_pure ?_
    have e : acc.toList.toArray = acc := by simp
    rw [e]
    exact h h' tk acc hk hacc
theorem call_tuple_kdl {Q : Value → Shared → Prop} (K : PySem.W.KdlSrc prog w T r d n P OK) (hh : A.handled = none) (hok : OK s.heap) (hn : n ≤ sizeLine) (hT : (Value.type T == Value.type "tuple") = false)
    (hQ : ∀ (h' : Heap) (tk : Nat) (acc : Array Value), (∀ b o, s.heap.get? b = some o → h'.get? b = some o) → ItemsOf P acc n →
      Q (.ref h'.objs.size) { s with heap := h'.push { cls := .type "tuple", data := .seq acc }, toks := tk }) : wpAny (model prog w) A (call (.type "tuple") [.ref r]) Q E s := by
  refine callType_codes (Q₁ := fun obj s₁ => s₁.TypeIs obj "tuple" ∧ Q obj s₁) F.called_tuple (F.typeCall_tuple_1 _) F.entry_object_init
    (code_tuple_kdl (A := A.in1) K hh hok hn (fun h' tk acc hk hacc => ⟨⟨_, Heap.get?_push_size _ rfl, rfl⟩, hQ h' tk acc hk hacc⟩) hT) fun obj s₁ h₁ => ?_
  exact ⟨h₁.1, F.args_object_init_2 obj _, object_init_meets F.called_tuple.init.lookup F.called_tuple.made (by decide) prog w A.in1 _ s₁ ⟨h₁.1, rfl, h₁.2⟩⟩
end
def rTupD : List V → Hp → VK → Prop := fun xs H Q => ∃ p kvs, xs = [.ref p] ∧ H p = some (.dK kvs) ∧ ∀ q, H q = none → Q (.ref q) (upd H q (.tup (kvs.map fun kv => kV kv.1)))
theorem call_tuple_dK {X : Cx} (hc : X.calm = true) : CallR X (.type "tuple") rTupD := by
  intro pins s σ H xs us Q I r h
  obtain ⟨p, kvs, e, hk, q⟩ := h
  subst e
  obtain ⟨u, eu, rx⟩ := vals1 r
  subst eu
  obtain rfl : u = Value.ref p := rx
  obtain ⟨z, lo, vs, rk, hd⟩ := (show ObjOk X.prog X.w H s.heap p (.dK kvs) from I.hok p _ hk)
  obtain ⟨ep, hat⟩ := hd.dictAt
  have hl : kvs.length = vs.length := Paired.length rk
  refine call_tuple_kdl (PySem.W.kdl_dict (knd := mixKind X.prog X.w) (kvs := vs) (ep := ep) lo) (I.ok.hd hc) hat (by rw [← hl]; exact z) (by decide) fun h' tk acc hkeep hacc => ?_
  have I1 := I.kept (t' := s.toks) hkeep
  refine ⟨.ref h'.objs.size, upd H h'.objs.size (.tup (kvs.map fun kv => kV kv.1)), (I1.laid (t' := tk) (fun b o e => Heap.get?_push_of_some _ e) (Nat.le_refl _) (show ObjOk X.prog X.w _ _ _ (.tup (kvs.map fun kv => kV kv.1)) from ⟨?_, acc.toList, ?_, ?_⟩)), rfl, q _ (I1.hok.fresh (Nat.le_refl _))⟩
  · rw [List.length_map]; exact z
  · have el : acc.toList.length = acc.size := by simp
    refine vals_of_at (by rw [List.length_map, el, hacc.1, hl]) fun j x w h1 h2 => ?_
    obtain ⟨k, y, hky, hi⟩ := hacc.2 j w (by rw [← Array.getElem?_toList]; exact h2)
    have e1 : (kvs.map (·.1))[j]? = some k := by
      rw [KV.keys rk, List.getElem?_map, hky] <;> rfl
    have e2 : (kvs.map fun kv => kV kv.1)[j]? = some (kV k) := by
      have e3 : (kvs.map fun kv => kV kv.1) = (kvs.map (·.1)).map kV := by rw [List.map_map] <;> rfl
      rw [e3, List.getElem?_map, e1] <;> rfl
    rw [e2] at h1
    cases h1
    exact keyIs_rel hi
  · rw [Array.toArray_toList]
    exact ⟨_, Heap.get?_push_size _ rfl, rfl, _, rfl⟩

/-! ### a tuple known to its object; dict of it -/
/-- the tuple at a is known to its object, which has no dict of its own -/
def FzT (H : Hp) (a : Addr) (xs : List V) : Prop := ∃ o : Obj, H a = some (.frz o (.tup xs)) ∧ o.dict = none
theorem FzT.sq {K : PySem.W.Frag} {H : Hp} {a : Addr} {xs : List V} (h : FzT H a xs) : SqT K H a xs := let ⟨o, e, _⟩ := h; .inl (.inr ⟨o, e⟩)
/-- tuple(xs), xs a list -/
def rTupF (K : PySem.W.Frag) : List V → Hp → VK → Prop := fun xs H Q => ∃ p ys, xs = [.ref p] ∧ SqL K H p ys ∧ ∀ l (o : Obj), H l = none → o.dict = none → Q (.ref l) (upd H l (.frz o (.tup ys)))
theorem call_tupleF {X : Cx} : CallR X (.type "tuple") (rTupF X.K) := by
  intro pins s σ H xs us Q I r h
  obtain ⟨p, ys, ex, hq, q⟩ := h
  subst ex
  obtain ⟨u, eu, rx⟩ := vals1 r
  subst eu
  obtain rfl : u = Value.ref p := rx
  obtain ⟨its, r', pl, hz⟩ := I.list hq
  have hlen := r'.length
  refine call_tuple_list pl.isList (fun h' kp => ?_) (by simp only [List.size_toArray] <;> omega)
  have I1 : Inv X pins σ H { s with heap := h' } := I.kept (t' := s.toks) kp
  have g : (h'.push ({ cls := .type "tuple", data := .seq its.toArray } : Obj)).get? h'.objs.size = some ({ cls := .type "tuple", data := .seq its.toArray } : Obj) := Heap.get?_push_size _ rfl
  have I2 : Inv X pins σ (upd H h'.objs.size (.frz { cls := .type "tuple", data := .seq its.toArray } (.tup ys))) { s with heap := h'.push { cls := .type "tuple", data := .seq its.toArray } } :=
    I1.laid (t' := s.toks) (fun b o e => Heap.get?_push_of_some _ e) (Nat.le_refl _) ⟨g, hz, its, r', _, g, rfl, _, rfl⟩
  exact ⟨.ref h'.objs.size, _, I2, rfl, q _ _ (I1.hok.fresh (Nat.le_refl _)) rfl⟩
/-- dict(t), t such a tuple of pairs -/
def rDictT (K : PySem.W.Frag) : List V → Hp → VK → Prop := fun xs H Q => ∃ (a : Addr) (ps : List Addr) (kvs : List (Key × V)), xs = [.ref a] ∧ FzT H a (ps.map V.ref) ∧ Paired (fun p kv => SqT K H p [kV kv.1, kv.2]) ps kvs ∧ ∀ p, H p = none → Q (.ref p) (upd H p (.dK (mergeK [] kvs)))
theorem pairs2 {X : Cx} {pins : List (Addr × Obj)} {σ : L2.St} {H : Hp} {s : Shared} (I : Inv X pins σ H s) : ∀ {ps : List Addr} {kvs : List (Key × V)}, Paired (fun p kv => SqT X.K H p [kV kv.1, kv.2]) ps kvs →
    ∃ (us : List (Value × Value)) (prs : List (Key × Value)), KV kvs prs ∧ us.length = ps.length ∧ prs.length = us.length ∧
      ∀ (j : Nat) (k v : Value), us[j]? = some (k, v) → ∃ (b : Addr) (q : Key), ps[j]? = some b ∧ IsTup s.heap b #[k, v] ∧ prs[j]? = some (q, v) ∧ keyIs q k = true
  | _, _, .nil => ⟨[], [], .nil, rfl, rfl, fun j k v e => by simp at e⟩
  | _, _, .cons (a := p) (b := kv) h t => by
    obtain ⟨us, prs, r, h1, h2, hp⟩ := pairs2 I t
    obtain ⟨its, rv, ht, _⟩ := I.tuple h
    obtain ⟨u, y, ei, ru, ry⟩ := vals2 rv
    subst ei
    refine ⟨(u, y) :: us, (kv.1, y) :: prs, .cons ⟨rfl, ry⟩ r, by rw [List.length_cons, List.length_cons, h1], by rw [List.length_cons, List.length_cons, h2], fun j k v e => ?_⟩
    cases j with
    | zero =>
      have e' : (u, y) = (k, v) := Option.some.inj e
      obtain ⟨rfl, rfl⟩ := Prod.mk.inj e'
      exact ⟨p, kv.1, rfl, ht, rfl, kV_is (P := X.prog) (w := X.w) ru⟩
    | succ j =>
      obtain ⟨b, q, e1, e2, e3, e4⟩ := hp j k v (by simpa using e)
      exact ⟨b, q, by simpa using e1, e2, by simpa using e3, e4⟩
theorem call_dictT {X : Cx} (hcalm : X.calm = true) : CallR X (.type "dict") (rDictT X.K) := by
  intro pins s σ H xs us Q I r q
  obtain ⟨a, ps, kvs, ex, ⟨of, hfz, hod⟩, hp, q⟩ := q
  subst ex
  obtain ⟨u, eu, rx⟩ := vals1 r
  subst eu
  obtain rfl : u = Value.ref a := rx
  obtain ⟨g, hz, its, rv, o2, g2, hc2, n, hd2⟩ := (show ObjOk X.prog X.w H s.heap a (.frz of (.tup (ps.map V.ref))) from I.hok a _ hfz)
  have eo : of = o2 := Option.some.inj (g.symm.trans g2)
  subst eo
  have ei := refs_at rv
  subst ei
  rw [List.length_map] at hz
  obtain ⟨us, prs, rel, h1, h2, hpr⟩ := pairs2 I hp
  refine call_dict_pairs (knd := mixKind X.prog X.w) (kvs := prs) (PairArg.tuple a (ps.map Value.ref).toArray (fun j => ps.getD j 0) us) (I.ok.hd hcalm) ⟨⟨of, n, g, hc2, hod, hd2⟩, by simp [h1], fun j k v e => ?_⟩ ⟨h2, fun i key v e => ?_⟩ (by rw [h1]; exact hz) fun h' tk hd' k => ?_
  · obtain ⟨b, q', e1, e2, e3, e4⟩ := hpr j k v e
    have e5 : ps.getD j 0 = b := by rw [List.getD_eq_getElem?_getD, e1] <;> rfl
    refine ⟨by simp [e1, e5], .inl ?_⟩
    show s.heap.IsTuple (ps.getD j 0) #[k, v]
    rw [e5]
    exact e2
  · obtain ⟨b, q', e1, e2, e3, e4⟩ := hpr i key v e
    exact ⟨q', e3, e4⟩
  · have hm : (s.heap.objs.size == sysModules) = false := beq_eq_false_iff_ne.mpr (Nat.ne_of_gt I.big)
    have hlen : (mergeK [] kvs).length ≤ sizeLine := by
      refine Nat.le_trans (length_mergeK kvs []) ?_
      rw [List.length_nil, Nat.zero_add, rel.length, h2, h1]
      exact hz
    exact ⟨.ref s.heap.objs.size, upd H s.heap.objs.size (.dK (mergeK [] kvs)), I.laid (t' := tk) (fun b o e => k b o (by simp) e) (Nat.le_refl _) (show ObjOk X.prog X.w _ _ _ (.dK (mergeK [] kvs)) from ⟨hlen, hm, merged [] prs, KV.merge rel .nil, hd'⟩), rfl, q _ (I.hok.fresh (Nat.le_refl _))⟩

/-! ### {**d, k: v} -/
section
variable {prog : Program} {w : World} {K : Type} [DecidableEq K] {knd : KeyKind prog w K} {A : Around} {E : Value → Shared → Prop} {s : Shared}
theorem dictPut_pairs {d : Addr} {kvs : List (K × Value)} {k : K} {key v : Value} {Q : Unit → Shared → Prop} (hkey : knd.is k key = true) (hm : s.heap.DictOf knd d kvs)
    (hQ : ∀ h', h'.DictOf knd d (stored kvs k v) → Heap.SameBut d s.heap h' → Q () { s with heap := h' }) (hsz : kvs.length ≤ sizeLine) : wpAny (model prog w) A (dictPut d (knd.hash k) key v) Q E s := by
  obtain ⟨o, es, ep, ho, hc, hd, hk, hp, hn⟩ := hm
  have hes : es.size ≤ sizeLine := by
    have e1 := hp.length
    have e2 : es.toList.length = es.size := by simp
    omega
  unfold dictPut
  refine wpAny_bind (wpAny_dictFind_of hkey ho hd hk ?_)
  have ix : (es.findIdx? fun e => knd.is k e.key) = kvs.findIdx? fun kv => decide (kv.1 = k) := by
    rw [← hp.findIdx k]; obtain ⟨l⟩ := es; simp
  cases hi : es.findIdx? fun e => knd.is k e.key with
  | some i =>
    refine wpAny_updateDict ho hd (hQ _ ⟨_, _, ep, Heap.get?_update_self _ ho (Obj.isFreed_of_dict (Obj.data_mapDict hd _)), hc.mapDict _, Obj.data_mapDict hd _, hk.modify _ _, ?_, ?_⟩ (Heap.SameBut.update ..))
    · rw [stored, if_pos (any_of_findIdx_some (ix ▸ hi))]
      have hl : (es.toList.findIdx? fun e => knd.is k e.key) = some i := by rw [← hi]; obtain ⟨l⟩ := es; simp
      have z := hp.modify hn hl v
      obtain ⟨l⟩ := es
      simpa using z
    · rw [stored, if_pos (any_of_findIdx_some (ix ▸ hi)), keys_map_store]; exact hn
  | none =>
    have hnot : k ∉ kvs.map (·.1) := not_mem_of_findIdx_none (ix ▸ hi)
    have hany : ¬ (kvs.any fun kv => decide (kv.1 = k)) = true := by
      rw [List.any_eq_true]; rintro ⟨kv, hkv, he⟩
      exact hnot (List.mem_map.mpr ⟨kv, hkv, of_decide_eq_true he⟩)
    refine wpAny_updateDictKeys (hz := hes) ho hd (hQ _ ⟨_, _, ep + 1, Heap.get?_update_self _ ho (Obj.isFreed_of_dict (Obj.data_mapDictKeys hd _)), hc.mapDictKeys _, Obj.data_mapDictKeys hd _, hk.push hkey _, ?_, ?_⟩ (Heap.SameBut.update ..))
    · rw [stored, if_neg hany]
      have z := hp.append hkey (knd.hash k) v
      obtain ⟨l⟩ := es
      simpa using z
    · rw [stored, if_neg hany, List.map_append, List.nodup_append]
      refine ⟨hn, by simp, ?_⟩
      intro a ha b hb
      simp only [List.map_cons, List.map_nil, List.mem_singleton] at hb
      subst hb
      exact fun e => hnot (e ▸ ha)
/-- the entries' keys are carried by value -/
def NoRef (knd : KeyKind prog w K) : Prop := ∀ k v, knd.is k v = true → ∀ a, v ≠ .ref a
theorem merge_ok (nr : NoRef knd) {d o : Addr} {kvs more : List (K × Value)} {Q : Unit → Shared → Prop} (hdo : d ≠ o) (hoS : (o == sysModules) = false) (hd : s.heap.DictOf knd d kvs) (ho : s.heap.DictOf knd o more)
    (hQ : ∀ h', h'.DictOf knd d (merged kvs more) → Heap.SameBut d s.heap h' → Q () { s with heap := h' }) (hsz : kvs.length + more.length ≤ sizeLine) : wpAny (model prog w) A (mergeMapping d (.ref o) false) Q E s := by
  obtain ⟨od, esd, epd, hod, hcd, hdd, hkd, hpd, hnd⟩ := id hd
  obtain ⟨oo, eso, epo, hoo, hco, hdo', hko, hpo, hno⟩ := id ho
  have hlen : more.length = eso.size := by rw [← hpo.length]; simp
  have kref : ∀ e ∈ eso.toList, ∀ a, e.key ≠ .ref a := fun e he a => by
    obtain ⟨k, hk, _⟩ := hko e (by simpa using he)
    exact nr k _ hk a
  have fin : ∀ (s0 : Shared), s0 = s → wpAny (model prog w) A (do
      let l ← dictEntries o
      let epoch ← dictEpoch o
      forIn (List.range l.size) PUnit.unit fun i (_ : PUnit) => (do
          let l' ← dictEntries o
          match l'[i]? with
            | some e => do
              holding [e.key, e.val] (dictPut d e.hash e.key e.val)
              let ep' ← dictEpoch o
              if (ep' != epoch) = true then do
                  (unsupported "dict.changed-during-merge" : Sem PUnit)
                  pure (ForInStep.yield PUnit.unit)
                else pure (ForInStep.yield PUnit.unit)
            | _ => do
              (unsupported "dict.changed-during-merge" : Sem PUnit)
              pure (ForInStep.yield PUnit.unit) : Sem (ForInStep PUnit))
      pure ()) Q E s0 := by
    intro s0 e0
    subst e0
    refine wpAny_bind (wpAny_dictEntries hoo hdo' ?_)
    refine wpAny_bind (wpAny_dictEpoch hoo hdo' ?_)
    refine wpAny_bind ?_
    refine wpAny_forIn_list _
      (fun rest _ s' => ∃ h' i, s' = { s0 with heap := h' } ∧ rest = List.range' i (eso.size - i) ∧ i ≤ eso.size ∧ h'.DictOf knd d (merged kvs (more.take i)) ∧ h'.get? o = some oo ∧ Heap.SameBut d s0.heap h')
      _ ?_ ?_ _ _ ⟨s0.heap, 0, rfl, by simp [List.range_eq_range'], Nat.zero_le _, by simpa [merged] using hd, hoo, Heap.SameBut.refl _ _⟩
    · rintro x rest b s' ⟨h', i, rfl, hr, hi, hd', hoo', hs'⟩
      have hlt : i < eso.size := by
        rcases Nat.lt_or_ge i eso.size with h | h
        · exact h
        · rw [Nat.sub_eq_zero_of_le h] at hr
          cases hr
      obtain ⟨rfl, hrest⟩ : x = i ∧ rest = List.range' (i + 1) (eso.size - (i + 1)) := by
        have e : eso.size - i = (eso.size - (i + 1)) + 1 := by omega
        rw [e, List.range'_succ] at hr
        exact List.cons.inj hr
      refine wpAny_bind (wpAny_dictEntries hoo' hdo' ?_)
      rw [Array.getElem?_eq_getElem hlt]
      obtain ⟨kv, hkv⟩ : ∃ kv, more[x]? = some kv := ⟨more[x]'(by rw [hlen]; exact hlt), List.getElem?_eq_getElem _⟩
      obtain ⟨k, v⟩ := kv
      obtain ⟨hkey, hval⟩ := hpo.get? (e := eso[x]) (by simp [hlt]) hkv
      obtain ⟨k', hkey', hhash⟩ := hko eso[x] (Array.getElem_mem hlt)
      obtain rfl : k' = k := knd.inj _ _ _ hkey' hkey
      show wpAny _ _ (holding [eso[x].key, eso[x].val] (dictPut d eso[x].hash eso[x].key eso[x].val) >>= _) _ _ _
      rw [hhash, hval]
      have hmx : (merged kvs (more.take x)).length ≤ sizeLine := by
        have e1 := merged_length_le kvs (more.take x)
        have e2 : (more.take x).length ≤ more.length := by rw [List.length_take]; omega
        omega
      refine wpAny_bind (wpAny_holding (dictPut_pairs hkey hd' (fun h'' hd'' hs'' => ?_) hmx))
      have hoo'' : h''.get? o = some oo := (hs''.2 o (Ne.symm hdo)).trans hoo'
      refine wpAny_bind (wpAny_dictEpoch hoo'' hdo' ?_)
      rw [if_neg (by simp)]
      exact wpAny_pure ⟨h'', x + 1, rfl, hrest, hlt, by rw [merged_take_succ kvs more x (k', v) hkv]; exact hd'', hoo'', hs'.trans hs''⟩
    · rintro b s' ⟨h', i, rfl, hr, hi, hd', hoo', hs'⟩
      have hin : i = eso.size := by
        rcases Nat.lt_or_ge i eso.size with h | h
        · have e : eso.size - i = (eso.size - (i + 1)) + 1 := by omega
          rw [e, List.range'_succ] at hr
          cases hr
        · exact Nat.le_antisymm hi h
      rw [hin, ← hlen, List.take_length] at hd'
      exact wpAny_pure (hQ h' hd' hs')
  unfold mergeMapping
  refine wpAny_bind (wpAny_isInstance ho.typeIs isSubtype_dict_dict ?_)
  rw [if_pos rfl]
  refine wpAny_bind (wpAny_specialOf ho.typeIs F.slot_dict_iter.lookup (wpAny_bind (wpAny_pure ?_)))
  simp only [beq_self_eq_true, hoS, Bool.false_eq_true, if_false]
  refine wpAny_bind (wpAny_dictEntries hod hdd ?_)
  split
  · refine wpAny_bind (wpAny_dictEntries hoo hdo' ?_)
    refine wpAny_bind ?_
    rw [← Array.forIn_toList]
    refine wpAny_forIn_list _ (fun rest _ s' => s' = s ∧ ∀ e ∈ rest, ∀ a, e.key ≠ .ref a) _ ?_ ?_ _ _ ⟨rfl, kref⟩
    · rintro e rest b s' ⟨rfl, hr⟩
      have h0 := hr e List.mem_cons_self
      split
      · rename_i a ea
        exact absurd ea (h0 a)
      · exact wpAny_pure ⟨rfl, fun e' he' => hr e' (List.mem_cons_of_mem _ he')⟩
    · rintro b s' ⟨rfl, _⟩
      exact fin _ rfl
  · exact fin _ rfl
end
theorem noRef_mix {prog : Program} {w : World} : NoRef (mixKind prog w) := fun k v h a e => by
  subst e
  rcases keyIs_shape h with ⟨i, t, _, e⟩ | ⟨x, t, _, e⟩ <;> cases e
def tDStar (td tk tv : TE) : TE := fun σ H Q => ∀ p, H p = none → td σ (upd H p (.dK [])) fun x H1 => ∃ (a : Addr) (kvs : List (Key × V)), x = .ref a ∧ H1 a = some (.dK kvs) ∧ a ≠ p ∧ H1 p = some (.dK []) ∧
  ∀ q, (upd H1 p (.dK (mergeK [] kvs))) q = none → tk σ (upd (upd H1 p (.dK (mergeK [] kvs))) q (.dK [])) fun y H3 => tv σ H3 fun z H4 => ∃ kk, y = kV kk ∧ H4 q = some (.dK []) ∧ H4 p = some (.dK (mergeK [] kvs)) ∧ kvs.length < sizeLine ∧
    Q (.ref p) (upd (upd H4 q (.dK [(kk, z)])) p (.dK (putK (mergeK [] kvs) kk z)))
/-- the dict at b poured into the dict at d -/
theorem d_merge {X : Cx} {pins : List (Addr × Obj)} {σ : L2.St} {H : Hp} {s : Shared} {A : Around} {E : Value → Shared → Prop} {d b : Addr} {kvs more : List (Key × V)} {Q : Unit → Shared → Prop} (I : Inv X pins σ H s) (hd : H d = some (.dK kvs)) (hb : H b = some (.dK more)) (ne : d ≠ b)
    (hz : kvs.length + more.length ≤ sizeLine) (h : ∀ s', Inv X pins σ (upd H d (.dK (mergeK kvs more))) s' → Q () s') : wpAny (model X.prog X.w) A (mergeMapping d (.ref b) false) Q E s := by
  obtain ⟨z1, l1, vs1, r1, d1⟩ := dk_of I.hok hd
  obtain ⟨z2, l2, vs2, r2, d2⟩ := dk_of I.hok hb
  refine merge_ok noRef_mix ne l2 d1 d2 (fun h' dd hs => h _ ?_) (by rw [← r1.length, ← r2.length]; exact hz)
  have he : ∃ q, h'.get? d = some q := let ⟨q, _, _, hq, _⟩ := dd; ⟨q, hq⟩
  have hl : (mergeK kvs more).length ≤ sizeLine := Nat.le_trans (length_mergeK more kvs) hz
  exact d_write (t' := s.toks) I (by rw [hd]; exact True.intro) hs he (dk_new hl l1 (KV.merge r2 r1) dd)
theorem pe_dstar {X : Cx} {ed ek ev : Expr} {td tk tv : TE} {pos : Pos} (hd : PE X ed td) (hk : PE X ek tk) (hv : PE X ev tv) : PE X (.Dict [none, some ek] [ed, ev] pos) (tDStar td tk tv) := by
  refine ⟨fun pins s σ H Q I h => ?_⟩
  rw [arm_eval_Dict]
  refine wpAny_bind (wpAny_standAt ?_)
  have e1 : (evalEachOpt [none, some ek] X.env).zip ((evalEach [ed, ev] X.env).map fun v => do let x ← v; standAt pos; pure x) =
    [(none, do let x ← eval ed X.env; standAt pos; pure x), (some (eval ek X.env), do let x ← eval ev X.env; standAt pos; pure x)] := by rfl
  rw [e1]
  unfold dictDisplay
  simp only [List.forIn_cons, List.forIn_nil, List.isEmpty_nil, if_true, pure_bind, List.nil_append, List.length_cons, List.length_nil, List.isEmpty_cons, Bool.false_eq_true, if_false, bind_assoc]
  have l17 : ((0 + 1 : Nat) == 17) = false := by decide
  simp only [l17, Bool.false_eq_true, if_false, pure_bind, List.isEmpty_cons]
  have I0 : Inv X pins σ (upd H s.heap.objs.size (.dK [])) { s with heap := s.heap.push { cls := .type "dict", data := .dict #[] } } :=
    I.laid (t' := s.toks) (fun b o e => Heap.get?_push_of_some _ e) (Nat.le_refl _) (dk_empty s.heap I.big)
  refine wpAny_bind (wpAny_alloc ?_)
  refine wpAny_bind (wpAny_holding (wpAny_bind (thn (hd.run pins _ σ _ _ I0 (h _ (I.hok.fresh (Nat.le_refl _)))) fun u s1 ⟨x, H1, I1, rx, a, kvs, ex, ea, ne, ep, q⟩ => wpAny_bind (wpAny_standAt (wpAny_pure ?_)))))
  subst ex
  obtain rfl : u = Value.ref a := rx
  have zk : kvs.length ≤ sizeLine := (dk_of I1.hok ea).1
  refine wpAny_bind (wpAny_onRaise (wpAny_tryCatch (wpAny_onRaise (wpAny_holding (d_merge I1 ep ea (Ne.symm ne) (by rw [List.length_nil, Nat.zero_add]; exact zk) fun s2 I2 => ?_)))))
  have np : H1 s2.heap.objs.size = none ∧ s2.heap.objs.size ≠ s.heap.objs.size := by
    have z := I2.hok.fresh (Nat.le_refl _)
    by_cases e : s2.heap.objs.size = s.heap.objs.size
    · rw [e, upd_same] at z
      cases z
    · rw [upd_ne e] at z
      exact ⟨z, e⟩
  have fr2 : (upd H1 s.heap.objs.size (.dK (mergeK [] kvs))) s2.heap.objs.size = none := I2.hok.fresh (Nat.le_refl _)
  have I3 : Inv X pins σ (upd (upd H1 s.heap.objs.size (.dK (mergeK [] kvs))) s2.heap.objs.size (.dK [])) { s2 with heap := s2.heap.push { cls := .type "dict", data := .dict #[] } } :=
    I2.laid (t' := s2.toks) (fun b o e => Heap.get?_push_of_some _ e) (Nat.le_refl _) (dk_empty s2.heap I2.big)
  refine wpAny_bind (wpAny_bind (wpAny_holding ?_))
  unfold subDict
  refine wpAny_bind (wpAny_alloc ?_)
  refine wpAny_bind (wpAny_holding ?_)
  rw [if_pos (by show 1 ≤ 15; decide)]
  refine wpAny_bind (evalPairs_cons (thn (hk.run pins _ σ _ _ I3 (q _ fr2)) fun u1 s3 ⟨y, H3, I4, ry, q3⟩ => wpAny_bind (thn (hv.run pins _ σ _ _ I4 q3) fun u2 s4 ⟨z, H4, I5, rz, kk, ey, eq_, ep4, zl, q4⟩ => wpAny_bind (wpAny_standAt (wpAny_pure (evalPairs_nil ?_))))))
  subst ey
  refine wpAny_holding ?_
  rw [List.forIn_cons]
  refine wpAny_bind (wpAny_bind ?_)
  show wpAny _ _ (dictSet s2.heap.objs.size u1 u2 >>= fun _ => pure (ForInStep.yield PUnit.unit)) _ _ _
  refine wpAny_bind (d_dictSet I5 eq_ (by rw [List.length_nil]; decide) ry rz fun s5 I6 => wpAny_pure ?_)
  show wpAny _ _ (forIn [] PUnit.unit _) _ _ _
  rw [List.forIn_nil]
  refine wpAny_pure (wpAny_pure (wpAny_pure ?_))
  have ep5 : (upd H4 s2.heap.objs.size (.dK (putK [] kk z))) s.heap.objs.size = some (.dK (mergeK [] kvs)) := by rw [upd_ne (Ne.symm np.2)]; exact ep4
  have lm : (mergeK [] kvs).length ≤ kvs.length := by
    have := length_mergeK kvs []
    rw [List.length_nil, Nat.zero_add] at this
    exact this
  refine wpAny_bind (wpAny_onRaise (wpAny_holding (d_merge I6 ep5 upd_same (Ne.symm np.2) (by show _ + 1 ≤ _; omega) fun s6 I7 => ?_)))
  refine wpAny_pure (wpAny_pure ?_)
  exact ⟨.ref s.heap.objs.size, _, I7, rfl, q4⟩
end G
set_option Elab.async false
set_option linter.all false
set_option maxRecDepth 100000
set_option maxHeartbeats 4000000
/-! Promises of defs with defaults; a property's read by a promise. -/
namespace G
open PySem PySem.Spec PyProof.Rows L2
/-- the def with defaults dvs, called with the first n of its parameters given: j of the defaults are not needed -/
theorem fr_mkD {P : Program} {w : World} {K : PySem.W.Frag} {mg : Str → Option Value} {base : Heap} {x qual : Str} {st : Stmt} {f : Addr} {N ps : List Str} {k : Nat} {sp : Sp} {dvs : List V} (n j : Nat)
    (F : ∃ fd, FunD K x qual (defArgs st) (defBody st) (defScope st) dvs [] f fd) (S : FnScope N ps (defScope st)) (hd : dvs ≠ []) (hn : n + (dvs.length - j) = ps.length)
    (hb : ∀ (T : Addr) (kV doc pm : Value) (an : Option Addr) (cdv ct : Value) (us its : List Value), us.length = n → its.length = dvs.length →
      ∃ k, bindArgs (PySem.W.fnOf x qual (defArgs st) (defBody st) (defScope st) (.ref T) kV doc pm an cdv ct) ⟨us, []⟩ = seqItems? (.ref T) >>= k ∧ k (some its.toArray) = pure (ps.zip (us ++ its.drop j)))
    (len : ∀ vs H Q E, sp vs H Q E → vs.length = ps.length)
    (hbody : ∀ (cdv : Value) (A : Around) (outer : List Env) (s : Shared) (H : Hp) (vs : List V) (Q : VK) (E : XK), Room k (A.deeper (envOfC qual (defScope st) s.heap.objs.size f cdv)) → sp vs H Q E →
      ∃ t, PSs (cxOf CX0 P w K mg base N qual (defScope st) f cdv A outer s H E).nox (defBody st) t ∧ t { nx := fun _ H' => Q .non H', rt := Q } (start N vs) H) : FnR P w K mg base CX0 (k + 1) f (fun vs H Q E => sp (vs ++ dvs.drop j) H Q E) := by
  obtain ⟨fd, F⟩ := F
  have z : FnOk P w K mg base CX0 (k + 1) f fd ps sp := F.ok S len fun cdv A outer s H vs Q E hr h => by
    obtain ⟨t, h1, h2⟩ := hbody cdv A outer s H vs Q E hr h
    exact ⟨t, h1.nox, h2⟩
  obtain ⟨ds, h1, h2⟩ := F.binds1 n j hd hn hb
  exact z.raw h2 h1
section
variable {X : Cx} {CX : CXT} {k : Nat} {C p g a dx : Addr} {fs : List (Str × V)} {f : Str} {sp : Sp} {E : XK} {e : Expr} {pos : Pos} {ta : TE}
def tPropR (C : Addr) (sp : Sp) (E : XK) (ta : TE) : TE := fun σ H Q => ta σ H fun x H1 => ∃ a dx fs, x = .ref a ∧ H1 a = some (.ins C dx fs) ∧ sp [.ref a] H1 Q E
theorem getpropR_ok {pins : List (Addr × Obj)} {σ : L2.St} {H : Hp} {s : Shared} {Q : VK} {b : Bool} {E' : Value → Shared → Prop} (I : Inv X pins σ H s) (ea : H a = some (.ins C dx fs)) (c : Cls X.K C) (hp : PropOf X.K C f p g)
    (F : FnR X.prog X.w X.K X.mg X.base CX k g sp) (hr : Room (k + 1) X.A) (hx : Passes CX X.nox E) (h : sp [.ref a] H Q E) :
    wpAny (model X.prog X.w) X.A (getAttr (.ref a) f b) (EP X pins σ Q) E' s := by
  obtain ⟨mA, O, _, _, _, _⟩ := ins_get I.hok ea
  obtain ⟨od, J, _⟩ := O.look
  obtain ⟨rest, hrec⟩ := hp.rec_
  have I1 := I.tok (s.toks + 1)
  have hc : (PySem.W.clsIn X.K C).isSome = true := by
    obtain ⟨cd, hc, _⟩ := PySem.W.any_some c.hd
    rw [hc]
    rfl
  refine PySem.W.get_bind I.kIn J (PySem.W.plainGet_of (c.get f)).1 (PySem.W.findObj_data hc hp.at_ hp.get hp.tak) (PySem.W.plainGet_of (c.get f)).2 (wpAny_call (PySem.W.prop_get (s := { s with toks := s.toks + 1 }) I.kIn hrec ?_))
  refine codeAny_mono (F X.A.in1 X.stack { s with toks := s.toks + 1 } H [.ref a] [.ref a] Q E hr.in1 I1.env0.in1 (.cons rfl .nil) h) fun r s' hq => ?_
  cases r with
  | error er => exact False.elim (hx pins σ H { s with toks := s.toks + 1 } er s' (I1.wish _) hq)
  | ok fl =>
    cases fl with
    | ret u =>
      obtain ⟨v, H', I3, rv, q3⟩ := I1.after hq
      show wpAny _ _ (handedOut u) _ _ _
      rw [PySem.W.handedOut_of (handed_of rv)]
      exact wpAny_pure ⟨v, H', I3, rv, q3⟩
    | _ => exact hq.elim
theorem pe_propR (he : PE X e ta) (c : Cls X.K C) (hp : PropOf X.K C f p g) (F : FnR X.prog X.w X.K X.mg X.base CX k g sp) (hr : Room (k + 1) X.A) (hx : Passes CX X.nox E)
    (hab : attributeBase e f X.env (eval e X.env) = eval e X.env) : PE X (.Attribute e f pos) (tPropR C sp E ta) := by
  refine ⟨fun pins s σ H Q I h => ?_⟩
  refine attr_of hab (thn (he.run pins s σ H _ I h) fun u s1 ⟨x, H1, I1, rx, a, dx, fs, ex, ea, q⟩ => ?_)
  subst ex
  obtain rfl : u = Value.ref a := rx
  exact getpropR_ok I1 ea c hp F hr hx q
end
end G
set_option Elab.async false
set_option linter.all false
set_option maxRecDepth 100000
set_option maxHeartbeats 0
namespace G
open PySem PySem.W PySem.Calls PyProof.Rows L2
def top (i : Nat) : Stmt := PySem.Challenge.pw_gapshares_k86_whole_stores_taken_back.main.body.getD i (.Pass ⟨0, 0, 0, 0⟩)
abbrev aRatio : Addr := 534
abbrev aLooks : Addr := 737
abbrev aSeries : Addr := 891
abbrev aStoreState : Addr := 926
abbrev aStore : Addr := 1104
abbrev s_is_integer : Stmt := top 3
abbrev f_is_integer : Addr := 28
abbrev N_is_integer : List PySem.Str := ["value"]
abbrev P_is_integer : List PySem.Str := ["value"]
abbrev s_is_within : Stmt := top 4
abbrev f_is_within : Addr := 35
abbrev N_is_within : List PySem.Str := ["value", "least", "most"]
abbrev P_is_within : List PySem.Str := ["value", "least", "most"]
abbrev s_is_name : Stmt := top 5
abbrev f_is_name : Addr := 40
abbrev N_is_name : List PySem.Str := ["value", "sign"]
abbrev P_is_name : List PySem.Str := ["value"]
abbrev s_is_figures : Stmt := top 22
abbrev f_is_figures : Addr := 310
abbrev N_is_figures : List PySem.Str := ["word", "figures", "sign"]
abbrev P_is_figures : List PySem.Str := ["word"]
abbrev s_word_at : Stmt := top 23
abbrev f_word_at : Addr := 317
abbrev N_word_at : List PySem.Str := ["words", "at"]
abbrev P_word_at : List PySem.Str := ["words", "at"]
abbrev s_divisor_of : Stmt := top 25
abbrev f_divisor_of : Addr := 324
abbrev N_divisor_of : List PySem.Str := ["one", "other"]
abbrev P_divisor_of : List PySem.Str := ["one", "other"]
abbrev s_told_of : Stmt := top 27
abbrev f_told_of : Addr := 545
abbrev N_told_of : List PySem.Str := ["value"]
abbrev P_told_of : List PySem.Str := ["value"]
abbrev s_is_number : Stmt := top 31
abbrev f_is_number : Addr := 573
abbrev N_is_number : List PySem.Str := ["value"]
abbrev P_is_number : List PySem.Str := ["value"]
abbrev s_need_few : Stmt := top 34
abbrev f_need_few : Addr := 580
abbrev N_need_few : List PySem.Str := ["many"]
abbrev P_need_few : List PySem.Str := ["many"]
abbrev s_integer_at : Stmt := top 37
abbrev f_integer_at : Addr := 601
abbrev N_integer_at : List PySem.Str := ["words", "at", "word"]
abbrev P_integer_at : List PySem.Str := ["words", "at"]
abbrev s_is_amount : Stmt := top 42
abbrev f_is_amount : Addr := 748
abbrev N_is_amount : List PySem.Str := ["value"]
abbrev P_is_amount : List PySem.Str := ["value"]
abbrev s_is_point : Stmt := top 43
abbrev f_is_point : Addr := 755
abbrev N_is_point : List PySem.Str := ["value"]
abbrev P_is_point : List PySem.Str := ["value"]
abbrev s_number_at : Stmt := top 45
abbrev f_number_at : Addr := 769
abbrev N_number_at : List PySem.Str := ["words", "at"]
abbrev P_number_at : List PySem.Str := ["words", "at"]
abbrev s_read_points : Stmt := top 46
abbrev f_read_points : Addr := 776
abbrev N_read_points : List PySem.Str := ["words", "found", "at", "moment"]
abbrev P_read_points : List PySem.Str := ["words"]
abbrev s_points_of : Stmt := top 47
abbrev f_points_of : Addr := 781
abbrev N_points_of : List PySem.Str := ["table", "moment", "one"]
abbrev P_points_of : List PySem.Str := ["table"]
abbrev s_need_name : Stmt := top 52
abbrev f_need_name : Addr := 902
abbrev N_need_name : List PySem.Str := ["value"]
abbrev P_need_name : List PySem.Str := ["value"]
abbrev s_latest : Stmt := top 53
abbrev f_latest : Addr := 909
abbrev N_latest : List PySem.Str := ["points", "limit", "kept"]
abbrev P_latest : List PySem.Str := ["points", "limit"]
abbrev s_law_pen : Stmt := top 57
abbrev f_law_pen : Addr := 1113
abbrev N_law_pen : List PySem.Str := ["script", "cell"]
abbrev P_law_pen : List PySem.Str := ["script"]
abbrev s_law_draw : Stmt := top 58
abbrev f_law_draw : Addr := 1120
abbrev N_law_draw : List PySem.Str := ["pen", "many", "rest", "count", "cell", "mixed"]
abbrev P_law_draw : List PySem.Str := ["pen", "many"]
abbrev s_law_pick : Stmt := top 59
abbrev f_law_pick : Addr := 1127
abbrev N_law_pick : List PySem.Str := ["pen", "some"]
abbrev P_law_pick : List PySem.Str := ["pen", "some"]
abbrev s_law_text : Stmt := top 60
abbrev f_law_text : Addr := 1134
abbrev N_law_text : List PySem.Str := ["top", "bottom", "high", "low"]
abbrev P_law_text : List PySem.Str := ["top", "bottom"]
abbrev s_law_number : Stmt := top 61
abbrev f_law_number : Addr := 1141
abbrev N_law_number : List PySem.Str := ["pen", "top", "bottom"]
abbrev P_law_number : List PySem.Str := ["pen"]
abbrev s_law_shown : Stmt := top 62
abbrev f_law_shown : Addr := 1146
abbrev N_law_shown : List PySem.Str := ["store", "name", "moment", "value"]
abbrev P_law_shown : List PySem.Str := ["store"]
abbrev s_law_after : Stmt := top 63
abbrev f_law_after : Addr := 1151
abbrev N_law_after : List PySem.Str := ["state", "limit", "deed", "moment", "rows", "points", "name", "own", "kept", "at", "row", "pair"]
abbrev P_law_after : List PySem.Str := ["state", "limit", "deed"]
abbrev s_law_series : Stmt := top 64
abbrev f_law_series : Addr := 1156
abbrev N_law_series : List PySem.Str := ["points", "moment", "text"]
abbrev P_law_series : List PySem.Str := ["points"]
abbrev s_law_do : Stmt := top 65
abbrev f_law_do : Addr := 1163
abbrev N_law_do : List PySem.Str := ["pen", "store", "deed", "way"]
abbrev P_law_do : List PySem.Str := ["pen", "store", "deed"]
abbrev s_law_deed : Stmt := top 66
abbrev f_law_deed : Addr := 1168
abbrev N_law_deed : List PySem.Str := ["pen", "state", "moment", "names", "kind", "name", "last", "points", "turn"]
abbrev P_law_deed : List PySem.Str := ["pen", "state"]
abbrev s_law_told : Stmt := top 67
abbrev f_law_told : Addr := 1173
abbrev N_law_told : List PySem.Str := ["deeds", "found", "deed", "moment", "value"]
abbrev P_law_told : List PySem.Str := ["deeds"]
abbrev s_law_replayed : Stmt := top 68
abbrev f_law_replayed : Addr := 1180
abbrev N_law_replayed : List PySem.Str := ["deeds", "limit", "other", "deed"]
abbrev P_law_replayed : List PySem.Str := ["deeds", "limit"]
abbrev s_law_plain : Stmt := top 69
abbrev f_law_plain : Addr := 1185
abbrev N_law_plain : List PySem.Str := ["deeds", "deed"]
abbrev P_law_plain : List PySem.Str := ["deeds"]
abbrev s_law_right : Stmt := top 70
abbrev f_law_right : Addr := 1192
abbrev N_law_right : List PySem.Str := ["pen", "limit", "store", "states", "deeds", "turn", "deed", "again"]
abbrev P_law_right : List PySem.Str := ["pen"]
abbrev s_law : Stmt := top 71
abbrev f_law : Addr := 1199
abbrev N_law : List PySem.Str := ["script", "pen", "turn", "store", "first", "told"]
abbrev P_law : List PySem.Str := ["script"]
abbrev s_Ratio_init : Stmt := inClass (top 26) 0
abbrev f_Ratio_init : Addr := 339
abbrev N_Ratio_init : List PySem.Str := ["self", "over", "under", "shared"]
abbrev P_Ratio_init : List PySem.Str := ["self", "over", "under"]
abbrev s_Ratio_read : Stmt := inClass (top 26) 1
abbrev f_Ratio_read : Addr := 344
abbrev N_Ratio_read : List PySem.Str := ["cls", "text", "parts", "over", "under", "part"]
abbrev P_Ratio_read : List PySem.Str := ["cls", "text"]
abbrev s_Ratio_of : Stmt := inClass (top 26) 2
abbrev f_Ratio_of : Addr := 354
abbrev N_Ratio_of : List PySem.Str := ["value"]
abbrev P_Ratio_of : List PySem.Str := ["value"]
abbrev s_Ratio_ge : Stmt := inClass (top 26) 24
abbrev f_Ratio_ge : Addr := 517
abbrev N_Ratio_ge : List PySem.Str := ["self", "other", "told"]
abbrev P_Ratio_ge : List PySem.Str := ["self", "other"]
abbrev s_Ratio_eq : Stmt := inClass (top 26) 25
abbrev f_Ratio_eq : Addr := 524
abbrev N_Ratio_eq : List PySem.Str := ["self", "other"]
abbrev P_Ratio_eq : List PySem.Str := ["self", "other"]
abbrev s_Ratio_str : Stmt := inClass (top 26) 26
abbrev f_Ratio_str : Addr := 531
abbrev N_Ratio_str : List PySem.Str := ["self"]
abbrev P_Ratio_str : List PySem.Str := ["self"]
abbrev s_Looks_init : Stmt := inClass (top 39) 0
abbrev f_Looks_init : Addr := 618
abbrev N_Looks_init : List PySem.Str := ["self", "moments", "at", "moment", "later"]
abbrev P_Looks_init : List PySem.Str := ["self", "moments"]
abbrev s_Series_init : Stmt := inClass (top 48) 0
abbrev f_Series_init : Addr := 793
abbrev N_Series_init : List PySem.Str := ["self", "points", "at", "point", "moments", "moment", "value"]
abbrev P_Series_init : List PySem.Str := ["self", "points"]
abbrev s_Series_read : Stmt := inClass (top 48) 1
abbrev f_Series_read : Addr := 800
abbrev N_Series_read : List PySem.Str := ["cls", "text", "points"]
abbrev P_Series_read : List PySem.Str := ["cls", "text"]
abbrev s_Series_len : Stmt := inClass (top 48) 2
abbrev f_Series_len : Addr := 810
abbrev N_Series_len : List PySem.Str := ["self"]
abbrev P_Series_len : List PySem.Str := ["self"]
abbrev s_Series_eq : Stmt := inClass (top 48) 13
abbrev f_Series_eq : Addr := 883
abbrev N_Series_eq : List PySem.Str := ["self", "other"]
abbrev P_Series_eq : List PySem.Str := ["self", "other"]
abbrev s_StoreState_init : Stmt := inClass (top 54) 0
abbrev f_StoreState_init : Addr := 923
abbrev N_StoreState_init : List PySem.Str := ["self", "moment", "table", "deeds"]
abbrev P_StoreState_init : List PySem.Str := ["self", "moment", "table", "deeds"]
abbrev s_Store_init : Stmt := inClass (top 55) 0
abbrev f_Store_init : Addr := 945
abbrev N_Store_init : List PySem.Str := ["self", "limit"]
abbrev P_Store_init : List PySem.Str := ["self", "limit"]
abbrev s_Store_now : Stmt := inClass (top 55) 1
abbrev f_Store_now : Addr := 952
abbrev N_Store_now : List PySem.Str := ["self"]
abbrev P_Store_now : List PySem.Str := ["self"]
abbrev s_Store_now_set : Stmt := inClass (top 55) 2
abbrev f_Store_now_set : Addr := 961
abbrev N_Store_now_set : List PySem.Str := ["self", "value"]
abbrev P_Store_now_set : List PySem.Str := ["self", "value"]
abbrev s_Store_advance : Stmt := inClass (top 55) 3
abbrev f_Store_advance : Addr := 969
abbrev N_Store_advance : List PySem.Str := ["self", "now"]
abbrev P_Store_advance : List PySem.Str := ["self", "now"]
abbrev s_Store_go_on : Stmt := inClass (top 55) 4
abbrev f_Store_go_on : Addr := 976
abbrev N_Store_go_on : List PySem.Str := ["self", "state"]
abbrev P_Store_go_on : List PySem.Str := ["self", "state"]
abbrev s_Store_need_room : Stmt := inClass (top 55) 5
abbrev f_Store_need_room : Addr := 983
abbrev N_Store_need_room : List PySem.Str := ["self", "name"]
abbrev P_Store_need_room : List PySem.Str := ["self", "name"]
abbrev s_Store_take : Stmt := inClass (top 55) 6
abbrev f_Store_take : Addr := 990
abbrev N_Store_take : List PySem.Str := ["self", "name", "series", "deed"]
abbrev P_Store_take : List PySem.Str := ["self", "name", "series", "deed"]
abbrev s_Store_look : Stmt := inClass (top 55) 7
abbrev f_Store_look : Addr := 997
abbrev N_Store_look : List PySem.Str := ["self", "name", "moment", "value", "told", "points"]
abbrev P_Store_look : List PySem.Str := ["self", "name", "moment", "value"]
abbrev s_Store_put : Stmt := inClass (top 55) 8
abbrev f_Store_put : Addr := 1004
abbrev N_Store_put : List PySem.Str := ["self", "name", "series", "moment"]
abbrev P_Store_put : List PySem.Str := ["self", "name", "series"]
abbrev s_Store_setitem : Stmt := inClass (top 55) 9
abbrev f_Store_setitem : Addr := 1011
abbrev N_Store_setitem : List PySem.Str := ["self", "at", "worth"]
abbrev P_Store_setitem : List PySem.Str := ["self", "at", "worth"]
abbrev s_Store_drop : Stmt := inClass (top 55) 10
abbrev f_Store_drop : Addr := 1016
abbrev N_Store_drop : List PySem.Str := ["self", "name", "table", "one"]
abbrev P_Store_drop : List PySem.Str := ["self", "name"]
abbrev s_Store_getitem : Stmt := inClass (top 55) 11
abbrev f_Store_getitem : Addr := 1023
abbrev N_Store_getitem : List PySem.Str := ["self", "at"]
abbrev P_Store_getitem : List PySem.Str := ["self", "at"]
abbrev s_Store_names : Stmt := inClass (top 55) 12
abbrev f_Store_names : Addr := 1030
abbrev N_Store_names : List PySem.Str := ["self"]
abbrev P_Store_names : List PySem.Str := ["self"]
abbrev s_Store_len : Stmt := inClass (top 55) 13
abbrev f_Store_len : Addr := 1038
abbrev N_Store_len : List PySem.Str := ["self"]
abbrev P_Store_len : List PySem.Str := ["self"]
abbrev s_Store_contains : Stmt := inClass (top 55) 15
abbrev f_Store_contains : Addr := 1052
abbrev N_Store_contains : List PySem.Str := ["self", "x"]
abbrev P_Store_contains : List PySem.Str := ["self", "x"]
abbrev s_Store_undo : Stmt := inClass (top 55) 17
abbrev f_Store_undo : Addr := 1066
abbrev N_Store_undo : List PySem.Str := ["self"]
abbrev P_Store_undo : List PySem.Str := ["self"]
abbrev s_Store_history : Stmt := inClass (top 55) 18
abbrev f_Store_history : Addr := 1073
abbrev N_Store_history : List PySem.Str := ["self", "deed"]
abbrev P_Store_history : List PySem.Str := ["self"]
abbrev s_Store_eq : Stmt := inClass (top 55) 22
abbrev f_Store_eq : Addr := 1101
abbrev N_Store_eq : List PySem.Str := ["self", "other"]
abbrev P_Store_eq : List PySem.Str := ["self", "other"]
abbrev p_Ratio_read : Addr := 346
abbrev p_Ratio_of : Addr := 356
abbrev p_Series_read : Addr := 802
abbrev p_Store_now : Addr := 962
abbrev p_Store_names : Addr := 1031
def as_ : List Addr := [3, 2, 534, 533, 737, 736, 891, 890, 926, 925, 1104, 1103, 28, 27, 35, 34, 40, 39, 310, 309, 317, 316, 324, 323, 545, 544, 573, 572, 580, 579, 601, 600, 748, 747, 755, 754, 769, 768, 776, 775, 781, 780, 902, 901, 909, 908, 1113, 1112, 1120, 1119, 1127, 1126, 1134, 1133, 1141, 1140, 1146, 1145, 1151, 1150, 1156, 1155, 1163, 1162, 1168, 1167, 1173, 1172, 1180, 1179, 1185, 1184, 1192, 1191, 1199, 1198, 339, 338, 332, 344, 343, 354, 353, 517, 516, 524, 523, 531, 530, 618, 617, 793, 792, 800, 799, 810, 809, 883, 882, 923, 922, 945, 944, 938, 952, 951, 961, 960, 969, 968, 976, 975, 983, 982, 990, 989, 997, 996, 1004, 1003, 1011, 1010, 1016, 1015, 1023, 1022, 1030, 1029, 1038, 1037, 1052, 1051, 1066, 1065, 1073, 1072, 1101, 1100, 346, 356, 802, 962, 1031]
def cks0 : List Ck := [ckGlo "is_integer" 28,
  ckGlo "is_within" 35,
  ckGlo "is_name" 40,
  ckGlo "is_figures" 310,
  ckGlo "word_at" 317,
  ckGlo "divisor_of" 324,
  ckGlo "told_of" 545,
  ckGlo "is_number" 573,
  ckGlo "need_few" 580,
  ckGlo "integer_at" 601,
  ckGlo "is_amount" 748,
  ckGlo "is_point" 755,
  ckGlo "number_at" 769,
  ckGlo "read_points" 776,
  ckGlo "points_of" 781,
  ckGlo "need_name" 902,
  ckGlo "latest" 909,
  ckGlo "_law_pen" 1113,
  ckGlo "_law_draw" 1120,
  ckGlo "_law_pick" 1127,
  ckGlo "_law_text" 1134,
  ckGlo "_law_number" 1141,
  ckGlo "_law_shown" 1146,
  ckGlo "_law_after" 1151,
  ckGlo "_law_series" 1156,
  ckGlo "_law_do" 1163,
  ckGlo "_law_deed" 1168,
  ckGlo "_law_told" 1173,
  ckGlo "_law_replayed" 1180,
  ckGlo "_law_plain" 1185]
def cks1 : List Ck := [ckGlo "_law_right" 1192,
  ckGlo "law" 1199,
  ckGlo "Ratio" 534,
  ckGlo "Looks" 737,
  ckGlo "Series" 891,
  ckGlo "StoreState" 926,
  ckGlo "Store" 1104,
  ckStr "SIGNS" "abcdefghijklmnopqrstuvwxyz",
  ckInt "MOST_FIGURES" 4000,
  ckInt "MOST_LOOKS" 5000,
  ckInt "MOST_POINTS" 5000,
  ckInt "MOST_LIMIT" 5000,
  ckInt "MOST_SERIES" 100,
  ckFree "isinstance",
  ckFree "int",
  ckFree "bool",
  ckFree "str",
  ckFree "list",
  ckFree "tuple",
  ckFree "dict",
  ckFree "len",
  ckFree "all",
  ckFree "any",
  ckFree "abs",
  ckFree "range",
  ckFree "enumerate",
  ckFree "zip",
  ckFree "sorted",
  ckFree "repr",
  ckFree "max"]
def cks2 : List Ck := [ckFree "min",
  ckFree "set",
  ckCls aRatio,
  ckTyI aRatio,
  ckNo aRatio "over",
  ckNo aRatio "under",
  ckCls aLooks,
  ckTyI aLooks,
  ckNo aLooks "moments",
  ckNo aLooks "lengths",
  ckCls aSeries,
  ckTyI aSeries,
  ckNo aSeries "points",
  ckNo aSeries "looks",
  ckNo aSeries "readings",
  ckCls aStoreState,
  ckTyI aStoreState,
  ckNo aStoreState "moment",
  ckNo aStoreState "table",
  ckNo aStoreState "deeds",
  ckCls aStore,
  ckTyI aStore,
  ckNo aStore "limit",
  ckNo aStore "state",
  ckNo aStore "past",
  ckMk aRatio f_Ratio_init,
  ckRead aRatio,
  ckWrap aRatio "classmethod" "classmethod.__get__" "read" p_Ratio_read f_Ratio_read,
  ckWrap aRatio "staticmethod" "staticmethod.__get__" "of" p_Ratio_of f_Ratio_of,
  ckMeth aRatio "__ge__" f_Ratio_ge]
def cks3 : List Ck := [ckMeth aRatio "__eq__" f_Ratio_eq,
  ckMeth aRatio "__str__" f_Ratio_str,
  ckMk aLooks f_Looks_init,
  ckMk aSeries f_Series_init,
  ckRead aSeries,
  ckWrap aSeries "classmethod" "classmethod.__get__" "read" p_Series_read f_Series_read,
  ckMeth aSeries "__len__" f_Series_len,
  ckMeth aSeries "__eq__" f_Series_eq,
  ckMk aStoreState f_StoreState_init,
  ckMk aStore f_Store_init,
  ckProp aStore "now" p_Store_now f_Store_now,
  ckPset aStore "now" 962 f_Store_now_set,
  ckMeth aStore "advance" f_Store_advance,
  ckMeth aStore "go_on" f_Store_go_on,
  ckMeth aStore "need_room" f_Store_need_room,
  ckMeth aStore "take" f_Store_take,
  ckMeth aStore "look" f_Store_look,
  ckMeth aStore "put" f_Store_put,
  ckMeth aStore "__setitem__" f_Store_setitem,
  ckMeth aStore "drop" f_Store_drop,
  ckMeth aStore "__getitem__" f_Store_getitem,
  ckProp aStore "names" p_Store_names f_Store_names,
  ckMeth aStore "__len__" f_Store_len,
  ckMeth aStore "__contains__" f_Store_contains,
  ckMeth aStore "undo" f_Store_undo,
  ckMeth aStore "history" f_Store_history,
  ckMeth aStore "__eq__" f_Store_eq,
  ckIsi (.ref aStore) (.ref aStore) true,
  ckIsi (.type "int") (.ref aRatio) false,
  ckIsi (.type "str") (.ref aRatio) false]
def cks4 : List Ck := [ckIsi (.ref aRatio) (.ref aRatio) true,
  ckIsi (.ref aSeries) (.ref aSeries) true,
  ckIsi (.ref aRatio) (.type "int") false,
  ckIsi (.ref aRatio) (.type "bool") false,
  ckIsi (.type "tuple") (.ref aRatio) false,
  ckNf aRatio (.type "int"),
  ckNf aRatio (.ref aRatio),
  ckNf aStore (.ref aStore),
  (fun K => He.eqO (findIn K (.ref aStore) "__ne__") (some (some (.builtin "object.__ne__")))),
  (fun K => noSeq K aStore)]
abbrev cks_ : List Ck := cks0 ++ cks1 ++ cks2 ++ cks3 ++ cks4
def d_is_integer : He5.DefA := ⟨fun _ => f_is_integer, "is_integer", "is_integer", defArgs s_is_integer, defBody s_is_integer, defScope s_is_integer, [], []⟩
def d_is_within : He5.DefA := ⟨fun _ => f_is_within, "is_within", "is_within", defArgs s_is_within, defBody s_is_within, defScope s_is_within, [], []⟩
def d_is_name : He5.DefA := ⟨fun _ => f_is_name, "is_name", "is_name", defArgs s_is_name, defBody s_is_name, defScope s_is_name, [], []⟩
def d_is_figures : He5.DefA := ⟨fun _ => f_is_figures, "is_figures", "is_figures", defArgs s_is_figures, defBody s_is_figures, defScope s_is_figures, [], []⟩
def d_word_at : He5.DefA := ⟨fun _ => f_word_at, "word_at", "word_at", defArgs s_word_at, defBody s_word_at, defScope s_word_at, [], []⟩
def d_divisor_of : He5.DefA := ⟨fun _ => f_divisor_of, "divisor_of", "divisor_of", defArgs s_divisor_of, defBody s_divisor_of, defScope s_divisor_of, [], []⟩
def d_told_of : He5.DefA := ⟨fun _ => f_told_of, "told_of", "told_of", defArgs s_told_of, defBody s_told_of, defScope s_told_of, [], []⟩
def d_is_number : He5.DefA := ⟨fun _ => f_is_number, "is_number", "is_number", defArgs s_is_number, defBody s_is_number, defScope s_is_number, [], []⟩
def d_need_few : He5.DefA := ⟨fun _ => f_need_few, "need_few", "need_few", defArgs s_need_few, defBody s_need_few, defScope s_need_few, [], []⟩
def d_integer_at : He5.DefA := ⟨fun _ => f_integer_at, "integer_at", "integer_at", defArgs s_integer_at, defBody s_integer_at, defScope s_integer_at, [], []⟩
def d_is_amount : He5.DefA := ⟨fun _ => f_is_amount, "is_amount", "is_amount", defArgs s_is_amount, defBody s_is_amount, defScope s_is_amount, [], []⟩
def d_is_point : He5.DefA := ⟨fun _ => f_is_point, "is_point", "is_point", defArgs s_is_point, defBody s_is_point, defScope s_is_point, [], []⟩
def d_number_at : He5.DefA := ⟨fun _ => f_number_at, "number_at", "number_at", defArgs s_number_at, defBody s_number_at, defScope s_number_at, [], []⟩
def d_read_points : He5.DefA := ⟨fun _ => f_read_points, "read_points", "read_points", defArgs s_read_points, defBody s_read_points, defScope s_read_points, [], []⟩
def d_points_of : He5.DefA := ⟨fun _ => f_points_of, "points_of", "points_of", defArgs s_points_of, defBody s_points_of, defScope s_points_of, [], []⟩
def d_need_name : He5.DefA := ⟨fun _ => f_need_name, "need_name", "need_name", defArgs s_need_name, defBody s_need_name, defScope s_need_name, [], []⟩
def d_latest : He5.DefA := ⟨fun _ => f_latest, "latest", "latest", defArgs s_latest, defBody s_latest, defScope s_latest, [], []⟩
def d_law_pen : He5.DefA := ⟨fun _ => f_law_pen, "_law_pen", "_law_pen", defArgs s_law_pen, defBody s_law_pen, defScope s_law_pen, [], []⟩
def d_law_draw : He5.DefA := ⟨fun _ => f_law_draw, "_law_draw", "_law_draw", defArgs s_law_draw, defBody s_law_draw, defScope s_law_draw, [], []⟩
def d_law_pick : He5.DefA := ⟨fun _ => f_law_pick, "_law_pick", "_law_pick", defArgs s_law_pick, defBody s_law_pick, defScope s_law_pick, [], []⟩
def d_law_text : He5.DefA := ⟨fun _ => f_law_text, "_law_text", "_law_text", defArgs s_law_text, defBody s_law_text, defScope s_law_text, [], []⟩
def d_law_number : He5.DefA := ⟨fun _ => f_law_number, "_law_number", "_law_number", defArgs s_law_number, defBody s_law_number, defScope s_law_number, [], []⟩
def d_law_shown : He5.DefA := ⟨fun _ => f_law_shown, "_law_shown", "_law_shown", defArgs s_law_shown, defBody s_law_shown, defScope s_law_shown, [], []⟩
def d_law_after : He5.DefA := ⟨fun _ => f_law_after, "_law_after", "_law_after", defArgs s_law_after, defBody s_law_after, defScope s_law_after, [], []⟩
def d_law_series : He5.DefA := ⟨fun _ => f_law_series, "_law_series", "_law_series", defArgs s_law_series, defBody s_law_series, defScope s_law_series, [], []⟩
def d_law_do : He5.DefA := ⟨fun _ => f_law_do, "_law_do", "_law_do", defArgs s_law_do, defBody s_law_do, defScope s_law_do, [], []⟩
def d_law_deed : He5.DefA := ⟨fun _ => f_law_deed, "_law_deed", "_law_deed", defArgs s_law_deed, defBody s_law_deed, defScope s_law_deed, [], []⟩
def d_law_told : He5.DefA := ⟨fun _ => f_law_told, "_law_told", "_law_told", defArgs s_law_told, defBody s_law_told, defScope s_law_told, [], []⟩
def d_law_replayed : He5.DefA := ⟨fun _ => f_law_replayed, "_law_replayed", "_law_replayed", defArgs s_law_replayed, defBody s_law_replayed, defScope s_law_replayed, [], []⟩
def d_law_plain : He5.DefA := ⟨fun _ => f_law_plain, "_law_plain", "_law_plain", defArgs s_law_plain, defBody s_law_plain, defScope s_law_plain, [], []⟩
def d_law_right : He5.DefA := ⟨fun _ => f_law_right, "_law_right", "_law_right", defArgs s_law_right, defBody s_law_right, defScope s_law_right, [], []⟩
def d_law : He5.DefA := ⟨fun _ => f_law, "law", "law", defArgs s_law, defBody s_law, defScope s_law, [], []⟩
def d_Ratio_init : He5.DefA := ⟨fun _ => f_Ratio_init, "__init__", "Ratio.__init__", defArgs s_Ratio_init, defBody s_Ratio_init, defScope s_Ratio_init, [.int 1], []⟩
def d_Ratio_read : He5.DefA := ⟨fun _ => f_Ratio_read, "read", "Ratio.read", defArgs s_Ratio_read, defBody s_Ratio_read, defScope s_Ratio_read, [], []⟩
def d_Ratio_of : He5.DefA := ⟨fun _ => f_Ratio_of, "of", "Ratio.of", defArgs s_Ratio_of, defBody s_Ratio_of, defScope s_Ratio_of, [], []⟩
def d_Ratio_ge : He5.DefA := ⟨fun _ => f_Ratio_ge, "__ge__", "Ratio.__ge__", defArgs s_Ratio_ge, defBody s_Ratio_ge, defScope s_Ratio_ge, [], []⟩
def d_Ratio_eq : He5.DefA := ⟨fun _ => f_Ratio_eq, "__eq__", "Ratio.__eq__", defArgs s_Ratio_eq, defBody s_Ratio_eq, defScope s_Ratio_eq, [], []⟩
def d_Ratio_str : He5.DefA := ⟨fun _ => f_Ratio_str, "__str__", "Ratio.__str__", defArgs s_Ratio_str, defBody s_Ratio_str, defScope s_Ratio_str, [], []⟩
def d_Looks_init : He5.DefA := ⟨fun _ => f_Looks_init, "__init__", "Looks.__init__", defArgs s_Looks_init, defBody s_Looks_init, defScope s_Looks_init, [], []⟩
def d_Series_init : He5.DefA := ⟨fun _ => f_Series_init, "__init__", "Series.__init__", defArgs s_Series_init, defBody s_Series_init, defScope s_Series_init, [], []⟩
def d_Series_read : He5.DefA := ⟨fun _ => f_Series_read, "read", "Series.read", defArgs s_Series_read, defBody s_Series_read, defScope s_Series_read, [], []⟩
def d_Series_len : He5.DefA := ⟨fun _ => f_Series_len, "__len__", "Series.__len__", defArgs s_Series_len, defBody s_Series_len, defScope s_Series_len, [], []⟩
def d_Series_eq : He5.DefA := ⟨fun _ => f_Series_eq, "__eq__", "Series.__eq__", defArgs s_Series_eq, defBody s_Series_eq, defScope s_Series_eq, [], []⟩
def d_StoreState_init : He5.DefA := ⟨fun _ => f_StoreState_init, "__init__", "StoreState.__init__", defArgs s_StoreState_init, defBody s_StoreState_init, defScope s_StoreState_init, [], []⟩
def d_Store_init : He5.DefA := ⟨fun _ => f_Store_init, "__init__", "Store.__init__", defArgs s_Store_init, defBody s_Store_init, defScope s_Store_init, [.int 1000], []⟩
def d_Store_now : He5.DefA := ⟨fun _ => f_Store_now, "now", "Store.now", defArgs s_Store_now, defBody s_Store_now, defScope s_Store_now, [], []⟩
def d_Store_now_set : He5.DefA := ⟨fun _ => f_Store_now_set, "now", "Store.now", defArgs s_Store_now_set, defBody s_Store_now_set, defScope s_Store_now_set, [], []⟩
def d_Store_advance : He5.DefA := ⟨fun _ => f_Store_advance, "advance", "Store.advance", defArgs s_Store_advance, defBody s_Store_advance, defScope s_Store_advance, [], []⟩
def d_Store_go_on : He5.DefA := ⟨fun _ => f_Store_go_on, "go_on", "Store.go_on", defArgs s_Store_go_on, defBody s_Store_go_on, defScope s_Store_go_on, [], []⟩
def d_Store_need_room : He5.DefA := ⟨fun _ => f_Store_need_room, "need_room", "Store.need_room", defArgs s_Store_need_room, defBody s_Store_need_room, defScope s_Store_need_room, [], []⟩
def d_Store_take : He5.DefA := ⟨fun _ => f_Store_take, "take", "Store.take", defArgs s_Store_take, defBody s_Store_take, defScope s_Store_take, [], []⟩
def d_Store_look : He5.DefA := ⟨fun _ => f_Store_look, "look", "Store.look", defArgs s_Store_look, defBody s_Store_look, defScope s_Store_look, [], []⟩
def d_Store_put : He5.DefA := ⟨fun _ => f_Store_put, "put", "Store.put", defArgs s_Store_put, defBody s_Store_put, defScope s_Store_put, [], []⟩
def d_Store_setitem : He5.DefA := ⟨fun _ => f_Store_setitem, "__setitem__", "Store.__setitem__", defArgs s_Store_setitem, defBody s_Store_setitem, defScope s_Store_setitem, [], []⟩
def d_Store_drop : He5.DefA := ⟨fun _ => f_Store_drop, "drop", "Store.drop", defArgs s_Store_drop, defBody s_Store_drop, defScope s_Store_drop, [], []⟩
def d_Store_getitem : He5.DefA := ⟨fun _ => f_Store_getitem, "__getitem__", "Store.__getitem__", defArgs s_Store_getitem, defBody s_Store_getitem, defScope s_Store_getitem, [], []⟩
def d_Store_names : He5.DefA := ⟨fun _ => f_Store_names, "names", "Store.names", defArgs s_Store_names, defBody s_Store_names, defScope s_Store_names, [], []⟩
def d_Store_len : He5.DefA := ⟨fun _ => f_Store_len, "__len__", "Store.__len__", defArgs s_Store_len, defBody s_Store_len, defScope s_Store_len, [], []⟩
def d_Store_contains : He5.DefA := ⟨fun _ => f_Store_contains, "__contains__", "Store.__contains__", defArgs s_Store_contains, defBody s_Store_contains, defScope s_Store_contains, [], []⟩
def d_Store_undo : He5.DefA := ⟨fun _ => f_Store_undo, "undo", "Store.undo", defArgs s_Store_undo, defBody s_Store_undo, defScope s_Store_undo, [], []⟩
def d_Store_history : He5.DefA := ⟨fun _ => f_Store_history, "history", "Store.history", defArgs s_Store_history, defBody s_Store_history, defScope s_Store_history, [], []⟩
def d_Store_eq : He5.DefA := ⟨fun _ => f_Store_eq, "__eq__", "Store.__eq__", defArgs s_Store_eq, defBody s_Store_eq, defScope s_Store_eq, [], []⟩
def fn0 : List He5.DefA := [d_is_integer, d_is_within, d_is_name, d_is_figures, d_word_at, d_divisor_of, d_told_of, d_is_number, d_need_few, d_integer_at, d_is_amount, d_is_point, d_number_at, d_read_points, d_points_of, d_need_name, d_latest, d_law_pen, d_law_draw, d_law_pick, d_law_text, d_law_number, d_law_shown, d_law_after, d_law_series, d_law_do, d_law_deed, d_law_told, d_law_replayed, d_law_plain]
def fn1 : List He5.DefA := [d_law_right, d_law, d_Ratio_init, d_Ratio_read, d_Ratio_of, d_Ratio_ge, d_Ratio_eq, d_Ratio_str, d_Looks_init, d_Series_init, d_Series_read, d_Series_len, d_Series_eq, d_StoreState_init, d_Store_init, d_Store_now, d_Store_now_set, d_Store_advance, d_Store_go_on, d_Store_need_room, d_Store_take, d_Store_look, d_Store_put, d_Store_setitem, d_Store_drop, d_Store_getitem, d_Store_names, d_Store_len, d_Store_contains, d_Store_undo]
def fn2 : List He5.DefA := [d_Store_history, d_Store_eq]
abbrev fn_ : List He5.DefA := fn0 ++ fn1 ++ fn2
/-- what the top has written -/
def Txt (K : Frag) (mg : PySem.Str → Option Value) : Prop := ∃ h : Heap, K.In h ∧ h.Ns mainGlobals mg ∧ SaysX cks_ fn_ K
section
variable {K : Frag} {mg : PySem.Str → Option Value}
theorem Txt.g_is_integer (T : Txt K mg) : mg "is_integer" = some (.ref 28) := by
  obtain ⟨h, X, G, c⟩ := T
  exact glo_ok X G (c.ck 0 rfl)
theorem Txt.g_is_within (T : Txt K mg) : mg "is_within" = some (.ref 35) := by
  obtain ⟨h, X, G, c⟩ := T
  exact glo_ok X G (c.ck 1 rfl)
theorem Txt.g_is_name (T : Txt K mg) : mg "is_name" = some (.ref 40) := by
  obtain ⟨h, X, G, c⟩ := T
  exact glo_ok X G (c.ck 2 rfl)
theorem Txt.g_is_figures (T : Txt K mg) : mg "is_figures" = some (.ref 310) := by
  obtain ⟨h, X, G, c⟩ := T
  exact glo_ok X G (c.ck 3 rfl)
theorem Txt.g_word_at (T : Txt K mg) : mg "word_at" = some (.ref 317) := by
  obtain ⟨h, X, G, c⟩ := T
  exact glo_ok X G (c.ck 4 rfl)
theorem Txt.g_divisor_of (T : Txt K mg) : mg "divisor_of" = some (.ref 324) := by
  obtain ⟨h, X, G, c⟩ := T
  exact glo_ok X G (c.ck 5 rfl)
theorem Txt.g_told_of (T : Txt K mg) : mg "told_of" = some (.ref 545) := by
  obtain ⟨h, X, G, c⟩ := T
  exact glo_ok X G (c.ck 6 rfl)
theorem Txt.g_is_number (T : Txt K mg) : mg "is_number" = some (.ref 573) := by
  obtain ⟨h, X, G, c⟩ := T
  exact glo_ok X G (c.ck 7 rfl)
theorem Txt.g_need_few (T : Txt K mg) : mg "need_few" = some (.ref 580) := by
  obtain ⟨h, X, G, c⟩ := T
  exact glo_ok X G (c.ck 8 rfl)
theorem Txt.g_integer_at (T : Txt K mg) : mg "integer_at" = some (.ref 601) := by
  obtain ⟨h, X, G, c⟩ := T
  exact glo_ok X G (c.ck 9 rfl)
theorem Txt.g_is_amount (T : Txt K mg) : mg "is_amount" = some (.ref 748) := by
  obtain ⟨h, X, G, c⟩ := T
  exact glo_ok X G (c.ck 10 rfl)
theorem Txt.g_is_point (T : Txt K mg) : mg "is_point" = some (.ref 755) := by
  obtain ⟨h, X, G, c⟩ := T
  exact glo_ok X G (c.ck 11 rfl)
theorem Txt.g_number_at (T : Txt K mg) : mg "number_at" = some (.ref 769) := by
  obtain ⟨h, X, G, c⟩ := T
  exact glo_ok X G (c.ck 12 rfl)
theorem Txt.g_read_points (T : Txt K mg) : mg "read_points" = some (.ref 776) := by
  obtain ⟨h, X, G, c⟩ := T
  exact glo_ok X G (c.ck 13 rfl)
theorem Txt.g_points_of (T : Txt K mg) : mg "points_of" = some (.ref 781) := by
  obtain ⟨h, X, G, c⟩ := T
  exact glo_ok X G (c.ck 14 rfl)
theorem Txt.g_need_name (T : Txt K mg) : mg "need_name" = some (.ref 902) := by
  obtain ⟨h, X, G, c⟩ := T
  exact glo_ok X G (c.ck 15 rfl)
theorem Txt.g_latest (T : Txt K mg) : mg "latest" = some (.ref 909) := by
  obtain ⟨h, X, G, c⟩ := T
  exact glo_ok X G (c.ck 16 rfl)
theorem Txt.g__law_pen (T : Txt K mg) : mg "_law_pen" = some (.ref 1113) := by
  obtain ⟨h, X, G, c⟩ := T
  exact glo_ok X G (c.ck 17 rfl)
theorem Txt.g__law_draw (T : Txt K mg) : mg "_law_draw" = some (.ref 1120) := by
  obtain ⟨h, X, G, c⟩ := T
  exact glo_ok X G (c.ck 18 rfl)
theorem Txt.g__law_pick (T : Txt K mg) : mg "_law_pick" = some (.ref 1127) := by
  obtain ⟨h, X, G, c⟩ := T
  exact glo_ok X G (c.ck 19 rfl)
theorem Txt.g__law_text (T : Txt K mg) : mg "_law_text" = some (.ref 1134) := by
  obtain ⟨h, X, G, c⟩ := T
  exact glo_ok X G (c.ck 20 rfl)
theorem Txt.g__law_number (T : Txt K mg) : mg "_law_number" = some (.ref 1141) := by
  obtain ⟨h, X, G, c⟩ := T
  exact glo_ok X G (c.ck 21 rfl)
theorem Txt.g__law_shown (T : Txt K mg) : mg "_law_shown" = some (.ref 1146) := by
  obtain ⟨h, X, G, c⟩ := T
  exact glo_ok X G (c.ck 22 rfl)
theorem Txt.g__law_after (T : Txt K mg) : mg "_law_after" = some (.ref 1151) := by
  obtain ⟨h, X, G, c⟩ := T
  exact glo_ok X G (c.ck 23 rfl)
theorem Txt.g__law_series (T : Txt K mg) : mg "_law_series" = some (.ref 1156) := by
  obtain ⟨h, X, G, c⟩ := T
  exact glo_ok X G (c.ck 24 rfl)
theorem Txt.g__law_do (T : Txt K mg) : mg "_law_do" = some (.ref 1163) := by
  obtain ⟨h, X, G, c⟩ := T
  exact glo_ok X G (c.ck 25 rfl)
theorem Txt.g__law_deed (T : Txt K mg) : mg "_law_deed" = some (.ref 1168) := by
  obtain ⟨h, X, G, c⟩ := T
  exact glo_ok X G (c.ck 26 rfl)
theorem Txt.g__law_told (T : Txt K mg) : mg "_law_told" = some (.ref 1173) := by
  obtain ⟨h, X, G, c⟩ := T
  exact glo_ok X G (c.ck 27 rfl)
theorem Txt.g__law_replayed (T : Txt K mg) : mg "_law_replayed" = some (.ref 1180) := by
  obtain ⟨h, X, G, c⟩ := T
  exact glo_ok X G (c.ck 28 rfl)
theorem Txt.g__law_plain (T : Txt K mg) : mg "_law_plain" = some (.ref 1185) := by
  obtain ⟨h, X, G, c⟩ := T
  exact glo_ok X G (c.ck 29 rfl)
theorem Txt.g__law_right (T : Txt K mg) : mg "_law_right" = some (.ref 1192) := by
  obtain ⟨h, X, G, c⟩ := T
  exact glo_ok X G (c.ck 30 rfl)
theorem Txt.g_law (T : Txt K mg) : mg "law" = some (.ref 1199) := by
  obtain ⟨h, X, G, c⟩ := T
  exact glo_ok X G (c.ck 31 rfl)
theorem Txt.g_Ratio (T : Txt K mg) : mg "Ratio" = some (.ref 534) := by
  obtain ⟨h, X, G, c⟩ := T
  exact glo_ok X G (c.ck 32 rfl)
theorem Txt.g_Looks (T : Txt K mg) : mg "Looks" = some (.ref 737) := by
  obtain ⟨h, X, G, c⟩ := T
  exact glo_ok X G (c.ck 33 rfl)
theorem Txt.g_Series (T : Txt K mg) : mg "Series" = some (.ref 891) := by
  obtain ⟨h, X, G, c⟩ := T
  exact glo_ok X G (c.ck 34 rfl)
theorem Txt.g_StoreState (T : Txt K mg) : mg "StoreState" = some (.ref 926) := by
  obtain ⟨h, X, G, c⟩ := T
  exact glo_ok X G (c.ck 35 rfl)
theorem Txt.g_Store (T : Txt K mg) : mg "Store" = some (.ref 1104) := by
  obtain ⟨h, X, G, c⟩ := T
  exact glo_ok X G (c.ck 36 rfl)
theorem Txt.g_SIGNS (T : Txt K mg) : ∃ t, mg "SIGNS" = some (.str "abcdefghijklmnopqrstuvwxyz" t) := by
  obtain ⟨h, X, G, c⟩ := T
  exact str_ok X G (c.ck 37 rfl)
theorem Txt.g_MOST_FIGURES (T : Txt K mg) : ∃ t, mg "MOST_FIGURES" = some (.int 4000 t) := by
  obtain ⟨h, X, G, c⟩ := T
  exact int_ok X G (c.ck 38 rfl)
theorem Txt.g_MOST_LOOKS (T : Txt K mg) : ∃ t, mg "MOST_LOOKS" = some (.int 5000 t) := by
  obtain ⟨h, X, G, c⟩ := T
  exact int_ok X G (c.ck 39 rfl)
theorem Txt.g_MOST_POINTS (T : Txt K mg) : ∃ t, mg "MOST_POINTS" = some (.int 5000 t) := by
  obtain ⟨h, X, G, c⟩ := T
  exact int_ok X G (c.ck 40 rfl)
theorem Txt.g_MOST_LIMIT (T : Txt K mg) : ∃ t, mg "MOST_LIMIT" = some (.int 5000 t) := by
  obtain ⟨h, X, G, c⟩ := T
  exact int_ok X G (c.ck 41 rfl)
theorem Txt.g_MOST_SERIES (T : Txt K mg) : ∃ t, mg "MOST_SERIES" = some (.int 100 t) := by
  obtain ⟨h, X, G, c⟩ := T
  exact int_ok X G (c.ck 42 rfl)
theorem Txt.n_isinstance (T : Txt K mg) : mg "isinstance" = none := by
  obtain ⟨h, X, G, c⟩ := T
  exact free_ok X G (c.ck 43 rfl)
theorem Txt.n_int (T : Txt K mg) : mg "int" = none := by
  obtain ⟨h, X, G, c⟩ := T
  exact free_ok X G (c.ck 44 rfl)
theorem Txt.n_bool (T : Txt K mg) : mg "bool" = none := by
  obtain ⟨h, X, G, c⟩ := T
  exact free_ok X G (c.ck 45 rfl)
theorem Txt.n_str (T : Txt K mg) : mg "str" = none := by
  obtain ⟨h, X, G, c⟩ := T
  exact free_ok X G (c.ck 46 rfl)
theorem Txt.n_list (T : Txt K mg) : mg "list" = none := by
  obtain ⟨h, X, G, c⟩ := T
  exact free_ok X G (c.ck 47 rfl)
theorem Txt.n_tuple (T : Txt K mg) : mg "tuple" = none := by
  obtain ⟨h, X, G, c⟩ := T
  exact free_ok X G (c.ck 48 rfl)
theorem Txt.n_dict (T : Txt K mg) : mg "dict" = none := by
  obtain ⟨h, X, G, c⟩ := T
  exact free_ok X G (c.ck 49 rfl)
theorem Txt.n_len (T : Txt K mg) : mg "len" = none := by
  obtain ⟨h, X, G, c⟩ := T
  exact free_ok X G (c.ck 50 rfl)
theorem Txt.n_all (T : Txt K mg) : mg "all" = none := by
  obtain ⟨h, X, G, c⟩ := T
  exact free_ok X G (c.ck 51 rfl)
theorem Txt.n_any (T : Txt K mg) : mg "any" = none := by
  obtain ⟨h, X, G, c⟩ := T
  exact free_ok X G (c.ck 52 rfl)
theorem Txt.n_abs (T : Txt K mg) : mg "abs" = none := by
  obtain ⟨h, X, G, c⟩ := T
  exact free_ok X G (c.ck 53 rfl)
theorem Txt.n_range (T : Txt K mg) : mg "range" = none := by
  obtain ⟨h, X, G, c⟩ := T
  exact free_ok X G (c.ck 54 rfl)
theorem Txt.n_enumerate (T : Txt K mg) : mg "enumerate" = none := by
  obtain ⟨h, X, G, c⟩ := T
  exact free_ok X G (c.ck 55 rfl)
theorem Txt.n_zip (T : Txt K mg) : mg "zip" = none := by
  obtain ⟨h, X, G, c⟩ := T
  exact free_ok X G (c.ck 56 rfl)
theorem Txt.n_sorted (T : Txt K mg) : mg "sorted" = none := by
  obtain ⟨h, X, G, c⟩ := T
  exact free_ok X G (c.ck 57 rfl)
theorem Txt.n_repr (T : Txt K mg) : mg "repr" = none := by
  obtain ⟨h, X, G, c⟩ := T
  exact free_ok X G (c.ck 58 rfl)
theorem Txt.n_max (T : Txt K mg) : mg "max" = none := by
  obtain ⟨h, X, G, c⟩ := T
  exact free_ok X G (c.ck 59 rfl)
theorem Txt.n_min (T : Txt K mg) : mg "min" = none := by
  obtain ⟨h, X, G, c⟩ := T
  exact free_ok X G (c.ck 60 rfl)
theorem Txt.n_set (T : Txt K mg) : mg "set" = none := by
  obtain ⟨h, X, G, c⟩ := T
  exact free_ok X G (c.ck 61 rfl)
theorem Txt.cl_Ratio (T : Txt K mg) : Cls K aRatio := by
  obtain ⟨h, X, G, c⟩ := T
  exact cls_ok (c.ck 62 rfl)
theorem Txt.ty_Ratio (T : Txt K mg) : TyI K aRatio := by
  obtain ⟨h, X, G, c⟩ := T
  exact tyi_ok (c.ck 63 rfl)
theorem Txt.no_Ratio_over (T : Txt K mg) : NoAttr K aRatio "over" := by
  obtain ⟨h, X, G, c⟩ := T
  exact no_ok (c.ck 64 rfl)
theorem Txt.no_Ratio_under (T : Txt K mg) : NoAttr K aRatio "under" := by
  obtain ⟨h, X, G, c⟩ := T
  exact no_ok (c.ck 65 rfl)
theorem Txt.cl_Looks (T : Txt K mg) : Cls K aLooks := by
  obtain ⟨h, X, G, c⟩ := T
  exact cls_ok (c.ck 66 rfl)
theorem Txt.ty_Looks (T : Txt K mg) : TyI K aLooks := by
  obtain ⟨h, X, G, c⟩ := T
  exact tyi_ok (c.ck 67 rfl)
theorem Txt.no_Looks_moments (T : Txt K mg) : NoAttr K aLooks "moments" := by
  obtain ⟨h, X, G, c⟩ := T
  exact no_ok (c.ck 68 rfl)
theorem Txt.no_Looks_lengths (T : Txt K mg) : NoAttr K aLooks "lengths" := by
  obtain ⟨h, X, G, c⟩ := T
  exact no_ok (c.ck 69 rfl)
theorem Txt.cl_Series (T : Txt K mg) : Cls K aSeries := by
  obtain ⟨h, X, G, c⟩ := T
  exact cls_ok (c.ck 70 rfl)
theorem Txt.ty_Series (T : Txt K mg) : TyI K aSeries := by
  obtain ⟨h, X, G, c⟩ := T
  exact tyi_ok (c.ck 71 rfl)
theorem Txt.no_Series_points (T : Txt K mg) : NoAttr K aSeries "points" := by
  obtain ⟨h, X, G, c⟩ := T
  exact no_ok (c.ck 72 rfl)
theorem Txt.no_Series_looks (T : Txt K mg) : NoAttr K aSeries "looks" := by
  obtain ⟨h, X, G, c⟩ := T
  exact no_ok (c.ck 73 rfl)
theorem Txt.no_Series_readings (T : Txt K mg) : NoAttr K aSeries "readings" := by
  obtain ⟨h, X, G, c⟩ := T
  exact no_ok (c.ck 74 rfl)
theorem Txt.cl_StoreState (T : Txt K mg) : Cls K aStoreState := by
  obtain ⟨h, X, G, c⟩ := T
  exact cls_ok (c.ck 75 rfl)
theorem Txt.ty_StoreState (T : Txt K mg) : TyI K aStoreState := by
  obtain ⟨h, X, G, c⟩ := T
  exact tyi_ok (c.ck 76 rfl)
theorem Txt.no_StoreState_moment (T : Txt K mg) : NoAttr K aStoreState "moment" := by
  obtain ⟨h, X, G, c⟩ := T
  exact no_ok (c.ck 77 rfl)
theorem Txt.no_StoreState_table (T : Txt K mg) : NoAttr K aStoreState "table" := by
  obtain ⟨h, X, G, c⟩ := T
  exact no_ok (c.ck 78 rfl)
theorem Txt.no_StoreState_deeds (T : Txt K mg) : NoAttr K aStoreState "deeds" := by
  obtain ⟨h, X, G, c⟩ := T
  exact no_ok (c.ck 79 rfl)
theorem Txt.cl_Store (T : Txt K mg) : Cls K aStore := by
  obtain ⟨h, X, G, c⟩ := T
  exact cls_ok (c.ck 80 rfl)
theorem Txt.ty_Store (T : Txt K mg) : TyI K aStore := by
  obtain ⟨h, X, G, c⟩ := T
  exact tyi_ok (c.ck 81 rfl)
theorem Txt.no_Store_limit (T : Txt K mg) : NoAttr K aStore "limit" := by
  obtain ⟨h, X, G, c⟩ := T
  exact no_ok (c.ck 82 rfl)
theorem Txt.no_Store_state (T : Txt K mg) : NoAttr K aStore "state" := by
  obtain ⟨h, X, G, c⟩ := T
  exact no_ok (c.ck 83 rfl)
theorem Txt.no_Store_past (T : Txt K mg) : NoAttr K aStore "past" := by
  obtain ⟨h, X, G, c⟩ := T
  exact no_ok (c.ck 84 rfl)
theorem Txt.mk_Ratio (T : Txt K mg) : Mk K aRatio f_Ratio_init := by
  obtain ⟨h, X, G, c⟩ := T
  exact mk_ok (c.ck 85 rfl)
theorem Txt.rd_Ratio (T : Txt K mg) : ClX.CRead K aRatio (.type "type") := by
  obtain ⟨h, X, G, c⟩ := T
  exact read_ok (c.ck 86 rfl)
theorem Txt.cm_Ratio_read (T : Txt K mg) : ClX.CMet K aRatio (.type "type") "read" p_Ratio_read f_Ratio_read := by
  obtain ⟨h, X, G, c⟩ := T
  exact cmet_ok (c.ck 87 rfl)
theorem Txt.sm_Ratio_of (T : Txt K mg) : findCls K (.ref aRatio) (.type "type") "of" = some (.get (.builtin "staticmethod.__get__") (.ref p_Ratio_of) .none (.ref aRatio)) ∧ (∃ rest, recIn K p_Ratio_of "staticmethod" = some (.ref f_Ratio_of :: rest)) ∧ fnIn K f_Ratio_of = true := by
  obtain ⟨h, X, G, c⟩ := T
  exact wrap_ok (c.ck 88 rfl)
theorem Txt.m_Ratio_ge (T : Txt K mg) : Meth K aRatio "__ge__" f_Ratio_ge := by
  obtain ⟨h, X, G, c⟩ := T
  exact meth_ok (c.ck 89 rfl)
theorem Txt.m_Ratio_eq (T : Txt K mg) : Meth K aRatio "__eq__" f_Ratio_eq := by
  obtain ⟨h, X, G, c⟩ := T
  exact meth_ok (c.ck 90 rfl)
theorem Txt.m_Ratio_str (T : Txt K mg) : Meth K aRatio "__str__" f_Ratio_str := by
  obtain ⟨h, X, G, c⟩ := T
  exact meth_ok (c.ck 91 rfl)
theorem Txt.mk_Looks (T : Txt K mg) : Mk K aLooks f_Looks_init := by
  obtain ⟨h, X, G, c⟩ := T
  exact mk_ok (c.ck 92 rfl)
theorem Txt.mk_Series (T : Txt K mg) : Mk K aSeries f_Series_init := by
  obtain ⟨h, X, G, c⟩ := T
  exact mk_ok (c.ck 93 rfl)
theorem Txt.rd_Series (T : Txt K mg) : ClX.CRead K aSeries (.type "type") := by
  obtain ⟨h, X, G, c⟩ := T
  exact read_ok (c.ck 94 rfl)
theorem Txt.cm_Series_read (T : Txt K mg) : ClX.CMet K aSeries (.type "type") "read" p_Series_read f_Series_read := by
  obtain ⟨h, X, G, c⟩ := T
  exact cmet_ok (c.ck 95 rfl)
theorem Txt.m_Series_len (T : Txt K mg) : Meth K aSeries "__len__" f_Series_len := by
  obtain ⟨h, X, G, c⟩ := T
  exact meth_ok (c.ck 96 rfl)
theorem Txt.m_Series_eq (T : Txt K mg) : Meth K aSeries "__eq__" f_Series_eq := by
  obtain ⟨h, X, G, c⟩ := T
  exact meth_ok (c.ck 97 rfl)
theorem Txt.mk_StoreState (T : Txt K mg) : Mk K aStoreState f_StoreState_init := by
  obtain ⟨h, X, G, c⟩ := T
  exact mk_ok (c.ck 98 rfl)
theorem Txt.mk_Store (T : Txt K mg) : Mk K aStore f_Store_init := by
  obtain ⟨h, X, G, c⟩ := T
  exact mk_ok (c.ck 99 rfl)
theorem Txt.p_Store_now (T : Txt K mg) : PropOf K aStore "now" p_Store_now f_Store_now := by
  obtain ⟨h, X, G, c⟩ := T
  exact prop_ok (c.ck 100 rfl)
theorem Txt.ps_Store_now (T : Txt K mg) : takerIn K aStore "now" = some (some (.ref 962)) ∧ typeIn K (.ref 962) = some (.type "property") ∧ ∃ a rest, recIn K 962 "property" = some (a :: .ref f_Store_now_set :: rest) := by
  obtain ⟨h, X, G, c⟩ := T
  exact pset_ok (c.ck 101 rfl)
theorem Txt.m_Store_advance (T : Txt K mg) : Meth K aStore "advance" f_Store_advance := by
  obtain ⟨h, X, G, c⟩ := T
  exact meth_ok (c.ck 102 rfl)
theorem Txt.m_Store_go_on (T : Txt K mg) : Meth K aStore "go_on" f_Store_go_on := by
  obtain ⟨h, X, G, c⟩ := T
  exact meth_ok (c.ck 103 rfl)
theorem Txt.m_Store_need_room (T : Txt K mg) : Meth K aStore "need_room" f_Store_need_room := by
  obtain ⟨h, X, G, c⟩ := T
  exact meth_ok (c.ck 104 rfl)
theorem Txt.m_Store_take (T : Txt K mg) : Meth K aStore "take" f_Store_take := by
  obtain ⟨h, X, G, c⟩ := T
  exact meth_ok (c.ck 105 rfl)
theorem Txt.m_Store_look (T : Txt K mg) : Meth K aStore "look" f_Store_look := by
  obtain ⟨h, X, G, c⟩ := T
  exact meth_ok (c.ck 106 rfl)
theorem Txt.m_Store_put (T : Txt K mg) : Meth K aStore "put" f_Store_put := by
  obtain ⟨h, X, G, c⟩ := T
  exact meth_ok (c.ck 107 rfl)
theorem Txt.m_Store_setitem (T : Txt K mg) : Meth K aStore "__setitem__" f_Store_setitem := by
  obtain ⟨h, X, G, c⟩ := T
  exact meth_ok (c.ck 108 rfl)
theorem Txt.m_Store_drop (T : Txt K mg) : Meth K aStore "drop" f_Store_drop := by
  obtain ⟨h, X, G, c⟩ := T
  exact meth_ok (c.ck 109 rfl)
theorem Txt.m_Store_getitem (T : Txt K mg) : Meth K aStore "__getitem__" f_Store_getitem := by
  obtain ⟨h, X, G, c⟩ := T
  exact meth_ok (c.ck 110 rfl)
theorem Txt.p_Store_names (T : Txt K mg) : PropOf K aStore "names" p_Store_names f_Store_names := by
  obtain ⟨h, X, G, c⟩ := T
  exact prop_ok (c.ck 111 rfl)
theorem Txt.m_Store_len (T : Txt K mg) : Meth K aStore "__len__" f_Store_len := by
  obtain ⟨h, X, G, c⟩ := T
  exact meth_ok (c.ck 112 rfl)
theorem Txt.m_Store_contains (T : Txt K mg) : Meth K aStore "__contains__" f_Store_contains := by
  obtain ⟨h, X, G, c⟩ := T
  exact meth_ok (c.ck 113 rfl)
theorem Txt.m_Store_undo (T : Txt K mg) : Meth K aStore "undo" f_Store_undo := by
  obtain ⟨h, X, G, c⟩ := T
  exact meth_ok (c.ck 114 rfl)
theorem Txt.m_Store_history (T : Txt K mg) : Meth K aStore "history" f_Store_history := by
  obtain ⟨h, X, G, c⟩ := T
  exact meth_ok (c.ck 115 rfl)
theorem Txt.m_Store_eq (T : Txt K mg) : Meth K aStore "__eq__" f_Store_eq := by
  obtain ⟨h, X, G, c⟩ := T
  exact meth_ok (c.ck 116 rfl)
theorem Txt.i_Store_Store (T : Txt K mg) : kitOne K (.ref aStore) (.ref aStore) = some true := by
  obtain ⟨h, X, G, c⟩ := T
  exact isi_ok (c.ck 117 rfl)
theorem Txt.i_int_Ratio (T : Txt K mg) : kitOne K (.type "int") (.ref aRatio) = some false := by
  obtain ⟨h, X, G, c⟩ := T
  exact isi_ok (c.ck 118 rfl)
theorem Txt.i_str_Ratio (T : Txt K mg) : kitOne K (.type "str") (.ref aRatio) = some false := by
  obtain ⟨h, X, G, c⟩ := T
  exact isi_ok (c.ck 119 rfl)
theorem Txt.i_Ratio_Ratio (T : Txt K mg) : kitOne K (.ref aRatio) (.ref aRatio) = some true := by
  obtain ⟨h, X, G, c⟩ := T
  exact isi_ok (c.ck 120 rfl)
theorem Txt.i_Series_Series (T : Txt K mg) : kitOne K (.ref aSeries) (.ref aSeries) = some true := by
  obtain ⟨h, X, G, c⟩ := T
  exact isi_ok (c.ck 121 rfl)
theorem Txt.i_Ratio_int (T : Txt K mg) : kitOne K (.ref aRatio) (.type "int") = some false := by
  obtain ⟨h, X, G, c⟩ := T
  exact isi_ok (c.ck 122 rfl)
theorem Txt.i_Ratio_bool (T : Txt K mg) : kitOne K (.ref aRatio) (.type "bool") = some false := by
  obtain ⟨h, X, G, c⟩ := T
  exact isi_ok (c.ck 123 rfl)
theorem Txt.i_tuple_Ratio (T : Txt K mg) : kitOne K (.type "tuple") (.ref aRatio) = some false := by
  obtain ⟨h, X, G, c⟩ := T
  exact isi_ok (c.ck 124 rfl)
theorem Txt.nf_Ratio_int (T : Txt K mg) : notFirst K aRatio (.type "int") = true := by
  obtain ⟨h, X, G, c⟩ := T
  exact c.ck 125 rfl
theorem Txt.nf_Ratio_Ratio (T : Txt K mg) : notFirst K aRatio (.ref aRatio) = true := by
  obtain ⟨h, X, G, c⟩ := T
  exact c.ck 126 rfl
theorem Txt.nf_Store_Store (T : Txt K mg) : notFirst K aStore (.ref aStore) = true := by
  obtain ⟨h, X, G, c⟩ := T
  exact c.ck 127 rfl
theorem Txt.ne_Store (T : Txt K mg) : findIn K (.ref aStore) "__ne__" = some (some (.builtin "object.__ne__")) := by
  obtain ⟨h, X, G, c⟩ := T
  exact He.eqO_ok (c.ck 128 rfl)
theorem Txt.nosq_Store (T : Txt K mg) : noSeq K aStore = true := by
  obtain ⟨h, X, G, c⟩ := T
  exact c.ck 129 rfl
theorem Txt.fd_is_integer (T : Txt K mg) : ∃ fd, FunD K "is_integer" "is_integer" (defArgs s_is_integer) (defBody s_is_integer) (defScope s_is_integer) [] [] f_is_integer fd := by
  obtain ⟨h, X, G, c⟩ := T
  exact c.fd 0 (d := d_is_integer) rfl
theorem Txt.fd_is_within (T : Txt K mg) : ∃ fd, FunD K "is_within" "is_within" (defArgs s_is_within) (defBody s_is_within) (defScope s_is_within) [] [] f_is_within fd := by
  obtain ⟨h, X, G, c⟩ := T
  exact c.fd 1 (d := d_is_within) rfl
theorem Txt.fd_is_name (T : Txt K mg) : ∃ fd, FunD K "is_name" "is_name" (defArgs s_is_name) (defBody s_is_name) (defScope s_is_name) [] [] f_is_name fd := by
  obtain ⟨h, X, G, c⟩ := T
  exact c.fd 2 (d := d_is_name) rfl
theorem Txt.fd_is_figures (T : Txt K mg) : ∃ fd, FunD K "is_figures" "is_figures" (defArgs s_is_figures) (defBody s_is_figures) (defScope s_is_figures) [] [] f_is_figures fd := by
  obtain ⟨h, X, G, c⟩ := T
  exact c.fd 3 (d := d_is_figures) rfl
theorem Txt.fd_word_at (T : Txt K mg) : ∃ fd, FunD K "word_at" "word_at" (defArgs s_word_at) (defBody s_word_at) (defScope s_word_at) [] [] f_word_at fd := by
  obtain ⟨h, X, G, c⟩ := T
  exact c.fd 4 (d := d_word_at) rfl
theorem Txt.fd_divisor_of (T : Txt K mg) : ∃ fd, FunD K "divisor_of" "divisor_of" (defArgs s_divisor_of) (defBody s_divisor_of) (defScope s_divisor_of) [] [] f_divisor_of fd := by
  obtain ⟨h, X, G, c⟩ := T
  exact c.fd 5 (d := d_divisor_of) rfl
theorem Txt.fd_told_of (T : Txt K mg) : ∃ fd, FunD K "told_of" "told_of" (defArgs s_told_of) (defBody s_told_of) (defScope s_told_of) [] [] f_told_of fd := by
  obtain ⟨h, X, G, c⟩ := T
  exact c.fd 6 (d := d_told_of) rfl
theorem Txt.fd_is_number (T : Txt K mg) : ∃ fd, FunD K "is_number" "is_number" (defArgs s_is_number) (defBody s_is_number) (defScope s_is_number) [] [] f_is_number fd := by
  obtain ⟨h, X, G, c⟩ := T
  exact c.fd 7 (d := d_is_number) rfl
theorem Txt.fd_need_few (T : Txt K mg) : ∃ fd, FunD K "need_few" "need_few" (defArgs s_need_few) (defBody s_need_few) (defScope s_need_few) [] [] f_need_few fd := by
  obtain ⟨h, X, G, c⟩ := T
  exact c.fd 8 (d := d_need_few) rfl
theorem Txt.fd_integer_at (T : Txt K mg) : ∃ fd, FunD K "integer_at" "integer_at" (defArgs s_integer_at) (defBody s_integer_at) (defScope s_integer_at) [] [] f_integer_at fd := by
  obtain ⟨h, X, G, c⟩ := T
  exact c.fd 9 (d := d_integer_at) rfl
theorem Txt.fd_is_amount (T : Txt K mg) : ∃ fd, FunD K "is_amount" "is_amount" (defArgs s_is_amount) (defBody s_is_amount) (defScope s_is_amount) [] [] f_is_amount fd := by
  obtain ⟨h, X, G, c⟩ := T
  exact c.fd 10 (d := d_is_amount) rfl
theorem Txt.fd_is_point (T : Txt K mg) : ∃ fd, FunD K "is_point" "is_point" (defArgs s_is_point) (defBody s_is_point) (defScope s_is_point) [] [] f_is_point fd := by
  obtain ⟨h, X, G, c⟩ := T
  exact c.fd 11 (d := d_is_point) rfl
theorem Txt.fd_number_at (T : Txt K mg) : ∃ fd, FunD K "number_at" "number_at" (defArgs s_number_at) (defBody s_number_at) (defScope s_number_at) [] [] f_number_at fd := by
  obtain ⟨h, X, G, c⟩ := T
  exact c.fd 12 (d := d_number_at) rfl
theorem Txt.fd_read_points (T : Txt K mg) : ∃ fd, FunD K "read_points" "read_points" (defArgs s_read_points) (defBody s_read_points) (defScope s_read_points) [] [] f_read_points fd := by
  obtain ⟨h, X, G, c⟩ := T
  exact c.fd 13 (d := d_read_points) rfl
theorem Txt.fd_points_of (T : Txt K mg) : ∃ fd, FunD K "points_of" "points_of" (defArgs s_points_of) (defBody s_points_of) (defScope s_points_of) [] [] f_points_of fd := by
  obtain ⟨h, X, G, c⟩ := T
  exact c.fd 14 (d := d_points_of) rfl
theorem Txt.fd_need_name (T : Txt K mg) : ∃ fd, FunD K "need_name" "need_name" (defArgs s_need_name) (defBody s_need_name) (defScope s_need_name) [] [] f_need_name fd := by
  obtain ⟨h, X, G, c⟩ := T
  exact c.fd 15 (d := d_need_name) rfl
theorem Txt.fd_latest (T : Txt K mg) : ∃ fd, FunD K "latest" "latest" (defArgs s_latest) (defBody s_latest) (defScope s_latest) [] [] f_latest fd := by
  obtain ⟨h, X, G, c⟩ := T
  exact c.fd 16 (d := d_latest) rfl
theorem Txt.fd_law_pen (T : Txt K mg) : ∃ fd, FunD K "_law_pen" "_law_pen" (defArgs s_law_pen) (defBody s_law_pen) (defScope s_law_pen) [] [] f_law_pen fd := by
  obtain ⟨h, X, G, c⟩ := T
  exact c.fd 17 (d := d_law_pen) rfl
theorem Txt.fd_law_draw (T : Txt K mg) : ∃ fd, FunD K "_law_draw" "_law_draw" (defArgs s_law_draw) (defBody s_law_draw) (defScope s_law_draw) [] [] f_law_draw fd := by
  obtain ⟨h, X, G, c⟩ := T
  exact c.fd 18 (d := d_law_draw) rfl
theorem Txt.fd_law_pick (T : Txt K mg) : ∃ fd, FunD K "_law_pick" "_law_pick" (defArgs s_law_pick) (defBody s_law_pick) (defScope s_law_pick) [] [] f_law_pick fd := by
  obtain ⟨h, X, G, c⟩ := T
  exact c.fd 19 (d := d_law_pick) rfl
theorem Txt.fd_law_text (T : Txt K mg) : ∃ fd, FunD K "_law_text" "_law_text" (defArgs s_law_text) (defBody s_law_text) (defScope s_law_text) [] [] f_law_text fd := by
  obtain ⟨h, X, G, c⟩ := T
  exact c.fd 20 (d := d_law_text) rfl
theorem Txt.fd_law_number (T : Txt K mg) : ∃ fd, FunD K "_law_number" "_law_number" (defArgs s_law_number) (defBody s_law_number) (defScope s_law_number) [] [] f_law_number fd := by
  obtain ⟨h, X, G, c⟩ := T
  exact c.fd 21 (d := d_law_number) rfl
theorem Txt.fd_law_shown (T : Txt K mg) : ∃ fd, FunD K "_law_shown" "_law_shown" (defArgs s_law_shown) (defBody s_law_shown) (defScope s_law_shown) [] [] f_law_shown fd := by
  obtain ⟨h, X, G, c⟩ := T
  exact c.fd 22 (d := d_law_shown) rfl
theorem Txt.fd_law_after (T : Txt K mg) : ∃ fd, FunD K "_law_after" "_law_after" (defArgs s_law_after) (defBody s_law_after) (defScope s_law_after) [] [] f_law_after fd := by
  obtain ⟨h, X, G, c⟩ := T
  exact c.fd 23 (d := d_law_after) rfl
theorem Txt.fd_law_series (T : Txt K mg) : ∃ fd, FunD K "_law_series" "_law_series" (defArgs s_law_series) (defBody s_law_series) (defScope s_law_series) [] [] f_law_series fd := by
  obtain ⟨h, X, G, c⟩ := T
  exact c.fd 24 (d := d_law_series) rfl
theorem Txt.fd_law_do (T : Txt K mg) : ∃ fd, FunD K "_law_do" "_law_do" (defArgs s_law_do) (defBody s_law_do) (defScope s_law_do) [] [] f_law_do fd := by
  obtain ⟨h, X, G, c⟩ := T
  exact c.fd 25 (d := d_law_do) rfl
theorem Txt.fd_law_deed (T : Txt K mg) : ∃ fd, FunD K "_law_deed" "_law_deed" (defArgs s_law_deed) (defBody s_law_deed) (defScope s_law_deed) [] [] f_law_deed fd := by
  obtain ⟨h, X, G, c⟩ := T
  exact c.fd 26 (d := d_law_deed) rfl
theorem Txt.fd_law_told (T : Txt K mg) : ∃ fd, FunD K "_law_told" "_law_told" (defArgs s_law_told) (defBody s_law_told) (defScope s_law_told) [] [] f_law_told fd := by
  obtain ⟨h, X, G, c⟩ := T
  exact c.fd 27 (d := d_law_told) rfl
theorem Txt.fd_law_replayed (T : Txt K mg) : ∃ fd, FunD K "_law_replayed" "_law_replayed" (defArgs s_law_replayed) (defBody s_law_replayed) (defScope s_law_replayed) [] [] f_law_replayed fd := by
  obtain ⟨h, X, G, c⟩ := T
  exact c.fd 28 (d := d_law_replayed) rfl
theorem Txt.fd_law_plain (T : Txt K mg) : ∃ fd, FunD K "_law_plain" "_law_plain" (defArgs s_law_plain) (defBody s_law_plain) (defScope s_law_plain) [] [] f_law_plain fd := by
  obtain ⟨h, X, G, c⟩ := T
  exact c.fd 29 (d := d_law_plain) rfl
theorem Txt.fd_law_right (T : Txt K mg) : ∃ fd, FunD K "_law_right" "_law_right" (defArgs s_law_right) (defBody s_law_right) (defScope s_law_right) [] [] f_law_right fd := by
  obtain ⟨h, X, G, c⟩ := T
  exact c.fd 30 (d := d_law_right) rfl
theorem Txt.fd_law (T : Txt K mg) : ∃ fd, FunD K "law" "law" (defArgs s_law) (defBody s_law) (defScope s_law) [] [] f_law fd := by
  obtain ⟨h, X, G, c⟩ := T
  exact c.fd 31 (d := d_law) rfl
theorem Txt.fd_Ratio_init (T : Txt K mg) : ∃ fd, FunD K "__init__" "Ratio.__init__" (defArgs s_Ratio_init) (defBody s_Ratio_init) (defScope s_Ratio_init) [.int 1] [] f_Ratio_init fd := by
  obtain ⟨h, X, G, c⟩ := T
  exact c.fd 32 (d := d_Ratio_init) rfl
theorem Txt.fd_Ratio_read (T : Txt K mg) : ∃ fd, FunD K "read" "Ratio.read" (defArgs s_Ratio_read) (defBody s_Ratio_read) (defScope s_Ratio_read) [] [] f_Ratio_read fd := by
  obtain ⟨h, X, G, c⟩ := T
  exact c.fd 33 (d := d_Ratio_read) rfl
theorem Txt.fd_Ratio_of (T : Txt K mg) : ∃ fd, FunD K "of" "Ratio.of" (defArgs s_Ratio_of) (defBody s_Ratio_of) (defScope s_Ratio_of) [] [] f_Ratio_of fd := by
  obtain ⟨h, X, G, c⟩ := T
  exact c.fd 34 (d := d_Ratio_of) rfl
theorem Txt.fd_Ratio_ge (T : Txt K mg) : ∃ fd, FunD K "__ge__" "Ratio.__ge__" (defArgs s_Ratio_ge) (defBody s_Ratio_ge) (defScope s_Ratio_ge) [] [] f_Ratio_ge fd := by
  obtain ⟨h, X, G, c⟩ := T
  exact c.fd 35 (d := d_Ratio_ge) rfl
theorem Txt.fd_Ratio_eq (T : Txt K mg) : ∃ fd, FunD K "__eq__" "Ratio.__eq__" (defArgs s_Ratio_eq) (defBody s_Ratio_eq) (defScope s_Ratio_eq) [] [] f_Ratio_eq fd := by
  obtain ⟨h, X, G, c⟩ := T
  exact c.fd 36 (d := d_Ratio_eq) rfl
theorem Txt.fd_Ratio_str (T : Txt K mg) : ∃ fd, FunD K "__str__" "Ratio.__str__" (defArgs s_Ratio_str) (defBody s_Ratio_str) (defScope s_Ratio_str) [] [] f_Ratio_str fd := by
  obtain ⟨h, X, G, c⟩ := T
  exact c.fd 37 (d := d_Ratio_str) rfl
theorem Txt.fd_Looks_init (T : Txt K mg) : ∃ fd, FunD K "__init__" "Looks.__init__" (defArgs s_Looks_init) (defBody s_Looks_init) (defScope s_Looks_init) [] [] f_Looks_init fd := by
  obtain ⟨h, X, G, c⟩ := T
  exact c.fd 38 (d := d_Looks_init) rfl
theorem Txt.fd_Series_init (T : Txt K mg) : ∃ fd, FunD K "__init__" "Series.__init__" (defArgs s_Series_init) (defBody s_Series_init) (defScope s_Series_init) [] [] f_Series_init fd := by
  obtain ⟨h, X, G, c⟩ := T
  exact c.fd 39 (d := d_Series_init) rfl
theorem Txt.fd_Series_read (T : Txt K mg) : ∃ fd, FunD K "read" "Series.read" (defArgs s_Series_read) (defBody s_Series_read) (defScope s_Series_read) [] [] f_Series_read fd := by
  obtain ⟨h, X, G, c⟩ := T
  exact c.fd 40 (d := d_Series_read) rfl
theorem Txt.fd_Series_len (T : Txt K mg) : ∃ fd, FunD K "__len__" "Series.__len__" (defArgs s_Series_len) (defBody s_Series_len) (defScope s_Series_len) [] [] f_Series_len fd := by
  obtain ⟨h, X, G, c⟩ := T
  exact c.fd 41 (d := d_Series_len) rfl
theorem Txt.fd_Series_eq (T : Txt K mg) : ∃ fd, FunD K "__eq__" "Series.__eq__" (defArgs s_Series_eq) (defBody s_Series_eq) (defScope s_Series_eq) [] [] f_Series_eq fd := by
  obtain ⟨h, X, G, c⟩ := T
  exact c.fd 42 (d := d_Series_eq) rfl
theorem Txt.fd_StoreState_init (T : Txt K mg) : ∃ fd, FunD K "__init__" "StoreState.__init__" (defArgs s_StoreState_init) (defBody s_StoreState_init) (defScope s_StoreState_init) [] [] f_StoreState_init fd := by
  obtain ⟨h, X, G, c⟩ := T
  exact c.fd 43 (d := d_StoreState_init) rfl
theorem Txt.fd_Store_init (T : Txt K mg) : ∃ fd, FunD K "__init__" "Store.__init__" (defArgs s_Store_init) (defBody s_Store_init) (defScope s_Store_init) [.int 1000] [] f_Store_init fd := by
  obtain ⟨h, X, G, c⟩ := T
  exact c.fd 44 (d := d_Store_init) rfl
theorem Txt.fd_Store_now (T : Txt K mg) : ∃ fd, FunD K "now" "Store.now" (defArgs s_Store_now) (defBody s_Store_now) (defScope s_Store_now) [] [] f_Store_now fd := by
  obtain ⟨h, X, G, c⟩ := T
  exact c.fd 45 (d := d_Store_now) rfl
theorem Txt.fd_Store_now_set (T : Txt K mg) : ∃ fd, FunD K "now" "Store.now" (defArgs s_Store_now_set) (defBody s_Store_now_set) (defScope s_Store_now_set) [] [] f_Store_now_set fd := by
  obtain ⟨h, X, G, c⟩ := T
  exact c.fd 46 (d := d_Store_now_set) rfl
theorem Txt.fd_Store_advance (T : Txt K mg) : ∃ fd, FunD K "advance" "Store.advance" (defArgs s_Store_advance) (defBody s_Store_advance) (defScope s_Store_advance) [] [] f_Store_advance fd := by
  obtain ⟨h, X, G, c⟩ := T
  exact c.fd 47 (d := d_Store_advance) rfl
theorem Txt.fd_Store_go_on (T : Txt K mg) : ∃ fd, FunD K "go_on" "Store.go_on" (defArgs s_Store_go_on) (defBody s_Store_go_on) (defScope s_Store_go_on) [] [] f_Store_go_on fd := by
  obtain ⟨h, X, G, c⟩ := T
  exact c.fd 48 (d := d_Store_go_on) rfl
theorem Txt.fd_Store_need_room (T : Txt K mg) : ∃ fd, FunD K "need_room" "Store.need_room" (defArgs s_Store_need_room) (defBody s_Store_need_room) (defScope s_Store_need_room) [] [] f_Store_need_room fd := by
  obtain ⟨h, X, G, c⟩ := T
  exact c.fd 49 (d := d_Store_need_room) rfl
theorem Txt.fd_Store_take (T : Txt K mg) : ∃ fd, FunD K "take" "Store.take" (defArgs s_Store_take) (defBody s_Store_take) (defScope s_Store_take) [] [] f_Store_take fd := by
  obtain ⟨h, X, G, c⟩ := T
  exact c.fd 50 (d := d_Store_take) rfl
theorem Txt.fd_Store_look (T : Txt K mg) : ∃ fd, FunD K "look" "Store.look" (defArgs s_Store_look) (defBody s_Store_look) (defScope s_Store_look) [] [] f_Store_look fd := by
  obtain ⟨h, X, G, c⟩ := T
  exact c.fd 51 (d := d_Store_look) rfl
theorem Txt.fd_Store_put (T : Txt K mg) : ∃ fd, FunD K "put" "Store.put" (defArgs s_Store_put) (defBody s_Store_put) (defScope s_Store_put) [] [] f_Store_put fd := by
  obtain ⟨h, X, G, c⟩ := T
  exact c.fd 52 (d := d_Store_put) rfl
theorem Txt.fd_Store_setitem (T : Txt K mg) : ∃ fd, FunD K "__setitem__" "Store.__setitem__" (defArgs s_Store_setitem) (defBody s_Store_setitem) (defScope s_Store_setitem) [] [] f_Store_setitem fd := by
  obtain ⟨h, X, G, c⟩ := T
  exact c.fd 53 (d := d_Store_setitem) rfl
theorem Txt.fd_Store_drop (T : Txt K mg) : ∃ fd, FunD K "drop" "Store.drop" (defArgs s_Store_drop) (defBody s_Store_drop) (defScope s_Store_drop) [] [] f_Store_drop fd := by
  obtain ⟨h, X, G, c⟩ := T
  exact c.fd 54 (d := d_Store_drop) rfl
theorem Txt.fd_Store_getitem (T : Txt K mg) : ∃ fd, FunD K "__getitem__" "Store.__getitem__" (defArgs s_Store_getitem) (defBody s_Store_getitem) (defScope s_Store_getitem) [] [] f_Store_getitem fd := by
  obtain ⟨h, X, G, c⟩ := T
  exact c.fd 55 (d := d_Store_getitem) rfl
theorem Txt.fd_Store_names (T : Txt K mg) : ∃ fd, FunD K "names" "Store.names" (defArgs s_Store_names) (defBody s_Store_names) (defScope s_Store_names) [] [] f_Store_names fd := by
  obtain ⟨h, X, G, c⟩ := T
  exact c.fd 56 (d := d_Store_names) rfl
theorem Txt.fd_Store_len (T : Txt K mg) : ∃ fd, FunD K "__len__" "Store.__len__" (defArgs s_Store_len) (defBody s_Store_len) (defScope s_Store_len) [] [] f_Store_len fd := by
  obtain ⟨h, X, G, c⟩ := T
  exact c.fd 57 (d := d_Store_len) rfl
theorem Txt.fd_Store_contains (T : Txt K mg) : ∃ fd, FunD K "__contains__" "Store.__contains__" (defArgs s_Store_contains) (defBody s_Store_contains) (defScope s_Store_contains) [] [] f_Store_contains fd := by
  obtain ⟨h, X, G, c⟩ := T
  exact c.fd 58 (d := d_Store_contains) rfl
theorem Txt.fd_Store_undo (T : Txt K mg) : ∃ fd, FunD K "undo" "Store.undo" (defArgs s_Store_undo) (defBody s_Store_undo) (defScope s_Store_undo) [] [] f_Store_undo fd := by
  obtain ⟨h, X, G, c⟩ := T
  exact c.fd 59 (d := d_Store_undo) rfl
theorem Txt.fd_Store_history (T : Txt K mg) : ∃ fd, FunD K "history" "Store.history" (defArgs s_Store_history) (defBody s_Store_history) (defScope s_Store_history) [] [] f_Store_history fd := by
  obtain ⟨h, X, G, c⟩ := T
  exact c.fd 60 (d := d_Store_history) rfl
theorem Txt.fd_Store_eq (T : Txt K mg) : ∃ fd, FunD K "__eq__" "Store.__eq__" (defArgs s_Store_eq) (defBody s_Store_eq) (defScope s_Store_eq) [] [] f_Store_eq fd := by
  obtain ⟨h, X, G, c⟩ := T
  exact c.fd 61 (d := d_Store_eq) rfl
theorem Txt.k_is_integer (T : Txt K mg) : keepIn K (.ref f_is_integer) = true := by
  obtain ⟨fd, F⟩ := T.fd_is_integer
  exact F.kp
theorem Txt.k_is_within (T : Txt K mg) : keepIn K (.ref f_is_within) = true := by
  obtain ⟨fd, F⟩ := T.fd_is_within
  exact F.kp
theorem Txt.k_is_name (T : Txt K mg) : keepIn K (.ref f_is_name) = true := by
  obtain ⟨fd, F⟩ := T.fd_is_name
  exact F.kp
theorem Txt.k_is_figures (T : Txt K mg) : keepIn K (.ref f_is_figures) = true := by
  obtain ⟨fd, F⟩ := T.fd_is_figures
  exact F.kp
theorem Txt.k_word_at (T : Txt K mg) : keepIn K (.ref f_word_at) = true := by
  obtain ⟨fd, F⟩ := T.fd_word_at
  exact F.kp
theorem Txt.k_divisor_of (T : Txt K mg) : keepIn K (.ref f_divisor_of) = true := by
  obtain ⟨fd, F⟩ := T.fd_divisor_of
  exact F.kp
theorem Txt.k_told_of (T : Txt K mg) : keepIn K (.ref f_told_of) = true := by
  obtain ⟨fd, F⟩ := T.fd_told_of
  exact F.kp
theorem Txt.k_is_number (T : Txt K mg) : keepIn K (.ref f_is_number) = true := by
  obtain ⟨fd, F⟩ := T.fd_is_number
  exact F.kp
theorem Txt.k_need_few (T : Txt K mg) : keepIn K (.ref f_need_few) = true := by
  obtain ⟨fd, F⟩ := T.fd_need_few
  exact F.kp
theorem Txt.k_integer_at (T : Txt K mg) : keepIn K (.ref f_integer_at) = true := by
  obtain ⟨fd, F⟩ := T.fd_integer_at
  exact F.kp
theorem Txt.k_is_amount (T : Txt K mg) : keepIn K (.ref f_is_amount) = true := by
  obtain ⟨fd, F⟩ := T.fd_is_amount
  exact F.kp
theorem Txt.k_is_point (T : Txt K mg) : keepIn K (.ref f_is_point) = true := by
  obtain ⟨fd, F⟩ := T.fd_is_point
  exact F.kp
theorem Txt.k_number_at (T : Txt K mg) : keepIn K (.ref f_number_at) = true := by
  obtain ⟨fd, F⟩ := T.fd_number_at
  exact F.kp
theorem Txt.k_read_points (T : Txt K mg) : keepIn K (.ref f_read_points) = true := by
  obtain ⟨fd, F⟩ := T.fd_read_points
  exact F.kp
theorem Txt.k_points_of (T : Txt K mg) : keepIn K (.ref f_points_of) = true := by
  obtain ⟨fd, F⟩ := T.fd_points_of
  exact F.kp
theorem Txt.k_need_name (T : Txt K mg) : keepIn K (.ref f_need_name) = true := by
  obtain ⟨fd, F⟩ := T.fd_need_name
  exact F.kp
theorem Txt.k_latest (T : Txt K mg) : keepIn K (.ref f_latest) = true := by
  obtain ⟨fd, F⟩ := T.fd_latest
  exact F.kp
theorem Txt.k_law_pen (T : Txt K mg) : keepIn K (.ref f_law_pen) = true := by
  obtain ⟨fd, F⟩ := T.fd_law_pen
  exact F.kp
theorem Txt.k_law_draw (T : Txt K mg) : keepIn K (.ref f_law_draw) = true := by
  obtain ⟨fd, F⟩ := T.fd_law_draw
  exact F.kp
theorem Txt.k_law_pick (T : Txt K mg) : keepIn K (.ref f_law_pick) = true := by
  obtain ⟨fd, F⟩ := T.fd_law_pick
  exact F.kp
theorem Txt.k_law_text (T : Txt K mg) : keepIn K (.ref f_law_text) = true := by
  obtain ⟨fd, F⟩ := T.fd_law_text
  exact F.kp
theorem Txt.k_law_number (T : Txt K mg) : keepIn K (.ref f_law_number) = true := by
  obtain ⟨fd, F⟩ := T.fd_law_number
  exact F.kp
theorem Txt.k_law_shown (T : Txt K mg) : keepIn K (.ref f_law_shown) = true := by
  obtain ⟨fd, F⟩ := T.fd_law_shown
  exact F.kp
theorem Txt.k_law_after (T : Txt K mg) : keepIn K (.ref f_law_after) = true := by
  obtain ⟨fd, F⟩ := T.fd_law_after
  exact F.kp
theorem Txt.k_law_series (T : Txt K mg) : keepIn K (.ref f_law_series) = true := by
  obtain ⟨fd, F⟩ := T.fd_law_series
  exact F.kp
theorem Txt.k_law_do (T : Txt K mg) : keepIn K (.ref f_law_do) = true := by
  obtain ⟨fd, F⟩ := T.fd_law_do
  exact F.kp
theorem Txt.k_law_deed (T : Txt K mg) : keepIn K (.ref f_law_deed) = true := by
  obtain ⟨fd, F⟩ := T.fd_law_deed
  exact F.kp
theorem Txt.k_law_told (T : Txt K mg) : keepIn K (.ref f_law_told) = true := by
  obtain ⟨fd, F⟩ := T.fd_law_told
  exact F.kp
theorem Txt.k_law_replayed (T : Txt K mg) : keepIn K (.ref f_law_replayed) = true := by
  obtain ⟨fd, F⟩ := T.fd_law_replayed
  exact F.kp
theorem Txt.k_law_plain (T : Txt K mg) : keepIn K (.ref f_law_plain) = true := by
  obtain ⟨fd, F⟩ := T.fd_law_plain
  exact F.kp
theorem Txt.k_law_right (T : Txt K mg) : keepIn K (.ref f_law_right) = true := by
  obtain ⟨fd, F⟩ := T.fd_law_right
  exact F.kp
theorem Txt.k_law (T : Txt K mg) : keepIn K (.ref f_law) = true := by
  obtain ⟨fd, F⟩ := T.fd_law
  exact F.kp
theorem Txt.k_Ratio_init (T : Txt K mg) : keepIn K (.ref f_Ratio_init) = true := by
  obtain ⟨fd, F⟩ := T.fd_Ratio_init
  exact F.kp
theorem Txt.k_Ratio_read (T : Txt K mg) : keepIn K (.ref f_Ratio_read) = true := by
  obtain ⟨fd, F⟩ := T.fd_Ratio_read
  exact F.kp
theorem Txt.k_Ratio_of (T : Txt K mg) : keepIn K (.ref f_Ratio_of) = true := by
  obtain ⟨fd, F⟩ := T.fd_Ratio_of
  exact F.kp
theorem Txt.k_Ratio_ge (T : Txt K mg) : keepIn K (.ref f_Ratio_ge) = true := by
  obtain ⟨fd, F⟩ := T.fd_Ratio_ge
  exact F.kp
theorem Txt.k_Ratio_eq (T : Txt K mg) : keepIn K (.ref f_Ratio_eq) = true := by
  obtain ⟨fd, F⟩ := T.fd_Ratio_eq
  exact F.kp
theorem Txt.k_Ratio_str (T : Txt K mg) : keepIn K (.ref f_Ratio_str) = true := by
  obtain ⟨fd, F⟩ := T.fd_Ratio_str
  exact F.kp
theorem Txt.k_Looks_init (T : Txt K mg) : keepIn K (.ref f_Looks_init) = true := by
  obtain ⟨fd, F⟩ := T.fd_Looks_init
  exact F.kp
theorem Txt.k_Series_init (T : Txt K mg) : keepIn K (.ref f_Series_init) = true := by
  obtain ⟨fd, F⟩ := T.fd_Series_init
  exact F.kp
theorem Txt.k_Series_read (T : Txt K mg) : keepIn K (.ref f_Series_read) = true := by
  obtain ⟨fd, F⟩ := T.fd_Series_read
  exact F.kp
theorem Txt.k_Series_len (T : Txt K mg) : keepIn K (.ref f_Series_len) = true := by
  obtain ⟨fd, F⟩ := T.fd_Series_len
  exact F.kp
theorem Txt.k_Series_eq (T : Txt K mg) : keepIn K (.ref f_Series_eq) = true := by
  obtain ⟨fd, F⟩ := T.fd_Series_eq
  exact F.kp
theorem Txt.k_StoreState_init (T : Txt K mg) : keepIn K (.ref f_StoreState_init) = true := by
  obtain ⟨fd, F⟩ := T.fd_StoreState_init
  exact F.kp
theorem Txt.k_Store_init (T : Txt K mg) : keepIn K (.ref f_Store_init) = true := by
  obtain ⟨fd, F⟩ := T.fd_Store_init
  exact F.kp
theorem Txt.k_Store_now (T : Txt K mg) : keepIn K (.ref f_Store_now) = true := by
  obtain ⟨fd, F⟩ := T.fd_Store_now
  exact F.kp
theorem Txt.k_Store_now_set (T : Txt K mg) : keepIn K (.ref f_Store_now_set) = true := by
  obtain ⟨fd, F⟩ := T.fd_Store_now_set
  exact F.kp
theorem Txt.k_Store_advance (T : Txt K mg) : keepIn K (.ref f_Store_advance) = true := by
  obtain ⟨fd, F⟩ := T.fd_Store_advance
  exact F.kp
theorem Txt.k_Store_go_on (T : Txt K mg) : keepIn K (.ref f_Store_go_on) = true := by
  obtain ⟨fd, F⟩ := T.fd_Store_go_on
  exact F.kp
theorem Txt.k_Store_need_room (T : Txt K mg) : keepIn K (.ref f_Store_need_room) = true := by
  obtain ⟨fd, F⟩ := T.fd_Store_need_room
  exact F.kp
theorem Txt.k_Store_take (T : Txt K mg) : keepIn K (.ref f_Store_take) = true := by
  obtain ⟨fd, F⟩ := T.fd_Store_take
  exact F.kp
theorem Txt.k_Store_look (T : Txt K mg) : keepIn K (.ref f_Store_look) = true := by
  obtain ⟨fd, F⟩ := T.fd_Store_look
  exact F.kp
theorem Txt.k_Store_put (T : Txt K mg) : keepIn K (.ref f_Store_put) = true := by
  obtain ⟨fd, F⟩ := T.fd_Store_put
  exact F.kp
theorem Txt.k_Store_setitem (T : Txt K mg) : keepIn K (.ref f_Store_setitem) = true := by
  obtain ⟨fd, F⟩ := T.fd_Store_setitem
  exact F.kp
theorem Txt.k_Store_drop (T : Txt K mg) : keepIn K (.ref f_Store_drop) = true := by
  obtain ⟨fd, F⟩ := T.fd_Store_drop
  exact F.kp
theorem Txt.k_Store_getitem (T : Txt K mg) : keepIn K (.ref f_Store_getitem) = true := by
  obtain ⟨fd, F⟩ := T.fd_Store_getitem
  exact F.kp
theorem Txt.k_Store_names (T : Txt K mg) : keepIn K (.ref f_Store_names) = true := by
  obtain ⟨fd, F⟩ := T.fd_Store_names
  exact F.kp
theorem Txt.k_Store_len (T : Txt K mg) : keepIn K (.ref f_Store_len) = true := by
  obtain ⟨fd, F⟩ := T.fd_Store_len
  exact F.kp
theorem Txt.k_Store_contains (T : Txt K mg) : keepIn K (.ref f_Store_contains) = true := by
  obtain ⟨fd, F⟩ := T.fd_Store_contains
  exact F.kp
theorem Txt.k_Store_undo (T : Txt K mg) : keepIn K (.ref f_Store_undo) = true := by
  obtain ⟨fd, F⟩ := T.fd_Store_undo
  exact F.kp
theorem Txt.k_Store_history (T : Txt K mg) : keepIn K (.ref f_Store_history) = true := by
  obtain ⟨fd, F⟩ := T.fd_Store_history
  exact F.kp
theorem Txt.k_Store_eq (T : Txt K mg) : keepIn K (.ref f_Store_eq) = true := by
  obtain ⟨fd, F⟩ := T.fd_Store_eq
  exact F.kp
end
end G
set_option Elab.async false
set_option linter.all false
set_option maxRecDepth 100000
set_option maxHeartbeats 4000000
namespace G
open PySem PySem.Spec PyProof.Rows L2
variable {P : Program} {w : World} {K : PySem.W.Frag} {mg : Str → Option Value} {base : Heap}
/-- a Ratio stands at a -/
def IsQ (H : Hp) (a : Addr) (n d : Int) : Prop := ∃ dx, H a = some (.ins aRatio dx [("over", .int n), ("under", .int d)])
theorem IsQ.same {H H' : Hp} {a : Addr} {n d : Int} (h : IsQ H a n d) (s : Same H H') : IsQ H' a n d := by
  obtain ⟨dx, h⟩ := h
  exact ⟨dx, s _ _ h⟩
/-- a whole number or a Ratio -/
def IsNum (H : Hp) (v : V) (n d : Int) : Prop := (v = .int n ∧ d = 1) ∨ ∃ a, v = .ref a ∧ IsQ H a n d
theorem tyIns {H : Hp} {a C dx : Addr} {fs : List (Str × V)} (h : H a = some (.ins C dx fs)) (T : TyI K C) (c : Cls K C) : TyX K H (.ref a) (.ref C) := .base (.ins h c T.ha T.hn T.htk T.hm)
theorem kt (a b : String) (r : Bool) (h : kitB a b = some r := by decide +kernel) : PySem.W.kitOne K (.type a) (.type b) = some r := kit_ty h
def sp_is_integer : Sp := fun vs H Q _ => (∃ i, vs = [.int i] ∧ Q (.bl true) H) ∨ (∃ a dx fs, vs = [.ref a] ∧ H a = some (.ins aRatio dx fs) ∧ Q (.bl false) H)
theorem sc_is_integer : FnScope N_is_integer P_is_integer (defScope s_is_integer) := ⟨rfl, rfl, rfl, by decide +kernel, rfl, by decide +kernel, by decide +kernel⟩
theorem is_integer_ok (T : Txt K mg) : FnR P w K mg base CX0 1 f_is_integer sp_is_integer := by
  refine fr_mk (ps := P_is_integer) (N := N_is_integer) T.fd_is_integer sc_is_integer (fun _ _ _ _ _ _ us h => match us, h with | [_], _ => rfl) ?_ ?_
  · intro vs H Q E h
    rcases h with ⟨i, rfl, _⟩ | ⟨a, dx, fs, rfl, _⟩ <;> rfl
  · intro cdv A outer s H vs Q E hr hsp
    have nd := sc_is_integer.nd
    refine ⟨_, (pss_one (ps_ret (pe_and (pe_callB call_isi (by rfl) T.n_isinstance (by decide +kernel) (pa_cons (pv 0) (pa_cons (pe_bltn (by rfl) T.n_int (by decide +kernel) (v := .ty "int") rfl) pa_nil))) (pe_one (pe_not (pe_callB call_isi (by rfl) T.n_isinstance (by decide +kernel) (pa_cons (pv 0) (pa_cons (pe_bltn (by rfl) T.n_bool (by decide +kernel) (v := .ty "bool") rfl) pa_nil)))))))), ?_⟩
    rcases hsp with ⟨i, rfl, q⟩ | ⟨a, dx, fs, rfl, h, q⟩
    · refine ⟨_, rfl, _, _, _, _, _, rfl, .ty _, .base (.int _), kt "int" "int" true, _, rfl, iteT ?_⟩
      exact ⟨_, rfl, _, _, _, _, _, rfl, .ty _, .base (.int _), kt "int" "bool" false, _, rfl, q⟩
    · exact ⟨_, rfl, _, _, _, _, _, rfl, .ty _, tyIns h T.ty_Ratio T.cl_Ratio, T.i_Ratio_int, _, rfl, iteF q⟩
def sp_is_within : Sp := fun vs H Q _ => ∃ v a b, vs = [.int v, .int a, .int b] ∧ Q (.bl (decide (a ≤ v) && decide (v ≤ b))) H
theorem sc_is_within : FnScope N_is_within P_is_within (defScope s_is_within) := ⟨rfl, rfl, rfl, by decide +kernel, rfl, by decide +kernel, by decide +kernel⟩
theorem is_within_ok (T : Txt K mg) : FnR P w K mg base CX0 2 f_is_within sp_is_within := by
  refine fr_mk (ps := P_is_within) (N := N_is_within) T.fd_is_within sc_is_within (fun _ _ _ _ _ _ us h => match us, h with | [_, _, _], _ => rfl) ?_ ?_
  · rintro vs H Q E ⟨v, a, b, rfl, _⟩
    rfl
  · rintro cdv A outer s H vs Q E hr ⟨v, a, b, rfl, q⟩
    have nd := sc_is_within.nd
    refine ⟨_, (pss_one (ps_ret (pe_and (pe_callR (is_integer_ok T) (hr.mono (by decide)) rfl T.g_is_integer T.k_is_integer pass0 (pa_cons (pv 0) pa_nil)) (pe_one (pe_chain op_le op_le (pv 1) (pv 0) (pv 2)))))), ?_⟩
    refine ⟨_, rfl, .inl ⟨v, rfl, _, rfl, iteT ?_⟩⟩
    refine ⟨_, rfl, _, rfl, _, _, rfl, rfl, _, rfl, ?_⟩
    refine ite2 (fun h1 => ?_) (fun h1 => ?_)
    · rw [h1] at q
      exact ⟨_, rfl, _, _, rfl, rfl, q⟩
    · rw [Bool.not_eq_true] at h1
      rw [h1] at q
      exact q

/-! ### divisor_of -/
def sp_divisor_of : Sp := fun vs H Q _ => ∃ a b : Nat, vs = [.int a, .int b] ∧ Q (.int (Nat.gcd a b)) H
theorem sc_divisor_of : FnScope N_divisor_of P_divisor_of (defScope s_divisor_of) := ⟨rfl, rfl, rfl, by decide +kernel, rfl, by decide +kernel, by decide +kernel⟩
theorem divisor_of_ok (T : Txt K mg) : FnR P w K mg base CX0 1 f_divisor_of sp_divisor_of := by
  refine fr_mk (ps := P_divisor_of) (N := N_divisor_of) T.fd_divisor_of sc_divisor_of (fun _ _ _ _ _ _ us h => match us, h with | [_, _], _ => rfl) ?_ ?_
  · rintro vs H Q E ⟨a, b, rfl, _⟩
    rfl
  · rintro cdv A outer s H vs Q E hr ⟨a, b, rfl, q⟩
    have nd := sc_divisor_of.nd
    refine ⟨_, (pss_cons (ps_while PassesOwn.never (pt_cmpR op_ne (pv 1) pe_int (nomark _)) (pss_one (ps_par (i := 0) (j := 1) rfl nd rfl rfl (by decide) rfl rfl (pa_cons (pv 1) (pa_cons (pe_op op_mod (pv 0) (pv 1)) pa_nil)) (by rfl)))) (pss_one (ps_ret (pv 0)))), ?_⟩
    refine while_by (fun σ H' => H' = H ∧ ∃ x y : Nat, σ = [some (.int x), some (.int y)] ∧ Nat.gcd x y = Nat.gcd a b) (fun σ _ => match σ with | [_, some (.int y)] => y.toNat | _ => 0) ⟨rfl, a, b, rfl, rfl⟩ ?_ ?_
    · rintro σ H1 ⟨rfl, x, y, rfl, hg⟩
      refine ⟨_, rfl, rfl, _, rfl, ?_⟩
      refine ite2 (fun h => ?_) (fun h => ?_)
      · have hy : 0 < y := by
          rcases Nat.eq_zero_or_pos y with e | e
          · subst e
            exact absurd h (by decide)
          · exact e
        refine ⟨_, rfl, _, rfl, _, rfl, _, _, rfl, rfl, by omega, _, _, rfl, ⟨rfl, y, x % y, rfl, ?_⟩, ?_⟩
        · rw [← hg, Nat.gcd_comm y, ← Nat.gcd_rec, Nat.gcd_comm]
        · show ((x : Int) % (y : Int)).toNat < (y : Int).toNat
          have : ((x : Int) % (y : Int)) = ((x % y : Nat) : Int) := rfl
          rw [this]
          exact Nat.mod_lt _ hy
      · have e : y = 0 := by
          by_cases e : y = 0
          · exact e
          · refine absurd ?_ h
            have : V.int (y : Int) ≠ V.int 0 := fun z => by
              injection z with z
              omega
            simp [this]
        subst e
        rw [Nat.gcd_zero_right] at hg
        subst hg
        exact ⟨_, rfl, q⟩
    · rintro σ H Q Q' f ⟨v, e, r, k, e2, q⟩
      exact ⟨v, e, r, k, e2, f _ _ q⟩
theorem abs_nat (i : Int) : (if i < 0 then -i else i) = (i.natAbs : Int) := by
  split <;> omega
/-! ### Ratio -/
theorem lt_put {f : Str} {v : V} {fs : List (Str × V)} (h : fs.length < 999) : (putF f v fs).length < 1000 := Nat.lt_of_le_of_lt (length_putF f v fs) (by omega)

def g_ (n d : Int) : Int := (Nat.gcd n.natAbs d.natAbs : Nat)
theorem g_pos {n d : Int} (h : 0 < d) : 0 < g_ n d := by
  have : 0 < Nat.gcd n.natAbs d.natAbs := Nat.gcd_pos_of_pos_right _ (by omega)
  unfold g_
  omega
theorem g_le {n d : Int} (h : 0 < d) : (g_ n d).natAbs ≤ d.natAbs := by
  have : Nat.gcd n.natAbs d.natAbs ≤ d.natAbs := Nat.gcd_le_right _ (by omega)
  unfold g_
  omega
def fsQ (n d : Int) : List (Str × V) := [("over", .int n), ("under", .int d)]
def sp_Ratio_init : Sp := fun vs H Q _ => ∃ a dx n d, vs = [.ref a, .int n, .int d] ∧ H a = some (.ins aRatio dx []) ∧ 0 < d ∧ d.natAbs < 2 ^ 1900 ∧ Q .non (upd H a (.ins aRatio dx (fsQ (n / g_ n d) (d / g_ n d))))
theorem sc_Ratio_init : FnScope N_Ratio_init P_Ratio_init (defScope s_Ratio_init) := ⟨rfl, rfl, rfl, by decide +kernel, rfl, by decide +kernel, by decide +kernel⟩
theorem Ratio_init_body (T : Txt K mg) (cdv : Value) (A : Around) (outer : List Env) (s : Shared) (H : Hp) (vs : List V) (Q : VK) (E : XK) (hr : Room 2 (A.deeper (envOfC "Ratio.__init__" (defScope s_Ratio_init) s.heap.objs.size f_Ratio_init cdv))) (hsp : sp_Ratio_init vs H Q E) :
    ∃ t, PSs (cxOf CX0 P w K mg base N_Ratio_init "Ratio.__init__" (defScope s_Ratio_init) f_Ratio_init cdv A outer s H E).nox (defBody s_Ratio_init) t ∧ t { nx := fun _ H' => Q .non H', rt := Q } (start N_Ratio_init vs) H := by
  obtain ⟨a, dx, n, d, rfl, ha, hd, hs, q⟩ := hsp
  have nd := sc_Ratio_init.nd
  have hg := g_pos (n := n) hd
  have hl := Nat.lt_of_le_of_lt (g_le (n := n) hd) hs
  refine ⟨_, (pss_cons (ps_if (pt_not (pt_val (pe_callR (is_integer_ok T) (hr.mono (by decide)) rfl T.g_is_integer T.k_is_integer pass0 (pa_cons (pv 1) pa_nil)))) (pss_one ps_never) pss_nil) (pss_cons (ps_if (PW.pt (pw_or (pt_not (pt_val (pe_callR (is_integer_ok T) (hr.mono (by decide)) rfl T.g_is_integer T.k_is_integer pass0 (pa_cons (pv 2) pa_nil)))) (pw_or1 (pt_cmpR op_eq (pv 2) pe_int (nomark _))))) (pss_one ps_never) pss_nil) (pss_cons (ps_set (i := 3) nd rfl (by first | exact Or.inl rfl | exact Or.inr rfl) (pe_callR (divisor_of_ok T) (hr.mono (by decide)) rfl T.g_divisor_of T.k_divisor_of pass0 (pa_cons (pe_callB call_abs (by rfl) T.n_abs (by decide +kernel) (pa_cons (pv 1) pa_nil)) (pa_cons (pe_callB call_abs (by rfl) T.n_abs (by decide +kernel) (pa_cons (pv 2) pa_nil)) pa_nil)))) (pss_cons (ps_if (pt_cmpR op_lt (pv 2) pe_int (nomark _)) (pss_one (ps_set (i := 3) nd rfl (by first | exact Or.inl rfl | exact Or.inr rfl) (pe_un un_neg (pv 3)))) pss_nil) (pss_cons (ps_fld (pv 0) (pe_op op_fdivW (pv 1) (pv 3)) rfl) (pss_one (ps_fld (pv 0) (pe_op op_fdivW (pv 2) (pv 3)) rfl))))))), ?_⟩
  refine ⟨_, rfl, .inl ⟨_, rfl, _, rfl, iteF ?_⟩⟩
  refine ⟨_, rfl, .inl ⟨_, rfl, _, rfl, iteF ?_⟩⟩
  refine ⟨_, rfl, rfl, _, rfl, ite2 (fun h => ?_) (fun h => ?_)⟩
  · refine absurd (of_decide_eq_true h) fun z => ?_
    injection z with z
    omega
  refine ⟨_, rfl, _, rfl, _, rfl, _, rfl, n.natAbs, d.natAbs, by rw [abs_nat, abs_nat], ?_⟩
  refine ⟨_, rfl, _, _, rfl, rfl, _, rfl, ite2 (fun h => absurd (of_decide_eq_true h) (by omega)) (fun h => ?_)⟩
  refine ⟨_, rfl, _, rfl, _, _, rfl, rfl, wide_div hg hl (by decide) (by decide), _, rfl, _, _, _, _, rfl, ha, T.cl_Ratio, T.no_Ratio_over, (by first | decide | exact lt_put (by decide) | exact (by decide : (1 : Nat) < 1000) | exact (by decide : (2 : Nat) < 1000) | exact (by decide : (3 : Nat) < 1000)), ?_⟩
  refine ⟨_, rfl, _, rfl, _, _, rfl, rfl, wide_div hg hl (by decide) (by decide), _, rfl, _, _, _, _, rfl, upd_same, T.cl_Ratio, T.no_Ratio_under, (by first | decide | exact lt_put (by decide) | exact (by decide : (1 : Nat) < 1000) | exact (by decide : (2 : Nat) < 1000) | exact (by decide : (3 : Nat) < 1000)), ?_⟩
  rw [upd_upd]
  exact q
theorem Ratio_init_ok (T : Txt K mg) : FnR P w K mg base CX0 3 f_Ratio_init sp_Ratio_init := by
  refine (fr_mkD (ps := P_Ratio_init) (N := N_Ratio_init) 3 1 T.fd_Ratio_init sc_Ratio_init (by intro z; cases z) rfl (fun _ _ _ _ _ _ _ us its h1 h2 => match us, its, h1, h2 with | [_, _, _], [_], _, _ => ⟨_, rfl, rfl⟩) ?_ (Ratio_init_body T)).imp fun vs H Q E h => ?_
  · rintro vs H Q E ⟨a, dx, n, d, rfl, _⟩
    rfl
  · show sp_Ratio_init (vs ++ []) H Q E
    rw [List.append_nil]
    exact h
theorem Ratio_init_ok1 (T : Txt K mg) : FnR P w K mg base CX0 3 f_Ratio_init (fun vs H Q E => sp_Ratio_init (vs ++ [.int 1]) H Q E) := by
  refine fr_mkD (ps := P_Ratio_init) (N := N_Ratio_init) 2 0 T.fd_Ratio_init sc_Ratio_init (by intro z; cases z) rfl (fun _ _ _ _ _ _ _ us its h1 h2 => match us, its, h1, h2 with | [_, _], [_], _, _ => ⟨_, rfl, rfl⟩) ?_ (Ratio_init_body T)
  rintro vs H Q E ⟨a, dx, n, d, rfl, _⟩
  rfl
/-- what an own object's making leaves -/
theorem same_made {H : Hp} {x dx C : Addr} {fs gs : List (Str × V)} (nx : H x = none) (nd : H dx = none) : Same H (upd (upd (upd H dx (.own x)) x (.ins C dx fs)) x (.ins C dx gs)) := fun b o e => by
  rw [upd_upd, upd_ne (ne_of_none e nx), upd_ne (ne_of_none e nd)]
  exact e
theorem same_upd {H : Hp} {x : Addr} {o : HO} (nx : H x = none) : Same H (upd H x o) := fun b o e => by
  rw [upd_ne (ne_of_none e nx)]
  exact e
theorem g_one (n : Int) : g_ n 1 = 1 := by
  unfold g_
  simp
/-- told_of, Ratio.of -/
def sp_told_of : Sp := fun vs H Q _ => ∃ v n d, vs = [v] ∧ IsNum H v n d ∧ ∀ H' a, Same H H' → IsQ H' a n d → Q (.ref a) H'
theorem sc_told_of : FnScope N_told_of P_told_of (defScope s_told_of) := ⟨rfl, rfl, rfl, by decide +kernel, rfl, by decide +kernel, by decide +kernel⟩
theorem told_of_ok (T : Txt K mg) : FnR P w K mg base CX0 5 f_told_of sp_told_of := by
  refine fr_mk (ps := P_told_of) (N := N_told_of) T.fd_told_of sc_told_of (fun _ _ _ _ _ _ us h => match us, h with | [_], _ => rfl) ?_ ?_
  · rintro vs H Q E ⟨v, n, d, rfl, _⟩
    rfl
  · rintro cdv A outer s H vs Q E hr ⟨v, n, d, rfl, hv, q⟩
    have nd := sc_told_of.nd
    refine ⟨_, (pss_cons (ps_if (pt_val (pe_callB call_isi (by rfl) T.n_isinstance (by decide +kernel) (pa_cons (pv 0) (pa_cons (pe_glob rfl T.g_Ratio (v := .ref aRatio) rfl) pa_nil)))) (pss_one (ps_ret (pv 0))) pss_nil) (pss_cons (ps_if (pt_not (pt_val (pe_callR (is_integer_ok T) (hr.mono (by decide)) rfl T.g_is_integer T.k_is_integer pass0 (pa_cons (pv 0) pa_nil)))) (pss_one ps_never) pss_nil) (pss_one (ps_ret (pe_makeG T.mk_Ratio (Ratio_init_ok1 T) (hr.mono (by decide)) rfl T.g_Ratio pass0 (pa_cons (pv 0) pa_nil)))))), ?_⟩
    rcases hv with ⟨rfl, rfl⟩ | ⟨a, rfl, dx, ha⟩
    · refine ⟨_, rfl, _, _, _, _, _, rfl, .own _, .base (.int _), T.i_int_Ratio, _, rfl, iteF ?_⟩
      refine ⟨_, rfl, .inl ⟨_, rfl, _, rfl, iteF ?_⟩⟩
      refine ⟨_, rfl, fun x dx nx ndx ne => ⟨x, dx, n, 1, rfl, upd_same, by decide, by decide +kernel, rfl, q _ _ (same_made nx ndx) ⟨dx, ?_⟩⟩⟩
      rw [g_one, upd_same, Int.ediv_one, Int.ediv_one]
      rfl
    · refine ⟨_, rfl, _, _, _, _, _, rfl, .own _, tyIns ha T.ty_Ratio T.cl_Ratio, T.i_Ratio_Ratio, _, rfl, iteT ?_⟩
      exact ⟨_, rfl, q H a (Same.refl H) ⟨dx, ha⟩⟩
theorem sc_Ratio_of : FnScope N_Ratio_of P_Ratio_of (defScope s_Ratio_of) := ⟨rfl, rfl, rfl, by decide +kernel, rfl, by decide +kernel, by decide +kernel⟩
theorem Ratio_of_ok (T : Txt K mg) : FnR P w K mg base CX0 6 f_Ratio_of sp_told_of := by
  refine fr_mk (ps := P_Ratio_of) (N := N_Ratio_of) T.fd_Ratio_of sc_Ratio_of (fun _ _ _ _ _ _ us h => match us, h with | [_], _ => rfl) ?_ ?_
  · rintro vs H Q E ⟨v, n, d, rfl, _⟩
    rfl
  · rintro cdv A outer s H vs Q E hr ⟨v, n, d, rfl, hv, q⟩
    have nd := sc_Ratio_of.nd
    refine ⟨_, (pss_one (ps_ret (pe_callR (told_of_ok T) (hr.mono (by decide)) rfl T.g_told_of T.k_told_of pass0 (pa_cons (pv 0) pa_nil)))), ?_⟩
    exact ⟨_, rfl, v, n, d, rfl, hv, q⟩
/-- r >= 0 -/
def sp_Ratio_ge : Sp := fun vs H Q _ => ∃ a n d, vs = [.ref a, .int 0] ∧ IsQ H a n d ∧ n.natAbs < 2 ^ 1900 ∧ d.natAbs < 2 ^ 1900 ∧ ∀ H', Same H H' → Q (.bl (decide (0 ≤ n))) H'
theorem sc_Ratio_ge : FnScope N_Ratio_ge P_Ratio_ge (defScope s_Ratio_ge) := ⟨rfl, rfl, rfl, by decide +kernel, rfl, by decide +kernel, by decide +kernel⟩
theorem Ratio_ge_ok (T : Txt K mg) : FnR P w K mg base CX0 6 f_Ratio_ge sp_Ratio_ge := by
  refine fr_mk (ps := P_Ratio_ge) (N := N_Ratio_ge) T.fd_Ratio_ge sc_Ratio_ge (fun _ _ _ _ _ _ us h => match us, h with | [_, _], _ => rfl) ?_ ?_
  · rintro vs H Q E ⟨a, n, d, rfl, _⟩
    rfl
  · rintro cdv A outer s H vs Q E hr ⟨a, n, d, rfl, ha, hn, hd, q⟩
    have nd := sc_Ratio_ge.nd
    refine ⟨_, (pss_cons (ps_set (i := 2) nd rfl (by first | exact Or.inl rfl | exact Or.inr rfl) (pe_callR (told_of_ok T) (hr.mono (by decide)) rfl T.g_told_of T.k_told_of pass0 (pa_cons (pv 1) pa_nil))) (pss_one (ps_ret (pe_cmpR op_ge (pe_op op_mulW (pe_fld (pv 0) rfl) (pe_fld (pv 2) rfl)) (pe_op op_mulW (pe_fld (pv 2) rfl) (pe_fld (pv 0) rfl)) (nomark _))))), ?_⟩
    refine ⟨_, rfl, _, 0, 1, rfl, .inl ⟨rfl, rfl⟩, fun H' b sm hb => ?_⟩
    obtain ⟨dx, h1⟩ := ha.same sm
    obtain ⟨db, h2⟩ := hb
    have z := q H' sm
    have hm : decide (0 ≤ n) = decide (0 * d ≤ n * 1) := by rw [Int.zero_mul, Int.mul_one]
    rw [hm] at z
    refine ⟨_, rfl, _, _, _, _, _, rfl, h1, T.cl_Ratio, T.no_Ratio_over, rfl, _, rfl, _, _, _, _, _, rfl, h2, T.cl_Ratio, T.no_Ratio_under, rfl, _, _, rfl, rfl, wide_mul hn (b := 1) (by decide) (by decide) (by decide) (by decide), _, rfl, _, _, _, _, _, rfl, h2, T.cl_Ratio, T.no_Ratio_over, rfl, _, rfl, _, _, _, _, _, rfl, h1, T.cl_Ratio, T.no_Ratio_under, rfl, _, _, rfl, rfl, wide_mul (a := 1) (by decide) hd (by decide) (by decide) (by decide), _, _, rfl, rfl, z⟩
/-- how a number is written -/
def showQ (n d : Int) : Str := if d = 1 then toString n else (toString n ++ ("/" : Str)) ++ toString d
def sp_Ratio_str : Sp := fun vs H Q _ => ∃ a n d, vs = [.ref a] ∧ IsQ H a n d ∧ n.natAbs.log2 < 1920 ∧ d.natAbs.log2 < 1920 ∧ Q (.str (showQ n d)) H
theorem sc_Ratio_str : FnScope N_Ratio_str P_Ratio_str (defScope s_Ratio_str) := ⟨rfl, rfl, rfl, by decide +kernel, rfl, by decide +kernel, by decide +kernel⟩
theorem Ratio_str_ok (T : Txt K mg) : FnR P w K mg base CX0 1 f_Ratio_str sp_Ratio_str := by
  refine fr_mk (ps := P_Ratio_str) (N := N_Ratio_str) T.fd_Ratio_str sc_Ratio_str (fun _ _ _ _ _ _ us h => match us, h with | [_], _ => rfl) ?_ ?_
  · rintro vs H Q E ⟨a, n, d, rfl, _⟩
    rfl
  · rintro cdv A outer s H vs Q E hr ⟨a, n, d, rfl, ⟨dx, ha⟩, hn, hd, q⟩
    have nd := sc_Ratio_str.nd
    refine ⟨_, (pss_cons (ps_if (pt_cmpR op_eq (pe_fld (pv 0) rfl) pe_int (nomark _)) (pss_one (ps_ret (pe_callTy call_str_int (by rfl) T.n_str (by decide +kernel) (pa_cons (pe_fld (pv 0) rfl) pa_nil)))) pss_nil) (pss_one (ps_ret (pe_joined (.cons (pe_fmt (pe_fld (pv 0) rfl)) (.cons pe_str (.cons (pe_fmt (pe_fld (pv 0) rfl)) .nil))))))), ?_⟩
    refine ⟨_, rfl, _, _, _, _, _, rfl, ha, T.cl_Ratio, T.no_Ratio_under, rfl, rfl, _, rfl, ite2 (fun h => ?_) (fun h => ?_)⟩
    · have e : d = 1 := by
        have z := of_decide_eq_true h
        injection z
      unfold showQ at q
      rw [if_pos e] at q
      exact ⟨_, rfl, _, _, _, _, _, rfl, ha, T.cl_Ratio, T.no_Ratio_over, rfl, _, rfl, hn, q⟩
    · have e : ¬ d = 1 := fun e => h (by rw [e]; decide)
      unfold showQ at q
      rw [if_neg e] at q
      have l1 := PyProof.Rows.int_text_len_1921 hn
      have l2 := PyProof.Rows.int_text_len_1921 hd
      have l3 : ("/" : Str).length = 1 := rfl
      have lz : 10000 ≤ sizeLine := by decide
      refine ⟨_, rfl, _, _, _, _, _, rfl, ha, T.cl_Ratio, T.no_Ratio_over, rfl, .inr ⟨_, rfl, hn, _, rfl, ?_, _, rfl, ?_, _, rfl, _, _, _, _, _, rfl, ha, T.cl_Ratio, T.no_Ratio_under, rfl, .inr ⟨_, rfl, hd, _, rfl, ?_, ?_⟩⟩⟩
      · rw [PySem.Str.empty_append]
        omega
      · rw [PySem.Str.empty_append, PySem.Str.length_append]
        omega
      · rw [PySem.Str.empty_append, PySem.Str.length_append, PySem.Str.length_append]
        omega
      · rw [PySem.Str.empty_append]
        exact q
/-- is_number, is_amount -/
def sp_is_number : Sp := fun vs H Q _ => ∃ v n d, vs = [v] ∧ IsNum H v n d ∧ Q (.bl true) H
theorem sc_is_number : FnScope N_is_number P_is_number (defScope s_is_number) := ⟨rfl, rfl, rfl, by decide +kernel, rfl, by decide +kernel, by decide +kernel⟩
theorem is_number_ok (T : Txt K mg) : FnR P w K mg base CX0 2 f_is_number sp_is_number := by
  refine fr_mk (ps := P_is_number) (N := N_is_number) T.fd_is_number sc_is_number (fun _ _ _ _ _ _ us h => match us, h with | [_], _ => rfl) ?_ ?_
  · rintro vs H Q E ⟨v, n, d, rfl, _⟩
    rfl
  · rintro cdv A outer s H vs Q E hr ⟨v, n, d, rfl, hv, q⟩
    have nd := sc_is_number.nd
    refine ⟨_, (pss_one (ps_ret (pe_or (pe_callR (is_integer_ok T) (hr.mono (by decide)) rfl T.g_is_integer T.k_is_integer pass0 (pa_cons (pv 0) pa_nil)) (pe_one (pe_callB call_isi (by rfl) T.n_isinstance (by decide +kernel) (pa_cons (pv 0) (pa_cons (pe_glob rfl T.g_Ratio (v := .ref aRatio) rfl) pa_nil))))))), ?_⟩
    rcases hv with ⟨rfl, rfl⟩ | ⟨a, rfl, dx, ha⟩
    · exact ⟨_, rfl, .inl ⟨_, rfl, _, rfl, iteT q⟩⟩
    · exact ⟨_, rfl, .inr ⟨_, _, _, rfl, ha, _, rfl, iteF ⟨_, rfl, _, _, _, _, _, rfl, .own _, tyIns ha T.ty_Ratio T.cl_Ratio, T.i_Ratio_Ratio, q⟩⟩⟩
def sp_is_amount : Sp := fun vs H Q _ => ∃ v n d, vs = [v] ∧ IsNum H v n d ∧ 0 ≤ n ∧ n.natAbs < 2 ^ 1900 ∧ d.natAbs < 2 ^ 1900 ∧ ∀ H', Same H H' → Q (.bl true) H'
theorem sc_is_amount : FnScope N_is_amount P_is_amount (defScope s_is_amount) := ⟨rfl, rfl, rfl, by decide +kernel, rfl, by decide +kernel, by decide +kernel⟩
theorem is_amount_ok (T : Txt K mg) : FnR P w K mg base CX0 7 f_is_amount sp_is_amount := by
  refine fr_mk (ps := P_is_amount) (N := N_is_amount) T.fd_is_amount sc_is_amount (fun _ _ _ _ _ _ us h => match us, h with | [_], _ => rfl) ?_ ?_
  · rintro vs H Q E ⟨v, n, d, rfl, _⟩
    rfl
  · rintro cdv A outer s H vs Q E hr ⟨v, n, d, rfl, hv, h0, hn, hd, q⟩
    have nd := sc_is_amount.nd
    refine ⟨_, (pss_one (ps_ret (pe_and (pe_callR (is_number_ok T) (hr.mono (by decide)) rfl T.g_is_number T.k_is_number pass0 (pa_cons (pv 0) pa_nil)) (pe_one (pe_cmpR (OpR.or op_ge (op_ownC (fun _ _ => rfl) T.m_Ratio_ge.at_ T.m_Ratio_ge.fn (Ratio_ge_ok T) (hr.mono (by decide)) pass0)) (pv 0) pe_int (nomark _)))))), ?_⟩
    refine ⟨_, rfl, _, _, _, rfl, hv, _, rfl, iteT ?_⟩
    have ht : decide (0 ≤ n) = true := decide_eq_true h0
    rcases hv with ⟨rfl, rfl⟩ | ⟨a, rfl, dx, ha⟩
    · refine ⟨_, rfl, .inl ⟨_, _, rfl, rfl, ?_⟩⟩
      have z := q H (Same.refl H)
      rw [← ht] at z
      exact z
    · refine ⟨_, rfl, .inr ⟨_, _, _, _, rfl, ha, .int _, T.nf_Ratio_int, _, _, _, rfl, ⟨dx, ha⟩, hn, hd, fun H' sm => ?_⟩⟩
      have z := q H' sm
      rw [← ht] at z
      exact z
/-- a pair of a moment and a number of no less than 0 -/
def sp_is_point : Sp := fun vs H Q _ => ∃ p m v n d, vs = [.ref p] ∧ H p = some (.tup [.int m, v]) ∧ IsNum H v n d ∧ 0 ≤ n ∧ n.natAbs < 2 ^ 1900 ∧ d.natAbs < 2 ^ 1900 ∧ ∀ H', Same H H' → Q (.bl true) H'
theorem sc_is_point : FnScope N_is_point P_is_point (defScope s_is_point) := ⟨rfl, rfl, rfl, by decide +kernel, rfl, by decide +kernel, by decide +kernel⟩
theorem is_point_ok (T : Txt K mg) : FnR P w K mg base CX0 8 f_is_point sp_is_point := by
  refine fr_mk (ps := P_is_point) (N := N_is_point) T.fd_is_point sc_is_point (fun _ _ _ _ _ _ us h => match us, h with | [_], _ => rfl) ?_ ?_
  · rintro vs H Q E ⟨p, m, v, n, d, rfl, _⟩
    rfl
  · rintro cdv A outer s H vs Q E hr ⟨p, m, v, n, d, rfl, hp, hv, h0, hn, hd, q⟩
    have nd := sc_is_point.nd
    refine ⟨_, (pss_one (ps_ret (pe_and (pe_callB call_isi (by rfl) T.n_isinstance (by decide +kernel) (pa_cons (pv 0) (pa_cons (pe_bltn (by rfl) T.n_tuple (by decide +kernel) (v := .ty "tuple") rfl) pa_nil))) (pe_and (pe_cmpR op_eq (pe_callB call_len_seq (by rfl) T.n_len (by decide +kernel) (pa_cons (pv 0) pa_nil)) pe_int (nomark _)) (pe_and (pe_callR (is_integer_ok T) (hr.mono (by decide)) rfl T.g_is_integer T.k_is_integer pass0 (pa_cons (pe_ix ix_tup (pv 0) pe_int (fun _ _ => rfl)) pa_nil)) (pe_one (pe_callR (is_amount_ok T) (hr.mono (by decide)) rfl T.g_is_amount T.k_is_amount pass0 (pa_cons (pe_ix ix_tup (pv 0) pe_int (fun _ _ => rfl)) pa_nil)))))))), ?_⟩
    refine ⟨_, rfl, _, _, _, _, _, rfl, .ty _, .base (.tup hp), kt "tuple" "tuple" true, _, rfl, iteT ?_⟩
    refine ⟨_, rfl, _, _, rfl, .inr (SqT.of hp), rfl, _, rfl, iteT ?_⟩
    refine ⟨_, rfl, _, _, _, _, rfl, rfl, SqT.of hp, atI_nat rfl, .inl ⟨_, rfl, _, rfl, iteT ?_⟩⟩
    exact ⟨_, rfl, _, _, _, _, rfl, rfl, SqT.of hp, atI_nat rfl, v, n, d, rfl, hv, h0, hn, hd, q⟩
end G
set_option Elab.async false
set_option linter.all false
set_option maxRecDepth 100000
set_option maxHeartbeats 4000000
/-! Comprehensions by what each item is; frames that keep what never changes. -/
namespace G
open PySem PySem.Spec PyProof.Rows L2
theorem iteTc {b : Bool} {A B : Prop} (hb : b = true) (h : A) : if b = true then A else B := by rw [if_pos hb]; exact h
theorem iteFc {b : Bool} {A B : Prop} (hb : b = false) (h : B) : if b = true then A else B := by rw [if_neg (by rw [hb]; decide)]; exact h
/-- what never changes once it is made (S: the class whose instances do) -/
def Imm (S : Addr) : HO → Prop
  | .tup _ => True
  | .frz _ _ => True
  | .ins C _ _ => C ≠ S
  | _ => False
/-- all that never changes is kept -/
def Kp (S : Addr) (H H' : Hp) : Prop := ∀ b o, Imm S o → H b = some o → H' b = some o
theorem Kp.refl (S : Addr) (H : Hp) : Kp S H H := fun _ _ _ h => h
theorem Kp.trans {S : Addr} {H H1 H2 : Hp} (a : Kp S H H1) (b : Kp S H1 H2) : Kp S H H2 := fun c o i h => b c o i (a c o i h)
theorem Kp.of {S : Addr} {H H' : Hp} (s : Same H H') : Kp S H H' := fun b o _ h => s b o h
/-- what changes may change -/
theorem Kp.upd {S : Addr} {H : Hp} {D : Addr} {o u : HO} (h : H D = some u) (n : ¬ Imm S u) : Kp S H (upd H D o) := fun b v i e => by
  have ne : b ≠ D := fun z => by
    subst z
    rw [h] at e
    cases e
    exact n i
  rw [upd_ne ne]
  exact e
theorem Kp.new {S : Addr} {H : Hp} {D : Addr} {o : HO} (h : H D = none) : Kp S H (L2.upd H D o) := fun b v i e => by
  rw [upd_ne (ne_of_none e h)]
  exact e
/-- all is kept but what stands at p -/
def SameB (p : Addr) (H H' : Hp) : Prop := ∀ b o, b ≠ p → H b = some o → H' b = some o
theorem SameB.refl (p : Addr) (H : Hp) : SameB p H H := fun _ _ _ h => h
theorem SameB.of {p : Addr} {H H' : Hp} (s : Same H H') : SameB p H H' := fun b o _ h => s b o h
theorem SameB.trans {p : Addr} {H H1 H2 : Hp} (a : SameB p H H1) (b : SameB p H1 H2) : SameB p H H2 := fun c o i h => b c o i (a c o i h)
theorem SameB.upd {p : Addr} {H : Hp} {o : HO} : SameB p H (upd H p o) := fun b v i e => by
  rw [upd_ne i]
  exact e
theorem SameB.kp {S p : Addr} {H H' : Hp} {u : HO} (s : SameB p H H') (h : H p = some u) (n : ¬ Imm S u) : Kp S H H' := fun b v i e => by
  refine s b v (fun z => ?_) e
  subst z
  rw [h] at e
  cases e
  exact n i
theorem same_new {H : Hp} {x : Addr} {o : HO} (nx : H x = none) : Same H (upd H x o) := fun b v e => by
  rw [upd_ne (ne_of_none e nx)]
  exact e
/-- from a heap in which D is free, D changes -/
theorem Same.at_ {H H' : Hp} {D : Addr} {o : HO} (n : H D = none) (s : Same H H') : Same H (upd H' D o) := fun b v e => by
  rw [upd_ne (ne_of_none e n)]
  exact s b v e

theorem walk_enumT {K : PySem.W.Frag} {a : Addr} {xs : List V} : Walk (ItU K a) xs.length (fun H => SqT K H a xs) (YPair (fun i => some (.int (i : Nat))) (fun i => xs[i]?)) := by
  refine ⟨fun i _ hi q => ⟨xs, xs[i], q, by simp [hi]⟩, fun _ q => ⟨xs, q, Nat.le_refl _⟩, fun i H v H' _ q y => ?_⟩
  obtain ⟨T, x, h1, h2, h3, h4⟩ := y
  exact ⟨T, .int (i : Nat), x, h1, h2, h3, rfl, h4 xs q⟩
theorem walk_zipT {K : PySem.W.Frag} {a b : Addr} {xs ys : List V} {n : Nat} (hn : n = min xs.length ys.length) : Walk (RZ.ItzT K a b) n (fun H => SqT K H a xs ∧ SqT K H b ys) (YPair (fun i => xs[i]?) (fun i => ys[i]?)) := by
  subst hn
  refine ⟨fun i _ hi q => ?_, fun _ q => ⟨xs, ys, q.1, q.2, by omega⟩, fun i H v H' _ q y => ?_⟩
  · have h1 : i < xs.length := by omega
    have h2 : i < ys.length := by omega
    exact ⟨xs, ys, xs[i], ys[i], q.1, q.2, by simp [h1], by simp [h2]⟩
  · obtain ⟨T, x, z, h1, h2, h3, h4, h5⟩ := y
    exact ⟨T, x, z, h1, h2, h3, h4 xs q.1, h5 ys q.2⟩

/-- a comprehension: the items that are kept, each as R says -/
theorem lc_rel {J : It} {n : Nat} {G : Hp → Prop} {Y : Nat → Hp → V → Hp → Prop} (w : Walk J n G Y) {g : TG} {tt : TT} {te : TE} {vs : List Nat} {σ : L2.St} {H1 : Hp} {D : Addr} {Qd : Hp → Prop} (S : Addr) (keep : Nat → Bool) (R : Nat → V → Hp → Prop)
    (hz : n ≤ sizeLine) (nD : H1 D = none) (mono : ∀ i v H H', Kp S H H' → R i v H → R i v H') (hG : ∀ H, Same H1 H → G H)
    (hs : ∀ i x H H' (P : V → Hp → Prop) (PN : Hp → Prop), i < n → Same H1 H → Y i H x H' → (keep i = true → ∀ y H4, Same H H4 → R i y H4 → P y H4) → (keep i = false → ∀ H4, Same H H4 → PN H4) →
      g x (wipe σ vs) H' fun σ2 H2 => wipe σ2 vs = wipe σ vs ∧ tt σ2 H2 fun b H3 => if b = true then te σ2 H3 P else PN H3)
    (hd : ∀ H l, Same H1 H → H D = some (.lst l) → Paired (fun i v => R i v H) ((List.range n).filter keep) l → Qd H) :
    ∃ W : Nat → Nat → Hp → Prop, (∃ m, W 0 m (upd H1 D (.lst []))) ∧ ∀ i m H, W i m H →
      (J.stop i H ∧ Qd H) ∨ (J.go i H ∧ ∃ Nx : Hp → Prop, (∀ H', Nx H' → ∃ m', m' < m ∧ W (i + 1) m' H') ∧ ∀ x H', J.yld i H x H' → g x (wipe σ vs) H' fun σ2 H2 => wipe σ2 vs = wipe σ vs ∧ tt σ2 H2 fun b H3 =>
        if b = true then te σ2 H3 fun y H4 => ∃ acc, H4 D = some (.lst acc) ∧ acc.length < sizeLine ∧ Nx (upd H4 D (.lst (acc ++ [y]))) else Nx H3) := by
  refine lc_it w (fun i H => i ≤ n ∧ Same H1 H ∧ ∃ l, H D = some (.lst l) ∧ Paired (fun i v => R i v H) ((List.range i).filter keep) l) ?_ ?_ ?_ ?_
  · exact ⟨Nat.zero_le _, same_new nD, [], upd_same, .nil⟩
  · exact fun i H _ p => hG H p.2.1
  · rintro i x H H' hi ⟨-, s0, l, hl, pr⟩ hy
    have hlen : l.length ≤ i := by
      rw [← pr.length]
      exact Nat.le_trans (List.length_filter_le _ _) (by simp)
    refine hs i x H H' _ _ hi s0 hy (fun hb y H4 s4 r => ?_) (fun hb H4 q => ?_)
    · have h4 := s4 D _ hl
      have kp : Kp S H4 (upd H4 D (.lst (l ++ [y]))) := .upd h4 (fun z => z)
      refine ⟨l, h4, by omega, by omega, Same.at_ nD (s0.trans s4), _, upd_same, ?_⟩
      have : [i].filter keep = [i] := by simp [hb]
      rw [List.range_succ, List.filter_append, this]
      exact (pr.mono fun j v r => mono j v _ _ kp (mono j v _ _ (Kp.of s4) r)).snoc (mono i y _ _ kp r)
    · refine ⟨by omega, s0.trans q, l, q D _ hl, ?_⟩
      have : [i].filter keep = [] := by simp [hb]
      rw [List.range_succ, List.filter_append, this, List.append_nil]
      exact pr.mono fun j v r => mono j v _ _ (Kp.of q) r
  · rintro H ⟨-, s0, l, hl, pr⟩
    exact hd H l s0 hl pr
/-- all items are kept -/
theorem lc_all {J : It} {n : Nat} {G : Hp → Prop} {Y : Nat → Hp → V → Hp → Prop} (w : Walk J n G Y) {g : TG} {te : TE} {vs : List Nat} {σ : L2.St} {H1 : Hp} {D : Addr} {Qd : Hp → Prop} (S : Addr) (R : Nat → V → Hp → Prop)
    (hz : n ≤ sizeLine) (nD : H1 D = none) (mono : ∀ i v H H', Kp S H H' → R i v H → R i v H') (hG : ∀ H, Same H1 H → G H)
    (hs : ∀ i x H H' (P : V → Hp → Prop), i < n → Same H1 H → Y i H x H' → (∀ y H4, Same H H4 → R i y H4 → P y H4) → g x (wipe σ vs) H' fun σ2 H2 => wipe σ2 vs = wipe σ vs ∧ te σ2 H2 P)
    (hg : ∀ v σ H (Q Q' : L2.St → Hp → Prop), (∀ σ1 H1, Q σ1 H1 → Q' σ1 H1) → g v σ H Q → g v σ H Q')
    (hd : ∀ H l, Same H1 H → H D = some (.lst l) → Paired (fun i v => R i v H) (List.range n) l → Qd H) :
    ∃ W : Nat → Nat → Hp → Prop, (∃ m, W 0 m (upd H1 D (.lst []))) ∧ ∀ i m H, W i m H →
      (J.stop i H ∧ Qd H) ∨ (J.go i H ∧ ∃ Nx : Hp → Prop, (∀ H', Nx H' → ∃ m', m' < m ∧ W (i + 1) m' H') ∧ ∀ x H', J.yld i H x H' → g x (wipe σ vs) H' fun σ2 H2 => wipe σ2 vs = wipe σ vs ∧ tYes σ2 H2 fun b H3 =>
        if b = true then te σ2 H3 fun y H4 => ∃ acc, H4 D = some (.lst acc) ∧ acc.length < sizeLine ∧ Nx (upd H4 D (.lst (acc ++ [y]))) else Nx H3) := by
  refine lc_rel w S (fun _ => true) R hz nD mono hG (fun i x H H' P PN hi s y h1 _ => ?_) (fun H l s h p => hd H l s h ?_)
  · exact hg _ _ _ _ _ (fun σ1 H1 q => ⟨q.1, (if_pos rfl : (if true = true then te σ1 H1 P else PN H1) = te σ1 H1 P).mpr q.2⟩) (hs i x H H' P hi s y (h1 rfl))
  · have : (List.range n).filter (fun _ => true) = List.range n := List.filter_eq_self.mpr fun _ _ => rfl
    rw [this] at p
    exact p
theorem mono_name {i : Nat} : ∀ v σ H (Q Q' : L2.St → Hp → Prop), (∀ σ1 H1, Q σ1 H1 → Q' σ1 H1) → gName i v σ H Q → gName i v σ H Q' := fun v σ H Q Q' f q => f _ _ q
theorem mono_pair {K : PySem.W.Frag} {n i j : Nat} : ∀ v σ H (Q Q' : L2.St → Hp → Prop), (∀ σ1 H1, Q σ1 H1 → Q' σ1 H1) → gTup K n (gCons (gName i) (gCons (gName j) gNil)) v σ H Q → gTup K n (gCons (gName i) (gCons (gName j) gNil)) v σ H Q' := fun v σ H Q Q' f q => by
  obtain ⟨a, xs, h1, h2, h3, v1, r1, h4, v2, r2, h5, h6, h7⟩ := q
  exact ⟨a, xs, h1, h2, h3, v1, r1, h4, v2, r2, h5, h6, f _ _ h7⟩
/-- an int list out of a comprehension -/
theorem paired_map {f : Nat → V} : ∀ {is : List Nat} {l : List V}, Paired (fun i v => v = f i) is l → l = is.map f
  | _, _, .nil => rfl
  | _, _, .cons h r => by rw [h, paired_map r]; rfl
end G
set_option Elab.async false
set_option linter.all false
set_option maxRecDepth 100000
set_option maxHeartbeats 4000000
namespace G
open PySem PySem.Spec PyProof.Rows L2
variable {P : Program} {w : World} {K : PySem.W.Frag} {mg : Str → Option Value} {base : Heap}
abbrev KpS := Kp aStore
theorem IsQ.kp {S : Addr} {H H' : Hp} {a : Addr} {n d : Int} (h : IsQ H a n d) (s : Kp S H H') (hS : aRatio ≠ S := by decide) : IsQ H' a n d := by
  obtain ⟨dx, h⟩ := h
  exact ⟨dx, s _ _ hS h⟩
theorem IsNum.kp {S : Addr} {H H' : Hp} {v : V} {n d : Int} (h : IsNum H v n d) (s : Kp S H H') (hS : aRatio ≠ S := by decide) : IsNum H' v n d := by
  rcases h with h | ⟨a, e, h⟩
  · exact .inl h
  · exact .inr ⟨a, e, h.kp s hS⟩
theorem IsNum.same {H H' : Hp} {v : V} {n d : Int} (h : IsNum H v n d) (s : Same H H') : IsNum H' v n d := h.kp (Kp.of (S := aStore) s)
/-- looks at rising moments -/
def IsLooks (H : Hp) (a : Addr) (ms : List Int) : Prop := ∃ dx mt lt, H a = some (.ins aLooks dx [("moments", .ref mt), ("lengths", .ref lt)]) ∧ H mt = some (.tup (ms.map V.int))
theorem IsLooks.kp {S : Addr} {H H' : Hp} {a : Addr} {ms : List Int} (h : IsLooks H a ms) (s : Kp S H H') (hS : aLooks ≠ S := by decide) : IsLooks H' a ms := by
  obtain ⟨dx, mt, lt, h1, h2⟩ := h
  exact ⟨dx, mt, lt, s _ _ hS h1, s _ _ trivial h2⟩
theorem get_map {α β : Type} {f : α → β} {xs : List α} {i : Nat} {v : β} (h : (xs.map f)[i]? = some v) : ∃ x, xs[i]? = some x ∧ v = f x := by
  rw [List.getElem?_map] at h
  cases e : xs[i]? with
  | none =>
    rw [e] at h
    cases h
  | some x =>
    rw [e] at h
    cases h
    exact ⟨x, rfl, rfl⟩
theorem _root_.L2.SqT.same {K : PySem.W.Frag} {H H' : Hp} {a : Addr} {xs : List V} (h : SqT K H a xs) (s : Same H H') : SqT K H' a xs := by
  rcases h with (h | ⟨o, h⟩) | h
  · exact .inl (.inl (s _ _ h))
  · exact .inl (.inr ⟨o, s _ _ h⟩)
  · exact .inr h
theorem rSlA_any {K : PySem.W.Frag} {H : Hp} {Q : VK} {a : Addr} {xs : List V} {lo hi : Option Int} (hx : SqT K H a xs) (h : ∀ b H', Same H H' → SqT K H' b (cutV xs lo hi) → Q (.ref b) H') : rSlA K (.ref a) lo hi H Q := by
  refine ⟨a, xs, rfl, hx, fun z => h a H (Same.refl H) ?_, fun _ p hp => h p _ (same_new hp) (SqT.of upd_same)⟩
  unfold cutV
  rw [z.1, z.2, List.drop_zero, Nat.sub_zero, List.take_length]
  exact hx
theorem mem_cut {xs : List V} {lo hi : Option Int} {i : Nat} {v : V} (h : (cutV xs lo hi)[i]? = some v) : v ∈ xs := List.mem_of_mem_drop (List.mem_of_mem_take (List.mem_of_getElem? h))
abbrev Rise (ms : List Int) : Prop := ms.Pairwise (· < ·)
def sp_need_few : Sp := fun vs H Q _ => ∃ n, vs = [.int n] ∧ n ≤ 5000 ∧ Q .non H
theorem sc_need_few : FnScope N_need_few P_need_few (defScope s_need_few) := ⟨rfl, rfl, rfl, by decide +kernel, rfl, by decide +kernel, by decide +kernel⟩
theorem need_few_ok (T : Txt K mg) : FnR P w K mg base CX0 1 f_need_few sp_need_few := by
  refine fr_mk (ps := P_need_few) (N := N_need_few) T.fd_need_few sc_need_few (fun _ _ _ _ _ _ us h => match us, h with | [_], _ => rfl) ?_ ?_
  · rintro vs H Q E ⟨v, rfl, _⟩
    rfl
  · rintro cdv A outer s H vs Q E hr ⟨n, rfl, h0, q⟩
    have nd := sc_need_few.nd
    refine ⟨_, (pss_one (ps_if (pt_cmpR op_gt (pv 0) (pe_glob (v := .int 5000) rfl T.g_MOST_LOOKS.choose_spec ⟨_, rfl⟩) (nomark _)) (pss_one ps_never) pss_nil)), ?_⟩
    exact ⟨_, rfl, _, _, rfl, rfl, _, rfl, ite2 (fun h => absurd (of_decide_eq_true h) (by omega)) (fun h => q)⟩
def sp_Looks_init : Sp := fun vs H Q _ => ∃ a dx p ms, vs = [.ref a, .ref p] ∧ H a = some (.ins aLooks dx []) ∧ H p = some (.tup (ms.map V.int)) ∧ Rise ms ∧ ms.length ≤ 5000 ∧ ∀ H', SameB a H H' → IsLooks H' a ms → Q .non H'
theorem sc_Looks_init : FnScope N_Looks_init P_Looks_init (defScope s_Looks_init) := ⟨rfl, rfl, rfl, by decide +kernel, rfl, by decide +kernel, by decide +kernel⟩
theorem Looks_init_body (T : Txt K mg) (cdv : Value) (A : Around) (outer : List Env) (s : Shared) (H : Hp) (vs : List V) (Q : VK) (E : XK) (hr : Room 3 (A.deeper (envOfC "Looks.__init__" (defScope s_Looks_init) s.heap.objs.size f_Looks_init cdv))) (hsp : sp_Looks_init vs H Q E) :
    ∃ t, PSs (cxOf CX0 P w K mg base N_Looks_init "Looks.__init__" (defScope s_Looks_init) f_Looks_init cdv A outer s H E).nox (defBody s_Looks_init) t ∧ t { nx := fun _ H' => Q .non H', rt := Q } (start N_Looks_init vs) H := by
  obtain ⟨a, dx, p, ms, rfl, ha, hp, hs, hz, q⟩ := hsp
  have nd := sc_Looks_init.nd
  refine ⟨_, (pss_cons (ps_expr (pe_callR (need_few_ok T) (hr.mono (by decide)) rfl T.g_need_few T.k_need_few pass0 (pa_cons (pe_callB call_len_seq (by rfl) T.n_len (by decide +kernel) (pa_cons (pv 1) pa_nil)) pa_nil))) (pss_cons (ps_for PassesOwn.never rfl (pi_enumT (by rfl) T.n_enumerate (pa_cons (pv 1) pa_nil)) (pg_tup rfl (pgs_cons (pg_name (i := 2) nd rfl (by first | exact Or.inl rfl | exact Or.inr rfl)) (pgs_cons (pg_name (i := 3) nd rfl (by first | exact Or.inl rfl | exact Or.inr rfl)) pgs_nil))) (pss_one (ps_if (PW.pt (pw_or (pt_not (pt_val (pe_callR (is_integer_ok T) (hr.mono (by decide)) rfl T.g_is_integer T.k_is_integer pass0 (pa_cons (pv 3) pa_nil)))) (pw_or1 (PW.pt (pw_and (pt_cmpR op_gt (pv 2) pe_int (nomark _)) (pw_and1 (pt_cmpR op_le (pv 3) (pe_ix ix_tup (pv 1) (pe_op op_sub (pv 2) pe_int) (fun _ _ => rfl)) (nomark _)))))))) (pss_one ps_never) pss_nil))) (pss_cons (ps_fld (pv 0) (pv 1) rfl) (pss_one (ps_fld (pv 0) (pe_callTy call_tupleF (by rfl) T.n_tuple (by decide +kernel) (pa_cons (pe_lc (own := [("moment", 3), ("later", 4)]) (g := (gTup K 2 (gCons (gName 3) (gCons (gName 4) gNil)))) (tt := tYes) (by rfl) nd (RZ.pi_zipA (by rfl) T.n_zip (pa_cons (pv 1) (pa_cons (pe_slice sl_tupA (pv 1) (po_some pe_int) po_none) pa_nil))) (blkOk_by (own := [("moment", 3), ("later", 4)]) (N := N_Looks_init) (sc := defScope s_Looks_init) (by decide +kernel)) (fun _ _ _ _ _ => (pg_tup rfl (pgs_cons (pg_name (i := 3) nd rfl (Or.inl rfl)) (pgs_cons (pg_name (i := 4) nd rfl (Or.inl rfl)) pgs_nil)))) (fun _ _ _ _ _ => pts_nil) (fun _ _ _ _ _ => (pe_op op_sub (pv 4) (pv 3)))) pa_nil)) rfl))))), ?_⟩
  refine ⟨_, rfl, _, _, rfl, .inr (SqT.of hp), _, rfl, ?_, ?_⟩
  · rw [List.length_map]
    omega
  refine ⟨_, rfl, _, _, rfl, SqT.of hp, ?_⟩
  refine for_it walk_enumT (fun i σ H' => Same H H' ∧ ∃ x y, σ = [some (.ref a), some (.ref p), x, y, none]) ⟨Same.refl H, _, _, rfl⟩ (fun i σ H' _ h => SqT.of (h.1 _ _ hp)) ?_ ?_
  · rintro i x σ H1 H2 hi ⟨s1, x1, y1, rfl⟩ ⟨t, u, v, rfl, ht, rfl, h1, h2⟩
    cases h1
    obtain ⟨m, hm, rfl⟩ := get_map h2
    have hp2 : upd H1 t (.tup [.int (i : Nat), .int m]) p = some (.tup (ms.map V.int)) := Same.trans s1 (same_new ht) _ _ hp
    refine ⟨_, _, rfl, SqT.of upd_same, rfl, _, _, rfl, _, _, rfl, rfl, ?_⟩
    refine ⟨_, rfl, .inl ⟨_, rfl, _, rfl, iteF ?_⟩⟩
    refine ⟨_, rfl, _, _, rfl, rfl, _, rfl, ite2 (fun h => ?_) (fun h => iteF ⟨Same.trans s1 (same_new ht), _, _, rfl⟩)⟩
    have h0 : 0 < i := by
      have := of_decide_eq_true h
      omega
    have hi2 : i < ms.length := by
      rw [List.length_map] at hi
      exact hi
    have hj : (ms.map V.int)[i - 1]? = some (.int (ms[i - 1]'(by omega))) := by
      rw [List.getElem?_map, List.getElem?_eq_getElem (by omega)]
      rfl
    have hlt : ms[i - 1]'(by omega) < m := by
      have e : ms[i] = m := by
        rw [List.getElem?_eq_getElem hi2] at hm
        exact Option.some.inj hm
      rw [← e]
      exact List.pairwise_iff_getElem.mp hs _ _ (by omega) hi2 (by omega)
    refine ⟨_, rfl, _, rfl, _, rfl, _, _, rfl, rfl, _, _, _, _, rfl, rfl, SqT.of hp2, by rw [show ((i : Int) - 1) = ((i - 1 : Nat) : Int) by omega]; exact atI_nat hj, _, _, rfl, rfl, _, rfl, ?_⟩
    refine ite2 (fun h => ?_) (fun _ => ⟨Same.trans s1 (same_new ht), _, _, rfl⟩)
    have := of_decide_eq_true h
    omega
  · rintro σ H1 ⟨s1, x1, y1, rfl⟩
    refine ⟨_, rfl, _, rfl, _, _, _, _, rfl, s1 _ _ ha, T.cl_Looks, T.no_Looks_moments, (by first | decide | exact lt_put (by decide) | exact (by decide : (1 : Nat) < 1000) | exact (by decide : (2 : Nat) < 1000) | exact (by decide : (3 : Nat) < 1000)), ?_⟩
    generalize hH : upd H1 a (.ins aLooks dx (putF "moments" (.ref p) [])) = H3
    have hap : p ≠ a := ne_of hp ha (by intro z; cases z)
    have sb : SameB a H H3 := by
      rw [← hH]
      exact (SameB.of s1).trans .upd
    have ha3 : H3 a = some (.ins aLooks dx (putF "moments" (.ref p) [])) := by
      rw [← hH]
      exact upd_same
    have hp3 := sb _ _ hap hp
    refine ⟨_, rfl, _, rfl, _, rfl, ?_⟩
    unfold tNoPart
    refine rSlA_any (SqT.of hp3) fun b H4 s4 hb => ⟨_, _, _, _, rfl, .inr ⟨SqT.of (s4 _ _ hp3), hb, fun D hD => ?_⟩⟩
    refine lc_all (walk_zipT (K := K) (ys := cutV (ms.map V.int) (some 1) none) rfl) aStore (fun i v _ => ∃ m, v = V.int m) ?_ hD (fun _ _ _ _ _ h => h) (fun H5 s5 => ⟨SqT.of (s5 _ _ (s4 _ _ hp3)), hb.same s5⟩) ?_ mono_pair ?_
    · rw [List.length_map]
      have : 5000 ≤ sizeLine := by decide
      omega
    · rintro i x H5 H6 P hi s5 ⟨t, u, v, rfl, ht, rfl, h1, h2⟩ hP
      obtain ⟨m, -, rfl⟩ := get_map h1
      obtain ⟨m2, -, rfl⟩ := List.mem_map.mp (mem_cut h2)
      exact ⟨_, _, rfl, SqT.of upd_same, rfl, _, _, rfl, _, _, rfl, rfl, rfl, _, rfl, _, rfl, _, _, rfl, rfl, hP _ _ (same_new ht) ⟨_, rfl⟩⟩
    · intro H5 l s5 hl pr
      refine ⟨D, l, rfl, SqL.of hl, fun c o hc ho => ?_⟩
      have s6 : Same H3 (upd H5 c (.frz o (.tup l))) := (s4.trans s5).trans (same_new hc)
      refine ⟨_, rfl, _, _, _, _, rfl, s6 _ _ ha3, T.cl_Looks, T.no_Looks_lengths, (by first | decide | exact lt_put (by decide) | exact (by decide : (1 : Nat) < 1000) | exact (by decide : (2 : Nat) < 1000) | exact (by decide : (3 : Nat) < 1000)), ?_⟩
      refine q _ ((sb.trans (SameB.of s6)).trans .upd) ⟨dx, p, c, upd_same, ?_⟩
      rw [upd_ne hap]
      exact s6 _ _ hp3

def sp_LooksS : Sp := fun vs H Q _ => ∃ a dx ms, vs = .ref a :: ms.map V.int ∧ H a = some (.ins aLooks dx []) ∧ Rise ms ∧ ms.length ≤ 5000 ∧ ∀ H', SameB a H H' → IsLooks H' a ms → Q .non H'
theorem line5000 : 5000 ≤ sizeLine := by decide
theorem Looks_init_ok (T : Txt K mg) : FnR P w K mg base CX0 4 f_Looks_init sp_LooksS := by
  refine (fr_star (ps := ["self"]) (pv := "moments") (N := N_Looks_init) T.fd_Looks_init sc_Looks_init (fun _ _ _ _ _ _ us rest h => match us, rest, h with | [_], [], _ => rfl | [_], _ :: _, _ => rfl) (Looks_init_body T)).imp fun vs H Q E h => ?_
  obtain ⟨a, dx, ms, rfl, ha, hs, hz, q⟩ := h
  have := line5000
  refine ⟨[.ref a], ms.map V.int, rfl, rfl, by rw [List.length_map]; omega, fun p hp => ⟨a, dx, p, ms, rfl, same_new hp _ _ ha, upd_same, hs, hz, fun H' sb il => q H' ((SameB.of (same_new hp)).trans sb) il⟩⟩
/-! ### Series -/
/-- moment, over, under -/
abbrev Pt := Int × Int × Int
/-- a pair of a moment and a number -/
def IsPt (H : Hp) (p : Pt) (v : V) : Prop := ∃ a u, v = .ref a ∧ H a = some (.tup [.int p.1, u]) ∧ IsNum H u p.2.1 p.2.2
/-- a pair of a moment and a Ratio -/
def IsPq (H : Hp) (p : Pt) (v : V) : Prop := ∃ a b, v = .ref a ∧ H a = some (.tup [.int p.1, .ref b]) ∧ IsQ H b p.2.1 p.2.2
theorem IsPt.kp {S : Addr} {H H' : Hp} {p : Pt} {v : V} (h : IsPt H p v) (s : Kp S H H') (hS : aRatio ≠ S := by decide) : IsPt H' p v := by
  obtain ⟨a, u, e, h1, h2⟩ := h
  exact ⟨a, u, e, s _ _ trivial h1, h2.kp s hS⟩
theorem IsPq.kp {S : Addr} {H H' : Hp} {p : Pt} {v : V} (h : IsPq H p v) (s : Kp S H H') (hS : aRatio ≠ S := by decide) : IsPq H' p v := by
  obtain ⟨a, u, e, h1, h2⟩ := h
  exact ⟨a, u, e, s _ _ trivial h1, h2.kp s hS⟩
theorem Pqs.kp {S : Addr} {H H' : Hp} {ps : List Pt} {xs : List V} (h : Paired (IsPq H) ps xs) (s : Kp S H H') (hS : aRatio ≠ S := by decide) : Paired (IsPq H') ps xs := h.mono fun _ _ h => h.kp s hS
theorem same_mk {H H' : Hp} {x dx : Addr} {o u : HO} (nx : H x = none) (nd : H dx = none) (s : SameB x (upd (upd H dx o) x u) H') : Same H H' := fun b v e => by
  refine s b v (ne_of_none e nx) ?_
  rw [upd_ne (ne_of_none e nx), upd_ne (ne_of_none e nd)]
  exact e
theorem IsPq.pt {H : Hp} {p : Pt} {v : V} (h : IsPq H p v) : IsPt H p v := by
  obtain ⟨a, u, e, h1, h2⟩ := h
  exact ⟨a, _, e, h1, .inr ⟨u, rfl, h2⟩⟩
abbrev Pts (H : Hp) (ps : List Pt) (xs : List V) : Prop := Paired (IsPt H) ps xs
abbrev Pqs (H : Hp) (ps : List Pt) (xs : List V) : Prop := Paired (IsPq H) ps xs
/-- numbers that are let -/
def OkPt (p : Pt) : Prop := 0 ≤ p.2.1 ∧ p.2.1.natAbs < 2 ^ 1900 ∧ p.2.2.natAbs < 2 ^ 1900
def moms (ps : List Pt) : List Int := ps.map (·.1)
def IsSer (H : Hp) (a : Addr) (ps : List Pt) : Prop := ∃ dx pt lk rd ys, H a = some (.ins aSeries dx [("points", .ref pt), ("looks", .ref lk), ("readings", .ref rd)]) ∧ FzT H pt ys ∧ Pqs H ps ys ∧ IsLooks H lk (moms ps)
theorem FzT.kp {S : Addr} {H H' : Hp} {a : Addr} {xs : List V} (h : FzT H a xs) (s : Kp S H H') : FzT H' a xs := by
  obtain ⟨o, h1, h2⟩ := h
  exact ⟨o, s _ _ trivial h1, h2⟩
theorem IsSer.kp {H H' : Hp} {a : Addr} {ps : List Pt} (h : IsSer H a ps) (s : KpS H H') : IsSer H' a ps := by
  obtain ⟨dx, pt, lk, rd, ys, h1, h2, h3, h4⟩ := h
  exact ⟨dx, pt, lk, rd, ys, s _ _ (by show aSeries ≠ aStore; decide) h1, h2.kp s, h3.mono fun _ _ h => h.kp s, h4.kp s⟩
theorem paired_at {α β : Type} {F : α → β → Prop} {y : β} : ∀ (i : Nat) {l1 : List α} {l2 : List β}, Paired F l1 l2 → l2[i]? = some y → ∃ x, l1[i]? = some x ∧ F x y := by
  intro i
  induction i with
  | zero =>
    intro l1 l2 p h
    cases p with
    | nil => cases h
    | cons f r =>
      cases h
      exact ⟨_, rfl, f⟩
  | succ n ih =>
    intro l1 l2 p h
    cases p with
    | nil => cases h
    | cons f r => exact ih r h
theorem paired_at1 {α β : Type} {F : α → β → Prop} {x : α} : ∀ (i : Nat) {l1 : List α} {l2 : List β}, Paired F l1 l2 → l1[i]? = some x → ∃ y, l2[i]? = some y ∧ F x y := by
  intro i
  induction i with
  | zero =>
    intro l1 l2 p h
    cases p with
    | nil => cases h
    | cons f r =>
      cases h
      exact ⟨_, rfl, f⟩
  | succ n ih =>
    intro l1 l2 p h
    cases p with
    | nil => cases h
    | cons f r => exact ih r h
/-- by places: what a comprehension gives -/
theorem paired_of {α : Type} {F : α → V → Prop} : ∀ {ps : List α} {l : List V}, Paired (fun i v => ∃ p, ps[i]? = some p ∧ F p v) (List.range ps.length) l → Paired F ps l := by
  intro ps
  suffices h : ∀ (k : Nat) (l : List V), Paired (fun (i : Nat) v => ∃ p, ps[i]? = some p ∧ F p v) (List.range' k (ps.length - k)) l → Paired F (ps.drop k) l by
    intro l pr
    have := h 0 l (by rw [Nat.sub_zero, ← List.range_eq_range']; exact pr)
    rw [List.drop_zero] at this
    exact this
  intro k
  generalize hn : ps.length - k = n
  induction n generalizing k with
  | zero =>
    intro l pr
    rw [List.drop_eq_nil_of_le (by omega)]
    cases pr
    exact .nil
  | succ n ih =>
    intro l pr
    rw [List.range'_succ] at pr
    cases pr with
    | cons f r =>
      obtain ⟨p, h1, h2⟩ := f
      have hk : k < ps.length := by omega
      rw [List.drop_eq_getElem_cons hk]
      have e : ps[k] = p := by
        rw [List.getElem?_eq_getElem hk] at h1
        exact Option.some.inj h1
      rw [e]
      exact .cons h2 (ih (k + 1) (by omega) _ r)
theorem paired_moms : ∀ {ps : List Pt} {l : List V}, Paired (fun (p : Pt) v => v = V.int p.1) ps l → l = (moms ps).map V.int := by
  intro ps
  induction ps with
  | nil =>
    intro l p
    cases p
    rfl
  | cons a t ih =>
    intro l p
    cases p with
    | cons h r => rw [h, ih r]; rfl
def sp_Series_init : Sp := fun vs H Q _ => ∃ a dx p xs ps, vs = [.ref a, .ref p] ∧ H a = some (.ins aSeries dx []) ∧ H p = some (.tup xs) ∧ Pts H ps xs ∧ Rise (moms ps) ∧ ps.length ≤ 5000 ∧ (∀ p ∈ ps, OkPt p) ∧ ∀ H', SameB a H H' → IsSer H' a ps → Q .non H'
theorem sc_Series_init : FnScope N_Series_init P_Series_init (defScope s_Series_init) := ⟨rfl, rfl, rfl, by decide +kernel, rfl, by decide +kernel, by decide +kernel⟩
theorem Series_init_body (T : Txt K mg) (cdv : Value) (A : Around) (outer : List Env) (s : Shared) (H : Hp) (vs : List V) (Q : VK) (E : XK) (hr : Room 9 (A.deeper (envOfC "Series.__init__" (defScope s_Series_init) s.heap.objs.size f_Series_init cdv))) (hsp : sp_Series_init vs H Q E) :
    ∃ t, PSs (cxOf CX0 P w K mg base N_Series_init "Series.__init__" (defScope s_Series_init) f_Series_init cdv A outer s H E).nox (defBody s_Series_init) t ∧ t { nx := fun _ H' => Q .non H', rt := Q } (start N_Series_init vs) H := by
  obtain ⟨a, dx, p, xs, ps, rfl, ha, hp, hx, hs, hz, hok, q⟩ := hsp
  have nd := sc_Series_init.nd
  have hlen : xs.length = ps.length := hx.length.symm
  refine ⟨_, (pss_cons (ps_if (pt_cmpR op_gt (pe_callB call_len_seq (by rfl) T.n_len (by decide +kernel) (pa_cons (pv 1) pa_nil)) (pe_glob (v := .int 5000) rfl T.g_MOST_POINTS.choose_spec ⟨_, rfl⟩) (nomark _)) (pss_one ps_never) pss_nil) (pss_cons (ps_for PassesOwn.never rfl (pi_enumT (by rfl) T.n_enumerate (pa_cons (pv 1) pa_nil)) (pg_tup rfl (pgs_cons (pg_name (i := 2) nd rfl (by first | exact Or.inl rfl | exact Or.inr rfl)) (pgs_cons (pg_name (i := 3) nd rfl (by first | exact Or.inl rfl | exact Or.inr rfl)) pgs_nil))) (pss_one (ps_if (PW.pt (pw_or (pt_not (pt_val (pe_callR (is_point_ok T) (hr.mono (by decide)) rfl T.g_is_point T.k_is_point pass0 (pa_cons (pv 3) pa_nil)))) (pw_or1 (PW.pt (pw_and (pt_cmpR op_gt (pv 2) pe_int (nomark _)) (pw_and1 (pt_cmpR op_le (pe_ix ix_tup (pv 3) pe_int (fun _ _ => rfl)) (pe_ix ix_tup (pe_ix ix_tup (pv 1) (pe_op op_sub (pv 2) pe_int) (fun _ _ => rfl)) pe_int (fun _ _ => rfl)) (nomark _)))))))) (pss_one ps_never) pss_nil))) (pss_cons (ps_fld (pv 0) (pe_callTy call_tupleF (by rfl) T.n_tuple (by decide +kernel) (pa_cons (pe_lc (own := [("moment", 5), ("value", 6)]) (g := (gTup K 2 (gCons (gName 5) (gCons (gName 6) gNil)))) (tt := tYes) (by rfl) nd (pi_tup (pv 1)) (blkOk_by (own := [("moment", 5), ("value", 6)]) (N := N_Series_init) (sc := defScope s_Series_init) (by decide +kernel)) (fun _ _ _ _ _ => (pg_tup rfl (pgs_cons (pg_name (i := 5) nd rfl (Or.inl rfl)) (pgs_cons (pg_name (i := 6) nd rfl (Or.inl rfl)) pgs_nil)))) (fun _ _ _ _ _ => pts_nil) (fun _ _ _ _ _ => (pe_tup (pa_cons (pv 5) (pa_cons (pe_smeth (pe_glob rfl T.g_Ratio (v := .ref aRatio) rfl) T.rd_Ratio T.sm_Ratio_of (Ratio_of_ok T) (hr.mono (by decide)) T.k_Ratio_of pass0 (pa_cons (pv 6) pa_nil)) pa_nil))))) pa_nil)) rfl) (pss_cons (ps_setLc (i := 4) (own := [("moment", 5), ("value", 6)]) (g := (gTup K 2 (gCons (gName 5) (gCons (gName 6) gNil)))) (tt := tYes) (by rfl) nd rfl rfl (sw_true rfl rfl rfl (by decide +kernel)) (pi_tup (pv 1)) (blkOk_by (own := [("moment", 5), ("value", 6)]) (N := N_Series_init) (sc := defScope s_Series_init) (by decide +kernel)) (fun _ _ _ _ _ => (pg_tup rfl (pgs_cons (pg_name (i := 5) nd rfl (Or.inl rfl)) (pgs_cons (pg_name (i := 6) nd rfl (Or.inl rfl)) pgs_nil)))) (fun _ _ _ _ _ => pts_nil) (fun _ _ _ _ _ => (pv 5))) (pss_cons (ps_fld (pv 0) (pe_makeS T.mk_Looks (Looks_init_ok T) (hr.mono (by decide)) rfl T.g_Looks pass0 (pv 4)) rfl) (pss_one (ps_fld (pv 0) (pe_callTy call_tupleF (by rfl) T.n_tuple (by decide +kernel) (pa_cons (pe_lc (own := [("moment", 5), ("value", 6)]) (g := (gTup K 2 (gCons (gName 5) (gCons (gName 6) gNil)))) (tt := tYes) (by rfl) nd (pi_tup (pe_fld (pv 0) rfl)) (blkOk_by (own := [("moment", 5), ("value", 6)]) (N := N_Series_init) (sc := defScope s_Series_init) (by decide +kernel)) (fun _ _ _ _ _ => (pg_tup rfl (pgs_cons (pg_name (i := 5) nd rfl (Or.inl rfl)) (pgs_cons (pg_name (i := 6) nd rfl (Or.inl rfl)) pgs_nil)))) (fun _ _ _ _ _ => pts_nil) (fun _ _ _ _ _ => (pv 6))) pa_nil)) rfl))))))), ?_⟩
  refine ⟨_, rfl, _, _, rfl, .inr (SqT.of hp), _, _, rfl, rfl, _, rfl, ite2 (fun h => ?_) (fun h => ?_)⟩
  · have := of_decide_eq_true h
    omega
  refine ⟨_, rfl, _, _, rfl, SqT.of hp, ?_⟩
  refine for_it walk_enumT (fun i σ H' => Same H H' ∧ ∃ x y, σ = [some (.ref a), some (.ref p), x, y, none, none, none]) ⟨Same.refl H, _, _, rfl⟩ (fun i σ H' _ h => SqT.of (h.1 _ _ hp)) ?_ ?_
  · rintro i x σ H1 H2 hi ⟨s1, x1, y1, rfl⟩ ⟨t, u, v, rfl, ht, rfl, h1, h2⟩
    cases h1
    have s2 : Same H (upd H1 t (.tup [.int (i : Nat), v])) := s1.trans (same_new ht)
    obtain ⟨pt, hpt, pa, pu, rfl, hpa, hpu⟩ := paired_at _ hx h2
    have hpt2 : pt ∈ ps := List.mem_of_getElem? hpt
    obtain ⟨o1, o2, o3⟩ := hok pt hpt2
    refine ⟨_, _, rfl, SqT.of upd_same, rfl, _, _, rfl, _, _, rfl, rfl, ?_⟩
    refine ⟨_, rfl, _, _, _, _, _, rfl, s2 _ _ hpa, hpu.kp (Kp.of (S := aStore) s2), o1, o2, o3, fun H3 s3 => ⟨_, rfl, iteF ?_⟩⟩
    have s4 : Same H H3 := s2.trans s3
    refine ⟨_, rfl, _, _, rfl, rfl, _, rfl, ite2 (fun h => ?_) (fun h => iteF ⟨s4, _, _, rfl⟩)⟩
    have h0 : 0 < i := by
      have := of_decide_eq_true h
      omega
    have hi2 : i < ps.length := by omega
    obtain ⟨pp, hpp⟩ : ∃ pp, ps[i - 1]? = some pp := ⟨_, List.getElem?_eq_getElem (by omega)⟩
    obtain ⟨w, hw, qa, qu, rfl, hqa, hqu⟩ := paired_at1 _ hx hpp
    have hlt : pp.1 < pt.1 := by
      have e1 : (moms ps)[i - 1]? = some pp.1 := by
        unfold moms
        rw [List.getElem?_map, hpp]
        rfl
      have e2 : (moms ps)[i]? = some pt.1 := by
        unfold moms
        rw [List.getElem?_map, hpt]
        rfl
      obtain ⟨k1, e1⟩ := List.getElem?_eq_some_iff.mp e1
      obtain ⟨k2, e2⟩ := List.getElem?_eq_some_iff.mp e2
      have := List.pairwise_iff_getElem.mp hs _ _ k1 k2 (by omega)
      rw [e1, e2] at this
      exact this
    refine ⟨_, rfl, _, _, _, _, rfl, rfl, SqT.of (s4 _ _ hpa), atI_nat rfl, _, rfl, _, rfl, _, _, rfl, rfl, _, _, _, _, rfl, rfl, SqT.of (s4 _ _ hp), by rw [show ((i : Int) - 1) = ((i - 1 : Nat) : Int) by omega]; exact atI_nat hw, _, _, _, _, rfl, rfl, SqT.of (s4 _ _ hqa), atI_nat rfl, _, _, rfl, rfl, _, rfl, ?_⟩
    refine ite2 (fun h => ?_) (fun _ => ⟨s4, _, _, rfl⟩)
    have := of_decide_eq_true h
    omega
  · rintro σ H1 ⟨s1, x1, y1, rfl⟩
    have hp1 := s1 _ _ hp
    refine ⟨_, rfl, _, rfl, ⟨xs, SqT.of hp1⟩, fun D hD => ?_⟩
    refine lc_all (walk_tup (K := K) (xs := xs)) aStore (fun i v H => ∃ pt, ps[i]? = some pt ∧ IsPq H pt v) ?_ hD ?_ (fun H5 s5 => SqT.of (s5 _ _ hp1)) ?_ mono_pair ?_
    · have := line5000
      omega
    · rintro i v H H' kp ⟨pt, h1, h2⟩
      exact ⟨pt, h1, h2.kp kp⟩
    · rintro i x H5 H6 P hi s5 ⟨rfl, h1⟩ hP
      obtain ⟨pt, hpt, pa, pu, rfl, hpa, hpu⟩ := paired_at _ hx h1
      have s6 : Same H H6 := s1.trans s5
      refine ⟨_, _, rfl, SqT.of (s6 _ _ hpa), rfl, _, _, rfl, _, _, rfl, rfl, rfl, _, rfl, rfl, _, rfl, _, _, _, rfl, hpu.kp (Kp.of (S := aStore) s6), fun H7 b s7 hb => ⟨by show 2 ≤ sizeLine; decide, fun t ht => ?_⟩⟩
      exact hP _ _ (s7.trans (same_new ht)) ⟨pt, hpt, t, b, rfl, upd_same, hb.same (same_new ht)⟩
    · intro H5 l s5 hl pr
      have hpq : Pqs H5 ps l := paired_of (by rw [hlen] at pr; exact pr)
      refine ⟨D, l, rfl, SqL.of hl, fun c o hc ho => ?_⟩
      have s6 : Same H (upd H5 c (.frz o (.tup l))) := (s1.trans s5).trans (same_new hc)
      refine ⟨_, rfl, _, _, _, _, rfl, s6 _ _ ha, T.cl_Series, T.no_Series_points, (by first | decide | exact lt_put (by decide) | exact (by decide : (1 : Nat) < 1000) | exact (by decide : (2 : Nat) < 1000) | exact (by decide : (3 : Nat) < 1000)), ?_⟩
      generalize hHA : upd (upd H5 c (.frz o (.tup l))) a (.ins aSeries dx (putF "points" (.ref c) [])) = HA
      have nca : c ≠ a := fun z => by
        rw [z] at hc
        rw [(s1.trans s5) _ _ ha] at hc
        cases hc
      have npa : p ≠ a := ne_of hp ha (by intro z; cases z)
      have sbA : SameB a H HA := by
        rw [← hHA]
        exact (SameB.of s6).trans .upd
      have kpA : Kp aSeries H HA := sbA.kp ha (fun z => z rfl)
      have haA : HA a = some (.ins aSeries dx (putF "points" (.ref c) [])) := by
        rw [← hHA]
        exact upd_same
      have hcA : FzT HA c l := by
        rw [← hHA]
        exact ⟨o, by rw [upd_ne nca, upd_same], ho⟩
      have hpA := sbA _ _ npa hp
      have hqA : Pqs HA ps l := by
        refine Pqs.kp hpq (S := aSeries) ?_
        rw [← hHA]
        exact (Kp.new hc).trans (.upd (s6 _ _ ha) (fun z => z rfl))
      refine ⟨_, rfl, _, rfl, ⟨xs, SqT.of hpA⟩, fun D2 hD2 => ?_⟩
      refine lc_all (walk_tup (K := K) (xs := xs)) aStore (fun i v _ => ∃ pt, ps[i]? = some pt ∧ v = .int pt.1) (by rw [hlen]; exact Nat.le_trans hz line5000) hD2 (fun _ _ _ _ _ h => h) (fun H6 s6 => SqT.of (s6 _ _ hpA)) ?_ mono_pair ?_
      · rintro i x H6 H7 P hi s7 ⟨rfl, h1⟩ hP
        obtain ⟨pt, hpt, pa, pu, rfl, hpa, hpu⟩ := paired_at _ hx h1
        have h2 := s7 _ _ (kpA _ (.tup _) trivial hpa)
        exact ⟨_, _, rfl, SqT.of h2, rfl, _, _, rfl, _, _, rfl, rfl, rfl, _, rfl, hP _ _ (Same.refl _) ⟨pt, hpt, rfl⟩⟩
      intro H7 l2 s7 hl2 pr2
      have el2 : l2 = (moms ps).map V.int := by
        exact paired_moms (paired_of (by rw [hlen] at pr2; exact pr2))
      refine ⟨_, rfl, _, _, rfl, .inr (SqL.of hl2), fun x dx2 nx ndx ne => ⟨x, dx2, moms ps, by rw [el2], upd_same, hs, by unfold moms; rw [List.length_map]; exact hz, fun H8 sb8 il => ⟨rfl, ?_⟩⟩⟩
      have s8 : Same HA H8 := s7.trans (same_mk nx ndx sb8)
      refine ⟨_, rfl, _, _, _, _, rfl, s8 _ _ haA, T.cl_Series, T.no_Series_looks, (by first | decide | exact lt_put (by decide) | exact (by decide : (1 : Nat) < 1000) | exact (by decide : (2 : Nat) < 1000) | exact (by decide : (3 : Nat) < 1000)), ?_⟩
      generalize hHB : upd H8 a (.ins aSeries dx (putF "looks" (.ref x) (putF "points" (.ref c) []))) = HB
      have kpB : Kp aSeries H8 HB := by
        rw [← hHB]
        exact .upd (s8 _ _ haA) (fun z => z rfl)
      have haB : HB a = some (.ins aSeries dx [("points", .ref c), ("looks", .ref x)]) := by
        rw [← hHB]
        exact upd_same
      have hcB : FzT HB c l := (hcA.kp (Kp.of (S := aStore) s8)).kp kpB
      have hqB : Pqs HB ps l := Pqs.kp (Pqs.kp hqA (Kp.of (S := aStore) s8)) kpB
      refine ⟨_, rfl, _, _, _, _, _, rfl, haB, T.cl_Series, T.no_Series_points, rfl, _, rfl, ⟨l, hcB.sq⟩, fun D3 hD3 => ?_⟩
      refine lc_all (walk_tup (K := K) (xs := l)) aStore (fun i v _ => True) (by rw [← hpq.length]; exact Nat.le_trans hz line5000) hD3 (fun _ _ _ _ _ h => h) (fun H6 s6 => hcB.sq.same s6) ?_ mono_pair ?_
      · rintro i x H9 H10 P hi s9 ⟨rfl, h1⟩ hP
        obtain ⟨pt, hpt, pa, pu, rfl, hpa, hpu⟩ := paired_at _ hqB h1
        exact ⟨_, _, rfl, SqT.of (s9 _ _ hpa), rfl, _, _, rfl, _, _, rfl, rfl, rfl, _, rfl, hP _ _ (Same.refl _) trivial⟩
      intro H9 l3 s9 hl3 pr3
      refine ⟨D3, l3, rfl, SqL.of hl3, fun c2 o2 hc2 ho2 => ?_⟩
      have s10 : Same HB (upd H9 c2 (.frz o2 (.tup l3))) := s9.trans (same_new hc2)
      refine ⟨_, rfl, _, _, _, _, rfl, s10 _ _ haB, T.cl_Series, T.no_Series_readings, (by first | decide | exact lt_put (by decide) | exact (by decide : (1 : Nat) < 1000) | exact (by decide : (2 : Nat) < 1000) | exact (by decide : (3 : Nat) < 1000)), ?_⟩
      have kpC : Kp aSeries HB (upd (upd H9 c2 (.frz o2 (.tup l3))) a (.ins aSeries dx (putF "readings" (.ref c2) [("points", .ref c), ("looks", .ref x)]))) := (Kp.of s10).trans (.upd (s10 _ _ haB) (fun z => z rfl))
      refine q _ ?_ ⟨dx, c, x, c2, l, upd_same, hcB.kp kpC, Pqs.kp hqB kpC, (il.kp kpB).kp kpC⟩
      refine (((sbA.trans (SameB.of s8)).trans ?_).trans (SameB.of s10)).trans .upd
      rw [← hHB]
      exact .upd

theorem Pts.kp {S : Addr} {H H' : Hp} {ps : List Pt} {xs : List V} (h : Paired (IsPt H) ps xs) (s : Kp S H H') (hS : aRatio ≠ S := by decide) : Paired (IsPt H') ps xs := h.mono fun _ _ h => h.kp s hS
theorem Pqs.pts {H : Hp} {ps : List Pt} {xs : List V} (h : Paired (IsPq H) ps xs) : Paired (IsPt H) ps xs := h.mono fun _ _ h => h.pt
def sp_SeriesS : Sp := fun vs H Q _ => ∃ a dx xs ps, vs = .ref a :: xs ∧ H a = some (.ins aSeries dx []) ∧ Pts H ps xs ∧ Rise (moms ps) ∧ ps.length ≤ 5000 ∧ (∀ p ∈ ps, OkPt p) ∧ ∀ H', SameB a H H' → IsSer H' a ps → Q .non H'
theorem Series_init_ok (T : Txt K mg) : FnR P w K mg base CX0 10 f_Series_init sp_SeriesS := by
  refine (fr_star (ps := ["self"]) (pv := "points") (N := N_Series_init) T.fd_Series_init sc_Series_init (fun _ _ _ _ _ _ us rest h => match us, rest, h with | [_], [], _ => rfl | [_], _ :: _, _ => rfl) (Series_init_body T)).imp fun vs H Q E h => ?_
  obtain ⟨a, dx, xs, ps, rfl, ha, hx, hs, hz, hok, q⟩ := h
  have := line5000
  refine ⟨[.ref a], xs, rfl, rfl, by rw [← hx.length]; omega, fun p hp => ⟨a, dx, p, xs, ps, rfl, same_new hp _ _ ha, upd_same, Pts.kp hx (Kp.of (S := aStore) (same_new hp)), hs, hz, hok, fun H' sb il => q H' ((SameB.of (same_new hp)).trans sb) il⟩⟩
def sp_Series_len : Sp := fun vs H Q _ => ∃ a ps, vs = [.ref a] ∧ IsSer H a ps ∧ Q (.int (ps.length : Nat)) H
theorem sc_Series_len : FnScope N_Series_len P_Series_len (defScope s_Series_len) := ⟨rfl, rfl, rfl, by decide +kernel, rfl, by decide +kernel, by decide +kernel⟩
theorem Series_len_ok (T : Txt K mg) : FnR P w K mg base CX0 1 f_Series_len sp_Series_len := by
  refine fr_mk (ps := P_Series_len) (N := N_Series_len) T.fd_Series_len sc_Series_len (fun _ _ _ _ _ _ us h => match us, h with | [_], _ => rfl) ?_ ?_
  · rintro vs H Q E ⟨a, ps, rfl, _⟩
    rfl
  · rintro cdv A outer s H vs Q E hr ⟨a, ps, rfl, ⟨dx, pt, lk, rd, ys, h1, h2, h3, h4⟩, q⟩
    have nd := sc_Series_len.nd
    refine ⟨_, (pss_one (ps_ret (pe_callB call_len_seq (by rfl) T.n_len (by decide +kernel) (pa_cons (pe_fld (pv 0) rfl) pa_nil)))), ?_⟩
    rw [h3.length] at q
    exact ⟨_, rfl, _, _, _, _, _, rfl, h1, T.cl_Series, T.no_Series_points, rfl, _, _, rfl, .inr h2.sq, q⟩
/-! ### a dict of points -/
/-- the dict's entries: moment -> Ratio -/
def PtD (H : Hp) (kvs : List (Key × V)) (ps : List Pt) : Prop := Paired (fun (p : Pt) (kv : Key × V) => kv.1 = .inl p.1 ∧ ∃ b, kv.2 = .ref b ∧ IsQ H b p.2.1 p.2.2) ps kvs
/-- latest: the last of the points -/
def lastN (l : Nat) (ps : List Pt) : List Pt := ps.drop (ps.length - l)
def sp_latest (K : PySem.W.Frag) : Sp := fun vs H Q _ => ∃ (p : Addr) (xs : List V) (ps : List Pt) (l : Nat), vs = [.ref p, .int l] ∧ (SqL K H p xs ∨ SqT K H p xs) ∧ Pts H ps xs ∧ Rise (moms ps) ∧ 0 < l ∧ l ≤ 5000 ∧ (∀ p ∈ ps, OkPt p) ∧ ∀ H' a, Same H H' → IsSer H' a (lastN l ps) → Q (.ref a) H'
theorem cut_last {xs : List V} {l : Nat} (h : 0 < l) : cutV xs (some (-(l : Int))) none = xs.drop (xs.length - l) := by
  have h2 : HT.sIx xs.length 0 (some (-(l : Int))) = xs.length - l := by
    show (if (-(l : Int)) < 0 then (-(l : Int) + (xs.length : Int)).toNat else _) = _
    rw [if_pos (by omega)]
    omega
  unfold cutV
  rw [h2, HT.sIx_none, List.take_of_length_le]
  rw [List.length_drop]
  exact Nat.le_refl _
theorem Paired.drop {α β : Type} {F : α → β → Prop} : ∀ (n : Nat) {l1 : List α} {l2 : List β}, Paired F l1 l2 → Paired F (l1.drop n) (l2.drop n) := by
  intro n
  induction n with
  | zero => intro l1 l2 p; exact p
  | succ n ih =>
    intro l1 l2 p
    cases p with
    | nil => exact .nil
    | cons f r => exact ih r
theorem sc_latest : FnScope N_latest P_latest (defScope s_latest) := ⟨rfl, rfl, rfl, by decide +kernel, rfl, by decide +kernel, by decide +kernel⟩
theorem latest_ok (T : Txt K mg) : FnR P w K mg base CX0 12 f_latest (sp_latest K) := by
  refine fr_mk (ps := P_latest) (N := N_latest) T.fd_latest sc_latest (fun _ _ _ _ _ _ us h => match us, h with | [_, _], _ => rfl) ?_ ?_
  · rintro vs H Q E ⟨p, xs, ps, l, rfl, _⟩
    rfl
  · rintro cdv A outer s H vs Q E hr ⟨p, xs, ps, l, rfl, hp, hx, hs, h0, hl, hok, q⟩
    have nd := sc_latest.nd
    refine ⟨_, (pss_cons (ps_set (i := 2) nd rfl (by first | exact Or.inl rfl | exact Or.inr rfl) (pe_slice (SlR.or sl_list sl_tupA) (pv 0) (po_some (pe_un un_neg (pv 1))) po_none)) (pss_one (ps_ret (pe_makeS T.mk_Series (Series_init_ok T) (hr.mono (by decide)) rfl T.g_Series pass0 (pv 2))))), ?_⟩
    have key : ∀ H1 b, Same H H1 → (SqT K H1 b (cutV xs (some (-(l : Int))) none) ∨ SqL K H1 b (cutV xs (some (-(l : Int))) none)) → kMake aSeries sp_SeriesS E0 (cutV xs (some (-(l : Int))) none) H1 (fun v H' => Q v H') := by
      intro H1 b s1 hb x dx nx ndx ne
      rw [cut_last h0]
      have e : ps.length - l = xs.length - l := by rw [hx.length]
      refine ⟨x, dx, xs.drop (xs.length - l), lastN l ps, rfl, upd_same, ?_, ?_, ?_, ?_, ?_⟩
      · unfold lastN
        rw [e]
        exact Paired.drop _ (Pts.kp hx (Kp.of (S := aStore) (s1.trans (same_mk nx ndx (SameB.refl _ _)))))
      · unfold lastN moms
        rw [List.map_drop]
        exact hs.drop
      · unfold lastN
        rw [List.length_drop]
        omega
      · exact fun p hp => hok p (List.mem_of_mem_drop hp)
      · exact fun H' sb is => ⟨rfl, q H' x (s1.trans (same_mk nx ndx sb)) is⟩
    refine ⟨_, rfl, _, rfl, _, rfl, _, rfl, ?_⟩
    unfold tNoPart
    rcases hp with hp | hp
    · exact .inl ⟨_, _, rfl, hp, fun b hb => ⟨_, rfl, _, _, rfl, .inr (SqL.of upd_same), key _ b (same_new hb) (.inr (SqL.of upd_same))⟩⟩
    · exact .inr (rSlA_any hp fun b H1 s1 hb => ⟨_, rfl, _, _, rfl, .inl hb, key _ b s1 (.inl hb)⟩)
end G
set_option Elab.async false
set_option linter.all false
set_option maxRecDepth 100000
set_option maxHeartbeats 4000000
namespace G
open PySem PySem.Spec PyProof.Rows L2
variable {P : Program} {w : World} {K : PySem.W.Frag} {mg : Str → Option Value} {base : Heap}
/-! ### points_of -/
/-- the point at a moment -/
def ptOf : List Pt → Int → Pt
  | [], m => (m, 0, 1)
  | p :: r, m => if p.1 = m then p else ptOf r m
theorem ptOf_fst (m : Int) : ∀ ps : List Pt, (ptOf ps m).1 = m := by
  intro ps
  induction ps with
  | nil => rfl
  | cons p r ih =>
    unfold ptOf
    split
    · assumption
    · exact ih
theorem map_ptOf : ∀ {ps : List Pt}, (moms ps).Nodup → (moms ps).map (ptOf ps) = ps := by
  intro ps
  induction ps with
  | nil => intro _; rfl
  | cons p r ih =>
    intro h
    have h2 := List.nodup_cons.mp h
    have e : (moms r).map (ptOf (p :: r)) = (moms r).map (ptOf r) := by
      refine List.map_congr_left fun m hm => ?_
      show (if p.1 = m then p else ptOf r m) = ptOf r m
      rw [if_neg]
      intro z
      refine h2.1 ?_
      show p.1 ∈ moms r
      rw [z]
      exact hm
    show ptOf (p :: r) p.1 :: (moms r).map (ptOf (p :: r)) = p :: r
    rw [e, ih h2.2]
    show (if p.1 = p.1 then p else ptOf r p.1) :: r = p :: r
    rw [if_pos rfl]
theorem moms_ptOf (ps : List Pt) (ns : List Int) : moms (ns.map (ptOf ps)) = ns := by
  unfold moms
  rw [List.map_map]
  exact (List.map_congr_left fun m _ => ptOf_fst m ps).trans (List.map_id _)
theorem ptd_val {H : Hp} {m : Int} : ∀ {ps : List Pt} {kvs : List (Key × V)}, PtD H kvs ps → m ∈ moms ps → ∃ b, valV kvs (.inl m) = some (.ref b) ∧ IsQ H b (ptOf ps m).2.1 (ptOf ps m).2.2 := by
  intro ps
  induction ps with
  | nil => intro kvs h hm; cases hm
  | cons a t ih =>
    intro kvs h hm
    cases h with
    | @cons _ kv _ r f h =>
      obtain ⟨e, b, e2, hq⟩ := f
      unfold ptOf
      by_cases c : a.1 = m
      · rw [if_pos c]
        exact ⟨b, by rw [valV_pos (by rw [e, c]), e2], hq⟩
      · rw [if_neg c]
        have hm2 : m ∈ moms t := by
          rcases List.mem_cons.mp hm with z | z
          · exact absurd z.symm c
          · exact z
        obtain ⟨b2, h3, h4⟩ := ih h hm2
        refine ⟨b2, ?_, h4⟩
        rw [valV_neg (fun z => c ?_), h3]
        rw [e] at z
        exact Sum.inl.inj z
theorem rise_of {ns : List Int} (h : ns.Pairwise (· ≤ ·)) (n : ns.Nodup) : Rise ns := by
  have := h.and n
  exact this.imp fun h => by omega
theorem ptd_keys {H : Hp} : ∀ {ps : List Pt} {kvs : List (Key × V)}, PtD H kvs ps → kvs.map (fun kv => kV kv.1) = (moms ps).map V.int := by
  intro ps
  induction ps with
  | nil => intro kvs h; cases h; rfl
  | cons a t ih =>
    intro kvs h
    cases h with
    | cons f h =>
      rw [List.map_cons, ih h, f.1]
      rfl
theorem PtD.kp {S : Addr} {H H' : Hp} {kvs : List (Key × V)} {ps : List Pt} (h : PtD H kvs ps) (s : Kp S H H') (hS : aRatio ≠ S := by decide) : PtD H' kvs ps := h.mono fun _ _ ⟨e, b, e2, q⟩ => ⟨e, b, e2, q.kp s hS⟩
def sp_points_of : Sp := fun vs H Q _ => ∃ d kvs ps, vs = [.ref d] ∧ H d = some (.dK kvs) ∧ PtD H kvs ps ∧ (moms ps).Nodup ∧ ps.length ≤ sizeLine ∧
  ∀ H' p xs qs, Same H H' → H' p = some (.lst xs) → Pqs H' qs xs → qs.Perm ps → Rise (moms qs) → Q (.ref p) H'
theorem sc_points_of : FnScope N_points_of P_points_of (defScope s_points_of) := ⟨rfl, rfl, rfl, by decide +kernel, rfl, by decide +kernel, by decide +kernel⟩
theorem points_of_ok (T : Txt K mg) : FnR P w K mg base CX0 1 f_points_of sp_points_of := by
  refine fr_mk (ps := P_points_of) (N := N_points_of) T.fd_points_of sc_points_of (fun _ _ _ _ _ _ us h => match us, h with | [_], _ => rfl) ?_ ?_
  · rintro vs H Q E ⟨d, kvs, ps, rfl, _⟩
    rfl
  · rintro cdv A outer s H vs Q E hr ⟨d, kvs, ps, rfl, hd, hx, hn, hz, q⟩
    have nd := sc_points_of.nd
    refine ⟨_, (pss_one (ps_ret (pe_lc (own := [("moment", 1)]) (g := (gName 1)) (tt := tYes) (by rfl) nd (pi_list (pe_callB cr_sortedI (by rfl) T.n_sorted (by decide +kernel) (pa_cons (pe_lock (pe_lc (own := [("one", 2)]) (g := (gName 2)) (tt := tYes) (by rfl) nd (pi_keys (pv 0)) (blkOk_by (own := [("one", 2)]) (N := N_points_of) (sc := defScope s_points_of) (by decide +kernel)) (fun _ _ _ _ _ => (pg_name (i := 2) nd rfl (Or.inl rfl))) (fun _ _ _ _ _ => pts_nil) (fun _ _ _ _ _ => (pe_callTy call_int1 (by rfl) T.n_int (by decide +kernel) (pa_cons (pv 2) pa_nil))))) pa_nil))) (blkOk_by (own := [("moment", 1)]) (N := N_points_of) (sc := defScope s_points_of) (by decide +kernel)) (fun _ _ _ _ _ => (pg_name (i := 1) nd rfl (Or.inl rfl))) (fun _ _ _ _ _ => pts_nil) (fun _ _ _ _ _ => (pe_tup (pa_cons (pv 1) (pa_cons (pe_dget (hu_of hr) (pv 0) (pv 1) (fun _ _ => rfl)) pa_nil))))))), ?_⟩
    refine ⟨d, _, hd, trivial, fun od => ?_⟩
    have ne : ∀ b o, b ≠ d → H b = some o → upd H d (.frz od (.dK kvs)) b = some o := fun b o n e => by rw [upd_ne n]; exact e
    have hlen : kvs.length = ps.length := hx.length.symm
    refine ⟨_, rfl, _, od, rfl, .inl ⟨kvs, upd_same, fun D hD => ?_⟩⟩
    have nD : D ≠ d := fun z => by
      rw [z, upd_same] at hD
      cases hD
    refine lc_all (walk_keys (d := d) (o := od) (kvs := kvs)) aStore (fun i v _ => ∃ pt, ps[i]? = some pt ∧ v = .int pt.1) (by omega) hD (fun _ _ _ _ _ h => h) (fun H s => s _ _ upd_same) ?_ mono_name ?_
    · rintro i x H5 H6 P hi s5 ⟨rfl, k, v, hk, rfl⟩ hP
      obtain ⟨pt, hpt, e, b, e2, hq⟩ := paired_at _ hx hk
      have e : k = .inl pt.1 := e
      subst e
      exact ⟨rfl, _, rfl, .inl ⟨_, rfl, hP _ _ (Same.refl _) ⟨pt, hpt, rfl⟩⟩⟩
    intro H5 l s5 hl pr
    refine ⟨s5 _ _ upd_same, ?_⟩
    have el : l = (moms ps).map V.int := paired_moms (paired_of (by rw [hlen] at pr; exact pr))
    subst el
    generalize hHA : upd H5 d (.dK kvs) = HA
    have sA : Same H HA := by
      intro b o e
      rw [← hHA]
      by_cases z : b = d
      · subst z
        rw [upd_same]
        rw [hd] at e
        exact e
      · rw [upd_ne z]
        exact s5 _ _ (ne _ _ z e)
    have hdA : HA d = some (.dK kvs) := sA _ _ hd
    have hlA : HA D = some (.lst ((moms ps).map V.int)) := by
      rw [← hHA, upd_ne nD]
      exact hl
    have hxA : PtD HA kvs ps := hx.kp (Kp.of (S := aStore) sA)
    refine ⟨D, moms ps, rfl, SqL.of hlA, fun ns p perm srt hp => ⟨p, rfl, ⟨_, SqL.of upd_same⟩, fun D2 hD2 => ?_⟩⟩
    generalize hHB : upd HA p (.lst (ns.map V.int)) = HB at hD2 ⊢
    have sB : Same HA HB := by
      rw [← hHB]
      exact same_new hp
    have hpB : HB p = some (.lst (ns.map V.int)) := by
      rw [← hHB]
      exact upd_same
    have hdB := sB _ _ hdA
    have hxB : PtD HB kvs ps := hxA.kp (Kp.of (S := aStore) sB)
    have hns : (ns.map V.int).length ≤ sizeLine := by
      rw [List.length_map, perm.length_eq]
      unfold moms
      rw [List.length_map]
      exact hz
    refine lc_all (walk_list (K := K) (xs := ns.map V.int)) aStore (fun i v H => ∃ pt, (ns.map (ptOf ps))[i]? = some pt ∧ IsPq H pt v) hns hD2 ?_ (fun H s => SqL.of (s _ _ hpB)) ?_ mono_name ?_
    · rintro i v H H' kp ⟨pt, h1, h2⟩
      exact ⟨pt, h1, h2.kp kp⟩
    · rintro i x H6 H7 P hi s6 ⟨rfl, h1⟩ hP
      obtain ⟨m, hm, rfl⟩ := get_map h1
      have hmem : m ∈ moms ps := perm.mem_iff.mp (List.mem_of_getElem? hm)
      obtain ⟨b, hv, hq⟩ := ptd_val (hxB.kp (Kp.of (S := aStore) s6)) hmem
      have g := DGet.k (k := Sum.inl m) (s6 _ _ hdB)
      rw [hv] at g
      refine ⟨rfl, _, rfl, _, rfl, _, rfl, _, _, rfl, g, by show 2 ≤ sizeLine; decide, fun t ht => ?_⟩
      exact hP _ _ (same_new ht) ⟨ptOf ps m, by rw [List.getElem?_map, hm]; rfl, t, b, rfl, by rw [ptOf_fst]; exact upd_same, hq.same (same_new ht)⟩
    · intro H6 l s6 hl2 pr2
      refine q _ _ l (ns.map (ptOf ps)) ((sA.trans sB).trans s6) hl2 (paired_of (by rw [List.length_map] at pr2 ⊢; exact pr2)) ?_ ?_
      · have := perm.map (ptOf ps)
        rw [map_ptOf hn] at this
        exact this
      · rw [moms_ptOf]
        exact rise_of srt (perm.nodup_iff.mpr hn)
end G
set_option Elab.async false
set_option linter.all false
set_option maxRecDepth 100000
set_option maxHeartbeats 4000000
namespace G
open PySem PySem.Spec PyProof.Rows L2
variable {P : Program} {w : World} {K : PySem.W.Frag} {mg : Str → Option Value} {base : Heap}
/-! ### names -/
def NameOk (z : Str) : Prop := 1 ≤ z.length ∧ z.length ≤ 8 ∧ ∀ c ∈ z.cps.toList, c ∈ (("abcdefghijklmnopqrstuvwxyz" : Str)).cps.toList
def sp_is_name : Sp := fun vs H Q _ => ∃ z, vs = [.str z] ∧ NameOk z ∧ ∀ H', Same H H' → Q (.bl true) H'
theorem sc_is_name : FnScope N_is_name P_is_name (defScope s_is_name) := ⟨rfl, rfl, rfl, by decide +kernel, rfl, by decide +kernel, by decide +kernel⟩
theorem is_name_ok (T : Txt K mg) : FnR P w K mg base CX0 1 f_is_name sp_is_name := by
  refine fr_mk (ps := P_is_name) (N := N_is_name) T.fd_is_name sc_is_name (fun _ _ _ _ _ _ us h => match us, h with | [_], _ => rfl) ?_ ?_
  · rintro vs H Q E ⟨z, rfl, _⟩
    rfl
  · rintro cdv A outer s H vs Q E hr ⟨z, rfl, ⟨h1, h8, hc⟩, q⟩
    have nd := sc_is_name.nd
    refine ⟨_, (pss_cons (ps_if (PW.pt (pw_or (pt_not (pt_val (pe_callB call_isi (by rfl) T.n_isinstance (by decide +kernel) (pa_cons (pv 0) (pa_cons (pe_bltn (by rfl) T.n_str (by decide +kernel) (v := .ty "str") rfl) pa_nil))))) (pw_or1 (pt_not (pt_chain op_le op_le pe_int (pe_callB call_len (by rfl) T.n_len (by decide +kernel) (pa_cons (pv 0) pa_nil)) pe_int))))) (pss_one (ps_ret pe_bl)) pss_nil) (pss_one (ps_ret (pe_callB (cr_all rfl) (by rfl) T.n_all (by decide +kernel) (pa_cons (pe_lc (own := [("sign", 1)]) (g := (gName 1)) (tt := tYes) (by rfl) nd (pi_str (pv 0)) (blkOk_by (own := [("sign", 1)]) (N := N_is_name) (sc := defScope s_is_name) (by decide +kernel)) (fun _ _ _ _ _ => (pg_name (i := 1) nd rfl (Or.inl rfl))) (fun _ _ _ _ _ => pts_nil) (fun _ _ _ _ _ => (pe_cmpR op_in_sign (pv 1) (pe_glob (v := .str "abcdefghijklmnopqrstuvwxyz") rfl T.g_SIGNS.choose_spec ⟨_, rfl⟩) rfl))) pa_nil))))), ?_⟩
    have hz : z.length ≤ sizeLine := Nat.le_trans h8 (by decide)
    refine ⟨_, rfl, _, _, _, _, _, rfl, .ty _, .base (.str _), kt "str" "str" true, _, rfl, iteF ?_⟩
    refine ⟨_, rfl, _, _, rfl, ⟨hz, rfl⟩, _, _, rfl, rfl, _, rfl, ite2 (fun _ => ?_) (fun h => absurd (decide_eq_true (by omega)) h)⟩
    refine ⟨_, _, rfl, rfl, _, rfl, ite2 (fun h => ?_) (fun _ => ?_)⟩
    · have e : decide ((z.length : Int) ≤ 8) = true := decide_eq_true (by omega)
      rw [e] at h
      cases h
    refine ⟨_, rfl, _, rfl, fun D hD => ?_⟩
    refine lc_all (walk_str (z := z)) aStore (fun _ v _ => v = .bl true) hz hD (fun _ _ _ _ _ h => h) (fun _ _ => trivial) ?_ mono_name ?_
    · rintro i x H5 H6 P hi s5 ⟨rfl, c, hcc, rfl⟩ hP
      have hm : c ∈ z.cps.toList := by
        rw [← Array.getElem?_toList] at hcc
        exact List.mem_of_getElem? hcc
      exact ⟨rfl, _, rfl, c, _, rfl, rfl, hP _ _ (Same.refl _) (by rw [decide_eq_true (hc c hm)])⟩
    · intro H5 l s5 hl pr
      have e := paired_map (f := fun _ => V.bl true) pr
      have e2 : l = ((List.range z.cps.size).map fun _ => true).map V.bl := by rw [e, List.map_map]; rfl
      have e3 : ((List.range z.cps.size).map fun _ => true).all id = true := by simp
      have := q H5 s5
      rw [← e3] at this
      exact ⟨D, _, rfl, SqL.of (by rw [hl, e2]), this⟩
def sp_need_name : Sp := fun vs H Q _ => ∃ z, vs = [.str z] ∧ NameOk z ∧ ∀ H', Same H H' → Q .non H'
theorem sc_need_name : FnScope N_need_name P_need_name (defScope s_need_name) := ⟨rfl, rfl, rfl, by decide +kernel, rfl, by decide +kernel, by decide +kernel⟩
theorem need_name_ok (T : Txt K mg) : FnR P w K mg base CX0 2 f_need_name sp_need_name := by
  refine fr_mk (ps := P_need_name) (N := N_need_name) T.fd_need_name sc_need_name (fun _ _ _ _ _ _ us h => match us, h with | [_], _ => rfl) ?_ ?_
  · rintro vs H Q E ⟨z, rfl, _⟩
    rfl
  · rintro cdv A outer s H vs Q E hr ⟨z, rfl, hz, q⟩
    have nd := sc_need_name.nd
    refine ⟨_, (pss_one (ps_if (pt_not (pt_val (pe_callR (is_name_ok T) (hr.mono (by decide)) rfl T.g_is_name T.k_is_name pass0 (pa_cons (pv 0) pa_nil)))) (pss_one ps_never) pss_nil)), ?_⟩
    exact ⟨_, rfl, z, rfl, hz, fun H' s => ⟨_, rfl, iteF (q H' s)⟩⟩
/-! ### the store -/
abbrev Row := Str × List Pt
def TabD (H : Hp) (kvs : List (Key × V)) (rows : List Row) : Prop := Paired (fun (r : Row) (kv : Key × V) => kv.1 = .inr r.1 ∧ ∃ a, kv.2 = .ref a ∧ IsSer H a r.2) rows kvs
theorem TabD.kp {H H' : Hp} {kvs : List (Key × V)} {rows : List Row} (h : TabD H kvs rows) (s : KpS H H') : TabD H' kvs rows := h.mono fun _ _ ⟨e, a, e2, q⟩ => ⟨e, a, e2, q.kp s⟩
/-! ### deeds -/
inductive Deed where
  | now (m : Int)
  | drop (nm : Str)
  | set (nm : Str) (ps : List Pt)
  | look (nm : Str) (p : Pt)
/-- what changes: lists, stores -/
def Soft : HO → Prop
  | .lst _ => True
  | .ins C _ _ => C = aStore
  | _ => False
/-- all else is kept -/
def KS (H H' : Hp) : Prop := ∀ b o, ¬ Soft o → H b = some o → H' b = some o
theorem KS.refl (H : Hp) : KS H H := fun _ _ _ h => h
theorem KS.trans {H H1 H2 : Hp} (a : KS H H1) (b : KS H1 H2) : KS H H2 := fun c o i h => b c o i (a c o i h)
theorem KS.of {H H' : Hp} (s : Same H H') : KS H H' := fun b o _ h => s b o h
theorem KS.sb {H H' : Hp} {p : Addr} {u : HO} (s : SameB p H H') (hp : H p = some u) (hu : Soft u) : KS H H' := fun b o n e => s b o (fun z => by
  rw [z, hp] at e
  cases e
  exact n hu) e
theorem KS.kp {H H' : Hp} (s : KS H H') : KpS H H' := fun b o i e => s b o (by
  cases o with
  | tup _ => exact fun z => z
  | frz _ _ => exact fun z => z
  | ins C _ _ => exact fun z => i z
  | _ => exact i.elim) e
/-- a deed of a store -/
def DeedAt (H : Hp) : Deed → V → Prop
  | .now m, v => ∃ t, v = .ref t ∧ H t = some (.tup [.str "now", .int m])
  | .drop nm, v => ∃ t, v = .ref t ∧ H t = some (.tup [.str "drop", .str nm])
  | .set nm ps, v => ∃ t s, v = .ref t ∧ H t = some (.tup [.str "set", .str nm, .ref s]) ∧ IsSer H s ps
  | .look nm p, v => ∃ t b, v = .ref t ∧ H t = some (.tup [.str "look", .str nm, .int p.1, .ref b]) ∧ IsQ H b p.2.1 p.2.2
theorem DeedAt.ks {H H' : Hp} {v : V} : ∀ {de : Deed}, DeedAt H de v → KS H H' → DeedAt H' de v
  | .now _, ⟨t, e, h⟩, s => ⟨t, e, s _ _ (fun z => z) h⟩
  | .drop _, ⟨t, e, h⟩, s => ⟨t, e, s _ _ (fun z => z) h⟩
  | .set _ _, ⟨t, r, e, h, i⟩, s => ⟨t, r, e, s _ _ (fun z => z) h, i.kp s.kp⟩
  | .look _ _, ⟨t, r, e, h, i⟩, s => ⟨t, r, e, s _ _ (fun z => z) h, i.kp s.kp⟩
/-- a store's state: moment, series by names, deeds -/
structure Snap where
  mo : Int
  rows : List Row
  ds : List Deed
def StateH (H : Hp) (st : Addr) (s : Snap) : Prop := ∃ dx tb dd dv kvs, H st = some (.ins aStoreState dx [("moment", .int s.mo), ("table", .ref tb), ("deeds", .ref dd)]) ∧ H tb = some (.dK kvs) ∧ TabD H kvs s.rows ∧ H dd = some (.tup dv) ∧ Paired (DeedAt H) s.ds dv
theorem StateH.ks {H H' : Hp} {st : Addr} {s : Snap} (h : StateH H st s) (k : KS H H') : StateH H' st s := by
  obtain ⟨dx, tb, dd, dv, kvs, h1, h2, h3, h4, h5⟩ := h
  exact ⟨dx, tb, dd, dv, kvs, k _ _ (by show ¬ aStoreState = aStore; decide) h1, k _ _ (fun z => z) h2, h3.kp k.kp, k _ _ (fun z => z) h4, h5.mono fun _ _ h => h.ks k⟩
def PastH (H : Hp) (past : List Snap) (pv : List V) : Prop := Paired (fun s v => ∃ a, v = .ref a ∧ StateH H a s) past pv
theorem PastH.ks {H H' : Hp} {past : List Snap} {pv : List V} (h : PastH H past pv) (k : KS H H') : PastH H' past pv := h.mono fun _ _ ⟨a, e, s⟩ => ⟨a, e, s.ks k⟩
/-- a store at p: its state, and what was ahead -/
def StoreH (H : Hp) (p : Addr) (l : Nat) (s : Snap) (past : List Snap) : Prop := ∃ dx st pa pv, H p = some (.ins aStore dx [("limit", .int l), ("state", .ref st), ("past", .ref pa)]) ∧ StateH H st s ∧ H pa = some (.tup pv) ∧ PastH H past pv
theorem StoreH.same {H H' : Hp} {p : Addr} {l : Nat} {s : Snap} {past : List Snap} (h : StoreH H p l s past) (k : Same H H') : StoreH H' p l s past := by
  obtain ⟨dx, st, pa, pv, h1, h2, h3, h4⟩ := h
  exact ⟨dx, st, pa, pv, k _ _ h1, h2.ks (KS.of k), k _ _ h3, h4.ks (KS.of k)⟩
/-- something else changes -/
theorem StoreH.sb {H H' : Hp} {p q : Addr} {l : Nat} {s : Snap} {past : List Snap} {u : HO} (h : StoreH H p l s past) (hq : H q = some u) (hu : Soft u) (k : SameB q H H') (n : p ≠ q) : StoreH H' p l s past := by
  obtain ⟨dx, st, pa, pv, h1, h2, h3, h4⟩ := h
  have ks := KS.sb k hq hu
  exact ⟨dx, st, pa, pv, k _ _ n h1, h2.ks ks, ks _ _ (fun z => z) h3, h4.ks ks⟩
theorem StoreH.some {H : Hp} {q : Addr} {l : Nat} {s : Snap} {past : List Snap} (h : StoreH H q l s past) : ∃ dx fs, H q = Option.some (.ins aStore dx fs) ∧ ∃ st pa : Addr, fs = ([("limit", .int l), ("state", .ref st), ("past", .ref pa)] : List (Str × V)) := by
  obtain ⟨dx, st, pa, ps, h1, _⟩ := h
  exact ⟨dx, _, h1, st, pa, rfl⟩
theorem paired_snoc_inv {α β : Type} {F : α → β → Prop} {x : α} {y : β} : ∀ {l1 : List α} {l2 : List β}, Paired F (l1 ++ [x]) (l2 ++ [y]) → Paired F l1 l2 ∧ F x y := by
  intro l1
  induction l1 with
  | nil =>
    intro l2 h
    cases l2 with
    | nil =>
      cases h with
      | cons f _ => exact ⟨.nil, f⟩
    | cons b t =>
      have := h.length
      rw [List.length_append, List.length_append, List.length_cons] at this
      simp at this
  | cons a t ih =>
    intro l2 h
    cases l2 with
    | nil =>
      have := h.length
      rw [List.length_append, List.length_append, List.length_cons] at this
      simp at this
    | cons b u =>
      cases h with
      | cons f r =>
        obtain ⟨h1, h2⟩ := ih r
        exact ⟨.cons f h1, h2⟩
theorem sIx_m1 {xs : List V} {y : V} : HT.sIx (xs ++ [y]).length (xs ++ [y]).length (some (-1)) = xs.length := by
  show (if (-1 : Int) < 0 then ((-1 : Int) + ((xs ++ [y]).length : Int)).toNat else min (-1 : Int).toNat (xs ++ [y]).length) = _
  rw [if_pos (by decide), List.length_append]
  show ((-1 : Int) + ((xs.length + 1 : Nat) : Int)).toNat = _
  omega
theorem cut_dropLast {xs : List V} {y : V} : cutV (xs ++ [y]) none (some (-1)) = xs := by
  unfold cutV
  rw [HT.sIx_none, List.drop_zero, Nat.sub_zero, sIx_m1, List.take_append_of_le_length (Nat.le_refl _), List.take_length]
theorem valV_any {kvs : List (Key × V)} {k : Key} : (valV kvs k).isSome = kvs.any fun kv => decide (kv.1 = k) := by
  unfold valV
  induction kvs with
  | nil => rfl
  | cons a t ih =>
    rw [List.any_cons, List.find?_cons]
    by_cases c : a.1 = k
    · rw [decide_eq_true c]
      rfl
    · rw [decide_eq_false c, Bool.false_or]
      exact ih
/-- StoreState(moment, table, deeds) -/
def sp_StoreState_init : Sp := fun vs H Q _ => ∃ a dx m t d, vs = [.ref a, m, t, d] ∧ H a = some (.ins aStoreState dx []) ∧ Q .non (upd H a (.ins aStoreState dx [("moment", m), ("table", t), ("deeds", d)]))
theorem sc_StoreState_init : FnScope N_StoreState_init P_StoreState_init (defScope s_StoreState_init) := ⟨rfl, rfl, rfl, by decide +kernel, rfl, by decide +kernel, by decide +kernel⟩
theorem StoreState_init_ok (T : Txt K mg) : FnR P w K mg base CX0 1 f_StoreState_init sp_StoreState_init := by
  refine fr_mk (ps := P_StoreState_init) (N := N_StoreState_init) T.fd_StoreState_init sc_StoreState_init (fun _ _ _ _ _ _ us h => match us, h with | [_, _, _, _], _ => rfl) ?_ ?_
  · rintro vs H Q E ⟨a, dx, m, t, d, rfl, _⟩
    rfl
  · rintro cdv A outer s H vs Q E hr ⟨a, dx, m, t, d, rfl, ha, q⟩
    have nd := sc_StoreState_init.nd
    refine ⟨_, (pss_cons (ps_fld (pv 0) (pv 1) rfl) (pss_cons (ps_fld (pv 0) (pv 2) rfl) (pss_one (ps_fld (pv 0) (pv 3) rfl)))), ?_⟩
    refine ⟨_, rfl, _, rfl, _, _, _, _, rfl, ha, T.cl_StoreState, T.no_StoreState_moment, (by first | decide | exact lt_put (by decide) | exact (by decide : (1 : Nat) < 1000) | exact (by decide : (2 : Nat) < 1000) | exact (by decide : (3 : Nat) < 1000)), _, rfl, _, rfl, _, _, _, _, rfl, upd_same, T.cl_StoreState, T.no_StoreState_table, (by first | decide | exact lt_put (by decide) | exact (by decide : (1 : Nat) < 1000) | exact (by decide : (2 : Nat) < 1000) | exact (by decide : (3 : Nat) < 1000)), _, rfl, _, rfl, _, _, _, _, rfl, upd_same, T.cl_StoreState, T.no_StoreState_deeds, (by first | decide | exact lt_put (by decide) | exact (by decide : (1 : Nat) < 1000) | exact (by decide : (2 : Nat) < 1000) | exact (by decide : (3 : Nat) < 1000)), ?_⟩
    rw [upd_upd, upd_upd]
    exact q
/-- go_on -/
def sp_go_on : Sp := fun vs H Q _ => ∃ (p s2 dx st pa : Addr) (l : Nat) (ps : List V), vs = [.ref p, .ref s2] ∧ H p = some (.ins aStore dx [("limit", .int l), ("state", .ref st), ("past", .ref pa)]) ∧ H pa = some (.tup ps) ∧ ps.length < sizeLine ∧
  ∀ H' pa2, SameB p H H' → H' p = some (.ins aStore dx [("limit", .int l), ("state", .ref s2), ("past", .ref pa2)]) → H' pa2 = some (.tup (ps ++ [.ref st])) → Q .non H'
theorem sc_Store_go_on : FnScope N_Store_go_on P_Store_go_on (defScope s_Store_go_on) := ⟨rfl, rfl, rfl, by decide +kernel, rfl, by decide +kernel, by decide +kernel⟩
theorem Store_go_on_ok (T : Txt K mg) : FnR P w K mg base CX0 1 f_Store_go_on sp_go_on := by
  refine fr_mk (ps := P_Store_go_on) (N := N_Store_go_on) T.fd_Store_go_on sc_Store_go_on (fun _ _ _ _ _ _ us h => match us, h with | [_, _], _ => rfl) ?_ ?_
  · rintro vs H Q E ⟨p, s2, dx, st, pa, l, ps, rfl, _⟩
    rfl
  · rintro cdv A outer s H vs Q E hr ⟨p, s2, dx, st, pa, l, ps, rfl, hp, hpa, hz, q⟩
    have nd := sc_Store_go_on.nd
    refine ⟨_, (pss_cons (ps_fld (pv 0) (pe_tup (StX.pa_star (pe_fld (pv 0) rfl) (pa_cons (pe_fld (pv 0) rfl) pa_nil))) rfl) (pss_one (ps_fld (pv 0) (pv 1) rfl))), ?_⟩
    refine ⟨_, rfl, _, _, _, _, _, rfl, hp, T.cl_Store, T.no_Store_past, rfl, _, _, rfl, .inl (SqT.of hpa), _, rfl, _, _, _, _, _, rfl, hp, T.cl_Store, T.no_Store_state, rfl, ?_, fun q2 hq2 => ?_⟩
    · rw [List.length_append]
      exact hz
    have hp2 := same_new (o := .tup (ps ++ [.ref st])) hq2 _ _ hp
    have ne : q2 ≠ p := fun z => by
      rw [z] at hq2
      rw [hp] at hq2
      cases hq2
    refine ⟨_, rfl, _, _, _, _, rfl, hp2, T.cl_Store, T.no_Store_past, (by first | decide | exact lt_put (by decide) | exact (by decide : (1 : Nat) < 1000) | exact (by decide : (2 : Nat) < 1000) | exact (by decide : (3 : Nat) < 1000)), _, rfl, _, rfl, _, _, _, _, rfl, upd_same, T.cl_Store, T.no_Store_state, (by first | decide | exact lt_put (by decide) | exact (by decide : (1 : Nat) < 1000) | exact (by decide : (2 : Nat) < 1000) | exact (by decide : (3 : Nat) < 1000)), ?_⟩
    rw [upd_upd]
    refine q _ q2 ((SameB.of (same_new hq2)).trans .upd) upd_same ?_
    rw [upd_ne ne]
    exact upd_same

theorem paired_put {α κ β : Type} [DecidableEq κ] {F : α → κ × β → Prop} (key : α → κ) (hk : ∀ a kv, F a kv → kv.1 = key a) : ∀ {as : List α} {kvs : List (κ × β)}, Paired F as kvs → kvs.map (·.1) = as.map key
  | _, _, .nil => rfl
  | _, _, .cons f r => by rw [List.map_cons, List.map_cons, paired_put key hk r, hk _ _ f]
/-- the rows with one put -/
def putR (rows : List Row) (nm : Str) (pts : List Pt) : List Row := if (rows.any fun r => decide (r.1 = nm)) = true then rows.map (fun r => if r.1 = nm then (r.1, pts) else r) else rows ++ [(nm, pts)]
theorem TabD.any {H : Hp} {nm : Str} : ∀ {kvs : List (Key × V)} {rows : List Row}, TabD H kvs rows → (kvs.any fun kv => decide (kv.1 = .inr nm)) = (rows.any fun r => decide (r.1 = nm)) := by
  intro kvs rows h
  induction h with
  | nil => rfl
  | @cons r kv _ _ f _ ih =>
    rw [List.any_cons, List.any_cons, ih]
    have : decide (kv.1 = Sum.inr nm) = decide (r.1 = nm) := by
      rw [f.1]
      exact key_rr _ _
    rw [this]
theorem TabD.put {H : Hp} {kvs : List (Key × V)} {rows : List Row} {nm : Str} {pts : List Pt} {a : Addr} (h : TabD H kvs rows) (ha : IsSer H a pts) : TabD H (putK kvs (.inr nm) (.ref a)) (putR rows nm pts) := by
  unfold putK putR
  rw [h.any]
  split
  · rename_i z
    clear z
    induction h with
    | nil => exact .nil
    | @cons r kv _ _ f _ ih =>
      refine .cons ?_ ih
      by_cases e : r.1 = nm
      · dsimp only
        rw [if_pos e, if_pos (by rw [f.1, e])]
        exact ⟨f.1, a, rfl, ha⟩
      · dsimp only
        rw [if_neg e, if_neg (by rw [f.1]; exact fun z => e (Sum.inr.inj z))]
        exact f
  · exact Paired.snoc h ⟨rfl, a, rfl, ha⟩
theorem TabD.keys {H : Hp} {kvs : List (Key × V)} {rows : List Row} (h : TabD H kvs rows) : kvs.map (fun kv => kV kv.1) = rows.map fun r => V.str r.1 := by
  induction h with
  | nil => rfl
  | cons f _ ih =>
    rw [List.map_cons, List.map_cons, ih, f.1]
    rfl
theorem TabD.val {H : Hp} {nm : Str} {kvs : List (Key × V)} {rows : List Row} (h : TabD H kvs rows) : (∀ pts, rows.lookup nm = some pts → ∃ a, valV kvs (.inr nm) = some (.ref a) ∧ IsSer H a pts) ∧ (rows.lookup nm = none → valV kvs (.inr nm) = none) := by
  induction h with
  | nil => exact ⟨fun _ z => (nomatch z), fun _ => rfl⟩
  | @cons r kv _ _ f _ ih =>
    obtain ⟨e, a, e2, is⟩ := f
    by_cases c : nm = r.1
    · subst c
      rw [show ((r :: _ : List Row).lookup r.1) = some r.2 by simp [List.lookup]]
      exact ⟨fun pts z => ⟨a, by rw [valV_pos e, e2], (Option.some.inj z) ▸ is⟩, fun z => (nomatch z)⟩
    · have : ∀ l : List Row, (r :: l).lookup nm = l.lookup nm := fun l => by
        have : (nm == r.1) = false := by simpa using c
        show (match nm == r.1 with | true => some r.2 | false => l.lookup nm) = _
        rw [this]
      rw [this, valV_neg (fun z => c (by rw [e] at z; exact (Sum.inr.inj z).symm))]
      exact ih
theorem mergeK_app : ∀ (more kvs : List (Key × V)), ((kvs ++ more).map (·.1)).Nodup → mergeK kvs more = kvs ++ more := by
  intro more
  induction more with
  | nil => intro kvs _; rw [List.append_nil]; rfl
  | cons a t ih =>
    intro kvs h
    have h1 : (kvs.any fun kv => decide (kv.1 = a.1)) = false := by
      rw [List.any_eq_false]
      intro kv hkv
      rw [List.map_append, List.nodup_append] at h
      have := h.2.2 kv.1 (List.mem_map_of_mem hkv) a.1 (by simp)
      simpa using this
    show mergeK (putK kvs a.1 a.2) t = _
    have : putK kvs a.1 a.2 = kvs ++ [a] := by
      unfold putK
      rw [h1]
      rfl
    rw [this, ih]
    · rw [List.append_assoc]; rfl
    · rw [List.append_assoc]; exact h
theorem merge_nd {kvs : List (Key × V)} (h : (kvs.map (·.1)).Nodup) : mergeK [] kvs = kvs := mergeK_app kvs [] h
theorem TabD.nd {H : Hp} {kvs : List (Key × V)} {rows : List Row} (h : TabD H kvs rows) (n : (rows.map (·.1)).Nodup) : (kvs.map (·.1)).Nodup := by
  have e : kvs.map (·.1) = (rows.map (·.1)).map Sum.inr := by
    clear n
    induction h with
    | nil => rfl
    | cons f _ ih => rw [List.map_cons, ih, f.1]; rfl
  rw [e]
  exact List.Pairwise.map _ (fun a b h z => h (Sum.inr.inj z)) n
end G
set_option Elab.async false
set_option linter.all false
set_option maxRecDepth 100000
set_option maxHeartbeats 4000000
/-! != by an own __eq__; in by an own __contains__; o[i] = v by an own __setitem__. -/
namespace PySem.W
open Lean Elab Tactic Meta PySem PySem.Calls PyProof.Rows
section
variable {prog : Program} {w : World} {A : Around} {E : Value → Shared → Prop} {s : Shared} {K : Frag} {x C L f : Addr} {h₀ : Heap} {m : Str → Option Value} {ox : Obj} {od : Option Obj} {b tb : Value}
theorem lay_ifBound {M : Model} {name : Str} {id : String} {args : List Value} {Q : Option Value → Shared → Prop} (X : K.In s.heap) (I : InstAt s.heap x ox C od) (hs : findIn K (.ref C) name = some (some (.builtin id)))
    (hb : ∀ self, bindSpecial (.builtin id) self = pure (.builtin id, [self])) (h : wpAny M A (call (.builtin id) (.ref x :: args)) (fun v => Q (some v)) E s) : wpAny M A (callSpecialIfBound? (.ref x) name args) Q E s := by
  simp only [callSpecialIfBound?, bindSpecialIfBound?]
  refine wpAny_holding (wpAny_bind (wpAny_bind (wpAny_bind (I.type.here ((looks_findIn X hs).here ?_)))))
  refine wpAny_bind (wpAny_askSetting (wpAny_ite ?_))
  have fin : wpAny M A (call (.builtin id) ([.ref x] ++ args) >>= fun v => pure (some v)) Q E s := wpAny_bind (wpAny_mono h (fun v s' h' => wpAny_pure h') fun _ _ h' => h')
  split
  · exact wpAny_bind ((Looks.of_pure (hb _)).here (wpAny_pure (by exact fin)))
  · exact wpAny_tryCatch (wpAny_bind ((Looks.of_pure (hb _)).here (wpAny_pure (by exact fin))))
open Builtin in
theorem lay_objNe {Q : Value → Shared → Prop} (hu : A.in1.units < cLine) (X : K.In s.heap) (I : InstAt s.heap x ox C od) (hm : mroIn K C (.type "object") = some true) (he : findIn K (.ref C) "__eq__" = some (some (.ref f))) (hf : isFn K (.ref f) = true)
    (h : wpAny (model prog w) A.in1 (call (.ref f) [.ref x, b]) (fun v s' => ∃ r, v = .bool r ∧ Q (.bool (!r)) s') E s) : wpAny (model prog w) A (call (.builtin "object.__ne__") [.ref x, b]) Q E s := by
  refine wpAny_call (codeAny_call_builtin PySem.F.slot_object_ne.plain PySem.F.cmpEntry_ne (check_slot (i := "object.__ne__") (owner := "object") (n := "__ne__") PySem.F.cmpKind_ne PySem.F.cmpSplit_ne (I.type.andThen (looks_mroIn X hm)) (PySem.F.cmpArgs_ne _ _) ?_))
  unfold Builtin.«object.__ne__»
  refine wpAny_bind (m := slotArgs "__ne__" 1 _) (wpAny_pure ?_)
  refine wpAny_bind (m := cRoomFor _ _) (wpAny_cRoomFor hu ?_)
  refine wpAny_bind (m := callSpecialIfBound? (.ref x) (Str.ofString "__eq__") _) (ifBound_K X I he hf (wpAny_mono h (fun r s' hq => ?_) fun _ _ y => y))
  obtain ⟨r, rfl, hq⟩ := hq
  exact wpAny_bind (wpAny_truthy_bool (wpAny_pure hq))
theorem lay_ne {Q : Value → Shared → Prop} (hu : A.units < cLine) (hu1 : A.in1.units < cLine) (X : K.In s.heap) (I : InstAt s.heap x ox C od) (hb : Looks (model prog w) s.heap (typeOf b) tb) (hn : notFirst K C tb = true) (hne : findIn K (.ref C) "__ne__" = some (some (.builtin "object.__ne__")))
    (hm : mroIn K C (.type "object") = some true) (he : findIn K (.ref C) "__eq__" = some (some (.ref f))) (hf : isFn K (.ref f) = true)
    (h : wpAny (model prog w) A.in1 (call (.ref f) [.ref x, b]) (fun v s' => ∃ r, v = .bool r ∧ Q (.bool (!r)) s') E s) : wpAny (model prog w) A (richCompare .NotEq (.ref x) b) Q E s := by
  have one : wpAny (model prog w) A (tryCompare (.ref x) (cmpInfo .NotEq).2.1 b) (fun r s' => ∃ v, r = some v ∧ Q v s') E s := by
    unfold tryCompare
    refine wpAny_bind (lay_ifBound X I hne PySem.F.slot_object_ne.bind (lay_objNe hu1 X I hm he hf (wpAny_mono h (fun v s' hv => ?_) fun _ _ e => e)))
    obtain ⟨r, rfl, hq⟩ := hv
    exact ⟨r, rfl, wpAny_pure ⟨_, rfl, hq⟩⟩
  unfold richCompare
  simp only [oneThing_ref]
  refine wpAny_holding (wpAny_bind (wpAny_cRoomFor hu ?_))
  refine wpAny_bind (I.type.here (wpAny_bind (hb.here ?_)))
  split
  · rename_i q
    have e : subIn K tb (.ref C) = some false := by
      rcases Bool.or_eq_true_iff.mp hn with e | e
      · rw [beq_iff_eq.mp e] at q; simp at q
      · exact beq_iff_eq.mp e
    refine wpAny_bind ((looks_subIn X e).here ?_)
    simp only [Bool.false_eq_true, if_false]
    refine wpAny_bind (wpAny_mono one (fun r s' z => ?_) fun _ _ e => e)
    obtain ⟨v, rfl, hq⟩ := z
    exact wpAny_pure hq
  · refine wpAny_bind (wpAny_pure ?_)
    simp only [Bool.false_eq_true, if_false]
    refine wpAny_bind (wpAny_mono one (fun r s' z => ?_) fun _ _ e => e)
    obtain ⟨v, rfl, hq⟩ := z
    exact wpAny_pure hq
end
end PySem.W
namespace G
open PySem PySem.Spec PyProof.Rows L2
section
variable {X : Cx} {CX : CXT} {k : Nat} {C g : Addr} {sp : Sp} {E : XK}
/-- x != y by an own == -/
def rNeOwn (K : PySem.W.Frag) (C : Addr) (sp : Sp) (E : XK) : R2 := fun x y H Q => ∃ a dx fs t, x = .ref a ∧ H a = some (.ins C dx fs) ∧ TyS H y t ∧ PySem.W.notFirst K C t = true ∧ sp [x, y] H (fun z H' => ∃ r, z = .bl r ∧ Q (.bl (!r)) H') E
theorem op_neOwn (hne : PySem.W.findIn X.K (.ref C) "__ne__" = some (some (.builtin "object.__ne__"))) (hm : PySem.W.mroIn X.K C (.type "object") = some true) (hs : PySem.W.findIn X.K (.ref C) "__eq__" = some (some (.ref g))) (hf : PySem.W.isFn X.K (.ref g) = true)
    (F : FnR X.prog X.w X.K X.mg X.base CX k g sp) (hr : Room (k + 1) X.A) (hx : Passes CX X E) : OpR X (compareOp .NotEq) (rNeOwn X.K C sp E) := by
  intro pins s σ H x y v u Q I rx ry h
  obtain ⟨a, dx, fs, t, rfl, ha, ty, hn, q⟩ := h
  cases (show v = Value.ref a from rx)
  obtain ⟨od, J⟩ := ins_at I ha
  show wpAny _ _ (richCompare .NotEq _ _) _ _ _
  refine PySem.W.lay_ne (tb := t) hr.units0 hr.in1.units0 I.kIn J (tyS_look I ry ty) hn hne hm hs hf ?_
  refine wpAny_mono (wpAny_call (SlX.run_at (us := [.ref a, u]) (ws := [.ref a, y]) F hr.in1 I.env0.in1 hx I (.cons rfl (.cons ry .nil)) q)) (fun w s' z => ?_) fun _ _ x => x
  obtain ⟨z', H', I', rz, r, ez, qz⟩ := z
  subst ez
  obtain rfl : w = Value.bool r := rz
  exact ⟨r, rfl, .bl (!r), H', I', rfl, qz⟩
/-- == by an own one, whatever it tells -/
def rEqOwn (K : PySem.W.Frag) (C : Addr) (sp : Sp) (E : XK) : R2 := fun x y H Q => ∃ a dx fs t, x = .ref a ∧ H a = some (.ins C dx fs) ∧ TyS H y t ∧ PySem.W.notFirst K C t = true ∧ sp [x, y] H Q E
/-- x in o, x not in o, by an own __contains__ -/
def rInOwn (C : Addr) (neg : Bool) (sp : Sp) (E : XK) : R2 := fun x y H Q => ∃ a dx fs, y = .ref a ∧ H a = some (.ins C dx fs) ∧ sp [y, x] H (fun z H' => ∃ r, z = .bl r ∧ Q (.bl (if neg then !r else r)) H') E
theorem op_inOwn (hm : Meth X.K C "__contains__" g) (F : FnR X.prog X.w X.K X.mg X.base CX k g sp) (hr : Room k X.A) (hx : Passes CX X E) : OpR X (compareOp .In) (rInOwn C false sp E) := by
  intro pins s σ H x y v u Q I rx ry h
  obtain ⟨a, dx, fs, rfl, ha, q⟩ := h
  cases (show u = Value.ref a from ry)
  obtain ⟨od, J⟩ := ins_at I ha
  obtain ⟨m, hF⟩ := I.fr
  refine PySem.W.in_K hF I.ok.mod.kin J hm.at_ hm.fn ?_
  refine wpAny_mono (wpAny_call (run_fnR (us := [.ref a, v]) (vs := [.ref a, x]) F hr hx I (.cons rfl (.cons rx .nil)) q)) (fun w s' z => ?_) fun _ _ x => x
  obtain ⟨z', H', I', rz, r, ez, qz⟩ := z
  subst ez
  obtain rfl : w = Value.bool r := rz
  exact wpAny_truthy_bool ⟨.bl r, H', I', rfl, qz⟩
theorem op_notInOwn (hm : Meth X.K C "__contains__" g) (F : FnR X.prog X.w X.K X.mg X.base CX k g sp) (hr : Room k X.A) (hx : Passes CX X E) : OpR X (compareOp .NotIn) (rInOwn C true sp E) := by
  intro pins s σ H x y v u Q I rx ry h
  obtain ⟨a, dx, fs, rfl, ha, q⟩ := h
  cases (show u = Value.ref a from ry)
  obtain ⟨od, J⟩ := ins_at I ha
  obtain ⟨m, hF⟩ := I.fr
  refine PySem.W.notIn_K hF I.ok.mod.kin J hm.at_ hm.fn ?_
  refine wpAny_mono (wpAny_call (run_fnR (us := [.ref a, v]) (vs := [.ref a, x]) F hr hx I (.cons rfl (.cons rx .nil)) q)) (fun w s' z => ?_) fun _ _ x => x
  obtain ⟨z', H', I', rz, r, ez, qz⟩ := z
  subst ez
  obtain rfl : w = Value.bool r := rz
  exact wpAny_truthy_bool ⟨.bl (!r), H', I', rfl, qz⟩
end
end G
set_option Elab.async false
set_option linter.all false
set_option maxRecDepth 100000
set_option maxHeartbeats 4000000
/-! Calls of methods by keywords; o[i] = v by an own __setitem__; a dict comprehension by what each item is. -/
namespace G
open PySem PySem.Spec PyProof.Rows L2
/-- called with n values and the keywords ks -/
def FnKw (P : Program) (w : World) (K : PySem.W.Frag) (mg : Str → Option Value) (base : Heap) (CX : CXT) (k : Nat) (f : Addr) (n : Nat) (ks : List Str) (gV : List V → List V → List V) (sp : Sp) : Prop :=
  ∀ (A : Around) (outer : List Env) (s : Shared) (H : Hp) (us ws : List Value) (vs zs : List V) (Q : VK) (E : XK), Room k A → Env0 P w K mg base A outer s H → Vals vs us → Vals zs ws → vs.length = n → zs.length = ks.length → sp (gV vs zs) H Q E →
    codeAny (model P w) A (.call (.ref f) ⟨us, ks.zip ws⟩) (CR CX outer P w H s Q E) s
theorem fkw_mk {P : Program} {w : World} {K : PySem.W.Frag} {mg : Str → Option Value} {base : Heap} {CX : CXT} {k n : Nat} {f : Addr} {fd : FuncData} {ps ks : List Str} {sp : Sp} {g : List Value → List Value → List Value} {gV : List V → List V → List V}
    (F : FnOk P w K mg base CX k f fd ps sp) (hb : KBn K fd ps n ks g gV) : FnKw P w K mg base CX k f n ks gV sp := by
  intro A outer s H us ws vs zs Q E hr e0 r rz l1 l2 h
  have KX : K.In s.heap := e0.mod.kin.keeps fun b o e => (e0.bs b o e).1
  exact F.run A outer s H ⟨us, ks.zip ws⟩ (g us ws) (gV vs zs) Q E hr e0 (hb.to s us ws KX (r.length.symm.trans l1) (rz.length.symm.trans l2)) (hb.rel r rz) h
/-- how a def without defaults binds -/
theorem kbn_mk {K : PySem.W.Frag} {x qual : Str} {params : Arguments} {body : List Stmt} {scope : Scope} {f : Addr} {fd : FuncData} {ps : List Str} (F : FunD K x qual params body scope [] [] f fd) (n : Nat) (ks : List Str) (g : {α : Type} → List α → List α → List α)
    (hrel : ∀ {vs zs : List V} {us ws : List Value}, Vals vs us → Vals zs ws → Vals (g vs zs) (g us ws))
    (h : ∀ (kV doc pm : Value) (an : Option Addr) (cdv ct : Value) (us ws : List Value), us.length = n → ws.length = ks.length → bindArgs (PySem.W.fnOf x qual params body scope .none kV doc pm an cdv ct) ⟨us, ks.zip ws⟩ = pure (ps.zip (g us ws))) :
    KBn K fd ps n ks (fun us ws => g us ws) (fun vs zs => g vs zs) := by
  obtain ⟨oc, od, dV, kV, doc, pm, an, cdv, ct, osl, rfl, lk, hcd, hD, hK⟩ := F.ex
  rcases hD with ⟨_, rfl⟩ | ⟨e, _⟩
  · refine ⟨fun s us ws X l1 l2 => BindsTo.of_looks fun M => ?_, fun r1 r2 => hrel r1 r2⟩
    rw [h kV doc pm an cdv ct us ws l1 l2]
    exact .of_pure rfl
  · exact absurd rfl e
def tMethKw (C : Addr) (m : Str) (n nk : Nat) (gV : List V → List V → List V) (sp : Sp) (E : XK) (ta : TE) (t tk : TA) : TE := fun σ H Q => ta σ H fun x H1 => ∃ a dx fs, x = .ref a ∧ H1 a = some (.ins C dx fs) ∧ fs.lookup m = none ∧
  t σ H1 fun vs H2 => tk σ H2 fun zs H3 => vs.length = n ∧ zs.length = nk ∧ sp (gV (x :: vs) zs) H3 Q E
section
variable {X : Cx} {CX : CXT} {k n : Nat} {f C : Addr} {m : Str} {ks : List Str} {sp : Sp} {E : XK} {e o : Expr} {es : List Expr} {kws : List Keyword} {ta : TE} {t tk : TA} {apos pos : Pos} {pl : Sem Bool} {gV : List V → List V → List V}
theorem run_fnKw {pins : List (Addr × Obj)} {σ : L2.St} {H : Hp} {s : Shared} {Q : VK} {us ws : List Value} {vs zs : List V} (F : FnKw X.prog X.w X.K X.mg X.base CX k f n ks gV sp) (hr : Room k X.A) (hx : Passes CX X E) (I : Inv X pins σ H s) (r : Vals vs us) (rz : Vals zs ws) (l1 : vs.length = n) (l2 : zs.length = ks.length) (h : sp (gV vs zs) H Q E) :
    codeAny (model X.prog X.w) X.A (.call (.ref f) ⟨us, ks.zip ws⟩) (fun r s' => match r with | .ok (.ret v) => EP X pins σ Q v s' | .ok _ => False | .error e => X.xe e s') s := by
  refine codeAny_mono (F X.A X.stack s H us ws vs zs Q E hr I.env0 r rz l1 l2 h) fun r s' hq => ?_
  cases r with
  | error e => exact hx pins σ H s e s' I hq
  | ok fl =>
    cases fl with
    | ret u => exact I.after hq
    | next => exact False.elim hq
    | brk => exact False.elim hq
    | cont => exact False.elim hq
/-- o.m(e, .., k = v, ..) -/
theorem pe_methKw (he : PE X o ta) (c : Cls X.K C) (hm : Meth X.K C m f) (F : FnKw X.prog X.w X.K X.mg X.base CX k f (n + 1) ks gV sp) (hr : Room k X.A) (hx : Passes CX X E) (ha : PA X (e :: es) t) (hkw : PK X kws tk)
    (hall : (backToKw pos (keywordEach kws X.env)).all (·.1.isSome) = true := by rfl) (hks : (backToKw pos (keywordEach kws X.env)).filterMap (·.1) = ks := by rfl)
    (hst : starEach (e :: es) X.env = (false, eval e X.env) :: starEach es X.env := by rfl)
    (hpl : ((backTo pos (starEach (e :: es) X.env)).any (·.1) || (backToKw pos (keywordEach kws X.env)).any (·.1.isNone)) = false := by rfl)
    (ht : eval (.Call (.Attribute o m apos) (e :: es) kws pos) X.env = (do
      let ov ← eval o X.env
      standAt apos.atName
      let (f, first) ← holding [ov] (getMethod ov m pl)
      callWith pos f first (backTo pos (starEach (e :: es) X.env)) (backToKw pos (keywordEach kws X.env))) := by rfl) :
    PE X (.Call (.Attribute o m apos) (e :: es) kws pos) (tMethKw C m n ks.length gV sp E ta t tk) := by
  refine ⟨fun pins s σ H Q I h => ?_⟩
  refine PySem.W.methodCall_KW (pl := pl) (thn (he.run pins s σ H _ I h) fun u s1 ⟨x, H1, I1, rx, a, dx, fs, ex, ea, l, q⟩ => ?_) ht
  subst ex
  obtain rfl : u = Value.ref a := rx
  refine getmeth_ok I1 ea c hm l ?_
  refine PySem.W.callWith_KW (first := [.ref a]) (h₀ := X.base) I.ok.mod.kin hm.kp hall (thn (ha.run pos pins s1 σ H1 _ I1 q) fun us s2 ⟨vs, H2, I2, r, q2⟩ => ?_) hpl hst
  refine thn (hkw.run pos pins s2 σ H2 _ I2 q2) fun ws s3 ⟨zs, H3, I3, rz, l1, l2, q3⟩ => ⟨I3.kIn, ?_⟩
  rw [hks]
  exact wpAny_call (run_fnKw (us := .ref a :: us) (vs := .ref a :: vs) F hr hx I3 (.cons rfl r) rz (congrArg Nat.succ l1) l2 q3)
/-- o.m(k = v, ..) -/
theorem pe_methKw0 (he : PE X o ta) (c : Cls X.K C) (hm : Meth X.K C m f) (F : FnKw X.prog X.w X.K X.mg X.base CX k f 1 ks gV sp) (hr : Room k X.A) (hx : Passes CX X E) (hkw : PK X kws tk)
    (hall : (backToKw pos (keywordEach kws X.env)).all (·.1.isSome) = true := by rfl) (hks : (backToKw pos (keywordEach kws X.env)).filterMap (·.1) = ks := by rfl)
    (hpl : ((backTo pos (starEach [] X.env)).any (·.1) || (backToKw pos (keywordEach kws X.env)).any (·.1.isNone)) = false := by rfl)
    (ht : eval (.Call (.Attribute o m apos) [] kws pos) X.env = (do
      let ov ← eval o X.env
      standAt apos.atName
      let (f, first) ← holding [ov] (getMethod ov m pl)
      callWith pos f first (backTo pos (starEach [] X.env)) (backToKw pos (keywordEach kws X.env))) := by rfl) :
    PE X (.Call (.Attribute o m apos) [] kws pos) (tMethKw C m 0 ks.length gV sp E ta tNil tk) := by
  refine ⟨fun pins s σ H Q I h => ?_⟩
  refine PySem.W.methodCall_KW (pl := pl) (thn (he.run pins s σ H _ I h) fun u s1 ⟨x, H1, I1, rx, a, dx, fs, ex, ea, l, q⟩ => ?_) ht
  subst ex
  obtain rfl : u = Value.ref a := rx
  refine getmeth_ok I1 ea c hm l ?_
  refine PySem.W.callWith_KW0 (first := [.ref a]) (h₀ := X.base) I.ok.mod.kin hm.kp hall ?_ hpl
  refine thn (hkw.run pos pins s1 σ H1 _ I1 q) fun ws s3 ⟨zs, H3, I3, rz, l1, l2, q3⟩ => ⟨I3.kIn, ?_⟩
  rw [hks]
  exact wpAny_call (run_fnKw (us := [.ref a]) (vs := [.ref a]) F hr hx I3 (.cons rfl .nil) rz rfl l2 q3)
/-- o.m(), by a positional promise -/
def tMethR0 (C : Addr) (m : Str) (sp : Sp) (E : XK) (ta : TE) : TE := fun σ H Q => ta σ H fun x H1 => ∃ a dx fs, x = .ref a ∧ H1 a = some (.ins C dx fs) ∧ fs.lookup m = none ∧ sp [x] H1 Q E
theorem pe_methR0 (he : PE X o ta) (c : Cls X.K C) (hm : Meth X.K C m f) (F : FnR X.prog X.w X.K X.mg X.base CX k f sp) (hr : Room k X.A) (hx : Passes CX X E)
    (ht : eval (.Call (.Attribute o m apos) [] [] pos) X.env = (do
      let ov ← eval o X.env
      standAt apos.atName
      let (f, first) ← holding [ov] (getMethod ov m pl)
      callWith pos f first (backTo pos (starEach [] X.env)) (backToKw pos (keywordEach [] X.env))) := by rfl) :
    PE X (.Call (.Attribute o m apos) [] [] pos) (tMethR0 C m sp E ta) := by
  refine ⟨fun pins s σ H Q I h => ?_⟩
  refine PySem.W.methodCall_KW (pl := pl) (thn (he.run pins s σ H _ I h) fun u s1 ⟨x, H1, I1, rx, a, dx, fs, ex, ea, l, q⟩ => ?_) ht
  subst ex
  obtain rfl : u = Value.ref a := rx
  refine getmeth_ok I1 ea c hm l ?_
  refine PySem.W.callWith_KW0 (first := [.ref a]) (kws := []) (h₀ := X.base) I.ok.mod.kin hm.kp rfl (wpAny_evalAll_nil ⟨I1.kIn, ?_⟩) rfl
  exact wpAny_call (run_fnR (us := [.ref a]) (vs := [.ref a]) F hr hx I1 (.cons rfl .nil) q)
/-- o[i] = v by an own __setitem__ -/
def rSetOwn (C : Addr) (sp : Sp) (E : XK) : TSet := fun o i v H Q => ∃ a dx fs, o = .ref a ∧ H a = some (.ins C dx fs) ∧ sp [o, i, v] H (fun _ H' => Q H') E
theorem set_own (hm : Meth X.K C "__setitem__" f) (hq : PySem.W.noSeq X.K C = true) (F : FnR X.prog X.w X.K X.mg X.base CX k f sp) (hr : Room k X.A) (hx : Passes CX X E) : PSet X (rSetOwn C sp E) := by
  intro pins s σ H o i v ov iv u Q I ro ri rv h
  obtain ⟨a, dx, fs, rfl, ha, q⟩ := h
  cases (show ov = Value.ref a from ro)
  obtain ⟨od, J⟩ := ins_at I ha
  obtain ⟨m, hF⟩ := I.fr
  refine PySem.W.ksp_setItem hF I.ok.mod.kin J hq hm.at_ hm.fn ?_
  exact wpAny_mono (wpAny_call (run_fnR (us := [.ref a, iv, u]) (vs := [.ref a, i, v]) F hr hx I (.cons rfl (.cons ri (.cons rv .nil))) q)) (fun w s' ⟨z', H', I', rz, qz⟩ => ⟨H', I', qz⟩) fun _ _ x => x
end
end G
set_option Elab.async false
set_option linter.all false
set_option maxRecDepth 100000
set_option maxHeartbeats 4000000
/-! name = {k: v for ..}; a dict comprehension's turns. -/
namespace G
open PySem PySem.Spec PyProof.Rows L2
section
variable {X : Cx}
theorem ps_setDc {i : Nat} {y : Str} {py : Pos} {kx vx tg iter : Expr} {ifs : List Expr} {scope : Scope} {own : List (Str × Nat)} {pos spos : Pos} {wi : TI} {g : TG} {tt : TT} {tk tv : TE} (hc : X.calm = true) (hN : X.N.Nodup) (hy : X.N[i]? = some y) (hyl : X.env.scope.names.lookup y = some .local)
    (hsw : swapsWith (.DictComp kx vx [⟨tg, iter, ifs, 0⟩] scope pos) (some (.Name y py)) spos.line X.env = pure true) (hi : PI X tg iter wi) (ok : BlkOk X.N X.env.scope scope own)
    (hg : ∀ (s : Shared) (H : Hp) (C : Addr) (cl : List (Str × Addr)) (fp : List Addr), PG (X.blk s H scope (compEnvC scope cl C X.env) fp) tg g) (ht : ∀ (s : Shared) (H : Hp) (C : Addr) (cl : List (Str × Addr)) (fp : List Addr), PTs (X.blk s H scope (compEnvC scope cl C X.env) fp) ifs tt)
    (hk : ∀ (s : Shared) (H : Hp) (C : Addr) (cl : List (Str × Addr)) (fp : List Addr), PE (X.blk s H scope (compEnvC scope cl C X.env) fp) kx tk)
    (he : ∀ (s : Shared) (H : Hp) (C : Addr) (cl : List (Str × Addr)) (fp : List Addr), PE (X.blk s H scope (compEnvC scope cl C X.env) fp) vx tv) (hs : ∀ x, foldedSetIterable iter X.env x = pure x := by intro _; rfl) :
    PS X (.Assign [.Name y py] (.DictComp kx vx [⟨tg, iter, ifs, 0⟩] scope pos) spos) (tAsg (tDc wi g tt tk tv (own.map (·.2))) (gName i)) := by
  refine ⟨fun pins s σ H D I h => ?_⟩
  rw [exec_Assign_Name_used _ _ _ _ hsw]
  refine wpAny_bind (wpAny_standAt (wpAny_bind ?_))
  have h : tDc wi g tt tk tv (own.map (·.2)) σ H (fun x H1 => gName i x σ H1 D.nx) := h
  refine wpAny_bind (thn (dc_core (use := some (assign (.Name y py) X.env)) (Qf := fun _ s' => SP X pins D .next s') hc hN I hi ok hg ht hk he hs h fun L C s' m H' I' q hn f => ?_) fun _ s' hq => wpAny_pure (wpAny_pure hq))
  show wpAny _ _ (assign (.Name y py) X.env (.ref L)) _ _ _
  refine wpAny_assign_Name (store_ok2 (v := V.ref L) I' hN hy (.inl hyl) rfl (fun s2 I2 ⟨a, sb, ha⟩ => ?_) (.inr hyl))
  obtain ⟨f0, f1, f2, f3, f4, f5⟩ := f
  have haC : C ≠ a := by
    rcases ha with z | z
    · rw [z]; exact f1
    · exact fun e => f4 y a z e.symm
  refine ⟨m, hn.sameBut sb haC, fun h3 sb3 => ?_⟩
  exact ⟨_, H', I2.turned (t' := s2.toks) (fun b o hb e => (sb3.2 b hb).trans e) f0 f1 f3 f4 f5, q⟩
theorem sw_trueD {kx vx : Expr} {gs : List Comprehension} {scope : Scope} {pos py : Pos} {y : Str} {l : Nat} {env : Env} (hk : env.scope.kind = .function) (hy : env.scope.names.lookup y = some .local) (hl : (py.line == pos.line) = true)
    (ha : (scope.names.any fun (n, k) => n == y && (k == .local || k == .cell)) = false) : swapsWith (.DictComp kx vx gs scope pos) (some (.Name y py)) l env = pure true := by
  have ky : env.kindOf y = some .local := hy
  have hb : env.blockKind = .function := by unfold Env.blockKind; rw [hk]; rfl
  unfold swapsWith
  simp only [hb, ky, ha, Expr.pos, hl]
  rfl
end
/-- a dict comprehension's turns, by any walk -/
theorem dc_it {J : It} {n : Nat} {G : Hp → Prop} {Y : Nat → Hp → V → Hp → Prop} (w : Walk J n G Y) {g : TG} {tt : TT} {tk tv : TE} {vs : List Nat} {σ : L2.St} {H1 : Hp} {D : Addr} {Qd : Hp → Prop} (Pv : Nat → Hp → Prop) (h0 : Pv 0 (upd H1 D (.dK []))) (hG : ∀ i H, i ≤ n → Pv i H → G H)
    (hs : ∀ i x H H', i < n → Pv i H → Y i H x H' → g x (wipe σ vs) H' fun σ2 H2 => wipe σ2 vs = wipe σ vs ∧ tt σ2 H2 fun b H3 =>
      if b = true then tk σ2 H3 fun y H4 => tv σ2 H4 fun z H5 => ∃ kvs k, y = kV k ∧ H5 D = some (.dK kvs) ∧ kvs.length < sizeLine ∧ Pv (i + 1) (upd H5 D (.dK (putK kvs k z))) else Pv (i + 1) H3) (hd : ∀ H, Pv n H → Qd H) :
    ∃ W : Nat → Nat → Hp → Prop, (∃ m, W 0 m (upd H1 D (.dK []))) ∧ ∀ i m H, W i m H →
      (J.stop i H ∧ Qd H) ∨ (J.go i H ∧ ∃ Nx : Hp → Prop, (∀ H', Nx H' → ∃ m', m' < m ∧ W (i + 1) m' H') ∧ ∀ x H', J.yld i H x H' → g x (wipe σ vs) H' fun σ2 H2 => wipe σ2 vs = wipe σ vs ∧ tt σ2 H2 fun b H3 =>
        if b = true then tk σ2 H3 fun y H4 => tv σ2 H4 fun z H5 => ∃ kvs k, y = kV k ∧ H5 D = some (.dK kvs) ∧ kvs.length < sizeLine ∧ Nx (upd H5 D (.dK (putK kvs k z))) else Nx H3) := by
  refine ⟨fun i m H => m = n - i ∧ i ≤ n ∧ Pv i H, ⟨n, by simp, Nat.zero_le _, h0⟩, ?_⟩
  rintro i m H ⟨rfl, hi, p⟩
  have q := hG i H hi p
  by_cases hlt : i < n
  · refine .inr ⟨w.goes i H hlt q, Pv (i + 1), fun H' p' => ⟨n - (i + 1), by omega, rfl, hlt, p'⟩, fun x H' y => hs i x H H' hlt p (w.yields i H x H' hlt q y)⟩
  · have e : i = n := by omega
    subst e
    exact .inl ⟨w.stops H q, hd H p⟩
end G
set_option Elab.async false
set_option linter.all false
set_option maxRecDepth 100000
set_option maxHeartbeats 4000000
/-! == of dicts whose values have an own ==. -/
namespace PySem.W
open Lean Elab Tactic Meta PySem PySem.Calls PyProof.Rows PyProof.V PySem.Spec
section
variable {prog : Program} {w : World} {K : Type} [DecidableEq K] {knd : KeyKind prog w K} {A : Around} {E : Value → Shared → Prop} {s : Shared}
theorem lay_samePairs {nm : String} {a b : Addr} {ka kb : List (K × Value)} {h₀ : Heap} {Q : Bool → Shared → Prop} (I : Nat → Shared → Prop) (ha : (a == sysModules) = false) (hb : (b == sysModules) = false)
    (da : h₀.DictOf knd a ka) (db : h₀.DictOf knd b kb) (hI : ∀ i s', I i s' → s'.heap.get? a = h₀.get? a ∧ s'.heap.get? b = h₀.get? b)
    (turn : ∀ i k v s', ka[i]? = some (k, v) → I i s' → ∃ y, valueAt kb k = some y ∧ wpAny (model prog w) A (eqBool v y) (fun r s'' => r = true ∧ I (i + 1) s'') E s')
    (hl : ka.length = kb.length) (h0 : I 0 s) (fin : ∀ s', I ka.length s' → Q true s') : wpAny (model prog w) A (Builtin.Dict.samePairs nm a b) Q E s := by
  obtain ⟨oa, es, ep, hoa, _, hda, hka, hpa, _⟩ := da
  obtain ⟨ob, es', ep', hob, _, hdb, hkb, hpb, _⟩ := db
  have hla : ka.length = es.size := by rw [← hpa.length]; exact Array.length_toList
  have hlb : kb.length = es'.size := by rw [← hpb.length]; exact Array.length_toList
  have hfind : ∀ k, findBy knd.is es' k = valueAt kb k := fun k => by
    rw [← hpb.find k]
    clear hlb hpb hkb hdb hob
    obtain ⟨l⟩ := es'
    simp [findBy]
  have at_a : ∀ i s', I i s' → s'.heap.get? a = some oa := fun i s' q => (hI i s' q).1.trans hoa
  have at_b : ∀ i s', I i s' → s'.heap.get? b = some ob := fun i s' q => (hI i s' q).2.trans hob
  have hsz : es.size = es'.size := by rw [← hla, ← hlb]; exact hl
  unfold Builtin.Dict.samePairs Builtin.Dict.showsAll
  rw [if_neg (show ¬ (a == sysModules) = true by rw [ha]; exact Bool.false_ne_true), if_neg (show ¬ (b == sysModules) = true by rw [hb]; exact Bool.false_ne_true)]
  refine wpAny_bind (wpAny_pure (wpAny_bind (wpAny_pure ?_)))
  refine wpAny_bind (wpAny_dictEntries (at_a 0 s h0) hda ?_)
  dsimp only
  refine wpAny_bind (wpAny_dictEntries (at_b 0 s h0) hdb ?_)
  rw [if_neg (by rw [hsz]; simp)]
  refine wpAny_bind (wpAny_dictEpoch (at_a 0 s h0) hda ?_)
  refine wpAny_bind ?_
  rw [Std.Legacy.Range.forIn_eq_forIn_range']
  simp only [Std.Legacy.Range.size, Nat.sub_zero, Nat.add_sub_cancel, Nat.div_one]
  refine wpAny_forIn_list _
    (fun rest q s' => q = (none, ()) ∧ ∃ i, rest = List.range' i (es.size - i) ∧ i ≤ es.size ∧ I i s')
    _ ?_ ?_ _ _ ⟨rfl, 0, by simp, Nat.zero_le _, h0⟩
  · rintro x rest q s' ⟨rfl, i, hr, hi, hIi⟩
    have hlt : i < es.size := by
      rcases Nat.lt_or_ge i es.size with h | h
      · exact h
      · rw [Nat.sub_eq_zero_of_le h] at hr; simp at hr
    obtain ⟨rfl, hrest⟩ : x = i ∧ rest = List.range' (i + 1) (es.size - (i + 1)) := by
      have e : es.size - i = (es.size - (i + 1)) + 1 := by omega
      rw [e, List.range'_succ] at hr
      injection hr with h1 h2
      exact ⟨h1, h2⟩
    refine wpAny_bind (wpAny_dictEntries (at_a _ _ hIi) hda ?_)
    rw [Array.getElem?_eq_getElem hlt]
    have hlt' : x < ka.length := by rw [hla]; exact hlt
    obtain ⟨k, v, hkv⟩ : ∃ k v, ka[x] = (k, v) := ⟨_, _, rfl⟩
    obtain ⟨hkey, hval⟩ := hpa.get? (i := x) (e := es[x]) (k := k) (v := v) (by rw [Array.getElem?_toList]; exact Array.getElem?_eq_getElem hlt) (by rw [List.getElem?_eq_getElem hlt', hkv])
    obtain ⟨k', hk', hh⟩ := hka es[x] (Array.getElem_mem hlt)
    have ekk : k' = k := knd.inj _ _ _ hk' hkey
    rw [ekk] at hh
    obtain ⟨y, hy, he⟩ := turn x k v s' (by rw [List.getElem?_eq_getElem hlt', hkv]) hIi
    show wpAny _ _ (holding [es[x].key, es[x].val] _ >>= _) _ _ _
    rw [hh]
    refine wpAny_bind (wpAny_holding (wpAny_bind (wpAny_dictFind_of hkey (at_b _ _ hIi) hdb hkb ?_)))
    cases hj : es'.findIdx? fun e => knd.is k e.key with
    | none =>
      have hn : valueAt kb k = none := by rw [← hfind k, findBy_of_findIdx?, hj]
      rw [hn] at hy
      exact nomatch hy
    | some j =>
      obtain ⟨hjlt, _, _⟩ := Array.findIdx?_eq_some_iff_getElem.mp hj
      have hv' : valueAt kb k = some es'[j].val := by
        rw [← hfind k, findBy_of_findIdx?, hj]
        simp [Array.getElem?_eq_getElem hjlt]
      refine wpAny_bind (wpAny_dictEntries (at_b _ _ hIi) hdb ?_)
      rw [Array.getElem?_eq_getElem hjlt]
      have ey : es'[j].val = y := Option.some.inj (hv'.symm.trans hy)
      rw [← ey, ← hval] at he
      refine wpAny_holding (wpAny_mono he (fun r s2 hr2 => ?_) fun _ _ z => z)
      obtain ⟨rfl, hI2⟩ := hr2
      show wpAny _ _ (if (!true) = true then _ else _) _ _ _
      rw [if_neg (by decide)]
      refine wpAny_bind (wpAny_dictEpoch (at_a _ _ hI2) hda ?_)
      rw [if_neg (by simp)]
      exact wpAny_pure ⟨rfl, x + 1, hrest, hlt, hI2⟩
  · rintro q s' ⟨rfl, i, hr, hi, hIi⟩
    have hin : i = es.size := by
      rcases Nat.lt_or_ge i es.size with h | h
      · have e : es.size - i = (es.size - (i + 1)) + 1 := by omega
        rw [e, List.range'_succ] at hr; exact nomatch hr
      · exact Nat.le_antisymm hi h
    refine wpAny_pure ?_
    rw [hin, ← hla] at hIi
    exact fin _ hIi
theorem lay_rcDict {a b : Addr} {ka kb : List (K × Value)} {Q : Value → Shared → Prop} (I : Nat → Shared → Prop) (ha : (a == sysModules) = false) (hb : (b == sysModules) = false)
    (da : s.heap.DictOf knd a ka) (db : s.heap.DictOf knd b kb) (hu : A.units < cLine) (hI : ∀ i s', I i s' → s'.heap.get? a = s.heap.get? a ∧ s'.heap.get? b = s.heap.get? b)
    (turn : ∀ i k v s', ka[i]? = some (k, v) → I i s' → ∃ y, valueAt kb k = some y ∧ wpAny (model prog w) A.in1 (eqBool v y) (fun r s'' => r = true ∧ I (i + 1) s'') E s')
    (hl : ka.length = kb.length) (h0 : I 0 s) (fin : ∀ s', I ka.length s' → Q (.bool true) s') : wpAny (model prog w) A (richCompare .Eq (.ref a) (.ref b)) Q E s := by
  refine wpAny_richCompare_same_room (op := .Eq) da.typeIs db.typeIs PySem.F.slot_dict_eq (wpAny_call_entry PySem.F.slot_dict_eq da.typeIs PySem.F.entry_dict_eq ?_ (PySem.F.args_dict_eq_2 _ _)) hu
  show wpAny _ _ (Builtin.Dict.dictSlotArgs "__eq__" ⟨[.ref a, .ref b], []⟩ >>= _) _ _ s
  refine wpAny_bind ?_
  unfold Builtin.Dict.dictSlotArgs
  refine wpAny_bind (wpAny_notOrdered_dict da.typeIs ?_)
  show wpAny _ _ (pure (Value.ref a, Value.ref b)) _ _ s
  refine wpAny_pure ?_
  refine wpAny_bind (wpAny_isInstance (T := "dict") db.typeIs PySem.F.sub_dict_dict ?_)
  simp only [Bool.not_true, Bool.false_eq_true, if_false]
  refine wpAny_bind (wpAny_pure (wpAny_bind (wpAny_pure ?_)))
  refine wpAny_bind (lay_samePairs I ha hb da db hI turn hl h0 fun s' q => ?_)
  exact wpAny_pure ⟨_, rfl, (fun x => nomatch x), fin s' q⟩
end
end PySem.W
namespace G
open PySem PySem.Spec PyProof.Rows L2
theorem pair_at {α β : Type} {F : α → β → Prop} {x : α} : ∀ (i : Nat) {l1 : List α} {l2 : List β}, Paired F l1 l2 → l1[i]? = some x → ∃ y, l2[i]? = some y ∧ F x y := by
  intro i
  induction i with
  | zero =>
    intro l1 l2 p h
    cases p with
    | nil => cases h
    | cons f r =>
      cases h
      exact ⟨_, rfl, f⟩
  | succ n ih =>
    intro l1 l2 p h
    cases p with
    | nil => cases h
    | cons f r => exact ih r h
section
variable {X : Cx} {n : Nat} {D : Eqv}
/-- dicts with the same keys whose values are equal -/
def DDict (D : Eqv) : Eqv := fun x y H => ∃ a b ka kb, x = .ref a ∧ y = .ref b ∧ H a = some (.dK ka) ∧ H b = some (.dK kb) ∧ ka.length = kb.length ∧ ∀ k v, (k, v) ∈ ka → ∃ v', valV kb k = some v' ∧ ∀ H' : Hp, (∀ c o, c ≠ a → c ≠ b → H c = some o → H' c = some o) → D v v' H'
theorem mon_dict : Mon (DDict D) := fun x y H H' e d => by
  obtain ⟨a, b, ka, kb, hx, hy, h1, h2, hl, p⟩ := d
  refine ⟨a, b, ka, kb, hx, hy, e _ _ h1, e _ _ h2, hl, fun k v m => ?_⟩
  obtain ⟨v', h3, h4⟩ := p k v m
  exact ⟨v', h3, fun H2 k2 => h4 H2 fun c o n1 n2 hc => k2 c o n1 n2 (e _ _ hc)⟩
theorem rcG_dict (h : EqG X n D) : RcG X (n + 1) (DDict D) := by
  intro A pins s σ H x y u v sb I rx ry d
  obtain ⟨a, b, ka, kb, rfl, rfl, ea, eb, hl, p⟩ := d
  obtain rfl : u = Value.ref a := rx
  obtain rfl : v = Value.ref b := ry
  obtain ⟨_, ya, va, ra, da⟩ := dk_of I.hok ea
  obtain ⟨_, yb, vb, rb, db⟩ := dk_of I.hok eb
  -- both locked
  obtain ⟨oa, I1⟩ := I.lock ea trivial
  obtain ⟨H2, I2, ob, h2a, h2b, h2c⟩ : ∃ H2, Inv X pins σ H2 s ∧ ∃ ob, H2 a = some (.frz oa (.dK ka)) ∧ H2 b = some (.frz ob (.dK kb)) ∧ ∀ c, c ≠ a → c ≠ b → H2 c = H c := by
    by_cases ne : b = a
    · subst ne
      rw [ea] at eb
      cases eb
      exact ⟨_, I1, oa, upd_same, upd_same, fun c n1 _ => upd_ne n1⟩
    · have eb1 : (upd H a (.frz oa (.dK ka))) b = some (.dK kb) := by rw [upd_ne ne]; exact eb
      obtain ⟨ob, I2⟩ := I1.lock eb1 trivial
      exact ⟨_, I2, ob, by rw [upd_ne (fun z => ne z.symm), upd_same], upd_same, fun c n1 n2 => by rw [upd_ne n2, upd_ne n1]⟩
  have frz : ∀ {H' : Hp} {s' : Shared} {c : Addr} {o : Obj} {u : HO}, Inv X pins σ H' s' → H' c = some (.frz o u) → s'.heap.get? c = some o := fun I' e => (I'.hok _ _ e).1
  refine PySem.W.lay_rcDict (knd := mixKind X.prog X.w) (fun _ s' => LoopI X pins σ H2 s') ya yb da db sb.room.units0 (fun i s' ⟨H', I', e'⟩ => ⟨(frz I' (e' _ _ h2a)).trans (frz I2 h2a).symm, (frz I' (e' _ _ h2b)).trans (frz I2 h2b).symm⟩) (fun i k v s' hk q => ?_) (by rw [← ra.length, ← rb.length]; exact hl) ⟨H2, I2, Ext.rfl'⟩ (fun s' ⟨H', I', e'⟩ => ⟨rfl, ?_⟩)
  · obtain ⟨H', I', e'⟩ := q
    obtain ⟨kv, hkv, e1, e2⟩ : ∃ kv, ka[i]? = some kv ∧ kv.1 = k ∧ RelV kv.2 v := by
      have hi : i < ka.length := by
        rw [ra.length]
        exact (List.getElem?_eq_some_iff.mp hk).1
      have ra' := ra
      unfold KV at ra'
      obtain ⟨y, hy, f⟩ := pair_at i ra' (List.getElem?_eq_getElem hi)
      rw [hk] at hy
      cases hy
      exact ⟨_, List.getElem?_eq_getElem hi, f.1, f.2⟩
    obtain ⟨k2, v2⟩ := kv
    obtain rfl : k2 = k := e1
    obtain ⟨v', hv', hd⟩ := p k2 v2 (List.mem_of_getElem? hkv)
    have hr := rb.val k2
    rw [hv'] at hr
    obtain ⟨y, hy, ry⟩ : ∃ y, valueAt vb k2 = some y ∧ RelV v' y := by
      cases e : valueAt vb k2 with
      | none => rw [e] at hr; exact hr.elim
      | some y => rw [e] at hr; exact ⟨y, rfl, hr⟩
    refine ⟨y, hy, ?_⟩
    refine wpAny_mono (h A.in1 pins s' σ H' v2 v' v y sb.in1 I' e2 ry (hd H' fun c o n1 n2 hc => e' _ _ (by rw [h2c c n1 n2]; exact hc))) (fun r s2 ⟨hr, H3, I3, e3⟩ => ⟨hr, H3, I3, e'.trans e3⟩) fun _ _ z => z
  · -- both unlocked
    have na := I.nofrz ea trivial
    have nb := I.nofrz eb trivial
    have I3 := I'.unlock (e' _ _ h2b) nb
    by_cases ne : b = a
    · subst ne
      rw [ea] at eb
      cases eb
      refine ⟨_, I3, fun c o hc => ?_⟩
      by_cases z : c = b
      · subst z
        rw [upd_same]
        rw [ea] at hc
        exact hc
      · rw [upd_ne z]
        exact e' _ _ (by rw [h2c c z z]; exact hc)
    · have I4 := I3.unlock (d := a) (od := oa) (u := .dK ka) (by rw [upd_ne (fun z => ne z.symm)]; exact e' _ _ h2a) na
      refine ⟨_, I4, fun c o hc => ?_⟩
      by_cases z : c = a
      · subst z
        rw [upd_same]
        rw [ea] at hc
        exact hc
      · rw [upd_ne z]
        by_cases z2 : c = b
        · subst z2
          rw [upd_same]
          rw [eb] at hc
          exact hc
        · rw [upd_ne z2]
          exact e' _ _ (by rw [h2c c z z2]; exact hc)
end
end G
set_option Elab.async false
set_option linter.all false
set_option maxRecDepth 100000
set_option maxHeartbeats 4000000
namespace G
open PySem PySem.Spec PyProof.Rows L2
variable {P : Program} {w : World} {K : PySem.W.Frag} {mg : Str → Option Value} {base : Heap}
theorem soft_store {dx : Addr} {fs : List (Str × V)} : Soft (.ins aStore dx fs) := rfl
/-- Store(limit), Store() -/
def sp_Store_init : Sp := fun vs H Q _ => ∃ (a dx : Addr) (l : Nat), vs = [.ref a, .int l] ∧ H a = some (.ins aStore dx []) ∧ 1 ≤ l ∧ l ≤ 5000 ∧ ∀ H', SameB a H H' → StoreH H' a l ⟨0, [], []⟩ [] → Q .non H'
theorem sc_Store_init : FnScope N_Store_init P_Store_init (defScope s_Store_init) := ⟨rfl, rfl, rfl, by decide +kernel, rfl, by decide +kernel, by decide +kernel⟩
theorem Store_init_body (T : Txt K mg) (cdv : Value) (A : Around) (outer : List Env) (s : Shared) (H : Hp) (vs : List V) (Q : VK) (E : XK) (hr : Room 2 (A.deeper (envOfC "Store.__init__" (defScope s_Store_init) s.heap.objs.size f_Store_init cdv))) (hsp : sp_Store_init vs H Q E) :
    ∃ t, PSs (cxOf CX0 P w K mg base N_Store_init "Store.__init__" (defScope s_Store_init) f_Store_init cdv A outer s H E).nox (defBody s_Store_init) t ∧ t { nx := fun _ H' => Q .non H', rt := Q } (start N_Store_init vs) H := by
  obtain ⟨a, dx, l, rfl, ha, h1, h2, q⟩ := hsp
  have nd := sc_Store_init.nd
  refine ⟨_, (pss_cons (ps_if (pt_not (pt_val (pe_callR (is_within_ok T) (hr.mono (by decide)) rfl T.g_is_within T.k_is_within pass0 (pa_cons (pv 1) (pa_cons pe_int (pa_cons (pe_glob (v := .int 5000) rfl T.g_MOST_LIMIT.choose_spec ⟨_, rfl⟩) pa_nil)))))) (pss_one ps_never) pss_nil) (pss_cons (ps_fld (pv 0) (pv 1) rfl) (pss_cons (ps_fld (pv 0) (pe_makeG T.mk_StoreState (StoreState_init_ok T) (hr.mono (by decide)) rfl T.g_StoreState pass0 (pa_cons pe_int (pa_cons pe_dnewK (pa_cons (pe_tup pa_nil) pa_nil)))) rfl) (pss_one (ps_fld (pv 0) (pe_tup pa_nil) rfl))))), ?_⟩
  have e1 : (decide ((1 : Int) ≤ (l : Int)) && decide ((l : Int) ≤ 5000)) = true := by
    rw [decide_eq_true (by omega), decide_eq_true (by omega)]
    rfl
  refine ⟨_, rfl, _, _, _, rfl, _, rfl, ?_⟩
  rw [e1]
  refine iteF ⟨_, rfl, _, rfl, _, _, _, _, rfl, ha, T.cl_Store, T.no_Store_limit, (by first | decide | exact lt_put (by decide) | exact (by decide : (1 : Nat) < 1000) | exact (by decide : (2 : Nat) < 1000) | exact (by decide : (3 : Nat) < 1000)), fun d hd => ⟨by show 0 ≤ sizeLine; decide, fun t ht => fun x dx2 nx ndx ne => ⟨x, dx2, _, _, _, rfl, upd_same, rfl, ?_⟩⟩⟩
  have s5 := (same_new (o := .dK []) hd).trans ((same_new (o := .tup []) ht).trans (same_made (C := aStoreState) (fs := []) (gs := [("moment", .int 0), ("table", .ref d), ("deeds", .ref t)]) nx ndx))
  generalize hH5 : upd (upd (upd (upd (upd (upd H a (.ins aStore dx (putF "limit" (.int (l : Int)) []))) d (.dK [])) t (.tup [])) dx2 (.own x)) x (.ins aStoreState dx2 [])) x (.ins aStoreState dx2 [("moment", .int 0), ("table", .ref d), ("deeds", .ref t)]) = H5 at s5 ⊢
  have hst : StateH H5 x ⟨0, [], []⟩ := by
    rw [← hH5]
    have s6 := same_made (C := aStoreState) (fs := []) (gs := [("moment", .int 0), ("table", .ref d), ("deeds", .ref t)]) nx ndx
    exact ⟨dx2, d, t, [], [], upd_same, s6 _ _ (same_new ht _ _ upd_same), .nil, s6 _ _ upd_same, .nil⟩
  have ha5 := s5 a _ upd_same
  refine ⟨_, rfl, _, _, _, _, rfl, ha5, T.cl_Store, T.no_Store_state, (by first | decide | exact lt_put (by decide) | exact (by decide : (1 : Nat) < 1000) | exact (by decide : (2 : Nat) < 1000) | exact (by decide : (3 : Nat) < 1000)), by show 0 ≤ sizeLine; decide, fun t2 ht2 => ?_⟩
  have ha6 := same_new (o := .tup []) ht2 _ _ upd_same
  refine ⟨_, rfl, _, _, _, _, rfl, ha6, T.cl_Store, T.no_Store_past, (by first | decide | exact lt_put (by decide) | exact (by decide : (1 : Nat) < 1000) | exact (by decide : (2 : Nat) < 1000) | exact (by decide : (3 : Nat) < 1000)), ?_⟩
  have sb6 : SameB a H5 (upd (upd (upd H5 a (.ins aStore dx (putF "state" (.ref x) (putF "limit" (.int (l : Int)) [])))) t2 (.tup [])) a (.ins aStore dx (putF "past" (.ref t2) (putF "state" (.ref x) (putF "limit" (.int (l : Int)) []))))) := (SameB.upd.trans (SameB.of (same_new ht2))).trans .upd
  refine q _ ((SameB.upd.trans (SameB.of s5)).trans sb6) ⟨dx, x, t2, [], upd_same, hst.ks (KS.sb sb6 ha5 soft_store), ?_, .nil⟩
  have : t2 ≠ a := fun z => by
    rw [z, upd_same] at ht2
    cases ht2
  rw [upd_ne this]
  exact upd_same
theorem Store_init_ok (T : Txt K mg) : FnR P w K mg base CX0 3 f_Store_init sp_Store_init := by
  refine (fr_mkD (ps := P_Store_init) (N := N_Store_init) 2 1 T.fd_Store_init sc_Store_init (by intro z; cases z) rfl (fun _ _ _ _ _ _ _ us its h1 h2 => match us, its, h1, h2 with | [_, _], [_], _, _ => ⟨_, rfl, rfl⟩) ?_ (Store_init_body T)).imp fun vs H Q E h => ?_
  · rintro vs H Q E ⟨a, dx, l, rfl, _⟩
    rfl
  · show sp_Store_init (vs ++ []) H Q E
    rw [List.append_nil]
    exact h
theorem Store_init_ok0 (T : Txt K mg) : FnR P w K mg base CX0 3 f_Store_init (fun vs H Q E => sp_Store_init (vs ++ [.int 1000]) H Q E) := by
  refine fr_mkD (ps := P_Store_init) (N := N_Store_init) 1 0 T.fd_Store_init sc_Store_init (by intro z; cases z) rfl (fun _ _ _ _ _ _ _ us its h1 h2 => match us, its, h1, h2 with | [_], [_], _, _ => ⟨_, rfl, rfl⟩) ?_ (Store_init_body T)
  rintro vs H Q E ⟨a, dx, l, rfl, _⟩
  rfl
/-- store.now -/
def sp_Store_now : Sp := fun vs H Q _ => ∃ p l s past, vs = [.ref p] ∧ StoreH H p l s past ∧ Q (.int s.mo) H
theorem sc_Store_now : FnScope N_Store_now P_Store_now (defScope s_Store_now) := ⟨rfl, rfl, rfl, by decide +kernel, rfl, by decide +kernel, by decide +kernel⟩
theorem Store_now_ok (T : Txt K mg) : FnR P w K mg base CX0 1 f_Store_now sp_Store_now := by
  refine fr_mk (ps := P_Store_now) (N := N_Store_now) T.fd_Store_now sc_Store_now (fun _ _ _ _ _ _ us h => match us, h with | [_], _ => rfl) ?_ ?_
  · rintro vs H Q E ⟨p, l, s, past, rfl, _⟩
    rfl
  · rintro cdv A outer s H vs Q E hr ⟨p, l, s, past, rfl, ⟨dx, st, pa, pvs, hp, ⟨dx2, tb, dd, dv, kvs, h1, h2, h3, h4, h5⟩, hpa, hpv⟩, q⟩
    have nd := sc_Store_now.nd
    refine ⟨_, (pss_one (ps_ret (pe_fld (pe_fld (pv 0) rfl) rfl))), ?_⟩
    exact ⟨_, rfl, _, _, _, _, _, rfl, hp, T.cl_Store, T.no_Store_state, rfl, _, _, _, _, _, rfl, h1, T.cl_StoreState, T.no_StoreState_moment, rfl, q⟩
theorem storeH_step {H2 H' : Hp} {p dx st pa pa2 x : Addr} {l : Nat} {s s2 : Snap} {past : List Snap} {pvs : List V} (hp : H2 p = some (.ins aStore dx [("limit", .int l), ("state", .ref st), ("past", .ref pa)])) (hst : StateH H2 st s) (hpv : PastH H2 past pvs) (hx : StateH H2 x s2)
    (sb : SameB p H2 H') (hp2 : H' p = some (.ins aStore dx [("limit", .int l), ("state", .ref x), ("past", .ref pa2)])) (hpa : H' pa2 = some (.tup (pvs ++ [.ref st]))) : StoreH H' p l s2 (past ++ [s]) := by
  have ks := KS.sb sb hp soft_store
  exact ⟨dx, x, pa2, _, hp2, hx.ks ks, hpa, (hpv.ks ks).snoc ⟨st, rfl, hst.ks ks⟩⟩
/-- store.now = v -/
def sp_now_set : Sp := fun vs H Q _ => ∃ p l v s past, vs = [.ref p, .int v] ∧ StoreH H p l s past ∧ s.mo ≤ v ∧ s.ds.length < sizeLine ∧ past.length < sizeLine ∧ ∀ H', SameB p H H' → StoreH H' p l ⟨v, s.rows, s.ds ++ [.now v]⟩ (past ++ [s]) → Q .non H'
theorem sc_Store_now_set : FnScope N_Store_now_set P_Store_now_set (defScope s_Store_now_set) := ⟨rfl, rfl, rfl, by decide +kernel, rfl, by decide +kernel, by decide +kernel⟩
theorem Store_now_set_ok (T : Txt K mg) : FnR P w K mg base CX0 3 f_Store_now_set sp_now_set := by
  refine fr_mk (ps := P_Store_now_set) (N := N_Store_now_set) T.fd_Store_now_set sc_Store_now_set (fun _ _ _ _ _ _ us h => match us, h with | [_, _], _ => rfl) ?_ ?_
  · rintro vs H Q E ⟨p, l, v, s, past, rfl, _⟩
    rfl
  · rintro cdv A outer s0 H vs Q E hr ⟨p, l, v, s, past, rfl, ⟨dx, st, pa, pvs, hp, ⟨dx2, tb, dd, dv, kvs, h1, h2, h3, h4, h5⟩, hpa, hpv⟩, hv, hz, hz2, q⟩
    have nd := sc_Store_now_set.nd
    have hdl : dv.length = s.ds.length := h5.length.symm
    have hpl : pvs.length = past.length := hpv.length.symm
    refine ⟨_, (pss_cons (ps_if (PW.pt (pw_or (pt_not (pt_val (pe_callR (is_integer_ok T) (hr.mono (by decide)) rfl T.g_is_integer T.k_is_integer pass0 (pa_cons (pv 1) pa_nil)))) (pw_or1 (pt_cmpR op_lt (pv 1) (pe_fld (pe_fld (pv 0) rfl) rfl) (nomark _))))) (pss_one ps_never) pss_nil) (pss_one (ps_expr (pe_methR (pv 0) T.cl_Store T.m_Store_go_on (Store_go_on_ok T) (hr.mono (by decide)) pass0 (pa_cons (pe_makeG T.mk_StoreState (StoreState_init_ok T) (hr.mono (by decide)) rfl T.g_StoreState pass0 (pa_cons (pv 1) (pa_cons (pe_fld (pe_fld (pv 0) rfl) rfl) (pa_cons (pe_tup (StX.pa_star (pe_fld (pe_fld (pv 0) rfl) rfl) (pa_cons (pe_tup (pa_cons pe_str (pa_cons (pv 1) pa_nil))) pa_nil))) pa_nil)))) pa_nil))))), ?_⟩
    refine ⟨_, rfl, .inl ⟨_, rfl, _, rfl, iteF ⟨_, rfl, _, rfl, _, _, _, _, _, rfl, hp, T.cl_Store, T.no_Store_state, rfl, _, _, _, _, _, rfl, h1, T.cl_StoreState, T.no_StoreState_moment, rfl, _, _, rfl, rfl, _, rfl, ite2 (fun h => absurd (of_decide_eq_true h) (by omega)) (fun _ => ?_)⟩⟩⟩
    refine ⟨_, rfl, _, _, _, rfl, hp, rfl, _, rfl, _, rfl, _, _, _, _, _, rfl, hp, T.cl_Store, T.no_Store_state, rfl, _, _, _, _, _, rfl, h1, T.cl_StoreState, T.no_StoreState_table, rfl, _, rfl, _, _, _, _, _, rfl, hp, T.cl_Store, T.no_Store_state, rfl, _, _, _, _, _, rfl, h1, T.cl_StoreState, T.no_StoreState_deeds, rfl, _, _, rfl, .inl (SqT.of h4), _, rfl, by show 2 ≤ sizeLine; decide, fun t ht => ⟨?_, fun t2 ht2 => fun x dx3 nx ndx ne => ⟨x, dx3, _, _, _, rfl, upd_same, rfl, ?_⟩⟩⟩
    · rw [List.length_append]
      show dv.length + 1 ≤ sizeLine
      omega
    have s6 := same_made (C := aStoreState) (fs := []) (gs := [("moment", .int v), ("table", .ref tb), ("deeds", .ref t2)]) nx ndx
    have s5 := (same_new ht).trans ((same_new ht2).trans s6)
    refine ⟨p, x, dx, st, pa, l, pvs, rfl, s5 _ _ hp, s5 _ _ hpa, by omega, fun H' pa2 sb hp2 hpa2 => ?_⟩
    have k5 := KS.of s5
    refine q H' ((SameB.of s5).trans sb) (storeH_step (s5 _ _ hp) (StateH.ks ⟨dx2, tb, dd, dv, kvs, h1, h2, h3, h4, h5⟩ k5) (hpv.ks k5) ⟨dx3, tb, t2, _, kvs, upd_same, s5 _ _ h2, h3.kp k5.kp, s6 _ _ upd_same, ?_⟩ sb hp2 hpa2)
    refine (h5.mono fun _ _ h => h.ks k5).snoc ⟨t, rfl, ?_⟩
    exact s6 _ _ (same_new ht2 _ _ upd_same)
theorem sc_Store_advance : FnScope N_Store_advance P_Store_advance (defScope s_Store_advance) := ⟨rfl, rfl, rfl, by decide +kernel, rfl, by decide +kernel, by decide +kernel⟩
theorem Store_advance_fok (T : Txt K mg) : ∃ fd, FnOk P w K mg base CX0 6 f_Store_advance fd P_Store_advance sp_now_set ∧ KBn K fd P_Store_advance 1 ["now"] (fun us ws => us ++ ws) (fun vs zs => vs ++ zs) := by
  obtain ⟨fd, F⟩ := T.fd_Store_advance
  refine ⟨fd, fok_mk F sc_Store_advance ?_ ?_, kbn_mk F 1 ["now"] (fun {α : Type} (us ws : List α) => us ++ ws) (fun r1 r2 => r1.append r2) (fun _ _ _ _ _ _ us ws h1 h2 => match us, ws, h1, h2 with | [_], [_], _, _ => rfl)⟩
  · rintro vs H Q E ⟨p, l, v, s, past, rfl, _⟩
    rfl
  · rintro cdv A outer s0 H vs Q E hr ⟨p, l, v, s, past, rfl, hs, hv, hz, hz2, q⟩
    have nd := sc_Store_advance.nd
    refine ⟨_, (pss_one (ps_pset T.cl_Store ⟨T.ps_Store_now.1, T.ps_Store_now.2.1, T.ps_Store_now.2.2⟩ (Store_now_set_ok T) (hr.mono (by decide)) pass0 (pv 0) (pv 1) rfl)), ?_⟩
    obtain ⟨dx, st, pa, pvs, hp, r⟩ := hs
    exact ⟨_, rfl, _, rfl, _, _, _, rfl, hp, p, l, v, s, past, rfl, ⟨dx, st, pa, pvs, hp, r⟩, hv, hz, hz2, q⟩
theorem Store_advance_kw_now (T : Txt K mg) : FnKw P w K mg base CX0 6 f_Store_advance 1 ["now"] (fun vs zs => vs ++ zs) sp_now_set := by
  obtain ⟨fd, F, B⟩ := Store_advance_fok (P := P) (w := w) (base := base) T
  exact fkw_mk F B
theorem Store_advance_ok (T : Txt K mg) : FnR P w K mg base CX0 6 f_Store_advance sp_now_set := by
  refine fr_mk (ps := P_Store_advance) (N := N_Store_advance) T.fd_Store_advance sc_Store_advance (fun _ _ _ _ _ _ us h => match us, h with | [_, _], _ => rfl) ?_ ?_
  · rintro vs H Q E ⟨p, l, v, s, past, rfl, _⟩
    rfl
  · rintro cdv A outer s0 H vs Q E hr ⟨p, l, v, s, past, rfl, hs, hv, hz, hz2, q⟩
    have nd := sc_Store_advance.nd
    refine ⟨_, (pss_one (ps_pset T.cl_Store ⟨T.ps_Store_now.1, T.ps_Store_now.2.1, T.ps_Store_now.2.2⟩ (Store_now_set_ok T) (hr.mono (by decide)) pass0 (pv 0) (pv 1) rfl)), ?_⟩
    obtain ⟨dx, st, pa, pvs, hp, r⟩ := hs
    exact ⟨_, rfl, _, rfl, _, _, _, rfl, hp, p, l, v, s, past, rfl, ⟨dx, st, pa, pvs, hp, r⟩, hv, hz, hz2, q⟩
/-- need_room -/
def sp_need_room : Sp := fun vs H Q _ => ∃ p l s past nm, vs = [.ref p, .str nm] ∧ StoreH H p l s past ∧ s.rows.length < 100 ∧ Q .non H
theorem sc_Store_need_room : FnScope N_Store_need_room P_Store_need_room (defScope s_Store_need_room) := ⟨rfl, rfl, rfl, by decide +kernel, rfl, by decide +kernel, by decide +kernel⟩
theorem Store_need_room_ok (T : Txt K mg) : FnR P w K mg base CX0 1 f_Store_need_room sp_need_room := by
  refine fr_mk (ps := P_Store_need_room) (N := N_Store_need_room) T.fd_Store_need_room sc_Store_need_room (fun _ _ _ _ _ _ us h => match us, h with | [_, _], _ => rfl) ?_ ?_
  · rintro vs H Q E ⟨p, l, s, past, nm, rfl, _⟩
    rfl
  · rintro cdv A outer s0 H vs Q E hr ⟨p, l, s, past, nm, rfl, ⟨dx, st, pa, pvs, hp, ⟨dx2, tb, dd, dv, kvs, h1, h2, h3, h4, h5⟩, hpa, hpv⟩, hz, q⟩
    have nd := sc_Store_need_room.nd
    refine ⟨_, (pss_one (ps_if (PW.pt (pw_and (pt_cmp (pc_dnotin (hu_of hr) (pv 1) (pe_fld (pe_fld (pv 0) rfl) rfl))) (pw_and1 (pt_cmpR op_ge (pe_callB call_lenD (by rfl) T.n_len (by decide +kernel) (pa_cons (pe_fld (pe_fld (pv 0) rfl) rfl) pa_nil)) (pe_glob (v := .int 100) rfl T.g_MOST_SERIES.choose_spec ⟨_, rfl⟩) (nomark _))))) (pss_one ps_never) pss_nil)), ?_⟩
    refine ⟨_, rfl, _, rfl, _, _, _, _, _, rfl, hp, T.cl_Store, T.no_Store_state, rfl, _, _, _, _, _, rfl, h1, T.cl_StoreState, T.no_StoreState_table, rfl, _, _, rfl, DGet.k (k := Sum.inr nm) h2, _, rfl, ite2 (fun _ => ?_) (fun _ => iteF q)⟩
    refine ⟨_, rfl, _, _, _, _, _, rfl, hp, T.cl_Store, T.no_Store_state, rfl, _, _, _, _, _, rfl, h1, T.cl_StoreState, T.no_StoreState_table, rfl, _, _, rfl, h2, _, _, rfl, rfl, _, rfl, ite2 (fun h => ?_) (fun _ => q)⟩
    have := of_decide_eq_true h
    have e : kvs.length = s.rows.length := h3.length.symm
    omega
/-- take -/
def sp_take : Sp := fun vs H Q _ => ∃ p l s past nm sr pts de dv, vs = [.ref p, .str nm, .ref sr, dv] ∧ StoreH H p l s past ∧ (s.rows.map (·.1)).Nodup ∧ IsSer H sr pts ∧ DeedAt H de dv ∧ s.ds.length < sizeLine ∧ past.length < sizeLine ∧ s.rows.length < sizeLine ∧ ∀ H', SameB p H H' → StoreH H' p l ⟨s.mo, putR s.rows nm pts, s.ds ++ [de]⟩ (past ++ [s]) → Q .non H'
theorem sc_Store_take : FnScope N_Store_take P_Store_take (defScope s_Store_take) := ⟨rfl, rfl, rfl, by decide +kernel, rfl, by decide +kernel, by decide +kernel⟩
theorem Store_take_ok (T : Txt K mg) : FnR P w K mg base CX0 3 f_Store_take sp_take := by
  refine fr_mk (ps := P_Store_take) (N := N_Store_take) T.fd_Store_take sc_Store_take (fun _ _ _ _ _ _ us h => match us, h with | [_, _, _, _], _ => rfl) ?_ ?_
  · rintro vs H Q E ⟨p, l, s, past, nm, sr, pts, de, dv, rfl, _⟩
    rfl
  · rintro cdv A outer s0 H vs Q E hr ⟨p, l, s, past, nm, sr, pts, de, dev, rfl, ⟨dx, st, pa, pvs, hp, ⟨dx2, tb, dd, dv, kvs, h1, h2, h3, h4, h5⟩, hpa, hpv⟩, hnd, hsr, hde, hz, hz2, hz3, q⟩
    have nd := sc_Store_take.nd
    have hlen : kvs.length = s.rows.length := h3.length.symm
    have hdl : dv.length = s.ds.length := h5.length.symm
    have hpl : pvs.length = past.length := hpv.length.symm
    refine ⟨_, (pss_one (ps_expr (pe_methR (pv 0) T.cl_Store T.m_Store_go_on (Store_go_on_ok T) (hr.mono (by decide)) pass0 (pa_cons (pe_makeG T.mk_StoreState (StoreState_init_ok T) (hr.mono (by decide)) rfl T.g_StoreState pass0 (pa_cons (pe_fld (pe_fld (pv 0) rfl) rfl) (pa_cons (pe_dstar (pe_fld (pe_fld (pv 0) rfl) rfl) (pv 1) (pv 2)) (pa_cons (pe_tup (StX.pa_star (pe_fld (pe_fld (pv 0) rfl) rfl) (pa_cons (pv 3) pa_nil))) pa_nil)))) pa_nil)))), ?_⟩
    refine ⟨_, rfl, _, _, _, rfl, hp, rfl, _, rfl, _, _, _, _, _, rfl, hp, T.cl_Store, T.no_Store_state, rfl, _, _, _, _, _, rfl, h1, T.cl_StoreState, T.no_StoreState_moment, rfl, fun pd hpd => ?_⟩
    have s1 := same_new (o := .dK []) hpd
    refine ⟨_, rfl, _, _, _, _, _, rfl, s1 _ _ hp, T.cl_Store, T.no_Store_state, rfl, _, _, _, _, _, rfl, s1 _ _ h1, T.cl_StoreState, T.no_StoreState_table, rfl, tb, kvs, rfl, s1 _ _ h2, ne_of_none h2 hpd, upd_same, fun q2 hq2 => ?_⟩
    rw [upd_upd] at hq2 ⊢
    rw [merge_nd (h3.nd hnd)] at hq2
    have nq : q2 ≠ pd := fun z => by
      rw [z, upd_same] at hq2
      cases hq2
    refine ⟨_, rfl, _, rfl, .inr nm, rfl, upd_same, by rw [upd_ne nq.symm, upd_same], by omega, ?_⟩
    rw [merge_nd (h3.nd hnd), upd_upd]
    have s2 : Same H (upd (upd (upd H pd (.dK kvs)) q2 (.dK [(.inr nm, .ref sr)])) pd (.dK (putK kvs (.inr nm) (.ref sr)))) := fun b o e => by
      rw [upd_ne (ne_of_none e hpd)]
      exact same_new hq2 _ _ (same_new hpd _ _ e)
    generalize hH2 : upd (upd (upd H pd (.dK kvs)) q2 (.dK [(.inr nm, .ref sr)])) pd (.dK (putK kvs (.inr nm) (.ref sr))) = H2 at s2 ⊢
    have hpd2 : H2 pd = some (.dK (putK kvs (.inr nm) (.ref sr))) := by
      rw [← hH2]
      exact upd_same
    have ht2 : TabD H2 (putK kvs (.inr nm) (.ref sr)) (putR s.rows nm pts) := TabD.put (h3.kp (Kp.of s2)) (hsr.kp (Kp.of s2))
    refine ⟨_, rfl, _, _, _, _, _, rfl, s2 _ _ hp, T.cl_Store, T.no_Store_state, rfl, _, _, _, _, _, rfl, s2 _ _ h1, T.cl_StoreState, T.no_StoreState_deeds, rfl, _, _, rfl, .inl (SqT.of (s2 _ _ h4)), _, rfl, ?_, fun t2 ht2' => fun x dx3 nx ndx ne => ⟨x, dx3, _, _, _, rfl, upd_same, rfl, ?_⟩⟩
    · rw [List.length_append]
      show dv.length + 1 ≤ sizeLine
      omega
    have s6 := same_made (C := aStoreState) (fs := []) (gs := [("moment", .int s.mo), ("table", .ref pd), ("deeds", .ref t2)]) nx ndx
    have s5 := (same_new ht2').trans s6
    refine ⟨p, x, dx, st, pa, l, pvs, rfl, s5 _ _ (s2 _ _ hp), s5 _ _ (s2 _ _ hpa), by omega, fun H' pa2 sb hp2 hpa2 => ?_⟩
    have k5 := KS.of (s2.trans s5)
    refine q H' ((SameB.of (s2.trans s5)).trans sb) (storeH_step (s5 _ _ (s2 _ _ hp)) (StateH.ks ⟨dx2, tb, dd, dv, kvs, h1, h2, h3, h4, h5⟩ k5) (hpv.ks k5) ⟨dx3, pd, t2, _, _, upd_same, s5 _ _ hpd2, ht2.kp (Kp.of s5), s6 _ _ upd_same, ?_⟩ sb hp2 hpa2)
    exact (h5.mono fun _ _ h => h.ks k5).snoc (hde.ks k5)
/-- store[name] -/
def sp_getitem : Sp := fun vs H Q _ => ∃ p l s past nm pts, vs = [.ref p, .str nm] ∧ StoreH H p l s past ∧ s.rows.lookup nm = some pts ∧ ∀ a, IsSer H a pts → Q (.ref a) H
theorem sc_Store_getitem : FnScope N_Store_getitem P_Store_getitem (defScope s_Store_getitem) := ⟨rfl, rfl, rfl, by decide +kernel, rfl, by decide +kernel, by decide +kernel⟩
theorem Store_getitem_ok (T : Txt K mg) : FnR P w K mg base CX0 1 f_Store_getitem sp_getitem := by
  refine fr_mk (ps := P_Store_getitem) (N := N_Store_getitem) T.fd_Store_getitem sc_Store_getitem (fun _ _ _ _ _ _ us h => match us, h with | [_, _], _ => rfl) ?_ ?_
  · rintro vs H Q E ⟨p, l, s, past, nm, pts, rfl, _⟩
    rfl
  · rintro cdv A outer s0 H vs Q E hr ⟨p, l, s, past, nm, pts, rfl, ⟨dx, st, pa, pvs, hp, ⟨dx2, tb, dd, dv, kvs, h1, h2, h3, h4, h5⟩, hpa, hpv⟩, hl, q⟩
    have nd := sc_Store_getitem.nd
    obtain ⟨a, hv, hs⟩ := (h3.val (nm := nm)).1 pts hl
    have g := DGet.k (k := Sum.inr nm) h2
    rw [hv] at g
    refine ⟨_, (pss_cons (ps_if (PW.pt (pw_or (pt_not (pt_val (pe_callB call_isi (by rfl) T.n_isinstance (by decide +kernel) (pa_cons (pv 1) (pa_cons (pe_bltn (by rfl) T.n_str (by decide +kernel) (v := .ty "str") rfl) pa_nil))))) (pw_or1 (pt_cmp (pc_dnotin (hu_of hr) (pv 1) (pe_fld (pe_fld (pv 0) rfl) rfl)))))) (pss_one ps_never) pss_nil) (pss_one (ps_ret (pe_dget (hu_of hr) (pe_fld (pe_fld (pv 0) rfl) rfl) (pv 1) (fun _ _ => rfl))))), ?_⟩
    refine ⟨_, rfl, _, _, _, _, _, rfl, .ty _, .base (.str _), kt "str" "str" true, _, rfl, iteF ?_⟩
    refine ⟨_, rfl, _, rfl, _, _, _, _, _, rfl, hp, T.cl_Store, T.no_Store_state, rfl, _, _, _, _, _, rfl, h1, T.cl_StoreState, T.no_StoreState_table, rfl, _, _, rfl, g, _, rfl, iteF ?_⟩
    exact ⟨_, rfl, _, _, _, _, _, rfl, hp, T.cl_Store, T.no_Store_state, rfl, _, _, _, _, _, rfl, h1, T.cl_StoreState, T.no_StoreState_table, rfl, _, rfl, _, _, rfl, g, q a hs⟩
/-- store.names -/
def sp_names : Sp := fun vs H Q _ => ∃ p l s past, vs = [.ref p] ∧ StoreH H p l s past ∧ ∀ t, H t = none → Q (.ref t) (upd H t (.tup (s.rows.map fun r => V.str r.1)))
theorem sc_Store_names : FnScope N_Store_names P_Store_names (defScope s_Store_names) := ⟨rfl, rfl, rfl, by decide +kernel, rfl, by decide +kernel, by decide +kernel⟩
theorem Store_names_ok (T : Txt K mg) : FnR P w K mg base CX0 1 f_Store_names sp_names := by
  refine fr_mk (ps := P_Store_names) (N := N_Store_names) T.fd_Store_names sc_Store_names (fun _ _ _ _ _ _ us h => match us, h with | [_], _ => rfl) ?_ ?_
  · rintro vs H Q E ⟨p, l, s, past, rfl, _⟩
    rfl
  · rintro cdv A outer s0 H vs Q E hr ⟨p, l, s, past, rfl, ⟨dx, st, pa, pvs, hp, ⟨dx2, tb, dd, dv, kvs, h1, h2, h3, h4, h5⟩, hpa, hpv⟩, q⟩
    have nd := sc_Store_names.nd
    refine ⟨_, (pss_one (ps_ret (pe_callTy (call_tuple_dK rfl) (by rfl) T.n_tuple (by decide +kernel) (pa_cons (pe_fld (pe_fld (pv 0) rfl) rfl) pa_nil)))), ?_⟩
    refine ⟨_, rfl, _, _, _, _, _, rfl, hp, T.cl_Store, T.no_Store_state, rfl, _, _, _, _, _, rfl, h1, T.cl_StoreState, T.no_StoreState_table, rfl, _, _, rfl, h2, fun t ht => ?_⟩
    rw [h3.keys]
    exact q t ht
/-- len(store) -/
def sp_Store_len : Sp := fun vs H Q _ => ∃ p l s past, vs = [.ref p] ∧ StoreH H p l s past ∧ Q (.int (s.rows.length : Nat)) H
theorem sc_Store_len : FnScope N_Store_len P_Store_len (defScope s_Store_len) := ⟨rfl, rfl, rfl, by decide +kernel, rfl, by decide +kernel, by decide +kernel⟩
theorem Store_len_ok (T : Txt K mg) : FnR P w K mg base CX0 1 f_Store_len sp_Store_len := by
  refine fr_mk (ps := P_Store_len) (N := N_Store_len) T.fd_Store_len sc_Store_len (fun _ _ _ _ _ _ us h => match us, h with | [_], _ => rfl) ?_ ?_
  · rintro vs H Q E ⟨p, l, s, past, rfl, _⟩
    rfl
  · rintro cdv A outer s0 H vs Q E hr ⟨p, l, s, past, rfl, ⟨dx, st, pa, pvs, hp, ⟨dx2, tb, dd, dv, kvs, h1, h2, h3, h4, h5⟩, hpa, hpv⟩, q⟩
    have nd := sc_Store_len.nd
    refine ⟨_, (pss_one (ps_ret (pe_callB call_lenD (by rfl) T.n_len (by decide +kernel) (pa_cons (pe_fld (pe_fld (pv 0) rfl) rfl) pa_nil)))), ?_⟩
    refine ⟨_, rfl, _, _, _, _, _, rfl, hp, T.cl_Store, T.no_Store_state, rfl, _, _, _, _, _, rfl, h1, T.cl_StoreState, T.no_StoreState_table, rfl, _, _, rfl, h2, ?_⟩
    rw [show kvs.length = s.rows.length from h3.length.symm]
    exact q
/-- name in store, a text -/
def sp_contains : Sp := fun vs H Q _ => ∃ p l s past nm, vs = [.ref p, .str nm] ∧ StoreH H p l s past ∧ Q (.bl (s.rows.any fun r => decide (r.1 = nm))) H
theorem sc_Store_contains : FnScope N_Store_contains P_Store_contains (defScope s_Store_contains) := ⟨rfl, rfl, rfl, by decide +kernel, rfl, by decide +kernel, by decide +kernel⟩
theorem Store_contains_ok (T : Txt K mg) : FnR P w K mg base CX0 1 f_Store_contains sp_contains := by
  refine fr_mk (ps := P_Store_contains) (N := N_Store_contains) T.fd_Store_contains sc_Store_contains (fun _ _ _ _ _ _ us h => match us, h with | [_, _], _ => rfl) ?_ ?_
  · rintro vs H Q E ⟨p, l, s, past, nm, rfl, _⟩
    rfl
  · rintro cdv A outer s0 H vs Q E hr ⟨p, l, s, past, nm, rfl, ⟨dx, st, pa, pvs, hp, ⟨dx2, tb, dd, dv, kvs, h1, h2, h3, h4, h5⟩, hpa, hpv⟩, q⟩
    have nd := sc_Store_contains.nd
    refine ⟨_, (pss_one (ps_ret (pe_and (pe_callB call_isi (by rfl) T.n_isinstance (by decide +kernel) (pa_cons (pv 1) (pa_cons (pe_bltn (by rfl) T.n_str (by decide +kernel) (v := .ty "str") rfl) pa_nil))) (pe_one (pe_cmp (pc_din (hu_of hr) (pv 1) (pe_fld (pe_fld (pv 0) rfl) rfl))))))), ?_⟩
    refine ⟨_, rfl, _, _, _, _, _, rfl, .ty _, .base (.str _), kt "str" "str" true, _, rfl, iteT ?_⟩
    refine ⟨_, rfl, _, rfl, _, _, _, _, _, rfl, hp, T.cl_Store, T.no_Store_state, rfl, _, _, _, _, _, rfl, h1, T.cl_StoreState, T.no_StoreState_table, rfl, _, _, rfl, DGet.k (k := Sum.inr nm) h2, ?_⟩
    rw [← h3.any, ← valV_any] at q
    exact q
/-- undo -/
def sp_undo : Sp := fun vs H Q _ => ∃ p l s past, vs = [.ref p] ∧ StoreH H p l s past ∧ past.length < sizeLine ∧ (past = [] → Q (.bl false) H) ∧ ∀ q0 s2 H', past = q0 ++ [s2] → SameB p H H' → StoreH H' p l s2 q0 → Q (.bl true) H'
theorem sc_Store_undo : FnScope N_Store_undo P_Store_undo (defScope s_Store_undo) := ⟨rfl, rfl, rfl, by decide +kernel, rfl, by decide +kernel, by decide +kernel⟩
theorem Store_undo_ok (T : Txt K mg) : FnR P w K mg base CX0 1 f_Store_undo sp_undo := by
  refine fr_mk (ps := P_Store_undo) (N := N_Store_undo) T.fd_Store_undo sc_Store_undo (fun _ _ _ _ _ _ us h => match us, h with | [_], _ => rfl) ?_ ?_
  · rintro vs H Q E ⟨p, l, s, past, rfl, _⟩
    rfl
  · rintro cdv A outer s0 H vs Q E hr ⟨p, l, s, past, rfl, ⟨dx, st, pa, pvs, hp, hst, hpa, hpv⟩, hz, q0, q⟩
    have nd := sc_Store_undo.nd
    have hpl : pvs.length = past.length := hpv.length.symm
    refine ⟨_, (pss_cons (ps_if (pt_cmpR op_eq (pe_callB call_len_seq (by rfl) T.n_len (by decide +kernel) (pa_cons (pe_fld (pv 0) rfl) pa_nil)) pe_int (nomark _)) (pss_one (ps_ret pe_bl)) pss_nil) (pss_cons (ps_fld (pv 0) (pe_ix ix_tup (pe_fld (pv 0) rfl) (pe_un un_neg pe_int) (fun _ _ => rfl)) rfl) (pss_cons (ps_fld (pv 0) (pe_slice sl_tupA (pe_fld (pv 0) rfl) po_none (po_some (pe_un un_neg pe_int))) rfl) (pss_one (ps_ret pe_bl))))), ?_⟩
    refine ⟨_, rfl, _, _, _, _, _, rfl, hp, T.cl_Store, T.no_Store_past, rfl, _, _, rfl, .inr (SqT.of hpa), rfl, _, rfl, ?_⟩
    by_cases c : past = []
    · subst c
      cases hpv
      exact iteTc rfl (q0 rfl)
    · have hne : pvs ≠ [] := fun z => by
        rw [z] at hpl
        exact c (List.length_eq_zero_iff.mp hpl.symm)
      refine iteFc (decide_eq_false fun z => hne ?_) ?_
      · injection z with z
        exact List.length_eq_zero_iff.mp (by omega)
      obtain ⟨past0, s2, rfl⟩ : ∃ a b, past = a ++ [b] := ⟨past.dropLast, past.getLast c, (List.dropLast_concat_getLast c).symm⟩
      obtain ⟨pv0, v2, rfl⟩ : ∃ a b, pvs = a ++ [b] := ⟨pvs.dropLast, pvs.getLast hne, (List.dropLast_concat_getLast hne).symm⟩
      obtain ⟨hp0, x2, rfl, hst2⟩ := paired_snoc_inv hpv
      refine ⟨_, rfl, _, _, _, _, _, rfl, hp, T.cl_Store, T.no_Store_past, rfl, _, rfl, _, _, _, _, rfl, rfl, SqT.of hpa, atI_last _ _, _, rfl, _, _, _, _, rfl, hp, T.cl_Store, T.no_Store_state, (by first | decide | exact lt_put (by decide) | exact (by decide : (1 : Nat) < 1000) | exact (by decide : (2 : Nat) < 1000) | exact (by decide : (3 : Nat) < 1000)), ?_⟩
      generalize hH1 : upd H p (.ins aStore dx (putF "state" (.ref x2) [("limit", .int l), ("state", .ref st), ("past", .ref pa)])) = H1
      have sb1 : SameB p H H1 := by rw [← hH1]; exact .upd
      have hp1 : H1 p = some (.ins aStore dx [("limit", .int l), ("state", .ref x2), ("past", .ref pa)]) := by rw [← hH1]; exact upd_same
      have ks1 := KS.sb sb1 hp soft_store
      refine ⟨_, rfl, _, _, _, _, _, rfl, hp1, T.cl_Store, T.no_Store_past, rfl, ?_⟩
      unfold tNoPart
      refine ⟨_, rfl, _, rfl, pa, _, rfl, SqT.of (ks1 _ _ (fun z => z) hpa), fun z => ?_, fun _ b hb => ?_⟩
      · have := z.2
        rw [sIx_m1, List.length_append] at this
        simp at this
      rw [cut_dropLast]
      have s12 := same_new (o := .tup pv0) hb
      refine ⟨_, rfl, _, _, _, _, rfl, s12 _ _ hp1, T.cl_Store, T.no_Store_past, (by first | decide | exact lt_put (by decide) | exact (by decide : (1 : Nat) < 1000) | exact (by decide : (2 : Nat) < 1000) | exact (by decide : (3 : Nat) < 1000)), ?_⟩
      generalize hH3 : upd (upd H1 b (.tup pv0)) p (.ins aStore dx (putF "past" (.ref b) [("limit", .int l), ("state", .ref x2), ("past", .ref pa)])) = H3
      have sb3 : SameB p H1 H3 := by rw [← hH3]; exact (SameB.of s12).trans .upd
      have ks3 := ks1.trans (KS.sb sb3 hp1 soft_store)
      have nbp : b ≠ p := (ne_of_none hp1 hb).symm
      refine q past0 s2 H3 rfl (sb1.trans sb3) ⟨dx, x2, b, pv0, ?_, hst2.ks ks3, ?_, PastH.ks hp0 ks3⟩
      · rw [← hH3]
        exact upd_same
      · rw [← hH3, upd_ne nbp]
        exact upd_same
end G
set_option Elab.async false
set_option linter.all false
set_option maxRecDepth 100000
set_option maxHeartbeats 4000000
/-! Within a comprehension's element the context is the block's: its reading must not name it. K in X.K's place. -/
namespace G
open PySem PySem.Spec PyProof.Rows L2
section
variable {X : Cx} {K : PySem.W.Frag}
theorem pe_fldK {e : Expr} {f : Str} {pos : Pos} {ta : TE} (hK : X.K = K) (he : PE X e ta) (hb : attributeBase e f X.env (eval e X.env) = eval e X.env) : PE X (.Attribute e f pos) (tFld K ta f) := hK ▸ pe_fld he hb
theorem pi_tupK {tg l : Expr} {tl : TE} (hK : X.K = K) (hl : PE X l tl) : PI X tg l (iTup K tl) := hK ▸ pi_tup hl
theorem pi_listK {tg l : Expr} {tl : TE} (hK : X.K = K) (hl : PE X l tl) : PI X tg l (iList K tl) := hK ▸ pi_list hl
theorem ix_listK (hK : X.K = K) : IxR X (rIxL K) := hK ▸ ix_list
theorem ix_tupK (hK : X.K = K) : IxR X (rIxT K) := hK ▸ ix_tup
theorem call_isiK' (hK : X.K = K) : CallR X (.builtin "isinstance") (rIsi K) := hK ▸ call_isi
end
/-- an expression that is never reached -/
theorem pe_nev {X : Cx} {e : Expr} : PE X e (fun _ _ _ => False) := ⟨fun _ _ _ _ _ _ h => h.elim⟩
/-! ### data that avoids what changes -/
mutual
inductive DA (H : Hp) (N : Addr → Prop) : V → PyData → Prop
  | int (i : Int) : DA H N (.int i) (.int i)
  | str (x : Str) : DA H N (.str x) (.str x)
  | lst {a : Addr} {xs : List V} {ds : List PyData} : H a = some (.lst xs) → N a → DAs H N xs ds → DA H N (.ref a) (.list ds)
  | tup {a : Addr} {xs : List V} {ds : List PyData} : H a = some (.tup xs) → DAs H N xs ds → DA H N (.ref a) (.tuple ds)
inductive DAs (H : Hp) (N : Addr → Prop) : List V → List PyData → Prop
  | nil : DAs H N [] []
  | cons {v : V} {vs : List V} {d : PyData} {ds : List PyData} : DA H N v d → DAs H N vs ds → DAs H N (v :: vs) (d :: ds)
end
mutual
theorem DA.dp {K : PySem.W.Frag} {H : Hp} {N : Addr → Prop} : ∀ (d : PyData) (v : V), DA H N v d → Dp K H v d
  | _, _, .int i => .int i
  | _, _, .str x => .str x
  | _, _, .lst h _ a => .lst (SqL.of h) (DAs.dp _ _ a)
  | _, _, .tup h a => .tup (SqT.of h) (DAs.dp _ _ a)
theorem DAs.dp {K : PySem.W.Frag} {H : Hp} {N : Addr → Prop} : ∀ (ds : List PyData) (vs : List V), DAs H N vs ds → DpAll K H vs ds
  | _, _, .nil => .nil
  | _, _, .cons h r => .cons (DA.dp _ _ h) (DAs.dp _ _ r)
end
mutual
theorem DA.mono {H H' : Hp} {N N' : Addr → Prop} (ht : ∀ b xs, H b = some (.tup xs) → H' b = some (.tup xs)) (hl : ∀ b xs, N b → H b = some (.lst xs) → H' b = some (.lst xs) ∧ N' b) : ∀ (d : PyData) (v : V), DA H N v d → DA H' N' v d
  | _, _, .int i => .int i
  | _, _, .str x => .str x
  | _, _, .lst h n a => .lst (hl _ _ n h).1 (hl _ _ n h).2 (DAs.mono ht hl _ _ a)
  | _, _, .tup h a => .tup (ht _ _ h) (DAs.mono ht hl _ _ a)
theorem DAs.mono {H H' : Hp} {N N' : Addr → Prop} (ht : ∀ b xs, H b = some (.tup xs) → H' b = some (.tup xs)) (hl : ∀ b xs, N b → H b = some (.lst xs) → H' b = some (.lst xs) ∧ N' b) : ∀ (ds : List PyData) (vs : List V), DAs H N vs ds → DAs H' N' vs ds
  | _, _, .nil => .nil
  | _, _, .cons h r => .cons (DA.mono ht hl _ _ h) (DAs.mono ht hl _ _ r)
end
theorem DA.same {H H' : Hp} {N : Addr → Prop} {d : PyData} {v : V} (h : DA H N v d) (s : Same H H') : DA H' N v d := h.mono (fun _ _ e => s _ _ e) (fun _ _ n e => ⟨s _ _ e, n⟩)
/-- what changes is p alone: a list, or no list at all -/
theorem DA.sb {H H' : Hp} {N N' : Addr → Prop} {p : Addr} {u : HO} {d : PyData} {v : V} (h : DA H N v d) (hp : H p = some u) (hu : ∀ xs, u ≠ .tup xs) (s : SameB p H H') (hn : ∀ b, N b → b ≠ p ∧ N' b) : DA H' N' v d :=
  h.mono (fun b xs e => s b _ (fun z => by rw [z, hp] at e; exact hu xs (Option.some.inj e)) e) (fun b xs n e => ⟨s b _ (hn b n).1 e, (hn b n).2⟩)
theorem das_of {H : Hp} {N : Addr → Prop} {α : Type} {f : α → PyData} : ∀ {ps : List α} {l : List V}, Paired (fun p v => DA H N v (f p)) ps l → DAs H N l (ps.map f)
  | _, _, .nil => .nil
  | _, _, .cons h r => .cons h (das_of r)
/-- lc_rel, the items' own wish about what stays -/
theorem lc_relD {J : It} {n : Nat} {G : Hp → Prop} {Y : Nat → Hp → V → Hp → Prop} (w : Walk J n G Y) {g : TG} {tt : TT} {te : TE} {vs : List Nat} {σ : L2.St} {H1 : Hp} {D : Addr} {Qd : Hp → Prop} (keep : Nat → Bool) (R : Nat → V → Hp → Prop)
    (hz : n ≤ sizeLine) (nD : H1 D = none) (mono : ∀ i v H H' l, H D = some (.lst l) → SameB D H H' → R i v H → R i v H') (hG : ∀ H, Same H1 H → G H)
    (hs : ∀ i x H H' (P : V → Hp → Prop) (PN : Hp → Prop), i < n → Same H1 H → (∃ l, H D = some (.lst l)) → Y i H x H' → (keep i = true → ∀ y H4, Same H H4 → R i y H4 → P y H4) → (keep i = false → ∀ H4, Same H H4 → PN H4) →
      g x (wipe σ vs) H' fun σ2 H2 => wipe σ2 vs = wipe σ vs ∧ tt σ2 H2 fun b H3 => if b = true then te σ2 H3 P else PN H3)
    (hd : ∀ H l, Same H1 H → H D = some (.lst l) → Paired (fun i v => R i v H) ((List.range n).filter keep) l → Qd H) :
    ∃ W : Nat → Nat → Hp → Prop, (∃ m, W 0 m (upd H1 D (.lst []))) ∧ ∀ i m H, W i m H →
      (J.stop i H ∧ Qd H) ∨ (J.go i H ∧ ∃ Nx : Hp → Prop, (∀ H', Nx H' → ∃ m', m' < m ∧ W (i + 1) m' H') ∧ ∀ x H', J.yld i H x H' → g x (wipe σ vs) H' fun σ2 H2 => wipe σ2 vs = wipe σ vs ∧ tt σ2 H2 fun b H3 =>
        if b = true then te σ2 H3 fun y H4 => ∃ acc, H4 D = some (.lst acc) ∧ acc.length < sizeLine ∧ Nx (upd H4 D (.lst (acc ++ [y]))) else Nx H3) := by
  refine lc_it w (fun i H => i ≤ n ∧ Same H1 H ∧ ∃ l, H D = some (.lst l) ∧ Paired (fun i v => R i v H) ((List.range i).filter keep) l) ?_ ?_ ?_ ?_
  · exact ⟨Nat.zero_le _, same_new nD, [], upd_same, .nil⟩
  · exact fun i H _ p => hG H p.2.1
  · rintro i x H H' hi ⟨-, s0, l, hl, pr⟩ hy
    have hlen : l.length ≤ i := by
      rw [← pr.length]
      exact Nat.le_trans (List.length_filter_le _ _) (by simp)
    refine hs i x H H' _ _ hi s0 ⟨l, hl⟩ hy (fun hb y H4 s4 r => ?_) (fun hb H4 q => ?_)
    · have h4 := s4 D _ hl
      have sb : SameB D H4 (upd H4 D (.lst (l ++ [y]))) := .upd
      refine ⟨l, h4, by omega, by omega, Same.at_ nD (s0.trans s4), _, upd_same, ?_⟩
      have : [i].filter keep = [i] := by simp [hb]
      rw [List.range_succ, List.filter_append, this]
      exact (pr.mono fun j v r => mono j v _ _ _ hl ((SameB.of s4).trans sb) r).snoc (mono i y _ _ _ h4 sb r)
    · refine ⟨by omega, s0.trans q, l, q D _ hl, ?_⟩
      have : [i].filter keep = [] := by simp [hb]
      rw [List.range_succ, List.filter_append, this, List.append_nil]
      exact pr.mono fun j v r => mono j v _ _ _ hl (SameB.of q) r
  · rintro H ⟨-, s0, l, hl, pr⟩
    exact hd H l s0 hl pr
/-- lc_all, the same -/
theorem lc_allD {J : It} {n : Nat} {G : Hp → Prop} {Y : Nat → Hp → V → Hp → Prop} (w : Walk J n G Y) {g : TG} {te : TE} {vs : List Nat} {σ : L2.St} {H1 : Hp} {D : Addr} {Qd : Hp → Prop} (R : Nat → V → Hp → Prop)
    (hz : n ≤ sizeLine) (nD : H1 D = none) (mono : ∀ i v H H' l, H D = some (.lst l) → SameB D H H' → R i v H → R i v H') (hG : ∀ H, Same H1 H → G H)
    (hs : ∀ i x H H' (P : V → Hp → Prop), i < n → Same H1 H → (∃ l, H D = some (.lst l)) → Y i H x H' → (∀ y H4, Same H H4 → R i y H4 → P y H4) → g x (wipe σ vs) H' fun σ2 H2 => wipe σ2 vs = wipe σ vs ∧ te σ2 H2 P)
    (hg : ∀ v σ H (Q Q' : L2.St → Hp → Prop), (∀ σ1 H1, Q σ1 H1 → Q' σ1 H1) → g v σ H Q → g v σ H Q')
    (hd : ∀ H l, Same H1 H → H D = some (.lst l) → Paired (fun i v => R i v H) (List.range n) l → Qd H) :
    ∃ W : Nat → Nat → Hp → Prop, (∃ m, W 0 m (upd H1 D (.lst []))) ∧ ∀ i m H, W i m H →
      (J.stop i H ∧ Qd H) ∨ (J.go i H ∧ ∃ Nx : Hp → Prop, (∀ H', Nx H' → ∃ m', m' < m ∧ W (i + 1) m' H') ∧ ∀ x H', J.yld i H x H' → g x (wipe σ vs) H' fun σ2 H2 => wipe σ2 vs = wipe σ vs ∧ tYes σ2 H2 fun b H3 =>
        if b = true then te σ2 H3 fun y H4 => ∃ acc, H4 D = some (.lst acc) ∧ acc.length < sizeLine ∧ Nx (upd H4 D (.lst (acc ++ [y]))) else Nx H3) := by
  refine lc_relD w (fun _ => true) R hz nD mono hG (fun i x H H' P PN hi s l y h1 _ => ?_) (fun H l s h p => hd H l s h ?_)
  · exact hg _ _ _ _ _ (fun σ1 H1 q => ⟨q.1, (if_pos rfl : (if true = true then te σ1 H1 P else PN H1) = te σ1 H1 P).mpr q.2⟩) (hs i x H H' P hi s l y (h1 rfl))
  · have : (List.range n).filter (fun _ => true) = List.range n := List.filter_eq_self.mpr fun _ _ => rfl
    rw [this] at p
    exact p
end G
set_option Elab.async false
set_option linter.all false
set_option maxRecDepth 100000
set_option maxHeartbeats 4000000
namespace G
open PySem PySem.Spec PyProof.Rows L2
variable {P : Program} {w : World} {K : PySem.W.Frag} {mg : Str → Option Value} {base : Heap}
theorem line10k : 10000 ≤ sizeLine := by decide
/-! ### one point more -/
def putP (ps : List Pt) (p : Pt) : List Pt := if (ps.any fun r => decide (r.1 = p.1)) = true then ps.map (fun r => if r.1 = p.1 then p else r) else ps ++ [p]
def insP : List Pt → Pt → List Pt
  | [], p => [p]
  | a :: t, p => if a.1 < p.1 then a :: insP t p else if a.1 = p.1 then p :: t else p :: a :: t
abbrev RiseP (ps : List Pt) : Prop := ps.Pairwise fun a b => a.1 < b.1
theorem rise_iff {ps : List Pt} : Rise (moms ps) ↔ RiseP ps := by
  unfold moms
  exact List.pairwise_map
theorem mem_insP {x p : Pt} : ∀ {ps : List Pt}, x ∈ insP ps p → x = p ∨ x ∈ ps := by
  intro ps
  induction ps with
  | nil =>
    intro h
    exact .inl (List.mem_singleton.mp h)
  | cons a t ih =>
    intro h
    unfold insP at h
    split at h
    · rcases List.mem_cons.mp h with e | e
      · exact .inr (by rw [e]; exact List.mem_cons_self)
      · rcases ih e with e | e
        · exact .inl e
        · exact .inr (List.mem_cons_of_mem _ e)
    · split at h
      · rcases List.mem_cons.mp h with e | e
        · exact .inl e
        · exact .inr (List.mem_cons_of_mem _ e)
      · rcases List.mem_cons.mp h with e | e
        · exact .inl e
        · exact .inr e
theorem insP_rise {p : Pt} : ∀ {ps : List Pt}, RiseP ps → RiseP (insP ps p) := by
  intro ps
  induction ps with
  | nil => intro _; exact List.pairwise_singleton _ _
  | cons a t ih =>
    intro h
    obtain ⟨h1, h2⟩ := List.pairwise_cons.mp h
    unfold insP
    split
    · rename_i c
      refine List.pairwise_cons.mpr ⟨fun x hx => ?_, ih h2⟩
      rcases mem_insP hx with e | e
      · rw [e]; exact c
      · exact h1 x e
    · rename_i c
      split
      · rename_i c2
        refine List.pairwise_cons.mpr ⟨fun x hx => ?_, h2⟩
        rw [← c2]
        exact h1 x hx
      · rename_i c2
        refine List.pairwise_cons.mpr ⟨fun x hx => ?_, h⟩
        rcases List.mem_cons.mp hx with e | e
        · rw [e]; omega
        · have := h1 x e
          omega
theorem putP_cons {a p : Pt} {t : List Pt} (h : ¬ a.1 = p.1) : putP (a :: t) p = a :: putP t p := by
  unfold putP
  have : ((a :: t).any fun r => decide (r.1 = p.1)) = (t.any fun r => decide (r.1 = p.1)) := by
    rw [List.any_cons, decide_eq_false h]
    rfl
  rw [this]
  split
  · rw [List.map_cons, if_neg h]
  · rfl
theorem insP_perm {p : Pt} : ∀ {ps : List Pt}, RiseP ps → (insP ps p).Perm (putP ps p) := by
  intro ps
  induction ps with
  | nil => intro _; exact List.Perm.refl _
  | cons a t ih =>
    intro h
    obtain ⟨h1, h2⟩ := List.pairwise_cons.mp h
    unfold insP
    split
    · rename_i c
      rw [putP_cons (by omega)]
      exact (ih h2).cons a
    · rename_i c
      split
      · rename_i c2
        have e : putP (a :: t) p = p :: t := by
          unfold putP
          rw [if_pos (by rw [List.any_cons, decide_eq_true c2]; rfl), List.map_cons, if_pos c2]
          congr 1
          rw [List.map_congr_left (g := id) fun x hx => ?_]
          · exact List.map_id _
          · rw [if_neg]
            · rfl
            · have := h1 x hx
              omega
        rw [e]
      · rename_i c2
        have e : putP (a :: t) p = (a :: t) ++ [p] := by
          unfold putP
          rw [if_neg]
          intro z
          obtain ⟨x, hx, e⟩ := List.any_eq_true.mp z
          have e := of_decide_eq_true e
          rcases List.mem_cons.mp hx with k | k
          · rw [k] at e
            exact c2 e
          · have := h1 x k
            omega
        rw [e]
        exact (List.perm_append_singleton p (a :: t)).symm
theorem rise_unique : ∀ {as bs : List Pt}, RiseP as → RiseP bs → as.Perm bs → as = bs := by
  intro as
  induction as with
  | nil => intro bs _ _ h; exact (List.nil_perm.mp h).symm
  | cons a t ih =>
    intro bs ha hb h
    cases bs with
    | nil => exact absurd h (List.not_perm_cons_nil)
    | cons b u =>
      obtain ⟨a1, a2⟩ := List.pairwise_cons.mp ha
      obtain ⟨b1, b2⟩ := List.pairwise_cons.mp hb
      have e : a = b := by
        rcases List.mem_cons.mp (h.mem_iff.mp List.mem_cons_self) with e | e
        · exact e
        · rcases List.mem_cons.mp (h.mem_iff.mpr (List.mem_cons_self (a := b) (l := u))) with e2 | e2
          · exact e2.symm
          · have := a1 b e2
            have := b1 a e
            omega
      subst e
      rw [ih a2 b2 (List.Perm.cons_inv h)]
theorem PtD.put {H : Hp} {kvs : List (Key × V)} {ps : List Pt} {p : Pt} {b : Addr} (h : PtD H kvs ps) (hb : IsQ H b p.2.1 p.2.2) : PtD H (putK kvs (.inl p.1) (.ref b)) (putP ps p) := by
  have ha : (kvs.any fun kv => decide (kv.1 = .inl p.1)) = (ps.any fun r => decide (r.1 = p.1)) := by
    induction h with
    | nil => rfl
    | @cons r kv _ _ f _ ih =>
      rw [List.any_cons, List.any_cons, ih]
      have : decide (kv.1 = Sum.inl p.1) = decide (r.1 = p.1) := by
        rw [f.1, key_ll]
        rfl
      rw [this]
  unfold putK putP
  rw [ha]
  split
  · clear ha
    rename_i z
    clear z
    induction h with
    | nil => exact .nil
    | @cons r kv _ _ f _ ih =>
      refine .cons ?_ ih
      by_cases e : r.1 = p.1
      · dsimp only
        rw [if_pos e, if_pos (by rw [f.1, e])]
        exact ⟨by rw [f.1, e], b, rfl, hb⟩
      · dsimp only
        rw [if_neg e, if_neg (by rw [f.1]; exact fun z => e (Sum.inl.inj z))]
        exact f
  · exact Paired.snoc h ⟨rfl, b, rfl, hb⟩
/-- a tuple of points as pairs of a dict -/
theorem pqs_pairs {K : PySem.W.Frag} {H : Hp} {ps : List Pt} {xs : List V} (h : Pqs H ps xs) : ∃ (as : List Addr) (kvs : List (Key × V)), xs = as.map V.ref ∧ Paired (fun p kv => SqT K H p [kV kv.1, kv.2]) as kvs ∧ PtD H kvs ps := by
  induction h with
  | nil => exact ⟨[], [], rfl, .nil, .nil⟩
  | @cons p v _ _ f _ ih =>
    obtain ⟨as, kvs, rfl, h2, h3⟩ := ih
    obtain ⟨a, b, rfl, e, q⟩ := f
    exact ⟨a :: as, (.inl p.1, .ref b) :: kvs, rfl, .cons (SqT.of e) h2, .cons ⟨rfl, b, rfl, q⟩ h3⟩
theorem PtD.nd {H : Hp} {kvs : List (Key × V)} {ps : List Pt} (h : PtD H kvs ps) (n : (moms ps).Nodup) : (kvs.map (·.1)).Nodup := by
  have e : kvs.map (·.1) = (moms ps).map Sum.inl := by
    clear n
    induction h with
    | nil => rfl
    | cons f _ ih => rw [List.map_cons, ih, f.1]; rfl
  rw [e]
  exact List.Pairwise.map _ (fun a b h z => h (Sum.inl.inj z)) n
theorem rise_nd {ns : List Int} (h : Rise ns) : ns.Nodup := h.imp fun h => by omega
theorem putP_ok {ps : List Pt} {p : Pt} (h : RiseP ps) : (moms (putP ps p)).Nodup ∧ ∀ qs, qs.Perm (putP ps p) → Rise (moms qs) → qs = insP ps p := by
  have h1 := insP_perm (p := p) h
  have h2 := insP_rise (p := p) h
  exact ⟨((h1.map (fun p : Pt => p.1)).nodup_iff).mp (rise_nd (rise_iff.mpr h2)), fun qs pq rq => rise_unique (rise_iff.mp rq) h2 (pq.trans h1.symm)⟩
theorem putP_len (ps : List Pt) (p : Pt) : (putP ps p).length ≤ ps.length + 1 := by
  unfold putP
  split
  · rw [List.length_map]
    omega
  · rw [List.length_append]
    exact Nat.le_refl _
def lookR (l : Nat) (rows : List Row) (nm : Str) (pt : Pt) : List Row := putR rows nm (lastN l (insP ((rows.lookup nm).getD []) pt))
structure RowsOk (l : Nat) (rows : List Row) : Prop where
  nd : (rows.map (·.1)).Nodup
  ok : ∀ r ∈ rows, RiseP r.2 ∧ r.2.length ≤ l ∧ ∀ p ∈ r.2, OkPt p
theorem lookup_mem {rows : List Row} {nm : Str} {pts : List Pt} (h : rows.lookup nm = some pts) : (nm, pts) ∈ rows := by
  induction rows with
  | nil => cases h
  | cons r t ih =>
    by_cases c : nm = r.1
    · subst c
      rw [show ((r :: t : List Row).lookup r.1) = some r.2 by simp [List.lookup]] at h
      cases h
      exact List.mem_cons_self
    · have : (nm == r.1) = false := by simpa using c
      have e : (r :: t).lookup nm = t.lookup nm := by
        show (match nm == r.1 with | true => some r.2 | false => t.lookup nm) = _
        rw [this]
      rw [e] at h
      exact List.mem_cons_of_mem _ (ih h)

theorem lookup_ok {l : Nat} {rows : List Row} (h : RowsOk l rows) (nm : Str) : RiseP ((rows.lookup nm).getD []) ∧ ((rows.lookup nm).getD []).length ≤ l ∧ ∀ p ∈ (rows.lookup nm).getD [], OkPt p := by
  cases e : rows.lookup nm with
  | none => exact ⟨.nil, Nat.zero_le _, fun p hp => nomatch hp⟩
  | some pts => exact h.ok _ (lookup_mem e)
def gLook {α : Type} : List α → List α → List α
  | [a], [m, n, v] => [a, n, m, v]
  | _, _ => []
def sp_look : Sp := fun vs H Q _ => ∃ (p : Addr) (l : Nat) (s : Snap) (past : List Snap) (nm : Str) (m : Int) (v : V) (a d : Int), vs = [.ref p, .str nm, .int m, v] ∧ NameOk nm ∧ StoreH H p l s past ∧ RowsOk l s.rows ∧ s.rows.length < 100 ∧ 1 ≤ l ∧ l ≤ 5000 ∧ s.ds.length < sizeLine ∧ past.length < sizeLine ∧ m ≤ s.mo ∧ IsNum H v a d ∧ OkPt (m, a, d) ∧
  ∀ H', SameB p H H' → StoreH H' p l ⟨s.mo, lookR l s.rows nm (m, a, d), s.ds ++ [.look nm (m, a, d)]⟩ (past ++ [s]) → Q .non H'
theorem fr_of {k : Nat} {f : Addr} {fd : FuncData} {ps : List Str} {sp : Sp} (F : FnOk P w K mg base CX0 k f fd ps sp) (B : Binds K fd ps []) : FnR P w K mg base CX0 k f sp :=
  (F.raw B .nil).imp fun vs H Q E h => by rw [List.append_nil]; exact h
theorem sc_Store_look : FnScope N_Store_look P_Store_look (defScope s_Store_look) := ⟨rfl, rfl, rfl, by decide +kernel, rfl, by decide +kernel, by decide +kernel⟩
theorem Store_look_fok (T : Txt K mg) : ∃ fd, FnOk P w K mg base CX0 13 f_Store_look fd P_Store_look sp_look ∧ Binds K fd P_Store_look [] ∧ KBn K fd P_Store_look 1 ["moment", "name", "value"] (fun us ws => gLook us ws) (fun vs zs => gLook vs zs) := by
  obtain ⟨fd, F⟩ := T.fd_Store_look
  refine ⟨fd, fok_mk F sc_Store_look ?_ ?_, F.bindsN (fun _ _ _ _ _ _ us h => match us, h with | [_, _, _, _], _ => rfl), kbn_mk F 1 ["moment", "name", "value"] gLook (fun r1 r2 => ?_) (fun _ _ _ _ _ _ us ws h1 h2 => match us, ws, h1, h2 with | [_], [_, _, _], _, _ => rfl)⟩
  rotate_left 2
  · cases r1 with
    | nil => exact .nil
    | cons a r1 =>
      cases r1 with
      | cons _ _ => exact .nil
      | nil =>
        cases r2 with
        | nil => exact .nil
        | cons b r2 =>
          cases r2 with
          | nil => exact .nil
          | cons c r2 =>
            cases r2 with
            | nil => exact .nil
            | cons d r2 =>
              cases r2 with
              | nil => exact .cons a (.cons c (.cons b (.cons d .nil)))
              | cons _ _ => exact .nil
  · rintro vs H Q E ⟨p, l, s, past, nm, m, v, a, d, rfl, _⟩
    rfl
  · rintro cdv A outer s0 H vs Q E hr ⟨p, l, s, past, nm, m, v, a, d, rfl, hnm, hst, hro, hrl, hl1, hl2, hn, hn2, hm, hv, hok, q⟩
    have nd := sc_Store_look.nd
    refine ⟨_, (pss_cons (ps_expr (pe_callR (need_name_ok T) (hr.mono (by decide)) rfl T.g_need_name T.k_need_name pass0 (pa_cons (pv 1) pa_nil))) (pss_cons (ps_if (PW.pt (pw_or (pt_not (pt_val (pe_callR (is_integer_ok T) (hr.mono (by decide)) rfl T.g_is_integer T.k_is_integer pass0 (pa_cons (pv 2) pa_nil)))) (pw_or1 (pt_cmpR op_gt (pv 2) (pe_fld (pe_fld (pv 0) rfl) rfl) (nomark _))))) (pss_one ps_never) pss_nil) (pss_cons (ps_if (pt_not (pt_val (pe_callR (is_amount_ok T) (hr.mono (by decide)) rfl T.g_is_amount T.k_is_amount pass0 (pa_cons (pv 3) pa_nil)))) (pss_one ps_never) pss_nil) (pss_cons (ps_expr (pe_methR (pv 0) T.cl_Store T.m_Store_need_room (Store_need_room_ok T) (hr.mono (by decide)) pass0 (pa_cons (pv 1) pa_nil))) (pss_cons (ps_set (i := 4) nd rfl (by first | exact Or.inl rfl | exact Or.inr rfl) (pe_smeth (pe_glob rfl T.g_Ratio (v := .ref aRatio) rfl) T.rd_Ratio T.sm_Ratio_of (Ratio_of_ok T) (hr.mono (by decide)) T.k_Ratio_of pass0 (pa_cons (pv 3) pa_nil))) (pss_cons (ps_set (i := 5) nd rfl (by first | exact Or.inl rfl | exact Or.inr rfl) pe_dnewK) (pss_cons (ps_if (pt_cmp (pc_din (hu_of hr) (pv 1) (pe_fld (pe_fld (pv 0) rfl) rfl))) (pss_one (ps_set (i := 5) nd rfl (by first | exact Or.inl rfl | exact Or.inr rfl) (pe_callTy (call_dictT rfl) (by rfl) T.n_dict (by decide +kernel) (pa_cons (pe_fld (pe_dget (hu_of hr) (pe_fld (pe_fld (pv 0) rfl) rfl) (pv 1) (fun _ _ => rfl)) rfl) pa_nil)))) pss_nil) (pss_cons (ps_dput (hu_of hr) (pv 5) (pv 2) (pv 4) rfl) (pss_one (ps_expr (pe_methR (pv 0) T.cl_Store T.m_Store_take (Store_take_ok T) (hr.mono (by decide)) pass0 (pa_cons (pv 1) (pa_cons (pe_callR (latest_ok T) (hr.mono (by decide)) rfl T.g_latest T.k_latest pass0 (pa_cons (pe_callR (points_of_ok T) (hr.mono (by decide)) rfl T.g_points_of T.k_points_of pass0 (pa_cons (pv 5) pa_nil)) (pa_cons (pe_fld (pv 0) rfl) pa_nil))) (pa_cons (pe_tup (pa_cons pe_str (pa_cons (pv 1) (pa_cons (pv 2) (pa_cons (pv 4) pa_nil))))) pa_nil)))))))))))))), ?_⟩
    refine ⟨_, rfl, nm, rfl, hnm, fun H1 s1 => ?_⟩
    have hst1 := hst.same s1
    obtain ⟨dx, st, pa, ps, hp, ⟨dx2, tb, dd, dv, kvs, h1, h2, h3, h4, h5⟩, hpa, hpn⟩ := hst1
    refine ⟨_, rfl, .inl ⟨_, rfl, _, rfl, iteF ⟨_, rfl, _, rfl, _, _, _, _, _, rfl, hp, T.cl_Store, T.no_Store_state, rfl, _, _, _, _, _, rfl, h1, T.cl_StoreState, T.no_StoreState_moment, rfl, _, _, rfl, rfl, _, rfl, ite2 (fun h => absurd (of_decide_eq_true h) (by omega)) (fun _ => ?_)⟩⟩⟩
    refine ⟨_, rfl, v, a, d, rfl, hv.same s1, hok.1, hok.2.1, hok.2.2, fun H2 s2 => ⟨_, rfl, iteF ?_⟩⟩
    refine ⟨_, rfl, _, _, _, rfl, s2 _ _ hp, rfl, _, rfl, p, l, s, past, nm, rfl, hst.same (s1.trans s2), hrl, rfl, _, rfl, v, a, d, rfl, hv.same (s1.trans s2), fun H3 b s3 hb => fun d0 hd0 => ?_⟩
    have s4 : Same H1 (upd H3 d0 (.dK [])) := (s2.trans s3).trans (same_new hd0)
    obtain ⟨hv1, hv2⟩ := h3.val (nm := nm)
    obtain ⟨hpr, hpl, hpo⟩ := lookup_ok hro nm
    refine ⟨_, rfl, _, rfl, _, _, _, _, _, rfl, s4 _ _ hp, T.cl_Store, T.no_Store_state, rfl, _, _, _, _, _, rfl, s4 _ _ h1, T.cl_StoreState, T.no_StoreState_table, rfl, _, _, rfl, DGet.k (k := Sum.inr nm) (s4 _ _ h2), _, rfl, ?_⟩
    have fin : ∀ (H4 : Hp) (dk : Addr) (kvs4 : List (Key × V)), Same H1 H4 → IsQ H4 b a d → H4 dk = some (.dK kvs4) → H1 dk = none → PtD H4 kvs4 ((s.rows.lookup nm).getD []) →
        (tSeq (sDPut (tVar 5) (tVar 2) (tVar 4)) (tDrop (tMethR aStore "take" sp_take E0 (tVar 0) (tCons (tVar 1) (tCons (tCallR (sp_latest K) E0 (tCons (tCallR sp_points_of E0 (tCons (tVar 5) tNil)) (tCons (tFld K (tVar 0) "limit") tNil))) (tCons (tTup (tCons (tC (.str "look")) (tCons (tVar 1) (tCons (tVar 2) (tCons (tVar 4) tNil))))) tNil))))))
          { nx := fun _ H' => Q .non H', rt := Q } [some (.ref p), some (.str nm), some (.int m), some v, some (.ref b), some (.ref dk)] H4 := by
      intro H4 dk kvs4 t4 hb4 hdk ndk hx4
      generalize hpts : (s.rows.lookup nm).getD [] = pts at hpr hpl hpo hx4
      have hx5 : PtD H4 (putK kvs4 (.inl m) (.ref b)) (putP pts (m, a, d)) := hx4.put hb4
      have hz4 : kvs4.length < sizeLine := by
        have e : kvs4.length = pts.length := hx4.length.symm
        have := line10k
        omega
      refine ⟨_, rfl, _, rfl, _, rfl, _, _, rfl, DPut.k (k := Sum.inl m) hdk hz4, ?_⟩
      generalize hH5 : upd H4 dk (.dK (putK kvs4 (.inl m) (.ref b))) = H5
      have s5 : Same H1 H5 := by
        rw [← hH5]
        exact Same.at_ ndk t4
      have hb5 : IsQ H5 b a d := by
        refine hb4.kp (S := aStore) ?_
        rw [← hH5]
        exact .upd hdk (fun z => z)
      have hdk5 : H5 dk = some (.dK (putK kvs4 (.inl m) (.ref b))) := by
        rw [← hH5]
        exact upd_same
      have hx6 : PtD H5 (putK kvs4 (.inl m) (.ref b)) (putP pts (m, a, d)) := by
        refine hx5.kp (S := aStore) ?_
        rw [← hH5]
        exact .upd hdk (fun z => z)
      obtain ⟨pn, pq⟩ := putP_ok (p := (m, a, d)) hpr
      have hpz := putP_len pts (m, a, d)
      have := line10k
      refine ⟨_, rfl, _, _, _, rfl, s5 _ _ hp, rfl, _, rfl, _, rfl, dk, _, _, rfl, hdk5, hx6, pn, by omega, fun H6 r xs qs s6 hr6 hq6 perm rise => ?_⟩
      have eq := pq qs perm rise
      subst eq
      refine ⟨_, rfl, _, _, _, _, _, rfl, s6 _ _ (s5 _ _ hp), T.cl_Store, T.no_Store_limit, rfl, r, xs, _, l, rfl, .inl (SqL.of hr6), Pqs.pts hq6, rise, by omega, hl2, ?_, fun H7 sr s7 is => ⟨_, rfl, _, rfl, _, rfl, by show 4 ≤ sizeLine; decide, fun t ht => ?_⟩⟩
      · intro x hx
        rcases mem_insP hx with e | e
        · rw [e]
          exact hok
        · exact hpo x e
      have s8 : Same H1 (upd H7 t (.tup [.str "look", .str nm, .int m, .ref b])) := ((s5.trans s6).trans s7).trans (same_new ht)
      have s9 := s1.trans s8
      have hb7 : IsQ (upd H7 t (.tup [.str "look", .str nm, .int m, .ref b])) b a d := ((hb5.same s6).same s7).same (same_new ht)
      refine ⟨p, l, s, past, nm, sr, _, .look nm (m, a, d), _, rfl, hst.same s9, hro.nd, is.kp (Kp.of (same_new ht)), ⟨t, b, rfl, upd_same, hb7⟩, hn, hn2, by omega, fun H' sb hs => ?_⟩
      refine q H' ((SameB.of s9).trans sb) ?_
      unfold lookR
      rw [hpts]
      exact hs
    have nH1 : H1 d0 = none := (s2.trans s3).free hd0
    have hbq : IsQ (upd H3 d0 (.dK [])) b a d := hb.same (same_new hd0)
    cases e : s.rows.lookup nm with
    | none =>
      rw [hv2 e]
      refine iteF ?_
      have := fin _ d0 [] s4 hbq upd_same nH1 (by rw [e]; exact .nil)
      exact this
    | some pts =>
      obtain ⟨sa, hva, hsa⟩ := hv1 pts e
      rw [hva]
      refine iteT ?_
      have g := DGet.k (k := Sum.inr nm) (s4 _ _ h2)
      rw [hva] at g
      obtain ⟨dxs, pt, lk, rd, ys, i1, i2, i3, i4⟩ := hsa.kp (Kp.of s4)
      obtain ⟨as, kvs2, rfl, j2, j3⟩ := pqs_pairs (K := K) i3
      refine ⟨_, rfl, _, _, _, _, _, rfl, s4 _ _ hp, T.cl_Store, T.no_Store_state, rfl, _, _, _, _, _, rfl, s4 _ _ h1, T.cl_StoreState, T.no_StoreState_table, rfl, _, rfl, _, _, rfl, g, _, _, _, _, _, rfl, i1, T.cl_Series, T.no_Series_points, rfl, pt, as, kvs2, rfl, i2, j2, fun d1 hd1 => ?_⟩
      rw [e] at hpr
      rw [merge_nd (j3.nd (rise_nd (rise_iff.mpr hpr)))]
      refine fin _ d1 kvs2 (s4.trans (same_new hd1)) (hbq.same (same_new hd1)) upd_same (s4.free hd1) ?_
      rw [e]
      exact j3.kp (Kp.new (S := aStore) hd1)

theorem Store_look_ok (T : Txt K mg) : FnR P w K mg base CX0 13 f_Store_look sp_look := by
  obtain ⟨fd, F, B, _⟩ := Store_look_fok (P := P) (w := w) (base := base) T
  exact fr_of F B
theorem Store_look_kw_moment_name_value (T : Txt K mg) : FnKw P w K mg base CX0 13 f_Store_look 1 ["moment", "name", "value"] (fun vs zs => gLook vs zs) sp_look := by
  obtain ⟨fd, F, _, B⟩ := Store_look_fok (P := P) (w := w) (base := base) T
  exact fkw_mk F B
/-- put -/
def sp_put : Sp := fun vs H Q _ => ∃ (p : Addr) (l : Nat) (s : Snap) (past : List Snap) (nm : Str) (sr : Addr) (pts : List Pt), vs = [.ref p, .str nm, .ref sr] ∧ NameOk nm ∧ StoreH H p l s past ∧ RowsOk l s.rows ∧ s.rows.length < 100 ∧ 1 ≤ l ∧ l ≤ 5000 ∧ s.ds.length < sizeLine ∧ past.length < sizeLine ∧ IsSer H sr pts ∧ RiseP pts ∧ (∀ x ∈ pts, OkPt x) ∧ (∀ x ∈ pts, x.1 ≤ s.mo) ∧
  ∀ H', SameB p H H' → StoreH H' p l ⟨s.mo, putR s.rows nm (lastN l pts), s.ds ++ [.set nm pts]⟩ (past ++ [s]) → Q .non H'
theorem sc_Store_put : FnScope N_Store_put P_Store_put (defScope s_Store_put) := ⟨rfl, rfl, rfl, by decide +kernel, rfl, by decide +kernel, by decide +kernel⟩
theorem Store_put_fok (T : Txt K mg) : ∃ fd, FnOk P w K mg base CX0 13 f_Store_put fd P_Store_put sp_put ∧ Binds K fd P_Store_put [] ∧ KBn K fd P_Store_put 2 ["series"] (fun us ws => us ++ ws) (fun vs zs => vs ++ zs) := by
  obtain ⟨fd, F⟩ := T.fd_Store_put
  refine ⟨fd, fok_mk F sc_Store_put ?_ ?_, F.bindsN (fun _ _ _ _ _ _ us h => match us, h with | [_, _, _], _ => rfl), kbn_mk F 2 ["series"] (fun {α : Type} (us ws : List α) => us ++ ws) (fun r1 r2 => r1.append r2) (fun _ _ _ _ _ _ us ws h1 h2 => match us, ws, h1, h2 with | [_, _], [_], _, _ => rfl)⟩
  · rintro vs H Q E ⟨p, l, s, past, nm, sr, pts, rfl, _⟩
    rfl
  · rintro cdv A outer s0 H vs Q E hr ⟨p, l, s, past, nm, sr, pts, rfl, hnm, hst, hro, hrl, hl1, hl2, hn, hn2, hsr, hpr, hpo, hpm, q⟩
    have nd := sc_Store_put.nd
    refine ⟨_, (pss_cons (ps_expr (pe_callR (need_name_ok T) (hr.mono (by decide)) rfl T.g_need_name T.k_need_name pass0 (pa_cons (pv 1) pa_nil))) (pss_cons (ps_if (pt_not (pt_val (pe_callB call_isi (by rfl) T.n_isinstance (by decide +kernel) (pa_cons (pv 2) (pa_cons (pe_glob rfl T.g_Series (v := .ref aSeries) rfl) pa_nil))))) (pss_one ps_never) pss_nil) (pss_cons (ps_for PassesOwn.never rfl (pi_tup (pe_fld (pe_fld (pv 2) rfl) rfl)) (pg_name (i := 3) nd rfl (by first | exact Or.inl rfl | exact Or.inr rfl)) (pss_one (ps_if (pt_cmpR op_gt (pv 3) (pe_fld (pe_fld (pv 0) rfl) rfl) (nomark _)) (pss_one ps_never) pss_nil))) (pss_cons (ps_expr (pe_methR (pv 0) T.cl_Store T.m_Store_need_room (Store_need_room_ok T) (hr.mono (by decide)) pass0 (pa_cons (pv 1) pa_nil))) (pss_one (ps_expr (pe_methR (pv 0) T.cl_Store T.m_Store_take (Store_take_ok T) (hr.mono (by decide)) pass0 (pa_cons (pv 1) (pa_cons (pe_callR (latest_ok T) (hr.mono (by decide)) rfl T.g_latest T.k_latest pass0 (pa_cons (pe_fld (pv 2) rfl) (pa_cons (pe_fld (pv 0) rfl) pa_nil))) (pa_cons (pe_tup (pa_cons pe_str (pa_cons (pv 1) (pa_cons (pv 2) pa_nil)))) pa_nil)))))))))), ?_⟩
    refine ⟨_, rfl, nm, rfl, hnm, fun H1 s1 => ?_⟩
    have hst1 := hst.same s1
    obtain ⟨dx, st, pa, ps, hp, ⟨dx2, tb, dd, dv, kvs, h1, h2, h3, h4, h5⟩, hpa, hpn⟩ := hst1
    obtain ⟨dxs, pt, lk, rd, ys, i1, i2, i3, ⟨dl, mt, lt, k1, k2⟩⟩ := hsr.kp (Kp.of s1)
    refine ⟨_, rfl, _, _, _, _, _, rfl, .own _, tyIns i1 T.ty_Series T.cl_Series, T.i_Series_Series, _, rfl, iteF ?_⟩
    refine ⟨_, rfl, _, _, _, _, _, rfl, i1, T.cl_Series, T.no_Series_looks, rfl, _, _, _, _, _, rfl, k1, T.cl_Looks, T.no_Looks_moments, rfl, _, rfl, ⟨_, SqT.of k2⟩, ?_⟩
    refine for_it (walk_tup (K := K) (xs := (moms pts).map V.int)) (fun i σ H' => H' = H1 ∧ ∃ x, σ = [some (.ref p), some (.str nm), some (.ref sr), x]) ⟨rfl, _, rfl⟩ (fun i σ H' _ h => by rw [h.1]; exact SqT.of k2) ?_ ?_
    · rintro i x σ H2 H3 hi ⟨rfl, x1, rfl⟩ ⟨rfl, hx⟩
      obtain ⟨m, hm, rfl⟩ := get_map hx
      have hm2 : m ≤ s.mo := by
        obtain ⟨y, hy, e⟩ := List.mem_map.mp (List.mem_of_getElem? hm)
        rw [← e]
        exact hpm y hy
      exact ⟨_, rfl, _, rfl, _, _, _, _, _, rfl, hp, T.cl_Store, T.no_Store_state, rfl, _, _, _, _, _, rfl, h1, T.cl_StoreState, T.no_StoreState_moment, rfl, _, _, rfl, rfl, _, rfl, ite2 (fun h => absurd (of_decide_eq_true h) (by omega)) (fun _ => ⟨rfl, _, rfl⟩)⟩
    · rintro σ H2 ⟨rfl, x1, rfl⟩
      refine ⟨_, rfl, _, _, _, rfl, hp, rfl, _, rfl, p, l, s, past, nm, rfl, hst.same s1, hrl, ?_⟩
      refine ⟨_, rfl, _, _, _, rfl, hp, rfl, _, rfl, _, rfl, _, _, _, _, _, rfl, i1, T.cl_Series, T.no_Series_points, rfl, _, rfl, _, _, _, _, _, rfl, hp, T.cl_Store, T.no_Store_limit, rfl, pt, ys, pts, l, rfl, .inr i2.sq, Pqs.pts i3, rise_iff.mpr hpr, by omega, hl2, hpo, fun H7 sr2 s7 is => ⟨_, rfl, _, rfl, by show 3 ≤ sizeLine; decide, fun t ht => ?_⟩⟩
      have s8 := s7.trans (same_new (o := .tup [.str "set", .str nm, .ref sr]) ht)
      have s9 := s1.trans s8
      exact ⟨p, l, s, past, nm, sr2, _, .set nm pts, _, rfl, hst.same s9, hro.nd, is.kp (Kp.of (same_new ht)), ⟨t, sr, rfl, upd_same, IsSer.kp hsr (Kp.of s9)⟩, hn, hn2, by have := line10k; omega, fun H' sb hs => q H' ((SameB.of s9).trans sb) hs⟩

theorem Store_put_ok (T : Txt K mg) : FnR P w K mg base CX0 13 f_Store_put sp_put := by
  obtain ⟨fd, F, B, _⟩ := Store_put_fok (P := P) (w := w) (base := base) T
  exact fr_of F B
theorem Store_put_kw_series (T : Txt K mg) : FnKw P w K mg base CX0 13 f_Store_put 2 ["series"] (fun vs zs => vs ++ zs) sp_put := by
  obtain ⟨fd, F, _, B⟩ := Store_put_fok (P := P) (w := w) (base := base) T
  exact fkw_mk F B
theorem sc_Store_setitem : FnScope N_Store_setitem P_Store_setitem (defScope s_Store_setitem) := ⟨rfl, rfl, rfl, by decide +kernel, rfl, by decide +kernel, by decide +kernel⟩
theorem Store_setitem_ok (T : Txt K mg) : FnR P w K mg base CX0 14 f_Store_setitem sp_put := by
  refine fr_mk (ps := P_Store_setitem) (N := N_Store_setitem) T.fd_Store_setitem sc_Store_setitem (fun _ _ _ _ _ _ us h => match us, h with | [_, _, _], _ => rfl) ?_ ?_
  · rintro vs H Q E ⟨p, l, s, past, nm, sr, pts, rfl, _⟩
    rfl
  · rintro cdv A outer s0 H vs Q E hr ⟨p, l, s, past, nm, sr, pts, rfl, hnm, hst, r⟩
    have nd := sc_Store_setitem.nd
    obtain ⟨dx, fs, hp, _, _, rfl⟩ := hst.some
    refine ⟨_, (pss_one (ps_expr (pe_methR (pv 0) T.cl_Store T.m_Store_put (Store_put_ok T) (hr.mono (by decide)) pass0 (pa_cons (pv 1) (pa_cons (pv 2) pa_nil))))), ?_⟩
    exact ⟨_, rfl, _, _, _, rfl, hp, rfl, _, rfl, _, rfl, p, l, s, past, nm, sr, pts, rfl, hnm, hst, r⟩
theorem putK_new {kvs : List (Key × V)} {k : Key} {v : V} (h : (kvs.any fun kv => decide (kv.1 = k)) = false) : putK kvs k v = kvs ++ [(k, v)] := by
  unfold putK
  rw [h]
  rfl
theorem valV_at {k : Key} {v : V} : ∀ {kvs : List (Key × V)} {i : Nat}, (kvs.map (·.1)).Nodup → kvs[i]? = some (k, v) → valV kvs k = some v := by
  intro kvs
  induction kvs with
  | nil => intro i _ h; cases h
  | cons a t ih =>
    intro i n h
    obtain ⟨n1, n2⟩ := List.nodup_cons.mp n
    cases i with
    | zero =>
      cases h
      exact valV_pos rfl
    | succ j =>
      have hm : (k, v) ∈ t := List.mem_of_getElem? h
      rw [valV_neg (fun z => n1 (by show a.1 ∈ _; rw [z]; exact List.mem_map_of_mem (f := fun x : Key × V => x.1) hm))]
      exact ih n2 h
theorem TabD.filter {H : Hp} {nm : Str} {kvs : List (Key × V)} {rows : List Row} (h : TabD H kvs rows) : TabD H (kvs.filter fun kv => !decide (kv.1 = .inr nm)) (rows.filter fun r => decide (r.1 ≠ nm)) := by
  induction h with
  | nil => exact .nil
  | @cons r kv _ _ f _ ih =>
    have e : (!decide (kv.1 = Sum.inr nm)) = decide (r.1 ≠ nm) := by
      rw [f.1, key_rr]
      by_cases c : r.1 = nm
      · rw [decide_eq_true c, decide_eq_false (fun z => z c)]; rfl
      · rw [decide_eq_false c, decide_eq_true c]; rfl
    rw [List.filter_cons, List.filter_cons, e]
    split
    · exact .cons f ih
    · exact ih
/-- drop -/
def sp_drop : Sp := fun vs H Q _ => ∃ p l s past nm, vs = [.ref p, .str nm] ∧ StoreH H p l s past ∧ (s.rows.map (·.1)).Nodup ∧ (s.rows.any fun r => decide (r.1 = nm)) = true ∧ s.ds.length < sizeLine ∧ past.length < sizeLine ∧ s.rows.length < sizeLine ∧
  ∀ H', SameB p H H' → StoreH H' p l ⟨s.mo, s.rows.filter (fun r => decide (r.1 ≠ nm)), s.ds ++ [.drop nm]⟩ (past ++ [s]) → Q .non H'
theorem sc_Store_drop : FnScope N_Store_drop P_Store_drop (defScope s_Store_drop) := ⟨rfl, rfl, rfl, by decide +kernel, rfl, by decide +kernel, by decide +kernel⟩
theorem Store_drop_ok (T : Txt K mg) : FnR P w K mg base CX0 3 f_Store_drop sp_drop := by
  refine fr_mk (ps := P_Store_drop) (N := N_Store_drop) T.fd_Store_drop sc_Store_drop (fun _ _ _ _ _ _ us h => match us, h with | [_, _], _ => rfl) ?_ ?_
  · rintro vs H Q E ⟨p, l, s, past, nm, rfl, _⟩
    rfl
  · rintro cdv A outer s0 H vs Q E hr ⟨p, l, s, past, nm, rfl, hst, hnd, hany, hz, hz2, hz3, q⟩
    have nd := sc_Store_drop.nd
    refine ⟨_, (pss_cons (ps_if (pt_cmpR (op_notInOwn T.m_Store_contains (Store_contains_ok T) (hr.mono (by decide)) pass0) (pv 1) (pv 0) rfl) (pss_one ps_never) pss_nil) (pss_cons (ps_lock (ps_setDc (i := 2) (own := [("one", 3)]) (g := (gName 3)) rfl nd rfl rfl (sw_trueD rfl rfl rfl (by decide +kernel)) (pi_keys (pe_fld (pe_fld (pv 0) rfl) rfl)) (blkOk_by (own := [("one", 3)]) (N := N_Store_drop) (sc := defScope s_Store_drop) (by decide +kernel)) (fun _ _ _ _ _ => (pg_name (i := 3) nd rfl (Or.inl rfl))) (fun _ _ _ _ _ => (pts_one (pt_cmpR op_ne (pv 3) (pv 1) (nomark _)))) (fun _ _ _ _ _ => (pv 3)) (fun _ _ _ _ _ => (pe_dget (hu_of hr) (pe_fldK (K := K) rfl (pe_fldK (K := K) rfl (pv 0) rfl) rfl) (pv 3) (fun _ _ => rfl))))) (pss_one (ps_expr (pe_methR (pv 0) T.cl_Store T.m_Store_go_on (Store_go_on_ok T) (hr.mono (by decide)) pass0 (pa_cons (pe_makeG T.mk_StoreState (StoreState_init_ok T) (hr.mono (by decide)) rfl T.g_StoreState pass0 (pa_cons (pe_fld (pe_fld (pv 0) rfl) rfl) (pa_cons (pv 2) (pa_cons (pe_tup (StX.pa_star (pe_fld (pe_fld (pv 0) rfl) rfl) (pa_cons (pe_tup (pa_cons pe_str (pa_cons (pv 1) pa_nil))) pa_nil))) pa_nil)))) pa_nil)))))), ?_⟩
    obtain ⟨dx, st, pa, pvs, hp, ⟨dx2, tb, dd, dv, kvs, h1, h2, h3, h4, h5⟩, hpa, hpv⟩ := hst
    have hdl : dv.length = s.ds.length := h5.length.symm
    have hpl : pvs.length = past.length := hpv.length.symm
    have hkl : kvs.length = s.rows.length := h3.length.symm
    have hkn := h3.nd hnd
    refine ⟨_, rfl, _, rfl, _, _, _, rfl, hp, p, l, s, past, nm, rfl, ⟨dx, st, pa, pvs, hp, ⟨dx2, tb, dd, dv, kvs, h1, h2, h3, h4, h5⟩, hpa, hpv⟩, _, rfl, _, rfl, ?_⟩
    rw [hany]
    refine iteF ⟨tb, .dK kvs, h2, trivial, fun od => ?_⟩
    have ntp : p ≠ tb := ne_of hp h2 (by intro z; cases z)
    have nts : st ≠ tb := ne_of h1 h2 (by intro z; cases z)
    have hlp : (upd H tb (.frz od (.dK kvs))) p = some (.ins aStore dx [("limit", .int l), ("state", .ref st), ("past", .ref pa)]) := by rw [upd_ne ntp]; exact hp
    have hls : (upd H tb (.frz od (.dK kvs))) st = some (.ins aStoreState dx2 [("moment", .int s.mo), ("table", .ref tb), ("deeds", .ref dd)]) := by rw [upd_ne nts]; exact h1
    have hlt : (upd H tb (.frz od (.dK kvs))) tb = some (.frz od (.dK kvs)) := upd_same
    refine ⟨_, rfl, _, _, _, _, _, rfl, hlp, T.cl_Store, T.no_Store_state, rfl, _, _, _, _, _, rfl, hls, T.cl_StoreState, T.no_StoreState_table, rfl, tb, od, rfl, .inl ⟨kvs, hlt, fun D hD => ?_⟩⟩
    have nDt : D ≠ tb := fun z => by rw [z, upd_same] at hD; cases hD
    have nD0 : H D = none := by rw [upd_ne nDt] at hD; exact hD
    generalize hHL : upd H tb (.frz od (.dK kvs)) = HL at hlp hls hlt hD
    refine dc_it (walk_keys (d := tb) (o := od) (kvs := kvs)) (fun i H' => H' D = some (.dK ((kvs.take i).filter fun kv => !decide (kv.1 = .inr nm))) ∧ ∀ b o, HL b = some o → H' b = some o) ⟨upd_same, fun b o e => by rw [upd_ne (ne_of_none e hD)]; exact e⟩ (fun i H' _ h => h.2 _ _ hlt) ?_ ?_
    · rintro i x H5 H6 hi ⟨hd5, s5⟩ ⟨rfl, k, v, hkv, rfl⟩
      obtain ⟨r, hr1, f1, a, f2, f3⟩ := paired_at _ h3 hkv
      dsimp only at f1 f2
      subst f1 f2
      have e0 : kvs.take (i + 1) = kvs.take i ++ [(.inr r.1, .ref a)] := by
        rw [List.take_succ, hkv]
        rfl
      refine ⟨rfl, _, rfl, _, rfl, rfl, _, rfl, ?_⟩
      by_cases c : r.1 = nm
      · refine iteFc (by show (!decide (V.str r.1 = V.str nm)) = false; rw [decide_eq_true (by rw [c])]; rfl) ⟨?_, s5⟩
        rw [e0, List.filter_append, hd5]
        simp [c]
      · refine iteTc (by show (!decide (V.str r.1 = V.str nm)) = true; rw [decide_eq_false (fun z => c (by injection z))]; rfl) ⟨_, rfl, _, rfl, _, _, _, _, _, rfl, s5 _ _ hlp, T.cl_Store, T.no_Store_state, rfl, _, _, _, _, _, rfl, s5 _ _ hls, T.cl_StoreState, T.no_StoreState_table, rfl, _, rfl, tb, _, rfl, .inl ⟨kvs, .inr r.1, .inr ⟨od, s5 _ _ hlt⟩, rfl, (valV_at hkn hkv).symm⟩, _, .inr r.1, rfl, hd5, ?_, ?_, ?_⟩
        · have h8 := List.length_filter_le (fun kv : Key × V => !decide (kv.1 = .inr nm)) (kvs.take i)
          rw [List.length_take] at h8
          omega
        · rw [upd_same, putK_new, e0, List.filter_append]
          · simp [c]
          · rw [List.any_eq_false]
            intro kv hkv2 z
            have h7 := (List.mem_filter.mp hkv2).1
            have h9 : ((kvs.take (i + 1)).map (·.1)).Nodup := by
              rw [List.map_take]
              exact hkn.sublist (List.take_sublist _ _)
            rw [e0, List.map_append, List.nodup_append] at h9
            exact h9.2.2 kv.1 (List.mem_map_of_mem h7) (.inr r.1) (by simp) (of_decide_eq_true z)
        · intro b o e
          rw [upd_ne (ne_of_none e hD)]
          exact s5 b o e
    · rintro H5 ⟨hd5, s5⟩
      rw [List.take_length] at hd5
      refine ⟨s5 _ _ hlt, ?_⟩
      have s6 : Same H (upd H5 tb (.dK kvs)) := fun b o e => by
        by_cases c : b = tb
        · subst c
          rw [upd_same]
          rw [h2] at e
          exact e
        · rw [upd_ne c]
          exact s5 b o (by rw [← hHL, upd_ne c]; exact e)
      have hd6 : (upd H5 tb (.dK kvs)) D = some (.dK (kvs.filter fun kv => !decide (kv.1 = .inr nm))) := by rw [upd_ne nDt]; exact hd5
      generalize upd H5 tb (.dK kvs) = H6 at s6 hd6
      refine ⟨_, rfl, _, _, _, rfl, s6 _ _ hp, rfl, _, rfl, _, _, _, _, _, rfl, s6 _ _ hp, T.cl_Store, T.no_Store_state, rfl, _, _, _, _, _, rfl, s6 _ _ h1, T.cl_StoreState, T.no_StoreState_moment, rfl, _, rfl, _, rfl, _, _, _, _, _, rfl, s6 _ _ hp, T.cl_Store, T.no_Store_state, rfl, _, _, _, _, _, rfl, s6 _ _ h1, T.cl_StoreState, T.no_StoreState_deeds, rfl, _, _, rfl, .inl (SqT.of (s6 _ _ h4)), _, rfl, by show 2 ≤ sizeLine; decide, fun t ht => ⟨?_, fun t2 ht2 => fun x dx3 nx ndx ne => ⟨x, dx3, _, _, _, rfl, upd_same, rfl, ?_⟩⟩⟩
      · rw [List.length_append]
        show dv.length + 1 ≤ sizeLine
        omega
      have s7 := same_made (C := aStoreState) (fs := []) (gs := [("moment", .int s.mo), ("table", .ref D), ("deeds", .ref t2)]) nx ndx
      have s8 := (same_new ht).trans ((same_new ht2).trans s7)
      have s9 := s6.trans s8
      refine ⟨p, x, dx, st, pa, l, pvs, rfl, s9 _ _ hp, s9 _ _ hpa, by omega, fun H' pa2 sb hp2 hpa2 => ?_⟩
      have k9 := KS.of s9
      refine q H' ((SameB.of s9).trans sb) (storeH_step (s9 _ _ hp) (StateH.ks ⟨dx2, tb, dd, dv, kvs, h1, h2, h3, h4, h5⟩ k9) (hpv.ks k9) ⟨dx3, D, t2, _, _, upd_same, s8 _ _ hd6, (h3.filter).kp k9.kp, s7 _ _ upd_same, ?_⟩ sb hp2 hpa2)
      exact (h5.mono fun _ _ h => h.ks k9).snoc ⟨t, rfl, s7 _ _ (same_new ht2 _ _ upd_same)⟩
end G
set_option Elab.async false
set_option linter.all false
set_option maxRecDepth 100000
set_option maxHeartbeats 4000000
namespace G
open PySem PySem.Spec PyProof.Rows L2
variable {P : Program} {w : World} {K : PySem.W.Frag} {mg : Str → Option Value} {base : Heap}
/-! ### the pen -/
def PenAt (c : Addr) (H : Hp) (p : Addr) (k : Nat) : Prop := ∃ (cells : List Int) (cnt : Nat) (r : Int), cnt ≤ k ∧ H p = some (.lst [.ref c, .int cnt, .int r]) ∧ H c = some (.lst (cells.map V.int))
theorem PenAt.mono {c : Addr} {H : Hp} {p : Addr} {j k : Nat} (h : PenAt c H p j) (l : j ≤ k) : PenAt c H p k := by
  obtain ⟨cells, cnt, r, h1, h2⟩ := h
  exact ⟨cells, cnt, r, Nat.le_trans h1 l, h2⟩
theorem PenAt.same {c : Addr} {H H' : Hp} {p : Addr} {k : Nat} (h : PenAt c H p k) (s : Same H H') : PenAt c H' p k := by
  obtain ⟨cells, cnt, r, h1, h2, h3⟩ := h
  exact ⟨cells, cnt, r, h1, s _ _ h2, s _ _ h3⟩
theorem pen_ne {H : Hp} {p c : Addr} {cells : List Int} {cnt : Nat} {r : Int} (h2 : H p = some (.lst [.ref c, .int cnt, .int r])) (h3 : H c = some (.lst (cells.map V.int))) : c ≠ p := ne_of h3 h2 (by
  intro z
  injection z with z
  cases cells with
  | nil => cases z
  | cons a t => injection z with z; cases z)
/-- one more draw: what else changes is nothing -/
theorem PenAt.put {H : Hp} {p c : Addr} {cells : List Int} {cnt cnt2 k : Nat} {r r2 : Int} (h2 : H p = some (.lst [.ref c, .int cnt, .int r])) (h3 : H c = some (.lst (cells.map V.int))) (hk : cnt2 ≤ k) : PenAt c (upd H p (.lst [.ref c, .int cnt2, .int r2])) p k :=
  ⟨cells, cnt2, r2, hk, upd_same, by rw [upd_ne (pen_ne h2 h3)]; exact h3⟩
theorem paired_ints {is : List Nat} {l : List V} (h : Paired (fun (_ : Nat) v => ∃ m, v = V.int m) is l) : ∃ cells : List Int, l = cells.map V.int := by
  induction h with
  | nil => exact ⟨[], rfl⟩
  | cons f _ ih =>
    obtain ⟨m, rfl⟩ := f
    obtain ⟨cs, rfl⟩ := ih
    exact ⟨m :: cs, rfl⟩
theorem dp_ints {K : PySem.W.Frag} {H : Hp} : ∀ ns : List Int, DpAll K H (ns.map V.int) (ns.map PyData.int)
  | [] => .nil
  | n :: r => .cons (.int n) (dp_ints r)
theorem eqv_nil (ns : List Int) : PyData.eqv (.list (ns.map PyData.int)) (.list []) = ns.isEmpty := by
  cases ns <;> rfl
def sp_law_pen (K : PySem.W.Frag) : Sp := fun vs H Q _ => ∃ a ns, vs = [.ref a] ∧ SqL K H a (List.map V.int ns) ∧ ns.length ≤ sizeLine ∧ ∀ H' p pc, Same H H' → H p = none → H pc = none → PenAt pc H' p 0 → Q (.ref p) H'
theorem sc_law_pen : FnScope N_law_pen P_law_pen (defScope s_law_pen) := ⟨rfl, rfl, rfl, by decide +kernel, rfl, by decide +kernel, by decide +kernel⟩
theorem law_pen_ok (T : Txt K mg) : FnR P w K mg base CX0 1 f_law_pen (sp_law_pen K) := by
  refine fr_mk (ps := P_law_pen) (N := N_law_pen) T.fd_law_pen sc_law_pen (fun _ _ _ _ _ _ us h => match us, h with | [_], _ => rfl) ?_ ?_
  · rintro vs H Q E ⟨a, ns, rfl, _⟩
    rfl
  · rintro cdv A outer s H vs Q E hr ⟨a, ns, rfl, ha, hz, q⟩
    have nd := sc_law_pen.nd
    refine ⟨_, (pss_one (ps_ret (pe_lst (pa_cons (pe_lc (own := [("cell", 1)]) (g := (gName 1)) (tt := tYes) (by rfl) nd (pi_list (pe_slice sl_list (pv 0) po_none (po_some pe_int))) (blkOk_by (own := [("cell", 1)]) (N := N_law_pen) (sc := defScope s_law_pen) (by decide +kernel)) (fun _ _ _ _ _ => (pg_name (i := 1) nd rfl (Or.inl rfl))) (fun _ _ _ _ _ => pts_nil) (fun _ _ _ _ _ => (pe_callTy call_int1 (by rfl) T.n_int (by decide +kernel) (pa_cons (pv 1) pa_nil)))) (pa_cons pe_int (pa_cons pe_int pa_nil)))))), ?_⟩
    refine ⟨_, rfl, ?_⟩
    unfold tNoPart
    refine ⟨_, rfl, a, _, rfl, ha, fun b hb => ⟨b, rfl, ⟨_, SqL.of upd_same⟩, fun D hD => ?_⟩⟩
    generalize hxs : cutV (List.map V.int ns) none (some 63) = xs at hD ⊢
    have hmem : ∀ i v, xs[i]? = some v → ∃ m, v = V.int m := fun i v h => by
      rw [← hxs] at h
      obtain ⟨m, _, e⟩ := List.mem_map.mp (mem_cut h)
      exact ⟨m, e.symm⟩
    have hxl : xs.length ≤ sizeLine := by
      rw [← hxs]
      refine Nat.le_trans (cutV_length _ _ _) ?_
      rw [List.length_map]
      exact hz
    refine lc_all (walk_list (K := K) (xs := xs)) aStore (fun i v _ => ∃ m, v = V.int m) hxl hD (fun _ _ _ _ _ h => h) (fun H s => SqL.of (s _ _ upd_same)) ?_ mono_name ?_
    · rintro i x H5 H6 P hi s5 ⟨rfl, h1⟩ hP
      obtain ⟨m, rfl⟩ := hmem i x h1
      exact ⟨rfl, _, rfl, .inl ⟨_, rfl, hP _ _ (Same.refl _) ⟨m, rfl⟩⟩⟩
    · intro H5 l s5 hl pr
      obtain ⟨cells, rfl⟩ := paired_ints pr
      refine ⟨by show 3 ≤ sizeLine; decide, fun p hp => ?_⟩
      refine q _ p D (((same_new hb).trans s5).trans (same_new hp)) (((same_new hb).trans s5).free hp) ((same_new hb).free hD) ⟨cells, 0, 0, Nat.le_refl _, upd_same, ?_⟩
      exact same_new hp _ _ hl
/-! ### a draw -/
theorem pow1 {x : Int} {cnt : Nat} (h : cnt < 1048576) : CPow (x % 2147483587 + 41611 * (cnt : Int) + 2441) 5 := by
  have h1 := Int.emod_nonneg x (show (2147483587 : Int) ≠ 0 by decide)
  have h2 := Int.emod_lt_of_pos x (show (0 : Int) < 2147483587 by decide)
  refine ⟨by decide, by decide, ?_⟩
  show _ < 18446744073709551616
  omega
theorem modmul {x j : Int} : CMul (x % 2147483563) j := by
  have h1 := Int.emod_nonneg x (show (2147483563 : Int) ≠ 0 by decide)
  have h2 := Int.emod_lt_of_pos x (show (0 : Int) < 2147483563 by decide)
  refine .inl ⟨?_, ?_⟩
  · show -18446744073709551616 < _
    omega
  · show _ < (18446744073709551616 : Int)
    omega
theorem cmul_r {i : Int} {cnt : Nat} (h : cnt < 1048576) : CMul i (cnt : Int) := by
  refine .inr ⟨?_, ?_⟩
  · show -18446744073709551616 < _
    omega
  · show _ < (18446744073709551616 : Int)
    omega
theorem pow2 {x : Int} {cnt : Nat} (h : cnt < 1048576) : CPow (x % 2147483563 * (2 * (cnt : Int) + 1117) + 70783 * (cnt : Int) * (cnt : Int) + 41611) 3 := by
  have h1 := Int.emod_nonneg x (show (2147483563 : Int) ≠ 0 by decide)
  have h2 := Int.emod_lt_of_pos x (show (0 : Int) < 2147483563 by decide)
  generalize x % 2147483563 = a at h1 h2 ⊢
  have hb0 : (0 : Int) ≤ 2 * (cnt : Int) + 1117 := by omega
  have hb1 : 2 * (cnt : Int) + 1117 ≤ 2100000 := by omega
  generalize 2 * (cnt : Int) + 1117 = b at hb0 hb1 ⊢
  have hc0 : (0 : Int) ≤ 70783 * (cnt : Int) := by omega
  have hc1 : 70783 * (cnt : Int) ≤ 75000000000 := by omega
  generalize 70783 * (cnt : Int) = c at hc0 hc1 ⊢
  have hd0 : (0 : Int) ≤ (cnt : Int) := by omega
  have hd1 : (cnt : Int) ≤ 1048575 := by omega
  generalize (cnt : Int) = d at hd0 hd1 ⊢
  have m1 : a * b ≤ 2147483562 * 2100000 := Int.mul_le_mul (by omega) hb1 hb0 (by omega)
  have m2 : 0 ≤ a * b := Int.mul_nonneg h1 hb0
  have m3 : c * d ≤ 75000000000 * 1048575 := Int.mul_le_mul hc1 hd1 hd0 (by omega)
  have m4 : 0 ≤ c * d := Int.mul_nonneg hc0 hd0
  refine ⟨by decide, by decide, ?_⟩
  show _ < 18446744073709551616
  generalize a * b = u at m1 m2 ⊢
  generalize c * d = v at m3 m4 ⊢
  omega
def sp_draw : Sp := fun vs H Q _ => ∃ p k many pc, vs = [.ref p, .int many] ∧ PenAt pc H p k ∧ k < 2 ^ 20 ∧ 0 < many ∧ many.natAbs < 2 ^ 1900 ∧ ∀ H' d, SameB p H H' → PenAt pc H' p (k + 1) → 0 ≤ d → d < many → Q (.int d) H'
theorem sc_law_draw : FnScope N_law_draw P_law_draw (defScope s_law_draw) := ⟨rfl, rfl, rfl, by decide +kernel, rfl, by decide +kernel, by decide +kernel⟩
theorem law_draw_ok (T : Txt K mg) : FnR P w K mg base CX0 1 f_law_draw sp_draw := by
  refine fr_mk (ps := P_law_draw) (N := N_law_draw) T.fd_law_draw sc_law_draw (fun _ _ _ _ _ _ us h => match us, h with | [_, _], _ => rfl) ?_ ?_
  · rintro vs H Q E ⟨p, k, many, pc, rfl, _⟩
    rfl
  · rintro cdv A outer s H vs Q E hr ⟨p, k, many, c, rfl, ⟨cells, cnt, r, hk, hp, hc⟩, hk2, hm, hm2, q⟩
    have nd := sc_law_draw.nd
    have hdiv : ∀ i : Int, CDivW i many := fun i => wide_div hm hm2 (by decide) (by decide)
    refine ⟨_, (pss_cons (ps_if (pt_cmpR op_gt (pe_ix ix_list (pv 0) pe_int (fun _ _ => rfl)) pe_int (nomark _)) (pss_cons (ps_set (i := 2) nd rfl (by first | exact Or.inl rfl | exact Or.inr rfl) (pe_callTy call_int1 (by rfl) T.n_int (by decide +kernel) (pa_cons (pe_ix ix_list (pv 0) pe_int (fun _ _ => rfl)) pa_nil))) (pss_cons (ps_asg (pe_op op_fdivW (pv 2) (pv 1)) (pg_sub (pv 0) pe_int set_list (fun _ => rfl))) (pss_one (ps_ret (pe_op op_mod (pe_callTy call_int1 (by rfl) T.n_int (by decide +kernel) (pa_cons (pv 2) pa_nil)) (pv 1)))))) pss_nil) (pss_cons (ps_set (i := 3) nd rfl (by first | exact Or.inl rfl | exact Or.inr rfl) (pe_ix ix_list (pv 0) pe_int (fun _ _ => rfl))) (pss_cons (ps_asg (pe_op op_add (pv 3) pe_int) (pg_sub (pv 0) pe_int set_list (fun _ => rfl))) (pss_cons (ps_set (i := 4) nd rfl (by first | exact Or.inl rfl | exact Or.inr rfl) (pe_op op_add (pe_op op_mul pe_int (pv 3)) pe_int)) (pss_cons (ps_if (pt_cmpR (op_neD hr.units) (pe_ix ix_list (pv 0) pe_int (fun _ _ => rfl)) (pe_lst pa_nil) (nomark _)) (pss_one (ps_set (i := 4) nd rfl (by first | exact Or.inl rfl | exact Or.inr rfl) (pe_ix ix_list (pe_ix ix_list (pv 0) pe_int (fun _ _ => rfl)) (pe_op op_mod (pe_callTy call_int1 (by rfl) T.n_int (by decide +kernel) (pa_cons (pv 3) pa_nil)) (pe_callB call_len_seq (by rfl) T.n_len (by decide +kernel) (pa_cons (pe_ix ix_list (pv 0) pe_int (fun _ _ => rfl)) pa_nil))) (fun _ _ => rfl)))) pss_nil) (pss_cons (ps_if (PW.pt (pw_and (pt_cmpR op_lt (pv 3) (pe_callB call_len_seq (by rfl) T.n_len (by decide +kernel) (pa_cons (pe_ix ix_list (pv 0) pe_int (fun _ _ => rfl)) pa_nil)) (nomark _)) (pw_and1 (pt_cmpR op_ge (pe_callB call_abs (by rfl) T.n_abs (by decide +kernel) (pa_cons (pv 4) pa_nil)) (pe_op op_pow pe_int pe_int) (nomark _))))) (pss_cons (ps_set (i := 2) nd rfl (by first | exact Or.inl rfl | exact Or.inr rfl) (pe_op op_add (pe_op op_mul pe_int (pe_op op_sub (pe_callB call_abs (by rfl) T.n_abs (by decide +kernel) (pa_cons (pe_callTy call_int1 (by rfl) T.n_int (by decide +kernel) (pa_cons (pv 4) pa_nil)) pa_nil)) (pe_op op_pow pe_int pe_int))) (pe_callTy call_int1 (by rfl) T.n_int (by decide +kernel) (pa_cons (pe_cmpR op_lt (pv 4) pe_int (nomark _)) pa_nil)))) (pss_cons (ps_asg (pe_op op_fdivW (pv 2) (pv 1)) (pg_sub (pv 0) pe_int set_list (fun _ => rfl))) (pss_one (ps_ret (pe_op op_mod (pe_callTy call_int1 (by rfl) T.n_int (by decide +kernel) (pa_cons (pv 2) pa_nil)) (pv 1)))))) pss_nil) (pss_cons (ps_set (i := 5) nd rfl (by first | exact Or.inl rfl | exact Or.inr rfl) (pe_op op_mod (pe_callTy call_int1 (by rfl) T.n_int (by decide +kernel) (pa_cons (pe_op op_pow (pe_op op_add (pe_op op_add (pe_op op_mod (pe_callTy call_int1 (by rfl) T.n_int (by decide +kernel) (pa_cons (pv 4) pa_nil)) pe_int) (pe_op op_mul pe_int (pv 3))) pe_int) pe_int) pa_nil)) pe_int)) (pss_cons (ps_set (i := 5) nd rfl (by first | exact Or.inl rfl | exact Or.inr rfl) (pe_op op_mod (pe_callTy call_int1 (by rfl) T.n_int (by decide +kernel) (pa_cons (pe_op op_pow (pe_op op_add (pe_op op_add (pe_op op_mul (pv 5) (pe_op op_add (pe_op op_mul pe_int (pv 3)) pe_int)) (pe_op op_mul (pe_op op_mul pe_int (pv 3)) (pv 3))) pe_int) pe_int) pa_nil)) pe_int)) (pss_one (ps_ret (pe_op op_mod (pe_callTy call_int1 (by rfl) T.n_int (by decide +kernel) (pa_cons (pe_op op_fdivW (pv 5) pe_int) pa_nil)) (pv 1)))))))))))), ?_⟩
    refine ⟨_, rfl, _, _, _, _, rfl, rfl, SqL.of hp, atI_nat rfl, _, _, rfl, rfl, _, rfl, ite2 (fun h => ?_) (fun h => ?_)⟩
    · refine ⟨_, rfl, _, _, _, _, rfl, rfl, SqL.of hp, atI_nat rfl, .inl ⟨_, rfl, _, rfl, _, rfl, _, _, rfl, rfl, hdiv _, _, rfl, _, _, _, _, rfl, rfl, hp, rfl, ?_⟩⟩
      refine ⟨_, rfl, .inl ⟨_, rfl, _, rfl, _, _, rfl, rfl, hm, ?_⟩⟩
      exact q _ _ SameB.upd (PenAt.put hp hc (by omega)) (Int.emod_nonneg _ (by omega)) (Int.emod_lt_of_pos _ hm)
    have hrest : ∀ i : Int, 0 ≤ i % many ∧ i % many < many := fun i => ⟨Int.emod_nonneg _ (by omega), Int.emod_lt_of_pos _ hm⟩
    have hmul : ∀ i j : Int, (-(2 ^ 64) < i ∧ i < 2 ^ 64) → CMul i j := fun _ _ h => .inl h
    refine ⟨_, rfl, _, _, _, _, rfl, rfl, SqL.of hp, atI_nat rfl, _, rfl, _, _, rfl, rfl, _, rfl, _, _, _, _, rfl, rfl, hp, rfl, _, rfl, _, _, rfl, rfl, hmul _ _ ⟨by decide, by decide⟩, _, _, rfl, rfl, ?_⟩
    generalize hH1 : upd H p _ = H1
    have hp1 : H1 p = some (.lst [.ref c, .int ((cnt + 1 : Nat) : Int), .int r]) := by
      rw [← hH1]
      exact upd_same
    have sb1 : SameB p H H1 := by
      rw [← hH1]
      exact .upd
    have hc1 : H1 c = some (.lst (cells.map V.int)) := sb1 _ _ (pen_ne hp hc) hc
    refine ⟨_, rfl, _, _, _, _, rfl, rfl, SqL.of hp1, atI_nat rfl, by show 0 ≤ sizeLine; decide, fun l0 hl0 => ?_⟩
    have s2 := same_new (o := .lst []) hl0
    generalize hH2 : upd H1 l0 (.lst []) = H2 at s2
    have hl2 : H2 l0 = some (.lst []) := by
      rw [← hH2]
      exact upd_same
    have hp2 := s2 _ _ hp1
    have hc2 := s2 _ _ hc1
    have sb2 : SameB p H H2 := sb1.trans (SameB.of s2)
    refine ⟨.list (cells.map .int), .list [], .lst (SqL.of hc2) (dp_ints cells), .lst (SqL.of hl2) .nil, PySem.W.ke_shaped_ints cells, PySem.W.ke_shaped_ints [], _, rfl, ?_⟩
    rw [eqv_nil]
    have c1 : (0 : Int) < 2147483587 := by decide
    have c2 : (0 : Int) < 2147483563 := by decide
    have c3 : (0 : Int) < 2147483549 := by decide
    have hk3 : cnt < 1048576 := by
      have : (2 : Nat) ^ 20 = 1048576 := by decide
      omega
    cases cells with
    | nil =>
      refine iteF ?_
      refine ⟨_, rfl, _, rfl, _, _, _, _, rfl, rfl, SqL.of hp2, atI_nat rfl, _, _, rfl, .inl (SqL.of hc2), _, _, rfl, rfl, _, rfl, ite2 (fun h1 => ?_) (fun h1 => iteF ?_)⟩
      · refine ⟨_, rfl, _, rfl, _, _, rfl, rfl, ⟨by decide, by decide, by decide⟩, _, _, rfl, rfl, _, rfl, ite2 (fun h2 => ?_) (fun h2 => ?_)⟩
        · refine ⟨_, rfl, .inl ⟨_, rfl, _, rfl, _, _, rfl, rfl, ⟨by decide, by decide, by decide⟩, _, _, rfl, rfl, _, _, rfl, rfl, hmul _ _ ⟨by decide, by decide⟩, _, rfl, _, _, rfl, rfl, .inr ⟨_, rfl, _, _, rfl, rfl, ?_⟩⟩⟩
          refine ⟨_, rfl, _, rfl, _, _, rfl, rfl, hdiv _, _, rfl, _, _, _, _, rfl, rfl, hp2, rfl, _, rfl, .inl ⟨_, rfl, _, rfl, _, _, rfl, rfl, hm, ?_⟩⟩
          exact q _ _ (sb2.trans .upd) (PenAt.put hp2 hc2 (by omega)) (hrest _).1 (hrest _).2
        · refine ⟨_, rfl, .inl ⟨_, rfl, _, _, rfl, rfl, c1, _, rfl, _, _, rfl, rfl, hmul _ _ ⟨by decide, by decide⟩, _, _, rfl, rfl, _, _, rfl, rfl, _, _, rfl, rfl, pow1 hk3, .inl ⟨_, rfl, _, _, rfl, rfl, c2, ?_⟩⟩⟩
          refine ⟨_, rfl, _, rfl, _, _, rfl, rfl, hmul _ _ ⟨by decide, by decide⟩, _, _, rfl, rfl, _, _, rfl, rfl, modmul, _, rfl, _, _, rfl, rfl, hmul _ _ ⟨by decide, by decide⟩, _, rfl, _, _, rfl, rfl, cmul_r hk3, _, _, rfl, rfl, _, _, rfl, rfl, _, _, rfl, rfl, pow2 hk3, .inl ⟨_, rfl, _, _, rfl, rfl, c3, ?_⟩⟩
          refine ⟨_, rfl, _, _, rfl, rfl, ⟨by decide, by decide⟩, .inl ⟨_, rfl, _, rfl, _, _, rfl, rfl, hm, ?_⟩⟩
          exact q _ _ sb2 ⟨_, cnt + 1, r, by omega, hp2, hc2⟩ (hrest _).1 (hrest _).2
      · refine ⟨_, rfl, .inl ⟨_, rfl, _, _, rfl, rfl, c1, _, rfl, _, _, rfl, rfl, hmul _ _ ⟨by decide, by decide⟩, _, _, rfl, rfl, _, _, rfl, rfl, _, _, rfl, rfl, pow1 hk3, .inl ⟨_, rfl, _, _, rfl, rfl, c2, ?_⟩⟩⟩
        refine ⟨_, rfl, _, rfl, _, _, rfl, rfl, hmul _ _ ⟨by decide, by decide⟩, _, _, rfl, rfl, _, _, rfl, rfl, modmul, _, rfl, _, _, rfl, rfl, hmul _ _ ⟨by decide, by decide⟩, _, rfl, _, _, rfl, rfl, cmul_r hk3, _, _, rfl, rfl, _, _, rfl, rfl, _, _, rfl, rfl, pow2 hk3, .inl ⟨_, rfl, _, _, rfl, rfl, c3, ?_⟩⟩
        refine ⟨_, rfl, _, _, rfl, rfl, ⟨by decide, by decide⟩, .inl ⟨_, rfl, _, rfl, _, _, rfl, rfl, hm, ?_⟩⟩
        exact q _ _ sb2 ⟨_, cnt + 1, r, by omega, hp2, hc2⟩ (hrest _).1 (hrest _).2
    | cons c0 cs =>
      refine iteT ?_
      have hlt : cnt % (c0 :: cs).length < (c0 :: cs).length := Nat.mod_lt _ (Nat.zero_lt_succ _)
      have hat : ((c0 :: cs).map V.int)[cnt % (c0 :: cs).length]? = some (.int ((c0 :: cs)[cnt % (c0 :: cs).length]'hlt)) := by
        rw [List.getElem?_map, List.getElem?_eq_getElem hlt]
        rfl
      have hl0 : (0 : Int) < (((c0 :: cs).map V.int).length : Nat) := by
        rw [List.length_map]
        exact Int.natCast_pos.mpr (Nat.zero_lt_succ _)
      refine ⟨_, rfl, _, _, _, _, rfl, rfl, SqL.of hp2, atI_nat rfl, _, rfl, .inl ⟨_, rfl, _, rfl, _, _, _, _, rfl, rfl, SqL.of hp2, atI_nat rfl, _, _, rfl, .inl (SqL.of hc2), _, _, rfl, rfl, hl0, _, _, _, _, rfl, rfl, SqL.of hc2, by rw [List.length_map]; exact atI_nat hat, ?_⟩⟩
      refine ⟨_, rfl, _, rfl, _, _, _, _, rfl, rfl, SqL.of hp2, atI_nat rfl, _, _, rfl, .inl (SqL.of hc2), _, _, rfl, rfl, _, rfl, ite2 (fun h1 => ?_) (fun h1 => iteF ?_)⟩
      · refine ⟨_, rfl, _, rfl, _, _, rfl, rfl, ⟨by decide, by decide, by decide⟩, _, _, rfl, rfl, _, rfl, ite2 (fun h2 => ?_) (fun h2 => ?_)⟩
        · refine ⟨_, rfl, .inl ⟨_, rfl, _, rfl, _, _, rfl, rfl, ⟨by decide, by decide, by decide⟩, _, _, rfl, rfl, _, _, rfl, rfl, hmul _ _ ⟨by decide, by decide⟩, _, rfl, _, _, rfl, rfl, .inr ⟨_, rfl, _, _, rfl, rfl, ?_⟩⟩⟩
          refine ⟨_, rfl, _, rfl, _, _, rfl, rfl, hdiv _, _, rfl, _, _, _, _, rfl, rfl, hp2, rfl, _, rfl, .inl ⟨_, rfl, _, rfl, _, _, rfl, rfl, hm, ?_⟩⟩
          exact q _ _ (sb2.trans .upd) (PenAt.put hp2 hc2 (by omega)) (hrest _).1 (hrest _).2
        · refine ⟨_, rfl, .inl ⟨_, rfl, _, _, rfl, rfl, c1, _, rfl, _, _, rfl, rfl, hmul _ _ ⟨by decide, by decide⟩, _, _, rfl, rfl, _, _, rfl, rfl, _, _, rfl, rfl, pow1 hk3, .inl ⟨_, rfl, _, _, rfl, rfl, c2, ?_⟩⟩⟩
          refine ⟨_, rfl, _, rfl, _, _, rfl, rfl, hmul _ _ ⟨by decide, by decide⟩, _, _, rfl, rfl, _, _, rfl, rfl, modmul, _, rfl, _, _, rfl, rfl, hmul _ _ ⟨by decide, by decide⟩, _, rfl, _, _, rfl, rfl, cmul_r hk3, _, _, rfl, rfl, _, _, rfl, rfl, _, _, rfl, rfl, pow2 hk3, .inl ⟨_, rfl, _, _, rfl, rfl, c3, ?_⟩⟩
          refine ⟨_, rfl, _, _, rfl, rfl, ⟨by decide, by decide⟩, .inl ⟨_, rfl, _, rfl, _, _, rfl, rfl, hm, ?_⟩⟩
          exact q _ _ sb2 ⟨_, cnt + 1, r, by omega, hp2, hc2⟩ (hrest _).1 (hrest _).2
      · refine ⟨_, rfl, .inl ⟨_, rfl, _, _, rfl, rfl, c1, _, rfl, _, _, rfl, rfl, hmul _ _ ⟨by decide, by decide⟩, _, _, rfl, rfl, _, _, rfl, rfl, _, _, rfl, rfl, pow1 hk3, .inl ⟨_, rfl, _, _, rfl, rfl, c2, ?_⟩⟩⟩
        refine ⟨_, rfl, _, rfl, _, _, rfl, rfl, hmul _ _ ⟨by decide, by decide⟩, _, _, rfl, rfl, _, _, rfl, rfl, modmul, _, rfl, _, _, rfl, rfl, hmul _ _ ⟨by decide, by decide⟩, _, rfl, _, _, rfl, rfl, cmul_r hk3, _, _, rfl, rfl, _, _, rfl, rfl, _, _, rfl, rfl, pow2 hk3, .inl ⟨_, rfl, _, _, rfl, rfl, c3, ?_⟩⟩
        refine ⟨_, rfl, _, _, rfl, rfl, ⟨by decide, by decide⟩, .inl ⟨_, rfl, _, rfl, _, _, rfl, rfl, hm, ?_⟩⟩
        exact q _ _ sb2 ⟨_, cnt + 1, r, by omega, hp2, hc2⟩ (hrest _).1 (hrest _).2
end G
set_option Elab.async false
set_option linter.all false
set_option maxRecDepth 100000
set_option maxHeartbeats 4000000
namespace G
open PySem PySem.Spec PyProof.Rows L2
variable {P : Program} {w : World} {K : PySem.W.Frag} {mg : Str → Option Value} {base : Heap}
/-! ### pick, text, number -/
def sp_pick : Sp := fun vs H Q _ => ∃ (p : Addr) (k : Nat) (l : Addr) (xs : List V) (pc : Addr), vs = [.ref p, .ref l] ∧ PenAt pc H p k ∧ k < 2 ^ 20 ∧ H l = some (.lst xs) ∧ l ≠ p ∧ 0 < xs.length ∧ xs.length ≤ 5000 ∧ ∀ H' x, SameB p H H' → PenAt pc H' p (k + 1) → x ∈ xs → Q x H'
theorem sc_law_pick : FnScope N_law_pick P_law_pick (defScope s_law_pick) := ⟨rfl, rfl, rfl, by decide +kernel, rfl, by decide +kernel, by decide +kernel⟩
theorem law_pick_ok (T : Txt K mg) : FnR P w K mg base CX0 2 f_law_pick sp_pick := by
  refine fr_mk (ps := P_law_pick) (N := N_law_pick) T.fd_law_pick sc_law_pick (fun _ _ _ _ _ _ us h => match us, h with | [_, _], _ => rfl) ?_ ?_
  · rintro vs H Q E ⟨p, k, l, xs, pc, rfl, _⟩
    rfl
  · rintro cdv A outer s H vs Q E hr ⟨p, k, l, xs, pc, rfl, hp, hk, hl, ne, h0, hz, q⟩
    have nd := sc_law_pick.nd
    refine ⟨_, (pss_one (ps_ret (pe_ix ix_list (pv 1) (pe_callR (law_draw_ok T) (hr.mono (by decide)) rfl T.g__law_draw T.k_law_draw pass0 (pa_cons (pv 0) (pa_cons (pe_callB call_len_seq (by rfl) T.n_len (by decide +kernel) (pa_cons (pv 1) pa_nil)) pa_nil))) (fun _ _ => rfl)))), ?_⟩
    have hb : ((xs.length : Nat) : Int).natAbs < 2 ^ 1900 := by
      have : (5001 : Nat) ≤ 2 ^ 1900 := by decide +kernel
      omega
    refine ⟨_, rfl, _, rfl, _, rfl, _, _, rfl, .inl (SqL.of hl), p, k, _, _, rfl, hp, hk, by omega, hb, fun H' d sb hp' d0 d1 => ?_⟩
    obtain ⟨j, rfl⟩ : ∃ j : Nat, d = (j : Int) := ⟨d.toNat, by omega⟩
    have hj : j < xs.length := by omega
    exact ⟨_, _, _, _, rfl, rfl, SqL.of (sb _ _ ne hl), atI_nat (List.getElem?_eq_getElem hj), q _ _ sb hp' (List.getElem_mem hj)⟩
def sp_text : Sp := fun vs H Q _ => ∃ t b : Nat, vs = [.int t, .int b] ∧ 0 < b ∧ t < 2 ^ 1900 ∧ b < 2 ^ 1900 ∧ Q (.str (showQ ((t : Int) / g_ t b) ((b : Int) / g_ t b))) H
theorem log_of {n : Nat} (h : n < 2 ^ 1900) : n.log2 < 1920 := by
  have := PySem.Flt.log2_lt_of (show 0 < 1900 by decide) h
  omega
theorem nat_div_lt {n m b : Nat} (h : n < b) : n / m < b := Nat.lt_of_le_of_lt (Nat.div_le_self _ _) h
theorem g_nat (t b : Nat) : g_ (t : Int) (b : Int) = (Nat.gcd t b : Nat) := rfl
theorem sc_law_text : FnScope N_law_text P_law_text (defScope s_law_text) := ⟨rfl, rfl, rfl, by decide +kernel, rfl, by decide +kernel, by decide +kernel⟩
theorem law_text_ok (T : Txt K mg) : FnR P w K mg base CX0 1 f_law_text sp_text := by
  refine fr_mk (ps := P_law_text) (N := N_law_text) T.fd_law_text sc_law_text (fun _ _ _ _ _ _ us h => match us, h with | [_, _], _ => rfl) ?_ ?_
  · rintro vs H Q E ⟨t, b, rfl, _⟩
    rfl
  · rintro cdv A outer s H vs Q E hr ⟨t, b, rfl, hb, ht1, hb1, q⟩
    have nd := sc_law_text.nd
    refine ⟨_, (pss_cons (ps_par (i := 2) (j := 3) rfl nd rfl rfl (by decide) rfl rfl (pa_cons (pv 0) (pa_cons (pv 1) pa_nil)) (by rfl)) (pss_cons (ps_while PassesOwn.never (pt_cmpR op_gt (pv 3) pe_int (nomark _)) (pss_one (ps_par (i := 2) (j := 3) rfl nd rfl rfl (by decide) rfl rfl (pa_cons (pv 3) (pa_cons (pe_op op_mod (pe_callTy call_int1 (by rfl) T.n_int (by decide +kernel) (pa_cons (pv 2) pa_nil)) (pv 3)) pa_nil)) (by rfl)))) (pss_one (ps_ret (pe_ifExp (pt_cmpR op_eq (pv 1) (pv 2) (nomark _)) (pe_callTy call_str_int (by rfl) T.n_str (by decide +kernel) (pa_cons (pe_op op_fdivW (pv 0) (pv 2)) pa_nil)) (pe_op op_add_str (pe_op op_add_str (pe_callTy call_str_int (by rfl) T.n_str (by decide +kernel) (pa_cons (pe_op op_fdivW (pv 0) (pv 2)) pa_nil)) pe_str) (pe_callTy call_str_int (by rfl) T.n_str (by decide +kernel) (pa_cons (pe_op op_fdivW (pv 1) (pv 2)) pa_nil)))))))), ?_⟩
    refine ⟨_, rfl, _, rfl, _, _, rfl, ?_⟩
    refine while_by (fun σ H' => H' = H ∧ ∃ x y : Nat, σ = [some (.int t), some (.int b), some (.int x), some (.int y)] ∧ Nat.gcd x y = Nat.gcd t b) (fun σ _ => match σ with | [_, _, _, some (.int y)] => y.toNat | _ => 0) ⟨rfl, t, b, rfl, rfl⟩ ?_ ?_
    · rintro σ H1 ⟨rfl, x, y, rfl, hg⟩
      refine ⟨_, rfl, _, _, rfl, rfl, _, rfl, ite2 (fun h => ?_) (fun h => ?_)⟩
      · have hy : 0 < y := by
          have := of_decide_eq_true h
          omega
        refine ⟨_, rfl, _, rfl, .inl ⟨_, rfl, _, rfl, _, _, rfl, rfl, by show (0 : Int) < (y : Int); omega, _, _, rfl, ⟨rfl, y, x % y, rfl, ?_⟩, ?_⟩⟩
        · rw [← hg, Nat.gcd_comm y, ← Nat.gcd_rec, Nat.gcd_comm]
        · show ((x : Int) % (y : Int)).toNat < (y : Int).toNat
          have : ((x : Int) % (y : Int)) = ((x % y : Nat) : Int) := rfl
          rw [this]
          exact Nat.mod_lt _ hy
      · have e : y = 0 := by
          by_cases e : y = 0
          · exact e
          · exact absurd (decide_eq_true (by omega)) h
        subst e
        rw [Nat.gcd_zero_right] at hg
        subst hg
        have hx0 : 0 < Nat.gcd t b := Nat.gcd_pos_of_pos_right _ hb
        have hxb : Nat.gcd t b ≤ b := Nat.gcd_le_right _ hb
        have hdv : ∀ i : Int, CDivW i (Nat.gcd t b : Nat) := fun i => wide_div (by omega) (show ((Nat.gcd t b : Nat) : Int).natAbs < 2 ^ 1900 by rw [Int.natAbs_natCast]; omega) (by decide) (by decide)
        have l1 : ((t : Int) / (Nat.gcd t b : Nat)).natAbs.log2 < 1920 := log_of (nat_div_lt ht1)
        have l2 : ((b : Int) / (Nat.gcd t b : Nat)).natAbs.log2 < 1920 := log_of (nat_div_lt hb1)
        rw [g_nat] at q
        unfold showQ at q
        refine ⟨_, rfl, _, rfl, rfl, _, rfl, ite2 (fun h => ?_) (fun h => ?_)⟩
        · have e : b = Nat.gcd t b := by
            have z := of_decide_eq_true h
            injection z with z
            omega
          rw [if_pos (by rw [← e]; exact Int.ediv_self (by omega))] at q
          exact ⟨_, rfl, _, rfl, _, _, rfl, rfl, hdv _, _, rfl, l1, q⟩
        · have e : ¬ ((b : Int) / (Nat.gcd t b : Nat)) = 1 := fun z => h (by
            have := Int.ediv_mul_cancel (a := (b : Int)) (b := (Nat.gcd t b : Nat)) (Int.natCast_dvd_natCast.mpr (Nat.gcd_dvd_right t b))
            rw [z, Int.one_mul] at this
            rw [this]
            exact decide_eq_true rfl)
          rw [if_neg e] at q
          have k1 := PyProof.Rows.int_text_len_1921 l1
          have k2 := PyProof.Rows.int_text_len_1921 l2
          have k3 : ("/" : Str).length = 1 := rfl
          have lz : 10000 ≤ sizeLine := by decide
          refine ⟨_, rfl, _, rfl, _, _, rfl, rfl, hdv _, _, rfl, l1, _, _, rfl, rfl, ?_, _, rfl, _, rfl, _, _, rfl, rfl, hdv _, _, rfl, l2, _, _, rfl, rfl, ?_, q⟩
          · omega
          · rw [PySem.Str.length_append]
            omega
    · rintro σ H Q Q' f ⟨v, e, i, j, r, r2, k, e2, q⟩
      exact ⟨v, e, i, j, r, r2, k, e2, f _ _ q⟩

/-- a number that is drawn -/
def NumOk (n d : Int) : Prop := 0 ≤ n ∧ n.natAbs < 10 ^ 40 ∧ 0 < d ∧ d.natAbs < 10 ^ 40 ∧ Nat.gcd n.natAbs d.natAbs = 1
def sp_number : Sp := fun vs H Q _ => ∃ p k pc, vs = [.ref p] ∧ PenAt pc H p k ∧ k + 6 ≤ 2 ^ 20 ∧ ∀ H' t v n d, SameB p H H' → PenAt pc H' p (k + 6) → H t = none → H' t = some (.tup [v, .str (showQ n d)]) → IsNum H' v n d → NumOk n d → Q (.ref t) H'
theorem big29 : ((10 : Int) ^ (29 : Int).toNat).natAbs < 2 ^ 1900 := by decide +kernel
theorem sb_free {p : Addr} {H H' : Hp} {t : Addr} {u : HO} (s : SameB p H H') (hp : H' p = some u) (h : H' t = none) : H t = none := by
  cases e : H t with
  | none => rfl
  | some o =>
    have ne : t ≠ p := fun z => by
      rw [z, hp] at h
      cases h
    rw [s _ _ ne e] at h
    cases h
theorem PenAt.some {c : Addr} {H : Hp} {p : Addr} {k : Nat} (h : PenAt c H p k) : ∃ xs, H p = some (.lst xs) := by
  obtain ⟨cells, cnt, r, h1, h2, h3⟩ := h
  exact ⟨_, h2⟩
theorem sc_law_number : FnScope N_law_number P_law_number (defScope s_law_number) := ⟨rfl, rfl, rfl, by decide +kernel, rfl, by decide +kernel, by decide +kernel⟩
theorem law_number_ok (T : Txt K mg) : FnR P w K mg base CX0 5 f_law_number sp_number := by
  refine fr_mk (ps := P_law_number) (N := N_law_number) T.fd_law_number sc_law_number (fun _ _ _ _ _ _ us h => match us, h with | [_], _ => rfl) ?_ ?_
  · rintro vs H Q E ⟨p, k, pc, rfl, _⟩
    rfl
  · rintro cdv A outer s H vs Q E hr ⟨p, k, pc, rfl, hp, hk, q⟩
    have nd := sc_law_number.nd
    have two : (2 : Nat) ^ 20 = 1048576 := by decide
    have b50 : (50 : Int).natAbs < 2 ^ 1900 := by decide +kernel
    have b40 : (40 : Int).natAbs < 2 ^ 1900 := by decide +kernel
    have b2 : (2 : Int).natAbs < 2 ^ 1900 := by decide +kernel
    refine ⟨_, (pss_cons (ps_par (i := 1) (j := 2) rfl nd rfl rfl (by decide) rfl rfl (pa_cons (pe_callR (law_pick_ok T) (hr.mono (by decide)) rfl T.g__law_pick T.k_law_pick pass0 (pa_cons (pv 0) (pa_cons (pe_lst (pa_cons pe_int (pa_cons pe_int (pa_cons pe_int (pa_cons (pe_callR (law_draw_ok T) (hr.mono (by decide)) rfl T.g__law_draw T.k_law_draw pass0 (pa_cons (pv 0) (pa_cons pe_int pa_nil))) (pa_cons (pe_callR (law_draw_ok T) (hr.mono (by decide)) rfl T.g__law_draw T.k_law_draw pass0 (pa_cons (pv 0) (pa_cons (pe_op op_pow pe_int pe_int) pa_nil))) pa_nil)))))) pa_nil))) (pa_cons (pe_callR (law_pick_ok T) (hr.mono (by decide)) rfl T.g__law_pick T.k_law_pick pass0 (pa_cons (pv 0) (pa_cons (pe_lst (pa_cons pe_int (pa_cons pe_int (pa_cons pe_int (pa_cons pe_int (pa_cons (pe_op op_add pe_int (pe_callR (law_draw_ok T) (hr.mono (by decide)) rfl T.g__law_draw T.k_law_draw pass0 (pa_cons (pv 0) (pa_cons pe_int pa_nil)))) pa_nil)))))) pa_nil))) pa_nil)) (by rfl)) (pss_cons (ps_if (PW.pt (pw_and (pt_cmpR op_eq (pv 2) pe_int (nomark _)) (pw_and1 (pt_cmpR op_eq (pe_callR (law_draw_ok T) (hr.mono (by decide)) rfl T.g__law_draw T.k_law_draw pass0 (pa_cons (pv 0) (pa_cons pe_int pa_nil))) pe_int (nomark _))))) (pss_one (ps_ret (pe_tup (pa_cons (pv 1) (pa_cons (pe_callTy call_str_int (by rfl) T.n_str (by decide +kernel) (pa_cons (pv 1) pa_nil)) pa_nil))))) pss_nil) (pss_one (ps_ret (pe_tup (pa_cons (pe_makeG T.mk_Ratio (Ratio_init_ok T) (hr.mono (by decide)) rfl T.g_Ratio pass0 (pa_cons (pv 1) (pa_cons (pv 2) pa_nil))) (pa_cons (pe_callR (law_text_ok T) (hr.mono (by decide)) rfl T.g__law_text T.k_law_text pass0 (pa_cons (pv 1) (pa_cons (pv 2) pa_nil))) pa_nil))))))), ?_⟩
    refine ⟨_, rfl, _, rfl, p, k, _, _, rfl, hp, by omega, by decide, b50, fun H1 d1 s1 p1 d10 d11 => ?_⟩
    refine ⟨_, rfl, _, _, rfl, rfl, ⟨by decide, by decide, by decide⟩, p, k + 1, _, _, rfl, p1, by omega, by decide +kernel, big29, fun H2 d2 s2 p2 d20 d21 => ?_⟩
    refine ⟨by show 5 ≤ sizeLine; decide, fun l hl => ⟨p, k + 2, l, _, _, rfl, p2.same (same_new hl), by omega, upd_same, ?_, (show 0 < 5 by decide), (show 5 ≤ 5000 by decide), fun H3 top s3 p3 ht => ?_⟩⟩
    · obtain ⟨xs, e⟩ := p2.some
      exact fun z => by rw [z, e] at hl; cases hl
    refine ⟨_, rfl, _, rfl, p, k + 3, _, _, rfl, p3, by omega, by decide, b40, fun H4 d3 s4 p4 d30 d31 => ?_⟩
    refine ⟨_, _, rfl, rfl, by show 5 ≤ sizeLine; decide, fun l2 hl2 => ⟨p, k + 4, l2, _, _, rfl, p4.same (same_new hl2), by omega, upd_same, ?_, (show 0 < 5 by decide), (show 5 ≤ 5000 by decide), fun H5 bot s5 p5 hb => ?_⟩⟩
    · obtain ⟨xs, e⟩ := p4.some
      exact fun z => by rw [z, e] at hl2; cases hl2
    have hten : (10 : Int) ^ (29 : Int).toNat = 100000000000000000000000000000 := by decide +kernel
    obtain ⟨t, rfl, ht2⟩ : ∃ t : Nat, top = .int t ∧ t < 100000000000000000000000000000 := by
      simp only [List.mem_cons, List.not_mem_nil, or_false] at ht
      rw [hten] at d21
      rcases ht with e | e | e | e | e
      · exact ⟨0, e, by omega⟩
      · exact ⟨1, e, by omega⟩
      · exact ⟨7, e, by omega⟩
      · exact ⟨d1.toNat, by rw [e, Int.toNat_of_nonneg d10], by omega⟩
      · exact ⟨d2.toNat, by rw [e, Int.toNat_of_nonneg d20], by omega⟩
    obtain ⟨b, rfl, hb0, hb2⟩ : ∃ b : Nat, bot = .int b ∧ 0 < b ∧ b ≤ 40 := by
      simp only [List.mem_cons, List.not_mem_nil, or_false] at hb
      rcases hb with e | e | e | e | e
      · exact ⟨1, e, by omega, by omega⟩
      · exact ⟨1, e, by omega, by omega⟩
      · exact ⟨2, e, by omega, by omega⟩
      · exact ⟨3, e, by omega, by omega⟩
      · exact ⟨(1 + d3).toNat, by rw [e, Int.toNat_of_nonneg (by omega)], by omega, by omega⟩
    have sb5 : SameB p H H5 := (((s1.trans s2).trans ((SameB.of (same_new hl)).trans s3)).trans s4).trans ((SameB.of (same_new hl2)).trans s5)
    have b10 : (100000000000000000000000000000 : Nat) < 10 ^ 40 := by decide +kernel
    have b100 : (100000000000000000000000000000 : Nat) < 2 ^ 1900 := by decide +kernel
    have b41 : (41 : Nat) < 2 ^ 1900 := by decide +kernel
    have fin : ∀ H6, SameB p H H6 → PenAt pc H6 p (k + 6) → (tRet (tTup (tCons (tMakeG aRatio sp_Ratio_init E0 (tCons (tVar 1) (tCons (tVar 2) tNil))) (tCons (tCallR sp_text E0 (tCons (tVar 1) (tCons (tVar 2) tNil))) tNil)))) { nx := fun _ H' => Q .non H', rt := Q } [some (.ref p), some (.int t), some (.int b)] H6 := by
      intro H6 s6 p6
      refine ⟨_, rfl, _, rfl, fun x dx nx ndx ne => ⟨x, dx, t, b, rfl, upd_same, by omega, (show ((b : Nat) : Int).natAbs < 2 ^ 1900 by rw [Int.natAbs_natCast]; omega), rfl, ?_⟩⟩
      have s7 := same_made (C := aRatio) (fs := []) (gs := fsQ ((t : Int) / g_ t b) ((b : Int) / g_ t b)) nx ndx
      refine ⟨_, rfl, _, rfl, t, b, rfl, hb0, by omega, by omega, by show 2 ≤ sizeLine; decide, fun tt htt => ?_⟩
      obtain ⟨ys, hys⟩ := p6.some
      refine q _ tt _ _ _ ((s6.trans (SameB.of s7)).trans (SameB.of (same_new htt))) ((p6.same s7).same (same_new htt)) (sb_free s6 hys (s7.free htt)) upd_same (.inr ⟨x, rfl, dx, same_new htt _ _ upd_same⟩) ?_
      rw [g_nat]
      have hg0 : 0 < Nat.gcd t b := Nat.gcd_pos_of_pos_right _ hb0
      refine ⟨Int.natCast_nonneg (t / Nat.gcd t b), ?_, ?_, ?_, Nat.gcd_div_gcd_div_gcd_of_pos_right hb0⟩
      · show t / Nat.gcd t b < _
        exact nat_div_lt (by omega)
      · show (0 : Int) < ((b / Nat.gcd t b : Nat) : Int)
        have := Nat.div_pos (Nat.gcd_le_right t hb0) hg0
        omega
      · show b / Nat.gcd t b < _
        exact nat_div_lt (by omega)
    refine ⟨_, _, rfl, _, rfl, rfl, _, rfl, ite2 (fun h1 => ?_) (fun h1 => iteF (fin H5 sb5 (p5.mono (by omega))))⟩
    refine ⟨_, rfl, p, k + 5, _, _, rfl, p5, by omega, by decide, b2, fun H6 d6 s6 p6 d60 d61 => ⟨rfl, _, rfl, ite2 (fun h2 => ?_) (fun h2 => fin H6 (sb5.trans s6) p6)⟩⟩
    have hlog : ((t : Nat) : Int).natAbs.log2 < 1920 := log_of (show t < 2 ^ 1900 by omega)
    refine ⟨_, rfl, _, rfl, _, rfl, hlog, by show 2 ≤ sizeLine; decide, fun tt htt => ?_⟩
    obtain ⟨ys, hys⟩ := p6.some
    exact q _ tt (.int t) t 1 ((sb5.trans s6).trans (SameB.of (same_new htt))) (p6.same (same_new htt)) (sb_free (sb5.trans s6) hys htt) upd_same (.inl ⟨rfl, rfl⟩) ⟨by omega, (show ((t : Nat) : Int).natAbs < 10 ^ 40 by rw [Int.natAbs_natCast]; omega), by decide, by decide +kernel, Nat.gcd_one_right _⟩
end G
set_option Elab.async false
set_option linter.all false
set_option maxRecDepth 100000
set_option maxHeartbeats 4000000
/-! repr of nested data: what stands around must hold no repr that runs (guards = some []). So the promises of the defs that call it say so. -/
namespace G
open PySem PySem.Spec PyProof.Rows L2
/-- repr(x), x a list or a tuple of data -/
def rReprD (K : PySem.W.Frag) : List V → Hp → VK → Prop := fun xs H Q => ∃ a d, xs = [.ref a] ∧ Dp K H (.ref a) d ∧ d.showable = true ∧ d.hasDict = false ∧ d.depth ≤ 60 ∧ d.shown.length ≤ sizeLine ∧ Q (.str d.shown) H
theorem call_reprD {X : Cx} (hg : X.A.guards = some []) (hu : X.A.units + 64 < cLine) : CallR X (.builtin "repr") (rReprD X.K) := by
  intro pins s σ H xs us Q I r h
  obtain ⟨a, d, rfl, hd, hs, hn, hz, hl, q⟩ := h
  obtain ⟨u, rfl, ru⟩ := vals1 r
  obtain ⟨as, rd⟩ := Dp.reads I d (.ref a) u hd ru
  obtain rfl : u = .ref a := ru
  exact repr_of_reads' rd hs (PyData.noDict_hsm hn) hg (by omega) (fun b o e => e) (fun h' u tk k => ⟨.str d.shown, H, I.kept k, ⟨u, rfl⟩, q⟩) hl

/-- a promise by positional values, where no repr runs around -/
def FnRG (P : Program) (w : World) (K : PySem.W.Frag) (mg : Str → Option Value) (base : Heap) (k : Nat) (f : Addr) (sp : Sp) : Prop :=
  ∀ (A : Around) (outer : List Env) (s : Shared) (H : Hp) (us : List Value) (vs : List V) (Q : VK) (E : XK), Room k A → A.guards = some [] → Env0 P w K mg base A outer s H → Vals vs us → sp vs H Q E →
    codeAny (model P w) A (.call (.ref f) ⟨us, []⟩) (CR CX0 outer P w H s Q E) s
theorem FnR.gd {P : Program} {w : World} {K : PySem.W.Frag} {mg : Str → Option Value} {base : Heap} {k : Nat} {f : Addr} {sp : Sp} (F : FnR P w K mg base CX0 k f sp) : FnRG P w K mg base k f sp :=
  fun A outer s H us vs Q E hr _ => F A outer s H us vs Q E hr
/-- a def's body, where no repr runs around -/
theorem fr_mkG {P : Program} {w : World} {K : PySem.W.Frag} {mg : Str → Option Value} {base : Heap} {x qual : Str} {st : Stmt} {f : Addr} {N ps : List Str} {k : Nat} {sp : Sp}
    (F : ∃ fd, FunD K x qual (defArgs st) (defBody st) (defScope st) [] [] f fd) (S : FnScope N ps (defScope st))
    (hb : ∀ (kV doc pm : Value) (an : Option Addr) (cdv ct : Value) (us : List Value), us.length = ps.length → bindArgs (PySem.W.fnOf x qual (defArgs st) (defBody st) (defScope st) .none kV doc pm an cdv ct) ⟨us, []⟩ = pure (ps.zip us))
    (len : ∀ vs H Q E, sp vs H Q E → vs.length = ps.length)
    (hbody : ∀ (cdv : Value) (A : Around) (outer : List Env) (s : Shared) (H : Hp) (vs : List V) (Q : VK) (E : XK), A.guards = some [] → Room k (A.deeper (envOfC qual (defScope st) s.heap.objs.size f cdv)) → sp vs H Q E →
      ∃ t, PSs (cxOf CX0 P w K mg base N qual (defScope st) f cdv A outer s H E).nox (defBody st) t ∧ t { nx := fun _ H' => Q .non H', rt := Q } (start N vs) H) : FnRG P w K mg base (k + 1) f sp := by
  obtain ⟨fd, F⟩ := F
  have B := F.bindsN hb
  obtain ⟨oc, od, dV, kV, doc, pm, an, cdv, ct, osl, rfl, lk, hcd, _, _⟩ := F.ex
  intro A outer s H us vs Q E hr hg e0 r hsp
  have hl := len _ _ _ _ hsp
  have ul : us.length = ps.length := r.length.symm.trans hl
  have keep : ∀ b o, base.get? b = some o → s.heap.get? b = some o := fun b o e => (e0.bs b o e).1
  have KX : K.In s.heap := e0.mod.kin.keeps keep
  have hbind : BindsTo s (PySem.W.fnOf x qual (defArgs st) (defBody st) (defScope st) dV kV doc pm an cdv ct) ⟨us, []⟩ (ps.zip us) := by
    have := B s us KX (by rw [List.append_nil]; exact ul)
    rw [List.append_nil] at this
    exact this
  have hkind : ∀ y ∈ ps.zip us, (defScope st).names.lookup y.1 = some .local ∨ ((defScope st).names.lookup y.1 = some .cell ∧ ((cellsFrom (s.heap.objs.size + 1) (defScope st).names []).lookup y.1).isSome = true) := by
    intro y hy
    rcases S.par y.1 (List.of_mem_zip (show (y.1, y.2) ∈ ps.zip us from hy)).1 with q | q
    · exact .inl q
    · exact .inr ⟨q, PySem.W.cellsFrom_some _ _ _ (.inl q)⟩
  refine codeAny_call_function hr.depth (KX _ _ lk) rfl S.co S.gen rfl (PySem.W.codeRec_of KX hcd) (hbind _ _ _ _ (wpAny_newFunctionEnv_cells S.kind hkind fun env he s1 x1 => ?_))
  subst he
  obtain ⟨t, h1, h2⟩ := hbody cdv A outer s H vs Q E hg (hr.deeper _) hsp
  refine ⟨(e0.mod.nolimit.keeps keep).keeps x1.toInCall.keep, codeAny_func (wpAny_mono (h1.nox.run [] s1 (start N vs) H _ (inv_start S hr.hd e0 hl r x1) h2) (fun fl s' hs => ?_) fun e s' hs => hs)⟩
  cases fl with
  | ret u =>
    obtain ⟨v, σ', H', J, rv, q⟩ := hs
    exact ⟨v, H', J.os, J.bare, J.base, J.hok, rv, q⟩
  | next =>
    obtain ⟨σ', H', J, q⟩ := hs
    exact ⟨V.non, H', J.os, J.bare, J.base, J.hok, rfl, q⟩
  | brk => exact hs.elim fun _ h => h.elim fun _ h => h.2.elim
  | cont => exact hs.elim fun _ h => h.elim fun _ h => h.2.elim
section
variable {X : Cx} {k : Nat} {f : Addr} {sp : Sp} {E : XK} {x : Str} {e : Expr} {es : List Expr} {t : TA} {pp pos : Pos}
theorem run_fnRG {pins : List (Addr × Obj)} {σ : L2.St} {H : Hp} {s : Shared} {Q : VK} {us : List Value} {vs : List V} (F : FnRG X.prog X.w X.K X.mg X.base k f sp) (hg : X.A.guards = some []) (hr : Room k X.A) (I : Inv X pins σ H s) (r : Vals vs us) (h : sp vs H Q E) :
    codeAny (model X.prog X.w) X.A (.call (.ref f) ⟨us, []⟩) (fun r s' => match r with | .ok (.ret v) => EP X pins σ Q v s' | .ok _ => False | .error e => X.xe e s') s := by
  refine codeAny_mono (F X.A X.stack s H us vs Q E hr hg I.env0 r h) fun r s' hq => ?_
  cases r with
  | error e => exact False.elim hq
  | ok fl =>
    cases fl with
    | ret u => exact I.after hq
    | next => exact False.elim hq
    | brk => exact False.elim hq
    | cont => exact False.elim hq
/-- f(e, ..), where no repr runs around -/
theorem pe_callG (F : FnRG X.prog X.w X.K X.mg X.base k f sp) (hgu : X.A.guards = some []) (hr : Room k X.A) (hg : Gl X x) (hm : X.mg x = some (.ref f)) (hk : PySem.W.keepIn X.K (.ref f) = true) (ha : PA X (e :: es) t)
    (hdb : (x == ("__debug__" : Str)) = false := by decide) (he : starEach (e :: es) X.env = (false, eval e X.env) :: starEach es X.env := by rfl) (hpl : (backTo pos (starEach es X.env)).any (·.1) = false := by rfl) :
    PE X (.Call (.Name x pp) (e :: es) [] pos) (tCallR sp E t) := by
  refine ⟨fun pins s σ H Q I h => ?_⟩
  refine wpAny_Call_Name_kw (ld_glob I hg hm ?_ hdb)
  refine PySem.W.callWith_K (h₀ := X.base) I.ok.mod.kin hk (thn (ha.run pos pins s σ H _ I h) fun us s1 ⟨vs, H1, I1, r, q⟩ => ⟨I1.kIn, ?_⟩) he hpl
  exact wpAny_call (run_fnRG F hgu hr I1 r q)
end
/-! ### the end: the law's def at the caller, around which no repr runs -/
section
variable {P : Program} {w : World} {K : PySem.W.Frag} {mg mb : Str → Option Value} {k : Nat} {fa a : Addr} {sp : Sp} {s₁ : Shared} {vs : List Value} {ns : List Int}
/-- from one abstract heap, in which at most the script is tracked (locked) -/
theorem law_core (KX : K.In s₁.heap) (hns : s₁.heap.Ns mainGlobals mg) (hb : s₁.heap.Ns builtinsNs mb) (hbb : ∀ x : Str, x ≠ "__name__" → mb x = bootBuiltins x) (hlim : s₁.heap.NoLimit) (hg : s₁.gens = #[]) (hr : Room k callerA)
    (F : ∀ base : Heap, K.In base → base.Ns mainGlobals mg → FnRG P w K mg base k fa sp) (H : Hp)
    (hH : ∀ b u, H b = some u → K.lookup b = none ∧ ∃ o xs, u = .frz o (.lst xs) ∧ s₁.heap.get? b = some o ∧ ∃ vs n, o.data = .seq vs n) (hok : HOk P w H s₁.heap)
    (h : sp [.ref a] H (fun v _ => v = .bl true) fun _ _ _ => False) :
    codeAny (model P w) callerA (.call (.ref fa) ⟨[.ref a], []⟩) (fun r s' => r = .ok (.ret (.bool true)) ∧ OldK s₁.heap s'.heap ∧ s'.os = s₁.os ∧ AllBare s'.gens) s₁ := by
  have free : ∀ {b : Addr} {o : Obj}, s₁.heap.get? b = some o → (∀ vs n, o.data ≠ .seq vs n) → H b = none := by
    intro b o e d
    cases q : H b with
    | none => rfl
    | some u =>
      obtain ⟨_, o2, xs, _, e2, vs2, n2, d2⟩ := hH b u q
      rw [e] at e2
      cases e2
      exact absurd d2 (d _ _)
  have nsK : ∀ {b : Addr} {m : Str → Option Value}, s₁.heap.Ns b m → (hidT s₁.heap H).Ns b m := by
    rintro b m ⟨o, es, ep, e, d, r⟩
    exact ⟨o, es, ep, hidT_get e (free e fun vs n z => by rw [d] at z; cases z), d, r⟩
  have hKb : K.In (hidT s₁.heap H) := by
    intro b o e
    refine hidT_get (KX b o e) ?_
    cases q : H b with
    | none => rfl
    | some u =>
      have := (hH b u q).1
      rw [e] at this
      cases this
  have hM : Mod K mg (hidT s₁.heap H) := ⟨hKb, nsK hns, ⟨mb, nsK hb, hbb⟩, hlim.elim fun mc hc => ⟨mc, nsK hc.1, hc.2⟩⟩
  have e0 : Env0 P w K mg (hidT s₁.heap H) callerA [] s₁ H := ⟨rfl, hM, fun b o e => of_hidT e, Nat.le_of_eq (hidT_size _ _), trivial, fun b hb => absurd (show b ∈ ([] : List Addr) from hb) (by simp), hok, .of_eq hg⟩
  refine codeAny_mono (F _ hKb (nsK hns) callerA [] s₁ H [.ref a] [.ref a] _ _ hr rfl e0 (.cons rfl .nil) h) fun r s' hq => ?_
  cases r with
  | error e => exact False.elim hq
  | ok fl =>
    cases fl with
    | next => exact False.elim hq
    | brk => exact False.elim hq
    | cont => exact False.elim hq
    | ret u =>
      obtain ⟨v, H', os, bare, un, hok', rv, q⟩ := hq
      have q : v = .bl true := q
      subst q
      obtain rfl : u = Value.bool true := rv
      refine ⟨rfl, OldK.of_keep fun b o e => ?_, os, bare⟩
      cases q : H b with
      | none => exact un.keep b o e q (by intro z; exact absurd (show b ∈ ([] : List Addr) from z) (by simp)) (by simp)
      | some u =>
        obtain ⟨_, o2, xs, rfl, e2, _⟩ := hH b u q
        rw [e] at e2
        cases e2
        exact (hok' b _ (un.frzs b o _ q)).1
theorem law_callG (KX : K.In s₁.heap) (hns : s₁.heap.Ns mainGlobals mg) (hb : s₁.heap.Ns builtinsNs mb) (hbb : ∀ x : Str, x ≠ "__name__" → mb x = bootBuiltins x) (hlim : s₁.heap.NoLimit) (hg : s₁.gens = #[])
    (ha : s₁.heap.get? a = some { cls := .type "list", data := .seq vs.toArray }) (hi : IntsAre vs ns) (hl : ns.length ≤ sizeLine) (hr : Room k callerA)
    (F : ∀ base : Heap, K.In base → base.Ns mainGlobals mg → FnRG P w K mg base k fa sp) (hsp : ∀ H : Hp, SqL K H a (ns.map V.int) → sp [.ref a] H (fun v _ => v = .bl true) fun _ _ _ => False) :
    codeAny (model P w) callerA (.call (.ref fa) ⟨[.ref a], []⟩) (fun r s' => r = .ok (.ret (.bool true)) ∧ OldK s₁.heap s'.heap ∧ s'.os = s₁.os ∧ AllBare s'.gens) s₁ := by
  have rv := vals_ints hi
  by_cases hk : ∃ o, K.lookup a = some o
  · obtain ⟨o, hk⟩ := hk
    have e := KX a o hk
    rw [ha] at e
    cases e
    refine law_core KX hns hb hbb hlim hg hr F (fun _ => none) (fun _ _ z => nomatch z) (fun _ _ z => nomatch z) (hsp _ (.inr ⟨_, vs.toArray, _, hk, rfl, rfl, rfl, by rw [List.size_toArray, hi.length]; exact hl, by simpa using rv⟩))
  · have hk0 : K.lookup a = none := by
      cases e : K.lookup a with
      | none => rfl
      | some o => exact absurd ⟨o, e⟩ hk
    have at_ : ∀ b u, upd (fun _ => none) a (.frz { cls := .type "list", data := .seq vs.toArray } (.lst (ns.map V.int))) b = some u → b = a ∧ u = .frz { cls := .type "list", data := .seq vs.toArray } (.lst (ns.map V.int)) := by
      intro b u z
      by_cases e : b = a
      · subst e
        rw [upd_same] at z
        exact ⟨rfl, (Option.some.inj z).symm⟩
      · rw [upd_ne e] at z
        cases z
    refine law_core KX hns hb hbb hlim hg hr F (upd (fun _ => none) a (.frz { cls := .type "list", data := .seq vs.toArray } (.lst (ns.map V.int)))) (fun b u z => ?_) (fun b u z => ?_) (hsp _ (.inl (.inr ⟨_, upd_same⟩)))
    · obtain ⟨rfl, rfl⟩ := at_ b u z
      exact ⟨hk0, _, _, rfl, ha, _, _, rfl⟩
    · obtain ⟨rfl, rfl⟩ := at_ b u z
      exact ⟨ha, by rw [List.length_map]; exact hl, vs, _, rv, ha⟩
theorem walk_G {l : PySem.W.OpenLaw} {n k : Nat} {q : Program} {loose : List Str} {XP : (Str → Option Value) → Heap → Prop} {YP : World → Heap → Prop} {d : DefRec} (hn : l.most = some n) (hn2 : n ≤ sizeLine) (hdf : d.params.defaults = []) (hr : Room k callerA)
    (F : ∀ (w : World) (mg : Str → Option Value) (fa : Addr) (h : Heap), YP w h → h.Ns mainGlobals mg → mg d.name = some (.ref fa) →
      ∃ (K : PySem.W.Frag) (sp : Sp), K.In h ∧
        (∀ (H : Hp) (a : Addr) (ns : List Int), ns.length ≤ n → (∀ z ∈ ns, Builtin.Int.intBits z ≤ 1048576) → SqL K H a (ns.map V.int) → sp [.ref a] H (fun v _ => v = .bl true) fun _ _ _ => False) ∧
        ∀ base : Heap, K.In base → base.Ns mainGlobals mg → FnRG l.prog w K mg base k fa sp) :
    PySem.W.WalkO q loose XP YP l.row.toRowW d [] (fun f vs => PySem.call f vs) := by
  refine Att.attach_callB hn hdf fun w s₀ s₁ mg mb fa o pm cd doc a vs ns G Y ho hd hcd hmg hobj hints hlen hbits hg => ?_
  obtain ⟨K, sp, KX, hsp, hF⟩ := F w mg fa _ Y G.T.g hmg
  exact law_callG KX G.T.g G.T.b G.T.builtins G.T.nolimit hg hobj hints (Nat.le_trans hlen hn2) hr hF (fun H hS => hsp H a ns hlen hbits hS)
end
end G
set_option Elab.async false
set_option linter.all false
set_option maxRecDepth 100000
set_option maxHeartbeats 4000000
namespace G
open PySem PySem.Spec PyProof.Rows L2
variable {P : Program} {w : World} {K : PySem.W.Frag} {mg : Str → Option Value} {base : Heap}
/-! ### what is shown of a store -/
/-- a point as data: moment, the number's text -/
def ptD (p : Pt) : PyData := .tuple [.int p.1, .str (showQ p.2.1 p.2.2)]
def rowD (r : Row) : PyData := .tuple [.str r.1, .list (r.2.map ptD)]
def shownD (mo : Int) (rows : List Row) : PyData := .tuple [.int mo, .list (rows.map rowD)]
theorem lookup_nd {i : Nat} {r : Row} : ∀ {rows : List Row}, (rows.map (·.1)).Nodup → rows[i]? = some r → rows.lookup r.1 = some r.2 := by
  intro rows
  induction rows generalizing i with
  | nil => intro _ h; cases h
  | cons a t ih =>
    intro n h
    obtain ⟨n1, n2⟩ := List.nodup_cons.mp n
    cases i with
    | zero =>
      cases h
      show (match r.1 == r.1 with | true => some r.2 | false => t.lookup r.1) = some r.2
      rw [beq_self_eq_true]
    | succ j =>
      have ne : (r.1 == a.1) = false := by
        rw [beq_eq_false_iff_ne]
        intro z
        refine n1 ?_
        show a.1 ∈ t.map (fun x : Row => x.1)
        rw [← z]
        exact List.mem_map_of_mem (List.mem_of_getElem? h)
      show (match r.1 == a.1 with | true => some a.2 | false => t.lookup r.1) = some r.2
      rw [ne]
      exact ih n2 h
theorem log_int {n : Int} (h : n.natAbs < 2 ^ 1900) : n.natAbs.log2 < 1920 := log_of h
def sp_shown (K : PySem.W.Frag) : Sp := fun vs H Q _ => ∃ p l mo rows ds past, vs = [.ref p] ∧ StoreH H p l ⟨mo, rows, ds⟩ past ∧ RowsOk l rows ∧ l ≤ 5000 ∧ rows.length ≤ 100 ∧ ∀ H' t, Same H H' → Dp K H' (.ref t) (shownD mo rows) → Q (.ref t) H'
theorem sc_law_shown : FnScope N_law_shown P_law_shown (defScope s_law_shown) := ⟨rfl, rfl, rfl, by decide +kernel, rfl, by decide +kernel, by decide +kernel⟩
theorem law_shown_ok (T : Txt K mg) : FnR P w K mg base CX0 4 f_law_shown (sp_shown K) := by
  refine fr_mk (ps := P_law_shown) (N := N_law_shown) T.fd_law_shown sc_law_shown (fun _ _ _ _ _ _ us h => match us, h with | [_], _ => rfl) ?_ ?_
  · rintro vs H Q E ⟨p, l, mo, rows, ds, past, rfl, _⟩
    rfl
  · rintro cdv A outer s H vs Q E hr ⟨p, l, mo, rows, ds, past, rfl, hst, hro, hl, hz, q⟩
    have nd := sc_law_shown.nd
    refine ⟨_, (pss_one (ps_ret (pe_tup (pa_cons (pe_propR (pv 0) T.cl_Store T.p_Store_now (Store_now_ok T) (hr.mono (by decide)) pass0 rfl) (pa_cons (pe_lc (own := [("name", 1)]) (g := (gName 1)) (tt := tYes) (by rfl) nd (pi_tup (pe_propR (pv 0) T.cl_Store T.p_Store_names (Store_names_ok T) (hr.mono (by decide)) pass0 rfl)) (blkOk_by (own := [("name", 1)]) (N := N_law_shown) (sc := defScope s_law_shown) (by decide +kernel)) (fun _ _ _ _ _ => (pg_name (i := 1) nd rfl (Or.inl rfl))) (fun _ _ _ _ _ => pts_nil) (fun _ _ _ _ _ => (pe_tup (pa_cons (pv 1) (pa_cons (pe_lc (own := [("moment", 2), ("value", 3)]) (g := (gTup K 2 (gCons (gName 2) (gCons (gName 3) gNil)))) (tt := tYes) (by rfl) nd (pi_tupK (K := K) rfl (pe_fldK (K := K) rfl (pe_ixOwn T.m_Store_getitem (fnIn_of T.fd_Store_getitem.choose_spec) (Store_getitem_ok T) (hr.mono (by decide)) pass0 (pv 0) (pv 1) (by exact fun _ _ => rfl)) rfl)) (blkOk_by (own := [("moment", 2), ("value", 3)]) (N := N_law_shown) (sc := ({ kind := ScopeKind.function, names := [(".0", NameKind.local), ("name", NameKind.local), ("store", NameKind.cell)], isGenerator := false, isCoroutine := false } : Scope)) (by decide +kernel)) (fun _ _ _ _ _ => (pg_tup rfl (pgs_cons (pg_name (i := 2) nd rfl (Or.inl rfl)) (pgs_cons (pg_name (i := 3) nd rfl (Or.inl rfl)) pgs_nil)))) (fun _ _ _ _ _ => pts_nil) (fun _ _ _ _ _ => (pe_tup (pa_cons (pv 2) (pa_cons (pe_callTy (call_strOwn T.m_Ratio_str (Ratio_str_ok T) (hr.mono (by decide)) pass0) (by rfl) T.n_str (by decide +kernel) (pa_cons (pv 3) pa_nil)) pa_nil))))) pa_nil))))) pa_nil))))), ?_⟩
    have hp := hst
    obtain ⟨dx, st, pa, ps, hp, -⟩ := hp
    refine ⟨_, rfl, _, _, _, rfl, hp, p, l, ⟨mo, rows, ds⟩, past, rfl, hst, _, rfl, _, _, _, rfl, hp, p, l, ⟨mo, rows, ds⟩, past, rfl, hst, fun t0 ht0 => ⟨t0, rfl, ⟨_, SqT.of upd_same⟩, fun D hD => ?_⟩⟩
    have s0 := same_new (o := .tup (rows.map fun r => V.str r.1)) ht0
    have hrz : (rows.map fun r => V.str r.1).length = rows.length := List.length_map _
    refine lc_allD (walk_tup (K := K) (xs := rows.map fun r => V.str r.1)) (fun i v H => ∃ r, rows[i]? = some r ∧ DA H (fun b => b ≠ D) v (rowD r)) ?_ hD ?_ (fun H s => SqT.of (s _ _ upd_same)) ?_ mono_name ?_
    · have := line10k
      omega
    · rintro i v H H' ls hl sb ⟨r, h1, h2⟩
      exact ⟨r, h1, h2.sb hl (fun _ z => nomatch z) sb fun b nb => ⟨nb, nb⟩⟩
    · rintro i x H5 H6 P hi s5 ⟨ls, hls⟩ ⟨rfl, h1⟩ hP
      obtain ⟨r, hr, rfl⟩ := get_map h1
      have s6 : Same H H6 := s0.trans s5
      have hrm : r ∈ rows := List.mem_of_getElem? hr
      obtain ⟨o1, o2, o3⟩ := hro.ok r hrm
      refine ⟨rfl, _, rfl, _, rfl, _, rfl, _, _, _, rfl, s6 _ _ hp, p, l, ⟨mo, rows, ds⟩, past, r.1, r.2, rfl, hst.same s6, lookup_nd hro.nd hr, fun sa ⟨dxs, pt, lk, rd, ys, i1, i2, i3, i4⟩ => ⟨_, _, _, _, _, rfl, i1, T.cl_Series, T.no_Series_points, rfl, pt, rfl, ⟨ys, i2.sq⟩, fun D2 hD2 => ?_⟩⟩
      have nD : D2 ≠ D := (ne_of_none hls hD2).symm
      refine lc_allD (walk_tup (K := K) (xs := ys)) (fun i v H => ∃ q, r.2[i]? = some q ∧ DA H (fun _ => False) v (ptD q)) ?_ hD2 ?_ (fun H s => i2.sq.same s) ?_ mono_pair ?_
      · have := line10k
        have := i3.length
        omega
      · rintro i v H H' ls hl sb ⟨r, h1, h2⟩
        exact ⟨r, h1, h2.sb hl (fun _ z => nomatch z) sb fun b nb => nb.elim⟩
      · rintro j y H7 H8 P2 hj s7 ⟨ls2, hls2⟩ ⟨rfl, h2⟩ hP2
        obtain ⟨q2, hq2, a, b, rfl, e1, ⟨dq, e2⟩⟩ := paired_at _ i3 h2
        have ok := o3 q2 (List.mem_of_getElem? hq2)
        have e3 := s7 _ _ e2
        exact ⟨_, _, rfl, SqT.of (s7 _ _ e1), rfl, _, _, rfl, _, _, rfl, rfl, rfl, _, rfl, _, rfl, _, _, _, rfl, e3, b, _, _, rfl, ⟨dq, e3⟩, log_int ok.2.1, log_int ok.2.2, _, rfl, by show 2 ≤ sizeLine; decide, fun t ht => hP2 _ _ (same_new ht) ⟨q2, hq2, .tup upd_same (.cons (.int _) (.cons (.str _) .nil))⟩⟩
      · intro H7 l2 s7 hl2 pr2
        have das : DAs H7 (fun _ => False) l2 (r.2.map ptD) := das_of (paired_of (F := fun q v => DA H7 (fun _ => False) v (ptD q)) (by rw [i3.length]; exact pr2))
        have das2 : DAs H7 (fun b => b ≠ D) l2 (r.2.map ptD) := DAs.mono (fun _ _ e => e) (fun _ _ n _ => n.elim) _ _ das
        refine ⟨by show 2 ≤ sizeLine; decide, fun t ht => hP _ _ (s7.trans (same_new ht)) ⟨r, hr, .tup upd_same (.cons (.str _) (.cons (.lst (same_new ht _ _ hl2) nD ?_) .nil))⟩⟩
        exact DAs.mono (fun _ _ e => same_new ht _ _ e) (fun _ _ n e => ⟨same_new ht _ _ e, n⟩) _ _ das2
    · intro H7 l2 s7 hl2 pr2
      have das : DAs H7 (fun b => b ≠ D) l2 (rows.map rowD) := das_of (paired_of (F := fun r v => DA H7 (fun b => b ≠ D) v (rowD r)) (by rw [← hrz]; exact pr2))
      refine ⟨by show 2 ≤ sizeLine; decide, fun t ht => q _ t ((s0.trans s7).trans (same_new ht)) ?_⟩
      have das2 : DAs (upd H7 t (.tup [.int mo, .ref D])) (fun _ => True) l2 (rows.map rowD) := DAs.mono (fun _ _ e => same_new ht _ _ e) (fun _ _ n e => ⟨same_new ht _ _ e, trivial⟩) _ _ das
      exact DA.dp (N := fun _ => True) _ _ (.tup upd_same (.cons (.int _) (.cons (.lst (same_new ht _ _ hl2) trivial das2) .nil)))
end G
set_option Elab.async false
set_option linter.all false
set_option maxRecDepth 100000
set_option maxHeartbeats 4000000
namespace G
open PySem PySem.Spec PyProof.Rows L2
variable {P : Program} {w : World} {K : PySem.W.Frag} {mg : Str → Option Value} {base : Heap}
/-! ### the law's own state behind a deed -/
/-- by places: what a comprehension with a test gives -/
theorem paired_filter {α : Type} {F : α → V → Prop} {ps : List α} {keep : Nat → Bool} {c : α → Bool} (hk : ∀ i q, ps[i]? = some q → keep i = c q) {l : List V} (pr : Paired (fun i v => ∃ p, ps[i]? = some p ∧ F p v) ((List.range ps.length).filter keep) l) : Paired F (ps.filter c) l := by
  suffices h : ∀ (n k : Nat) (l : List V), ps.length - k = n → Paired (fun (i : Nat) v => ∃ p, ps[i]? = some p ∧ F p v) ((List.range' k n).filter keep) l → Paired F ((ps.drop k).filter c) l by
    have := h ps.length 0 l (Nat.sub_zero _) (by rw [← List.range_eq_range']; exact pr)
    rw [List.drop_zero] at this
    exact this
  intro n
  induction n with
  | zero =>
    intro k l hn pr
    rw [List.drop_eq_nil_of_le (by omega)]
    cases pr
    exact .nil
  | succ n ih =>
    intro k l hn pr
    have hlt : k < ps.length := by omega
    have e : ps[k]? = some ps[k] := List.getElem?_eq_getElem hlt
    rw [List.range'_succ, List.filter_cons, hk k _ e] at pr
    rw [List.drop_eq_getElem_cons hlt, List.filter_cons]
    split
    · rename_i hc
      rw [if_pos hc] at pr
      cases pr with
      | cons f r =>
        obtain ⟨q, h1, h2⟩ := f
        rw [e] at h1
        cases h1
        exact .cons h2 (ih (k + 1) _ (by omega) r)
    · rename_i hc
      rw [if_neg hc] at pr
      exact ih (k + 1) _ (by omega) pr
/-- the old points at a name but the one at m -/
def oldP (rows : List Row) (nm : Str) (m : Int) : List Pt := rows.flatMap fun r => if r.1 = nm then r.2.filter (fun q => decide (q.1 ≠ m)) else []
theorem oldP_none {nm : Str} {m : Int} : ∀ {rows : List Row}, nm ∉ rows.map (·.1) → oldP rows nm m = [] := by
  intro rows
  induction rows with
  | nil => intro _; rfl
  | cons a t ih =>
    intro h
    have h1 : ¬ a.1 = nm := fun z => h (by rw [← z]; exact List.mem_cons_self)
    have h2 : nm ∉ t.map (fun x : Row => x.1) := fun z => h (List.mem_cons_of_mem _ z)
    unfold oldP
    rw [List.flatMap_cons, if_neg h1]
    exact ih h2
theorem oldP_eq {nm : Str} {m : Int} : ∀ {rows : List Row}, (rows.map (·.1)).Nodup → oldP rows nm m = ((rows.lookup nm).getD []).filter (fun q => decide (q.1 ≠ m)) := by
  intro rows
  induction rows with
  | nil => intro _; rfl
  | cons a t ih =>
    intro h
    obtain ⟨n1, n2⟩ := List.nodup_cons.mp h
    unfold oldP
    rw [List.flatMap_cons]
    by_cases c : a.1 = nm
    · rw [if_pos c]
      have : oldP t nm m = [] := oldP_none (by rw [← c]; exact n1)
      unfold oldP at this
      rw [this, List.append_nil]
      have e : (a :: t).lookup nm = some a.2 := by
        show (match nm == a.1 with | true => some a.2 | false => t.lookup nm) = some a.2
        rw [c, beq_self_eq_true]
      rw [e]
      rfl
    · rw [if_neg c, List.nil_append]
      have e : (a :: t).lookup nm = t.lookup nm := by
        show (match nm == a.1 with | true => some a.2 | false => t.lookup nm) = _
        rw [show (nm == a.1) = false from beq_eq_false_iff_ne.mpr fun z => c z.symm]
      rw [e]
      exact ih n2
/-- old points but one, and the new one: as insP puts it -/
theorem old_ins {ps : List Pt} {p : Pt} (h : RiseP ps) : (insP ps p).Perm (ps.filter (fun q => decide (q.1 ≠ p.1)) ++ [p]) := by
  induction ps with
  | nil => exact List.Perm.refl _
  | cons a t ih =>
    obtain ⟨h1, h2⟩ := List.pairwise_cons.mp h
    have hall : ¬ a.1 < p.1 → t.filter (fun q => decide (q.1 ≠ p.1)) = t := fun c => List.filter_eq_self.mpr fun x hx => decide_eq_true (by have := h1 x hx; omega)
    unfold insP
    split
    · rename_i c
      rw [List.filter_cons, if_pos (decide_eq_true (by omega))]
      exact (ih h2).cons a
    · rename_i c
      split
      · rename_i c2
        rw [List.filter_cons, if_neg (by rw [decide_eq_false (fun z => z c2)]; decide), hall c]
        exact (List.perm_append_singleton p t).symm
      · rename_i c2
        rw [List.filter_cons, if_pos (decide_eq_true c2), hall c]
        exact (List.perm_append_singleton p (a :: t)).symm
theorem old_sorted {ps : List Pt} {p : Pt} {ns : List Int} (h : RiseP ps) (perm : ns.Perm (moms (ps.filter (fun q => decide (q.1 ≠ p.1)) ++ [p]))) (srt : ns.Pairwise (· ≤ ·)) :
    ns.map (ptOf (ps.filter (fun q => decide (q.1 ≠ p.1)) ++ [p])) = insP ps p ∧ (moms (ps.filter (fun q => decide (q.1 ≠ p.1)) ++ [p])).Nodup := by
  have hp := old_ins (p := p) h
  have hr := insP_rise (p := p) h
  have nd : (moms (ps.filter (fun q => decide (q.1 ≠ p.1)) ++ [p])).Nodup := ((hp.map (fun q : Pt => q.1)).nodup_iff).mp (rise_nd (rise_iff.mpr hr))
  refine ⟨rise_unique (rise_iff.mp (by rw [moms_ptOf]; exact rise_of srt (perm.nodup_iff.mpr nd))) hr ?_, nd⟩
  have := perm.map (ptOf (ps.filter (fun q => decide (q.1 ≠ p.1)) ++ [p]))
  rw [map_ptOf nd] at this
  exact this.trans hp.symm
/-- the point at a moment, by a test -/
theorem filter_ptOf {ps : List Pt} {m : Int} (nd : (moms ps).Nodup) (hm : m ∈ moms ps) : ps.filter (fun q => decide (q.1 = m)) = [ptOf ps m] := by
  induction ps with
  | nil => cases hm
  | cons a t ih =>
    obtain ⟨n1, n2⟩ := List.nodup_cons.mp nd
    rw [List.filter_cons]
    unfold ptOf
    by_cases c : a.1 = m
    · rw [if_pos (decide_eq_true c), if_pos c]
      have : t.filter (fun q => decide (q.1 = m)) = [] := List.filter_eq_nil_iff.mpr fun x hx z => n1 (by
        have := of_decide_eq_true z
        show a.1 ∈ t.map (fun q : Pt => q.1)
        rw [c, ← this]
        exact List.mem_map_of_mem hx)
      rw [this]
    · rw [if_neg (by rw [decide_eq_false c]; decide), if_neg c]
      refine ih n2 ?_
      rcases List.mem_cons.mp hm with z | z
      · exact absurd z.symm c
      · exact z
end G
set_option Elab.async false
set_option linter.all false
set_option maxRecDepth 100000
set_option maxHeartbeats 4000000
namespace G
open PySem PySem.Spec PyProof.Rows L2
variable {P : Program} {w : World} {K : PySem.W.Frag} {mg : Str → Option Value} {base : Heap}
/-! ### deeds -/
def deedD : Deed → PyData
  | .now m => .tuple [.str "now", .int m]
  | .drop nm => .tuple [.str "drop", .str nm]
  | .set nm ps => .tuple [.str "set", .str nm, .list (ps.map ptD)]
  | .look nm p => .tuple [.str "look", .str nm, .int p.1, .str (showQ p.2.1 p.2.2)]
def afterR (l : Nat) (mo : Int) (rows : List Row) : Deed → Int × List Row
  | .now m => (m, rows)
  | .drop nm => (mo, rows.filter fun r => decide (r.1 ≠ nm))
  | .set nm ps => (mo, putR rows nm (lastN l ps))
  | .look nm p => (mo, lookR l rows nm p)
def DeedOk : Deed → Prop
  | .set _ ps => RiseP ps ∧ ps.length ≤ 5000
  | _ => True
/-! ### what data is -/
theorem DA.tup_inv {H : Hp} {N : Addr → Prop} {v : V} {ds : List PyData} (h : DA H N v (.tuple ds)) : ∃ a xs, v = .ref a ∧ H a = some (.tup xs) ∧ DAs H N xs ds := by
  cases h with
  | tup h a => exact ⟨_, _, rfl, h, a⟩
theorem DA.lst_inv {H : Hp} {N : Addr → Prop} {v : V} {ds : List PyData} (h : DA H N v (.list ds)) : ∃ a xs, v = .ref a ∧ H a = some (.lst xs) ∧ N a ∧ DAs H N xs ds := by
  cases h with
  | lst h n a => exact ⟨_, _, rfl, h, n, a⟩
theorem DA.int_inv {H : Hp} {N : Addr → Prop} {v : V} {i : Int} (h : DA H N v (.int i)) : v = .int i := by
  cases h
  rfl
theorem DA.str_inv {H : Hp} {N : Addr → Prop} {v : V} {i : Str} (h : DA H N v (.str i)) : v = .str i := by
  cases h
  rfl
theorem DAs.cons_inv {H : Hp} {N : Addr → Prop} {vs : List V} {d : PyData} {ds : List PyData} (h : DAs H N vs (d :: ds)) : ∃ v r, vs = v :: r ∧ DA H N v d ∧ DAs H N r ds := by
  cases h with
  | cons h r => exact ⟨_, _, rfl, h, r⟩
theorem DAs.nil_inv {H : Hp} {N : Addr → Prop} {vs : List V} (h : DAs H N vs []) : vs = [] := by
  cases h
  rfl
theorem das_inv {H : Hp} {N : Addr → Prop} {α : Type} {f : α → PyData} : ∀ {ps : List α} {l : List V}, DAs H N l (ps.map f) → Paired (fun p v => DA H N v (f p)) ps l := by
  intro ps
  induction ps with
  | nil =>
    intro l h
    rw [h.nil_inv]
    exact .nil
  | cons a t ih =>
    intro l h
    obtain ⟨v, r, rfl, h1, h2⟩ := h.cons_inv
    exact .cons h1 (ih h2)
/-- a point as plain data -/
def IsPd (H : Hp) (q : Pt) (v : V) : Prop := ∃ t, v = .ref t ∧ H t = some (.tup [.int q.1, .str (showQ q.2.1 q.2.2)])
theorem pd_inv {H : Hp} {N : Addr → Prop} {v : V} {q : Pt} (h : DA H N v (ptD q)) : IsPd H q v := by
  obtain ⟨a, xs, rfl, h1, h2⟩ := h.tup_inv
  obtain ⟨v1, r1, rfl, h3, h4⟩ := h2.cons_inv
  obtain ⟨v2, r2, rfl, h5, h6⟩ := h4.cons_inv
  rw [h3.int_inv, h5.str_inv, h6.nil_inv] at h1
  exact ⟨a, rfl, h1⟩
theorem IsPd.da {H : Hp} {N : Addr → Prop} {v : V} {q : Pt} (h : IsPd H q v) : DA H N v (ptD q) := by
  obtain ⟨t, rfl, h⟩ := h
  exact .tup h (.cons (.int _) (.cons (.str _) .nil))
theorem IsPd.kp {S : Addr} {H H' : Hp} {v : V} {q : Pt} (h : IsPd H q v) (s : Kp S H H') : IsPd H' q v := by
  obtain ⟨t, rfl, h⟩ := h
  exact ⟨t, rfl, s _ _ trivial h⟩
abbrev Pds (H : Hp) (ps : List Pt) (l : List V) : Prop := Paired (IsPd H) ps l
theorem Pds.kp {S : Addr} {H H' : Hp} {ps : List Pt} {l : List V} (h : Pds H ps l) (s : Kp S H H') : Pds H' ps l := h.mono fun _ _ h => h.kp s
theorem Pds.same {H H' : Hp} {ps : List Pt} {l : List V} (h : Pds H ps l) (s : Same H H') : Pds H' ps l := h.kp (Kp.of (S := aStore) s)
/-- a row as plain data -/
def IsRd (H : Hp) (N : Addr → Prop) (r : Row) (v : V) : Prop := ∃ t ol ys, v = .ref t ∧ H t = some (.tup [.str r.1, .ref ol]) ∧ H ol = some (.lst ys) ∧ N ol ∧ Pds H r.2 ys
theorem rd_inv {H : Hp} {N : Addr → Prop} {v : V} {r : Row} (h : DA H N v (rowD r)) : IsRd H N r v := by
  obtain ⟨a, xs, rfl, h1, h2⟩ := h.tup_inv
  obtain ⟨v1, r1, rfl, h3, h4⟩ := h2.cons_inv
  obtain ⟨v2, r2, rfl, h5, h6⟩ := h4.cons_inv
  obtain ⟨b, ys, rfl, h7, h8, h9⟩ := h5.lst_inv
  rw [h3.str_inv, h6.nil_inv] at h1
  exact ⟨a, b, ys, rfl, h1, h7, h8, (das_inv h9).mono fun _ _ h => pd_inv h⟩
theorem IsRd.da {H : Hp} {N : Addr → Prop} {v : V} {r : Row} (h : IsRd H N r v) : DA H N v (rowD r) := by
  obtain ⟨t, ol, ys, rfl, h1, h2, h3, h4⟩ := h
  exact .tup h1 (.cons (.str _) (.cons (.lst h2 h3 (das_of (h4.mono fun _ _ h => h.da))) .nil))
theorem IsRd.same {H H' : Hp} {N : Addr → Prop} {v : V} {r : Row} (h : IsRd H N r v) (s : Same H H') : IsRd H' N r v := by
  obtain ⟨t, ol, ys, rfl, h1, h2, h3, h4⟩ := h
  exact ⟨t, ol, ys, rfl, s _ _ h1, s _ _ h2, h3, h4.same s⟩
theorem IsRd.sb {H H' : Hp} {N : Addr → Prop} {v : V} {r : Row} {D : Addr} {ls : List V} (h : IsRd H N r v) (hl : H D = some (.lst ls)) (sb : SameB D H H') (hn : ∀ b, N b → b ≠ D) : IsRd H' N r v := by
  obtain ⟨t, ol, ys, rfl, k1, k2, k3, k4⟩ := h
  exact ⟨t, ol, ys, rfl, sb _ _ (ne_of k1 hl (by intro z; cases z)) k1, sb _ _ (hn _ k3) k2, k3, k4.kp (S := aStore) (sb.kp hl (fun z => z))⟩
theorem IsRd.imp {H : Hp} {N N' : Addr → Prop} {v : V} {r : Row} (h : IsRd H N r v) (hn : ∀ b, N b → N' b) : IsRd H N' r v := by
  obtain ⟨t, ol, ys, rfl, k1, k2, k3, k4⟩ := h
  exact ⟨t, ol, ys, rfl, k1, k2, hn _ k3, k4⟩
/-- a list of rows: lists apart from what is new -/
theorem IsRd.new {H : Hp} {N : Addr → Prop} {v : V} {r : Row} {D : Addr} (h : IsRd H N r v) (hD : H D = none) : IsRd H (fun b => N b ∧ b ≠ D) r v := by
  obtain ⟨t, ol, ys, rfl, k1, k2, k3, k4⟩ := h
  exact ⟨t, ol, ys, rfl, k1, k2, ⟨k3, ne_of_none k2 hD⟩, k4⟩
theorem shown_inv {H : Hp} {N : Addr → Prop} {v : V} {mo : Int} {rows : List Row} (h : DA H N v (shownD mo rows)) : ∃ t rl rs, v = .ref t ∧ H t = some (.tup [.int mo, .ref rl]) ∧ H rl = some (.lst rs) ∧ N rl ∧ Paired (fun r v => IsRd H N r v) rows rs := by
  obtain ⟨a, xs, rfl, h1, h2⟩ := h.tup_inv
  obtain ⟨v1, r1, rfl, h3, h4⟩ := h2.cons_inv
  obtain ⟨v2, r2, rfl, h5, h6⟩ := h4.cons_inv
  obtain ⟨b, ys, rfl, h7, h8, h9⟩ := h5.lst_inv
  rw [h3.int_inv, h6.nil_inv] at h1
  exact ⟨a, b, ys, rfl, h1, h7, h8, (das_inv h9).mono fun _ _ h => rd_inv h⟩
theorem shown_mk {H : Hp} {N : Addr → Prop} {t rl : Addr} {mo : Int} {rows : List Row} {rs : List V} (h1 : H t = some (.tup [.int mo, .ref rl])) (h2 : H rl = some (.lst rs)) (h3 : N rl) (h4 : Paired (fun r v => IsRd H N r v) rows rs) : DA H N (.ref t) (shownD mo rows) :=
  .tup h1 (.cons (.int _) (.cons (.lst h2 h3 (das_of (h4.mono fun _ _ h => h.da))) .nil))
theorem deed_now {H : Hp} {N : Addr → Prop} {dd : Addr} {m : Int} (h : DA H N (.ref dd) (deedD (.now m))) : H dd = some (.tup [.str "now", .int m]) := by
  obtain ⟨a, xs, e, h1, h2⟩ := h.tup_inv
  cases e
  obtain ⟨v1, r1, rfl, h3, h4⟩ := h2.cons_inv
  obtain ⟨v2, r2, rfl, h5, h6⟩ := h4.cons_inv
  rw [h3.str_inv, h5.int_inv, h6.nil_inv] at h1
  exact h1
theorem deed_drop {H : Hp} {N : Addr → Prop} {dd : Addr} {nm : Str} (h : DA H N (.ref dd) (deedD (.drop nm))) : H dd = some (.tup [.str "drop", .str nm]) := by
  obtain ⟨a, xs, e, h1, h2⟩ := h.tup_inv
  cases e
  obtain ⟨v1, r1, rfl, h3, h4⟩ := h2.cons_inv
  obtain ⟨v2, r2, rfl, h5, h6⟩ := h4.cons_inv
  rw [h3.str_inv, h5.str_inv, h6.nil_inv] at h1
  exact h1
theorem deed_set {H : Hp} {N : Addr → Prop} {dd : Addr} {nm : Str} {ps : List Pt} (h : DA H N (.ref dd) (deedD (.set nm ps))) : ∃ b ys, H dd = some (.tup [.str "set", .str nm, .ref b]) ∧ H b = some (.lst ys) ∧ Pds H ps ys := by
  obtain ⟨a, xs, e, h1, h2⟩ := h.tup_inv
  cases e
  obtain ⟨v1, r1, rfl, h3, h4⟩ := h2.cons_inv
  obtain ⟨v2, r2, rfl, h5, h6⟩ := h4.cons_inv
  obtain ⟨v7, r7, rfl, h7, h8⟩ := h6.cons_inv
  obtain ⟨b, ys, rfl, h9, _, h10⟩ := h7.lst_inv
  rw [h3.str_inv, h5.str_inv, h8.nil_inv] at h1
  exact ⟨b, ys, h1, h9, (das_inv h10).mono fun _ _ h => pd_inv h⟩
theorem deed_look {H : Hp} {N : Addr → Prop} {dd : Addr} {nm : Str} {p : Pt} (h : DA H N (.ref dd) (deedD (.look nm p))) : H dd = some (.tup [.str "look", .str nm, .int p.1, .str (showQ p.2.1 p.2.2)]) := by
  obtain ⟨a, xs, e, h1, h2⟩ := h.tup_inv
  cases e
  obtain ⟨v1, r1, rfl, h3, h4⟩ := h2.cons_inv
  obtain ⟨v2, r2, rfl, h5, h6⟩ := h4.cons_inv
  obtain ⟨v7, r7, rfl, h7, h8⟩ := h6.cons_inv
  obtain ⟨v9, r9, rfl, h9, h10⟩ := h8.cons_inv
  rw [h3.str_inv, h5.str_inv, h7.int_inv, h9.str_inv, h10.nil_inv] at h1
  exact h1
/-! ### plain laws of what is kept -/
/-- a test of the items, by places -/
def keepB {α : Type} (f : α → Bool) (ps : List α) : Nat → Bool := fun i => match ps[i]? with | some q => f q | none => false
theorem keepB_eq {α : Type} {f : α → Bool} {ps : List α} {i : Nat} {q : α} (h : ps[i]? = some q) : keepB f ps i = f q := by
  unfold keepB
  rw [h]
theorem filter_and {α : Type} {b : Bool} {f : α → Bool} {ps : List α} : ps.filter (fun q => b && f q) = if b = true then ps.filter f else [] := by
  cases b with
  | true => rfl
  | false => exact List.filter_eq_nil_iff.mpr fun _ _ z => by cases z
theorem paired_append {α β : Type} {F : α → β → Prop} {l1 l2 : List α} {m1 m2 : List β} (h1 : Paired F l1 m1) (h2 : Paired F l2 m2) : Paired F (l1 ++ l2) (m1 ++ m2) := by
  induction h1 with
  | nil => exact h2
  | cons f _ ih => exact .cons f ih
/-- points in any order, and how they come to their places -/
def Srt (pts srt : List Pt) : Prop := (moms pts).Nodup ∧ ∀ ns : List Int, ns.Perm (moms pts) → ns.Pairwise (· ≤ ·) → ns.map (ptOf pts) = srt
theorem srt_look {rows : List Row} {l : Nat} (h : RowsOk l rows) (nm : Str) (p : Pt) : Srt (oldP rows nm p.1 ++ [p]) (insP ((rows.lookup nm).getD []) p) := by
  rw [oldP_eq h.nd]
  have hr := (lookup_ok h nm).1
  refine ⟨?_, fun ns perm so => (old_sorted hr perm so).1⟩
  have hp := old_ins (p := p) hr
  have h2 := insP_rise (p := p) hr
  exact ((hp.map (fun q : Pt => q.1)).nodup_iff).mp (rise_nd (rise_iff.mpr h2))
theorem srt_set {ps : List Pt} (h : RiseP ps) : Srt ps ps := by
  have nd := rise_nd (rise_iff.mpr h)
  refine ⟨nd, fun ns perm so => ?_⟩
  refine rise_unique (rise_iff.mp (by rw [moms_ptOf]; exact rise_of so (perm.nodup_iff.mpr nd))) h ?_
  have := perm.map (ptOf ps)
  rw [map_ptOf nd] at this
  exact this
theorem old_len {rows : List Row} {nm : Str} {m : Int} {l : Nat} (h : RowsOk l rows) (i : Nat) (hl : l ≤ 5000) : (oldP (rows.take i) nm m).length ≤ 5000 * (rows.take i).length := by
  have : ∀ rs : List Row, (∀ r ∈ rs, r.2.length ≤ 5000) → (oldP rs nm m).length ≤ 5000 * rs.length := by
    intro rs
    induction rs with
    | nil => intro _; exact Nat.le_refl _
    | cons a t ih =>
      intro h
      have h1 := ih fun r hr => h r (List.mem_cons_of_mem _ hr)
      have h2 := h a List.mem_cons_self
      unfold oldP at h1 ⊢
      rw [List.flatMap_cons, List.length_append, List.length_cons]
      have h3 : (if a.1 = nm then a.2.filter (fun q => decide (q.1 ≠ m)) else []).length ≤ 5000 := by
        split
        · exact Nat.le_trans (List.length_filter_le _ _) h2
        · exact Nat.zero_le _
      omega
  exact this _ fun r hr => Nat.le_trans (h.ok r (List.mem_of_mem_take hr)).2.1 hl
theorem cut_max {xs : List V} {l : Nat} {i : Int} (h : i = if (xs.length : Int) - (l : Int) > 0 then (xs.length : Int) - (l : Int) else 0) : cutV xs (some i) none = xs.drop (xs.length - l) := by
  have h2 : HT.sIx xs.length 0 (some i) = xs.length - l := by
    show (if i < 0 then (i + (xs.length : Int)).toNat else min i.toNat xs.length) = xs.length - l
    split at h <;> rw [if_neg (by omega)] <;> omega
  unfold cutV
  rw [h2, HT.sIx_none, List.take_of_length_le]
  rw [List.length_drop]
  exact Nat.le_refl _
theorem inV_str {nm : Str} {rows : List Row} : inV (.str nm) (rows.map fun r => V.str r.1) = rows.any fun r => decide (r.1 = nm) := by
  unfold inV
  rw [List.any_map]
  congr 1
theorem paired_strs : ∀ {rows : List Row} {l : List V}, Paired (fun (r : Row) v => v = V.str r.1) rows l → l = rows.map fun r => V.str r.1
  | _, _, .nil => rfl
  | _, _, .cons h r => by rw [h, paired_strs r]; rfl
theorem all_flat {rows : List Row} : (rows.map fun r => V.str r.1).all flatV = true := by
  rw [List.all_map, List.all_eq_true]
  intro _ _
  rfl
theorem old_snoc {rows : List Row} {nm : Str} {m : Int} {i : Nat} {r : Row} (h : rows[i]? = some r) : oldP (rows.take (i + 1)) nm m = oldP (rows.take i) nm m ++ (if r.1 = nm then r.2.filter (fun q => decide (q.1 ≠ m)) else []) := by
  have e : rows.take (i + 1) = rows.take i ++ [r] := by
    rw [List.take_succ, h]
    rfl
  unfold oldP
  rw [e, List.flatMap_append]
  simp
end G
set_option Elab.async false
set_option linter.all false
set_option maxRecDepth 100000
set_option maxHeartbeats 4000000
namespace G
open PySem PySem.Spec PyProof.Rows L2
variable {P : Program} {w : World} {K : PySem.W.Frag} {mg : Str → Option Value} {base : Heap}
/-- behind a deed -/
def sp_after : Sp := fun vs H Q _ => ∃ (st : Addr) (l : Nat) (dd : Addr) (mo : Int) (rows : List Row) (de : Deed) (N : Addr → Prop), vs = [.ref st, .int l, .ref dd] ∧ DA H N (.ref st) (shownD mo rows) ∧ DA H N (.ref dd) (deedD de) ∧ (∀ b, H b = none → N b) ∧
  RowsOk l rows ∧ DeedOk de ∧ 1 ≤ l ∧ l ≤ 5000 ∧ rows.length ≤ 100 ∧ ∀ H' t, Same H H' → DA H' N (.ref t) (shownD (afterR l mo rows de).1 (afterR l mo rows de).2) → Q (.ref t) H'
theorem str_ne {a b : Str} (h : ¬ a = b) : decide (V.str a = V.str b) = false := decide_eq_false fun z => h (by injection z)
theorem str_eq {a b : Str} (h : a = b) : decide (V.str a = V.str b) = true := decide_eq_true (by rw [h])
theorem line1m : 1000000 ≤ sizeLine := by decide
theorem paired_mapl {α β γ : Type} {F : β → γ → Prop} {f : α → β} {l1 : List α} {l2 : List γ} (h : Paired (fun a c => F (f a) c) l1 l2) : Paired F (l1.map f) l2 := by
  induction h with
  | nil => exact .nil
  | cons f _ ih => exact .cons f ih
theorem filter_range_none {n : Nat} {k : Nat → Bool} (h : ∀ i, i < n → k i = false) : (List.range n).filter k = [] := List.filter_eq_nil_iff.mpr fun i hi z => by
  rw [h i (List.mem_range.mp hi)] at z
  cases z
theorem sc_law_after : FnScope N_law_after P_law_after (defScope s_law_after) := ⟨rfl, rfl, rfl, by decide +kernel, rfl, by decide +kernel, by decide +kernel⟩
theorem law_after_ok (T : Txt K mg) : FnR P w K mg base CX0 1 f_law_after sp_after := by
  refine fr_mk (ps := P_law_after) (N := N_law_after) T.fd_law_after sc_law_after (fun _ _ _ _ _ _ us h => match us, h with | [_, _, _], _ => rfl) ?_ ?_
  · rintro vs H Q E ⟨st, l, dd, mo, rows, de, N, rfl, _⟩
    rfl
  · rintro cdv A outer s H vs Q E hr ⟨st, l, dd, mo, rows, de, N, rfl, hst, hde, hN, hro, hdo, hl1, hl2, hrz, q⟩
    have nd := sc_law_after.nd
    refine ⟨_, (pss_cons (ps_asg (pv 0) (pg_tup rfl (pgs_cons (pg_name (i := 3) nd rfl (by first | exact Or.inl rfl | exact Or.inr rfl)) (pgs_cons (pg_name (i := 4) nd rfl (by first | exact Or.inl rfl | exact Or.inr rfl)) pgs_nil)))) (Evl.pss_cut (ps_if (pt_cmpR op_eq (pe_ix ix_tup (pv 2) pe_int (fun _ _ => rfl)) pe_str (nomark _)) (pss_one (ps_ret (pe_tup (pa_cons (pe_ix ix_tup (pv 2) pe_int (fun _ _ => rfl)) (pa_cons (pv 4) pa_nil))))) pss_nil) (Evl.pss_cut (ps_if (pt_cmpR op_eq (pe_ix ix_tup (pv 2) pe_int (fun _ _ => rfl)) pe_str (nomark _)) (pss_one (ps_ret (pe_tup (pa_cons (pv 3) (pa_cons (pe_lc (own := [("row", 10)]) (g := (gName 10)) (by rfl) nd (pi_list (pv 4)) (blkOk_by (own := [("row", 10)]) (N := N_law_after) (sc := defScope s_law_after) (by decide +kernel)) (fun _ _ _ _ _ => (pg_name (i := 10) nd rfl (Or.inl rfl))) (fun _ _ _ _ _ => (pts_one (pt_cmpR op_ne (pe_ix (ix_tupK (K := K) rfl) (pv 10) pe_int (fun _ _ => rfl)) (pe_ix (ix_tupK (K := K) rfl) (pv 2) pe_int (fun _ _ => rfl)) (nomark _)))) (fun _ _ _ _ _ => (pv 10))) pa_nil))))) pss_nil) (Evl.pss_cut (ps_set (i := 5) nd rfl (by first | exact Or.inl rfl | exact Or.inr rfl) (pe_ifExp (pt_cmpR op_eq (pe_ix ix_tup (pv 2) pe_int (fun _ _ => rfl)) pe_str (nomark _)) (pe_callTy call_list_of (by rfl) T.n_list (by decide +kernel) (pa_cons (pe_ix ix_tup (pv 2) pe_int (fun _ _ => rfl)) pa_nil)) (pe_lst pa_nil))) (Evl.pss_cut (ps_if (pt_cmpR op_eq (pe_ix ix_tup (pv 2) pe_int (fun _ _ => rfl)) pe_str (nomark _)) (pss_cons (ps_for PassesOwn.never rfl (pi_list (pv 4)) (pg_tup rfl (pgs_cons (pg_name (i := 6) nd rfl (by first | exact Or.inl rfl | exact Or.inr rfl)) (pgs_cons (pg_name (i := 7) nd rfl (by first | exact Or.inl rfl | exact Or.inr rfl)) pgs_nil))) (pss_one (ps_expr (pe_bm PySem.F.plainAttrs_list PySem.F.slot_list_extend PySem.F.type_list_extend mt_extend (pv 5) (pa_cons (pe_lc (own := [("pair", 11)]) (g := (gName 11)) (by rfl) nd (pi_list (pv 7)) (blkOk_by (own := [("pair", 11)]) (N := N_law_after) (sc := defScope s_law_after) (by decide +kernel)) (fun _ _ _ _ _ => (pg_name (i := 11) nd rfl (Or.inl rfl))) (fun _ _ _ _ _ => (pts_one (PW.pt (pw_and (pt_cmpR op_eq (pv 6) (pe_ix (ix_tupK (K := K) rfl) (pv 2) pe_int (fun _ _ => rfl)) (nomark _)) (pw_and1 (pt_cmpR op_ne (pe_ix (ix_tupK (K := K) rfl) (pv 11) pe_int (fun _ _ => rfl)) (pe_ix (ix_tupK (K := K) rfl) (pv 2) pe_int (fun _ _ => rfl)) (nomark _))))))) (fun _ _ _ _ _ => (pv 11))) pa_nil))))) (pss_one (ps_expr (pe_bm PySem.F.plainAttrs_list PySem.F.slot_list_append PySem.F.type_list_append mt_append (pv 5) (pa_cons (pe_tup (pa_cons (pe_ix ix_tup (pv 2) pe_int (fun _ _ => rfl)) (pa_cons (pe_ix ix_tup (pv 2) pe_int (fun _ _ => rfl)) pa_nil))) pa_nil))))) pss_nil) (pss_cons (ps_set (i := 8) nd rfl (by first | exact Or.inl rfl | exact Or.inr rfl) (pe_lst pa_nil)) (Evl.pss_cut (ps_for PassesOwn.never rfl (pi_list (pe_callB cr_sortedI (by rfl) T.n_sorted (by decide +kernel) (pa_cons (pe_lc (own := [("pair", 11)]) (g := (gName 11)) (tt := tYes) (by rfl) nd (pi_list (pv 5)) (blkOk_by (own := [("pair", 11)]) (N := N_law_after) (sc := defScope s_law_after) (by decide +kernel)) (fun _ _ _ _ _ => (pg_name (i := 11) nd rfl (Or.inl rfl))) (fun _ _ _ _ _ => pts_nil) (fun _ _ _ _ _ => (pe_callTy call_int1 (by rfl) T.n_int (by decide +kernel) (pa_cons (pe_ix (ix_tupK (K := K) rfl) (pv 11) pe_int (fun _ _ => rfl)) pa_nil)))) pa_nil))) (pg_name (i := 9) nd rfl (by first | exact Or.inl rfl | exact Or.inr rfl)) (pss_one (ps_expr (pe_bm PySem.F.plainAttrs_list PySem.F.slot_list_extend PySem.F.type_list_extend mt_extend (pv 8) (pa_cons (pe_lc (own := [("pair", 11)]) (g := (gName 11)) (by rfl) nd (pi_list (pv 5)) (blkOk_by (own := [("pair", 11)]) (N := N_law_after) (sc := defScope s_law_after) (by decide +kernel)) (fun _ _ _ _ _ => (pg_name (i := 11) nd rfl (Or.inl rfl))) (fun _ _ _ _ _ => (pts_one (pt_cmpR op_eq (pe_ix (ix_tupK (K := K) rfl) (pv 11) pe_int (fun _ _ => rfl)) (pv 9) (nomark _)))) (fun _ _ _ _ _ => (pv 11))) pa_nil))))) (Evl.pss_cut (ps_set (i := 8) nd rfl (by first | exact Or.inl rfl | exact Or.inr rfl) (pe_slice sl_list (pv 8) (po_some (pe_callB (call_max2 rfl) (by rfl) T.n_max (by decide +kernel) (pa_cons pe_int (pa_cons (pe_op op_sub (pe_callB call_len_seq (by rfl) T.n_len (by decide +kernel) (pa_cons (pv 8) pa_nil)) (pv 1)) pa_nil)))) po_none)) (pss_cons (ps_if (pt_cmpR op_in_seq (pe_ix ix_tup (pv 2) pe_int (fun _ _ => rfl)) (pe_lc (own := [("name", 6), ("own", 7)]) (g := (gTup K 2 (gCons (gName 6) (gCons (gName 7) gNil)))) (tt := tYes) (by rfl) nd (pi_list (pv 4)) (blkOk_by (own := [("name", 6), ("own", 7)]) (N := N_law_after) (sc := defScope s_law_after) (by decide +kernel)) (fun _ _ _ _ _ => (pg_tup rfl (pgs_cons (pg_name (i := 6) nd rfl (Or.inl rfl)) (pgs_cons (pg_name (i := 7) nd rfl (Or.inl rfl)) pgs_nil)))) (fun _ _ _ _ _ => pts_nil) (fun _ _ _ _ _ => (pv 6))) rfl) (pss_one (ps_ret (pe_tup (pa_cons (pv 3) (pa_cons (pe_lc (own := [("name", 6), ("own", 7)]) (g := (gTup K 2 (gCons (gName 6) (gCons (gName 7) gNil)))) (tt := tYes) (by rfl) nd (pi_list (pv 4)) (blkOk_by (own := [("name", 6), ("own", 7)]) (N := N_law_after) (sc := defScope s_law_after) (by decide +kernel)) (fun _ _ _ _ _ => (pg_tup rfl (pgs_cons (pg_name (i := 6) nd rfl (Or.inl rfl)) (pgs_cons (pg_name (i := 7) nd rfl (Or.inl rfl)) pgs_nil)))) (fun _ _ _ _ _ => pts_nil) (fun _ _ _ _ _ => (pe_tup (pa_cons (pv 6) (pa_cons (pe_ifExp (pt_cmpR op_eq (pv 6) (pe_ix (ix_tupK (K := K) rfl) (pv 2) pe_int (fun _ _ => rfl)) (nomark _)) (pv 8) (pv 7)) pa_nil))))) pa_nil))))) pss_nil) (pss_one (ps_ret (pe_tup (pa_cons (pv 3) (pa_cons (pe_op op_cat (pv 4) (pe_lst (pa_cons (pe_tup (pa_cons (pe_ix ix_tup (pv 2) pe_int (fun _ _ => rfl)) (pa_cons (pv 8) pa_nil))) pa_nil))) pa_nil)))))))))))))), ?_⟩
    obtain ⟨t0, rl, rs, e0, hx, hrl, nrl, hrs⟩ := shown_inv hst
    cases e0
    refine ⟨_, rfl, _, _, rfl, SqT.of hx, rfl, _, _, rfl, _, _, rfl, rfl, ?_⟩
    -- now
    refine ⟨fun σ' H' => H' = H ∧ σ' = [some (.ref st), some (.int l), some (.ref dd), some (.int mo), some (.ref rl), none, none, none, none, none, none, none] ∧ ∀ m, de ≠ .now m, ?_, ?_⟩
    · cases de with
      | now m =>
        have hdd := deed_now hde
        refine ⟨_, rfl, _, _, _, _, rfl, rfl, SqT.of hdd, atI_nat rfl, rfl, _, rfl, iteTc (by decide +kernel) ⟨_, rfl, _, _, _, _, rfl, rfl, SqT.of hdd, atI_nat rfl, _, rfl, by show 2 ≤ sizeLine; decide, fun t ht => ?_⟩⟩
        exact q _ t (same_new ht) (shown_mk upd_same (same_new ht _ _ hrl) nrl (hrs.mono fun _ _ h => h.same (same_new ht)))
      | drop nm => exact ⟨_, rfl, _, _, _, _, rfl, rfl, SqT.of (deed_drop hde), atI_nat rfl, rfl, _, rfl, iteFc (by decide +kernel) ⟨rfl, rfl, fun m z => nomatch z⟩⟩
      | set nm ps =>
        obtain ⟨b, ys, hdd, _⟩ := deed_set hde
        exact ⟨_, rfl, _, _, _, _, rfl, rfl, SqT.of hdd, atI_nat rfl, rfl, _, rfl, iteFc (by decide +kernel) ⟨rfl, rfl, fun m z => nomatch z⟩⟩
      | look nm p => exact ⟨_, rfl, _, _, _, _, rfl, rfl, SqT.of (deed_look hde), atI_nat rfl, rfl, _, rfl, iteFc (by decide +kernel) ⟨rfl, rfl, fun m z => nomatch z⟩⟩
    rintro σ1 H1 ⟨rfl, rfl, nn⟩
    -- drop
    refine ⟨fun σ' H' => H' = H1 ∧ σ' = [some (.ref st), some (.int l), some (.ref dd), some (.int mo), some (.ref rl), none, none, none, none, none, none, none] ∧ ((∃ nm ps, de = .set nm ps) ∨ ∃ nm p, de = .look nm p), ?_, ?_⟩
    · cases de with
      | now m => exact absurd rfl (nn m)
      | drop nm =>
        have hdd := deed_drop hde
        refine ⟨_, rfl, _, _, _, _, rfl, rfl, SqT.of hdd, atI_nat rfl, rfl, _, rfl, iteTc (by decide +kernel) ⟨_, rfl, _, rfl, _, rfl, ⟨_, SqL.of hrl⟩, fun D hD => ?_⟩⟩
        refine lc_relD (walk_list (K := K) (xs := rs)) (keepB (fun r : Row => decide (r.1 ≠ nm)) rows) (fun i v H => ∃ r, rows[i]? = some r ∧ IsRd H (fun b => N b ∧ b ≠ D) r v) ?_ hD ?_ (fun H s => SqL.of (s _ _ hrl)) ?_ ?_
        · have := line1m
          have := hrs.length
          omega
        · rintro i v H H' ls hl sb ⟨r, h1, h2⟩
          refine ⟨r, h1, ?_⟩
          obtain ⟨t, ol, ys, rfl, k1, k2, k3, k4⟩ := h2
          exact ⟨t, ol, ys, rfl, sb _ _ (ne_of k1 hl (by intro z; cases z)) k1, sb _ _ k3.2 k2, k3, k4.kp (S := aStore) (sb.kp hl (fun z => z))⟩
        · rintro i x H5 H6 Pk PN hi s5 _ ⟨rfl, h1⟩ hk hn
          obtain ⟨r, hr1, hr2⟩ := paired_at _ hrs h1
          obtain ⟨t, ol, ys, rfl, k1, k2, k3, k4⟩ := hr2
          refine ⟨rfl, _, rfl, _, _, _, _, rfl, rfl, SqT.of (s5 _ _ k1), atI_nat rfl, _, rfl, _, _, _, _, rfl, rfl, SqT.of (s5 _ _ hdd), atI_nat rfl, rfl, _, rfl, ?_⟩
          rw [keepB_eq hr1] at hk hn
          by_cases c : r.1 = nm
          · exact iteFc (by rw [str_eq c]; rfl) (hn (decide_eq_false (fun z => z c)) _ (Same.refl _))
          · refine iteTc (by rw [str_ne c]; rfl) ⟨_, rfl, hk (decide_eq_true c) _ _ (Same.refl _) ⟨r, hr1, t, ol, ys, rfl, s5 _ _ k1, s5 _ _ k2, ⟨k3, (ne_of_none k2 hD)⟩, k4.same s5⟩⟩
        · intro H5 l5 s5 hl5 pr
          have hrz2 : rs.length = rows.length := hrs.length.symm
          have pr2 := paired_filter (F := fun r v => IsRd H5 (fun b => N b ∧ b ≠ D) r v) (c := fun r : Row => decide (r.1 ≠ nm)) (ps := rows) (fun i r e => keepB_eq e) (by rw [← hrz2]; exact pr)
          refine ⟨by show 2 ≤ sizeLine; decide, fun t ht => q _ t (s5.trans (same_new ht)) (shown_mk upd_same (same_new ht _ _ hl5) (hN D hD) (pr2.mono fun _ _ h => ?_))⟩
          obtain ⟨t, ol, ys, rfl, k1, k2, k3, k4⟩ := h.same (same_new ht)
          exact ⟨t, ol, ys, rfl, k1, k2, k3.1, k4⟩
      | set nm ps =>
        obtain ⟨b, ys, hdd, _⟩ := deed_set hde
        exact ⟨_, rfl, _, _, _, _, rfl, rfl, SqT.of hdd, atI_nat rfl, rfl, _, rfl, iteFc (by decide +kernel) ⟨rfl, rfl, .inl ⟨_, _, rfl⟩⟩⟩
      | look nm p => exact ⟨_, rfl, _, _, _, _, rfl, rfl, SqT.of (deed_look hde), atI_nat rfl, rfl, _, rfl, iteFc (by decide +kernel) ⟨rfl, rfl, .inr ⟨_, _, rfl⟩⟩⟩
    rintro σ2 H2 ⟨rfl, rfl, hd2⟩
    -- points
    refine ⟨fun σ' H' => ∃ pl l5 pts, σ' = [some (.ref st), some (.int l), some (.ref dd), some (.int mo), some (.ref rl), some (.ref pl), none, none, none, none, none, none] ∧ Same H2 H' ∧ H2 pl = none ∧ H' pl = some (.lst l5) ∧ Pds H' pts l5 ∧ ((∃ nm, de = .set nm pts) ∨ (pts = [] ∧ ∃ nm p, de = .look nm p)), ?_, ?_⟩
    · rcases hd2 with ⟨nm, ps, rfl⟩ | ⟨nm, p, rfl⟩
      · obtain ⟨b, ys, hdd, hb, hys⟩ := deed_set hde
        refine ⟨_, rfl, _, _, _, _, rfl, rfl, SqT.of hdd, atI_nat rfl, rfl, _, rfl, iteTc (by decide +kernel) ⟨_, rfl, _, _, _, _, rfl, rfl, SqT.of hdd, atI_nat rfl, _, _, rfl, .inl (SqL.of hb), fun pl hpl => ?_⟩⟩
        exact ⟨pl, ys, ps, rfl, same_new hpl, hpl, upd_same, hys.same (same_new hpl), .inl ⟨nm, rfl⟩⟩
      · refine ⟨_, rfl, _, _, _, _, rfl, rfl, SqT.of (deed_look hde), atI_nat rfl, rfl, _, rfl, iteFc (by decide +kernel) ⟨by show 0 ≤ sizeLine; decide, fun pl hpl => ?_⟩⟩
        exact ⟨pl, [], [], rfl, same_new hpl, hpl, upd_same, .nil, .inr ⟨rfl, nm, p, rfl⟩⟩
    rintro σ3 H3 ⟨pl, l5, pts, rfl, s3, npl, hpl, hpts, hd3⟩
    -- look
    refine ⟨fun σ' H' => ∃ l6 pts nm srt a b more kd, σ' = [some (.ref st), some (.int l), some (.ref dd), some (.int mo), some (.ref rl), some (.ref pl), a, b, none, none, none, none] ∧ Same H2 H' ∧ H' pl = some (.lst l6) ∧ Pds H' pts l6 ∧ Srt pts srt ∧ pts.length ≤ 600000 ∧ H2 dd = some (.tup (.str kd :: .str nm :: more)) ∧ afterR l mo rows de = (mo, putR rows nm (lastN l srt)), ?_, ?_⟩
    · rcases hd3 with ⟨nm, rfl⟩ | ⟨rfl, nm, p, rfl⟩
      · obtain ⟨b, ys, hdd, hb, hys⟩ := deed_set hde
        refine ⟨_, rfl, _, _, _, _, rfl, rfl, SqT.of (s3 _ _ hdd), atI_nat rfl, rfl, _, rfl, iteFc (by decide +kernel) ?_⟩
        obtain ⟨h1, h2⟩ : RiseP pts ∧ pts.length ≤ 5000 := hdo
        exact ⟨l5, pts, nm, pts, _, _, _, _, rfl, s3, hpl, hpts, srt_set h1, by omega, hdd, rfl⟩
      · have hdd := deed_look hde
        refine ⟨_, rfl, _, _, _, _, rfl, rfl, SqT.of (s3 _ _ hdd), atI_nat rfl, rfl, _, rfl, iteTc (by decide +kernel) ⟨_, rfl, _, rfl, ⟨_, SqL.of (s3 _ _ hrl)⟩, ?_⟩⟩
        refine for_it (walk_list (K := K) (xs := rs)) (fun i σ H' => Same H2 H' ∧ ∃ a b l6, σ = [some (.ref st), some (.int l), some (.ref dd), some (.int mo), some (.ref rl), some (.ref pl), a, b, none, none, none, none] ∧ H' pl = some (.lst l6) ∧ Pds H' (oldP (rows.take i) nm p.1) l6) ⟨s3, _, _, _, rfl, hpl, hpts⟩ (fun i σ H' _ h => SqL.of (h.1 _ _ hrl)) ?_ ?_
        · rintro i x σ H4 H5 hi ⟨s4, a, b, l6, rfl, hl6, hp6⟩ ⟨rfl, hxi⟩
          obtain ⟨r, hr1, t, ol, ys, rfl, k1, k2, k3, k4⟩ := paired_at _ hrs hxi
          refine ⟨_, _, rfl, SqT.of (s4 _ _ k1), rfl, _, _, rfl, _, _, rfl, rfl, _, rfl, .inl ⟨rfl, _, SqL.of hl6⟩, _, rfl, _, rfl, ⟨_, SqL.of (s4 _ _ k2)⟩, fun D hD => ?_⟩
          refine lc_rel (walk_list (K := K) (xs := ys)) aStore (keepB (fun z : Pt => decide (r.1 = nm) && decide (z.1 ≠ p.1)) r.2) (fun j v H => ∃ z, r.2[j]? = some z ∧ IsPd H z v) ?_ hD ?_ (fun H s => SqL.of (s _ _ (s4 _ _ k2))) ?_ ?_
          · have := line1m
            have := k4.length
            have := (hro.ok r (List.mem_of_getElem? hr1)).2.1
            omega
          · rintro j v H H' kp ⟨z, h1, h2⟩
            exact ⟨z, h1, h2.kp kp⟩
          · rintro j x H6 H7 Pk PN hj s6 ⟨rfl, h1⟩ hk hn
            obtain ⟨z, hz1, tz, rfl, hz2⟩ := paired_at _ k4 h1
            have s46 := s4.trans s6
            rw [keepB_eq hz1] at hk hn
            refine ⟨rfl, _, rfl, _, rfl, _, _, _, _, rfl, rfl, SqT.of (s46 _ _ hdd), atI_nat rfl, rfl, _, rfl, ?_⟩
            by_cases c : r.1 = nm
            · refine iteTc (str_eq c) ⟨_, rfl, _, _, _, _, rfl, rfl, SqT.of (s46 _ _ hz2), atI_nat rfl, _, rfl, _, _, _, _, rfl, rfl, SqT.of (s46 _ _ hdd), atI_nat rfl, rfl, _, rfl, ?_⟩
              by_cases c2 : z.1 = p.1
              · exact iteFc (by rw [c2]; simp) (hn (by simp [c2]) _ (Same.refl _))
              · refine iteTc (by simp [c2]) ⟨_, rfl, hk (by simp [c, c2]) _ _ (Same.refl _) ⟨z, hz1, tz, rfl, s46 _ _ hz2⟩⟩
            · exact iteFc (str_ne c) (hn (by simp [c]) _ (Same.refl _))
          · intro H6 l7 s6 hl7 pr
            have hp7 : Pds H6 (if r.1 = nm then r.2.filter (fun q => decide (q.1 ≠ p.1)) else []) l7 := by
              rw [k4.length.symm] at pr
              have := paired_filter (fun i z e => keepB_eq e) pr
              rw [filter_and] at this
              by_cases c : r.1 = nm
              · rw [if_pos (decide_eq_true c)] at this
                rw [if_pos c]
                exact this
              · rw [if_neg (by rw [decide_eq_false c]; decide)] at this
                rw [if_neg c]
                exact this
            have hl6b := s6 _ _ hl6
            have hz6 := hp6.length
            have hz7 := hp7.length
            have b6 := old_len (nm := nm) (m := p.1) hro i hl2
            have b7 : (if r.1 = nm then r.2.filter (fun q => decide (q.1 ≠ p.1)) else []).length ≤ 5000 := by
              have := (hro.ok r (List.mem_of_getElem? hr1)).2.1
              split
              · have := List.length_filter_le (fun q : Pt => decide (q.1 ≠ p.1)) r.2
                omega
              · exact Nat.zero_le _
            have b8 : (rows.take i).length ≤ 100 := by
              rw [List.length_take]
              omega
            have := line1m
            refine ⟨_, _, _, _, rfl, rfl, hl6b, hl7, by omega, Same.at_ npl (s4.trans s6), _, _, _, rfl, upd_same, ?_⟩
            rw [old_snoc hr1]
            have kp : Kp aStore H6 (upd H6 pl (.lst (l6 ++ l7))) := .upd hl6b (fun z => z)
            exact paired_append ((hp6.same s6).kp kp) (hp7.kp kp)
        · rintro σ H4 ⟨s4, a, b, l6, rfl, hl6, hp6⟩
          have hlen : rs.length = rows.length := hrs.length.symm
          rw [hlen, List.take_length] at hp6
          refine ⟨_, rfl, .inl ⟨rfl, _, SqL.of hl6⟩, _, rfl, _, _, _, _, rfl, rfl, SqT.of (s4 _ _ hdd), atI_nat rfl, _, rfl, _, _, _, _, rfl, rfl, SqT.of (s4 _ _ hdd), atI_nat rfl, by show 2 ≤ sizeLine; decide, fun t ht => ?_⟩
          have b6 := old_len (nm := nm) (m := p.1) hro rows.length hl2
          rw [List.take_length] at b6
          have := line1m
          have hz6 := hp6.length
          refine ⟨_, _, _, rfl, rfl, same_new ht _ _ hl6, by omega, ?_⟩
          have kp : Kp aStore H4 (upd (upd H4 t (.tup [.int p.1, .str (showQ p.2.1 p.2.2)])) pl (.lst (l6 ++ [.ref t]))) := (Kp.of (same_new ht)).trans (.upd (same_new ht _ _ hl6) (fun z => z))
          have nt : t ≠ pl := (ne_of_none hl6 ht).symm
          refine ⟨_, oldP rows nm p.1 ++ [p], nm, _, _, _, _, _, rfl, Same.at_ npl (s4.trans (same_new ht)), upd_same, (hp6.kp kp).snoc ⟨t, rfl, ?_⟩, srt_look hro nm p, ?_, hdd, rfl⟩
          · rw [upd_ne nt]
            exact upd_same
          · rw [List.length_append]
            show _ + 1 ≤ _
            omega
    rintro σ4 H4 ⟨l6, pts4, nm, srt, a4, b4, more, kd, rfl, s4, hl6, hp6, hsrt, hz4, hdd, eaft⟩
    rw [eaft] at q
    obtain ⟨snd, sord⟩ := hsrt
    have := line1m
    have hlz := hp6.length
    -- kept = []
    refine ⟨by show 0 ≤ sizeLine; decide, fun kl hkl => ?_⟩
    have s5 := s4.trans (same_new (o := .lst []) hkl)
    have nklp : kl ≠ pl := (ne_of_none hl6 hkl).symm
    have hl5 := same_new (o := .lst []) hkl _ _ hl6
    have hp5 := hp6.same (same_new (o := .lst []) hkl)
    have nkl : H2 kl = none := s4.free hkl
    generalize hH5 : upd H4 kl (.lst []) = H5 at s5 hl5 hp5
    have hk5 : H5 kl = some (.lst []) := by rw [← hH5]; exact upd_same
    refine ⟨fun σ' H' => ∃ kk a b c, σ' = [some (.ref st), some (.int l), some (.ref dd), some (.int mo), some (.ref rl), some (.ref pl), a, b, some (.ref kl), c, none, none] ∧ Same H2 H' ∧ H' kl = some (.lst kk) ∧ Pds H' srt kk, ?_, ?_⟩
    · refine ⟨_, rfl, _, rfl, ⟨_, SqL.of hl5⟩, fun D hD => ?_⟩
      refine lc_all (walk_list (K := K) (xs := l6)) aStore (fun i v _ => ∃ z, pts4[i]? = some z ∧ v = .int z.1) (by omega) hD (fun _ _ _ _ _ h => h) (fun H s => SqL.of (s _ _ hl5)) ?_ mono_name ?_
      · rintro j x H6 H7 Pk hj s6 ⟨rfl, h1⟩ hk
        obtain ⟨z, hz1, tz, rfl, hz2⟩ := paired_at _ hp5 h1
        exact ⟨rfl, _, rfl, _, _, _, _, rfl, rfl, SqT.of (s6 _ _ hz2), atI_nat rfl, .inl ⟨_, rfl, hk _ _ (Same.refl _) ⟨z, hz1, rfl⟩⟩⟩
      intro H6 lm s6 hlm prm
      have elm : lm = (moms pts4).map V.int := paired_moms (paired_of (by rw [hlz]; exact prm))
      subst elm
      refine ⟨D, moms pts4, rfl, SqL.of hlm, fun ns p perm so hp => ⟨p, rfl, ⟨_, SqL.of upd_same⟩, ?_⟩⟩
      have es := sord ns perm so
      have s7 := s6.trans (same_new (o := .lst (ns.map V.int)) hp)
      generalize hH7 : upd H6 p (.lst (ns.map V.int)) = H7 at s7
      have hp7 : H7 p = some (.lst (ns.map V.int)) := by rw [← hH7]; exact upd_same
      have hk7 := s7 _ _ hk5
      have hl7 := s7 _ _ hl5
      have hpt7 := hp5.same s7
      have npk : p ≠ kl := (ne_of_none (s6 _ _ hk5) hp).symm
      have hnl : (ns.map V.int).length = pts4.length := by
        rw [List.length_map, perm.length_eq]
        unfold moms
        rw [List.length_map]
      refine for_it (walk_list (K := K) (xs := ns.map V.int)) (fun i σ H' => SameB kl H7 H' ∧ Same H2 H' ∧ ∃ kk c, σ = [some (.ref st), some (.int l), some (.ref dd), some (.int mo), some (.ref rl), some (.ref pl), a4, b4, some (.ref kl), c, none, none] ∧ H' kl = some (.lst kk) ∧ Pds H' (srt.take i) kk) ⟨SameB.refl _ _, s5.trans s7, [], _, rfl, hk7, .nil⟩ (fun i σ H' _ h => SqL.of (h.1 _ _ npk hp7)) ?_ ?_
      · rintro i x σ H8 H9 hi ⟨sb8, s28, kk, c, rfl, hk8, hpk8⟩ ⟨rfl, hxi⟩
        obtain ⟨m, hm, rfl⟩ := get_map hxi
        have hmem : m ∈ moms pts4 := perm.mem_iff.mp (List.mem_of_getElem? hm)
        have hl8 := sb8 _ _ nklp.symm hl7
        have hpt8 := hpt7.kp (S := aStore) (sb8.kp hk7 (fun z => z))
        refine ⟨_, rfl, .inl ⟨rfl, _, SqL.of hk8⟩, _, rfl, _, rfl, ⟨_, SqL.of hl8⟩, fun D hD => ?_⟩
        refine lc_rel (walk_list (K := K) (xs := l6)) aStore (keepB (fun z : Pt => decide (z.1 = m)) pts4) (fun j v H => ∃ z, pts4[j]? = some z ∧ IsPd H z v) (by omega) hD ?_ (fun H s => SqL.of (s _ _ hl8)) ?_ ?_
        · rintro j v H H' kp ⟨z, h1, h2⟩
          exact ⟨z, h1, h2.kp kp⟩
        · rintro j x H6 H7 Pk PN hj s6 ⟨rfl, h1⟩ hk hn
          obtain ⟨z, hz1, tz, rfl, hz2⟩ := paired_at _ hpt8 h1
          rw [keepB_eq hz1] at hk hn
          refine ⟨rfl, _, rfl, _, _, _, _, rfl, rfl, SqT.of (s6 _ _ hz2), atI_nat rfl, _, rfl, rfl, _, rfl, ?_⟩
          by_cases c2 : z.1 = m
          · exact iteTc (by rw [c2]; simp) ⟨_, rfl, hk (decide_eq_true c2) _ _ (Same.refl _) ⟨z, hz1, tz, rfl, s6 _ _ hz2⟩⟩
          · exact iteFc (by simp [c2]) (hn (decide_eq_false c2) _ (Same.refl _))
        · intro H10 l10 s10 hl10 pr
          rw [hlz.symm] at pr
          have pr2 := paired_filter (fun i z e => keepB_eq e) pr
          rw [filter_ptOf snd hmem] at pr2
          have hk10 := s10 _ _ hk8
          have z1 := hpk8.length
          have z2 := pr2.length
          have z3 : (srt.take i).length ≤ i := by rw [List.length_take]; omega
          rw [List.length_singleton] at z2
          have kp : Kp aStore H10 (upd H10 kl (.lst (kk ++ l10))) := .upd hk10 (fun z => z)
          refine ⟨_, _, _, _, rfl, rfl, hk10, hl10, by omega, (sb8.trans (SameB.of s10)).trans .upd, Same.at_ nkl (s28.trans s10), _, _, rfl, upd_same, ?_⟩
          have e : srt.take (i + 1) = srt.take i ++ [ptOf pts4 m] := by
            rw [List.take_succ, ← es, List.getElem?_map, hm]
            rfl
          rw [e]
          exact paired_append ((hpk8.same s10).kp kp) (Pds.kp pr2 kp)
      · rintro σ H8 ⟨sb8, s28, kk, c, rfl, hk8, hpk8⟩
        refine ⟨kk, _, _, _, rfl, s28, hk8, ?_⟩
        have : srt.length ≤ (ns.map V.int).length := by rw [← es, List.length_map, List.length_map]; exact Nat.le_refl _
        rw [List.take_of_length_le this] at hpk8
        exact hpk8
    rintro σ5 H5 ⟨kk, a, b, c, rfl, s5, hk5, hpk5⟩
    have hkz : kk.length = srt.length := hpk5.length.symm
    -- kept cut
    refine ⟨fun σ' H' => ∃ k2, σ' = [some (.ref st), some (.int l), some (.ref dd), some (.int mo), some (.ref rl), some (.ref pl), a, b, some (.ref k2), c, none, none] ∧ Same H2 H' ∧ H2 k2 = none ∧ H' k2 = some (.lst (kk.drop (kk.length - l))) ∧ Pds H' (lastN l srt) (kk.drop (kk.length - l)), ?_, ?_⟩
    · refine ⟨_, rfl, _, rfl, _, _, rfl, .inl (SqL.of hk5), _, rfl, _, _, rfl, rfl, _, _, rfl, _, rfl, ?_⟩
      unfold tNoPart
      refine ⟨_, _, rfl, SqL.of hk5, fun k2 hk2 => ⟨k2, rfl, s5.trans (same_new hk2), s5.free hk2, ?_, ?_⟩⟩
      · rw [upd_same, cut_max rfl]
      · have := Paired.drop (kk.length - l) (hpk5.same (same_new (o := .lst (cutV kk (some (if (kk.length : Int) - (l : Int) > 0 then (kk.length : Int) - (l : Int) else 0)) none)) hk2))
        unfold lastN
        rw [← hkz]
        exact this
    rintro σ6 H6 ⟨k2, rfl, s6, nk2, hk6, hpk6⟩
    have hrl6 := s6 _ _ hrl
    have hrs6 : Paired (fun r v => IsRd H6 N r v) rows rs := hrs.mono fun _ _ h => h.same s6
    have hlen : rs.length = rows.length := hrs.length.symm
    refine ⟨_, rfl, _, _, _, _, rfl, rfl, SqT.of (s6 _ _ hdd), atI_nat rfl, _, rfl, _, rfl, ⟨_, SqL.of hrl6⟩, fun D hD => ?_⟩
    refine lc_all (walk_list (K := K) (xs := rs)) aStore (fun i v _ => ∃ r, rows[i]? = some r ∧ v = .str r.1) (by omega) hD (fun _ _ _ _ _ h => h) (fun H s => SqL.of (s _ _ hrl6)) ?_ mono_pair ?_
    · rintro j x H7 H8 Pk hj s7 ⟨rfl, h1⟩ hk
      obtain ⟨r, hr1, t, ol, ys, rfl, k1, k2, k3, k4⟩ := paired_at _ hrs6 h1
      exact ⟨_, _, rfl, SqT.of (s7 _ _ k1), rfl, _, _, rfl, _, _, rfl, rfl, rfl, _, rfl, hk _ _ (Same.refl _) ⟨r, hr1, rfl⟩⟩
    intro H7 l7 s7 hl7 pr7
    have e7 : l7 = rows.map fun r => V.str r.1 := paired_strs (paired_of (by rw [hlen] at pr7; exact pr7))
    subst e7
    refine ⟨D, _, rfl, .inl (SqL.of hl7), rfl, all_flat, _, rfl, ?_⟩
    show if (inV (.str nm) (rows.map fun r => V.str r.1)) = true then _ else _
    rw [inV_str]
    have s67 := s6.trans s7
    have hrs7 : Paired (fun r v => IsRd H7 N r v) rows rs := hrs.mono fun _ _ h => h.same s67
    have hk7 := s7 _ _ hk6
    have hpk7 := hpk6.same s7
    cases ea : (rows.any fun r => decide (r.1 = nm)) with
    | true =>
      have epu : putR rows nm (lastN l srt) = rows.map (fun r => if r.1 = nm then (r.1, lastN l srt) else r) := by
        unfold putR
        rw [if_pos ea]
      rw [epu] at q
      refine iteT ⟨_, rfl, _, rfl, _, rfl, ⟨_, SqL.of (s67 _ _ hrl)⟩, fun D2 hD2 => ?_⟩
      refine lc_allD (walk_list (K := K) (xs := rs)) (fun i v H => ∃ r, rows[i]? = some r ∧ IsRd H (fun b => N b ∧ b ≠ D2) (if r.1 = nm then (r.1, lastN l srt) else r) v) (by omega) hD2 ?_ (fun H s => SqL.of (s _ _ (s67 _ _ hrl))) ?_ mono_pair ?_
      · rintro i v H H' ls hl sb ⟨r, h1, h2⟩
        exact ⟨r, h1, h2.sb hl sb fun b nb => nb.2⟩
      · rintro j x H8 H9 Pk hj s8 _ ⟨rfl, h1⟩ hk
        obtain ⟨r, hr1, t, ol, ys, rfl, k1, k2', k3, k4⟩ := paired_at _ hrs7 h1
        refine ⟨_, _, rfl, SqT.of (s8 _ _ k1), rfl, _, _, rfl, _, _, rfl, rfl, rfl, _, rfl, _, rfl, _, rfl, _, _, _, _, rfl, rfl, SqT.of (s67.trans s8 _ _ hdd), atI_nat rfl, rfl, _, rfl, ?_⟩
        by_cases c : r.1 = nm
        · refine iteTc (str_eq c) ⟨_, rfl, by show 2 ≤ sizeLine; decide, fun t2 ht2 => hk _ _ (same_new ht2) ⟨r, hr1, ?_⟩⟩
          rw [if_pos c]
          exact ⟨t2, k2, _, rfl, upd_same, same_new ht2 _ _ (s8 _ _ hk7), ⟨hN _ nk2, ne_of_none hk7 hD2⟩, (hpk7.same s8).same (same_new ht2)⟩
        · refine iteFc (str_ne c) ⟨_, rfl, by show 2 ≤ sizeLine; decide, fun t2 ht2 => hk _ _ (same_new ht2) ⟨r, hr1, ?_⟩⟩
          rw [if_neg c]
          exact ⟨t2, ol, ys, rfl, upd_same, same_new ht2 _ _ (s8 _ _ k2'), ⟨k3, ne_of_none k2' hD2⟩, (k4.same s8).same (same_new ht2)⟩
      · intro H8 l8 s8 hl8 pr8
        have pr9 : Paired (fun r v => IsRd H8 (fun b => N b ∧ b ≠ D2) (if r.1 = nm then (r.1, lastN l srt) else r) v) rows l8 := paired_of (by rw [hlen] at pr8; exact pr8)
        refine ⟨by show 2 ≤ sizeLine; decide, fun t ht => q _ t ((s67.trans s8).trans (same_new ht)) (shown_mk upd_same (same_new ht _ _ hl8) (hN D2 (s67.free hD2)) ?_)⟩
        exact paired_mapl (pr9.mono fun _ _ h => (h.same (same_new ht)).imp fun _ z => z.1)
    | false =>
      have epu : putR rows nm (lastN l srt) = rows ++ [(nm, lastN l srt)] := by
        unfold putR
        rw [if_neg (by rw [ea]; decide)]
      rw [epu] at q
      refine iteF ⟨_, rfl, _, rfl, _, rfl, _, _, _, _, rfl, rfl, SqT.of (s67 _ _ hdd), atI_nat rfl, _, rfl, by show 2 ≤ sizeLine; decide, fun t ht => ⟨by show 1 ≤ sizeLine; decide, fun D2 hD2 => ?_⟩⟩
      have s9 := (same_new (o := .tup [.str nm, .ref k2]) ht).trans (same_new (o := .lst [.ref t]) hD2)
      have hr9 := s9 _ _ (s67 _ _ hrl)
      refine ⟨_, _, _, _, rfl, rfl, hr9, upd_same, by show rs.length + 1 ≤ sizeLine; omega, fun D3 hD3 => ⟨by show 2 ≤ sizeLine; decide, fun t3 ht3 => ?_⟩⟩
      have s10 := (s9.trans (same_new (o := .lst (rs ++ [.ref t])) hD3)).trans (same_new (o := .tup [.int mo, .ref D3]) ht3)
      refine q _ t3 (s67.trans s10) (shown_mk upd_same (same_new ht3 _ _ upd_same) (hN D3 (s67.free (s9.free hD3))) ?_)
      refine paired_append (hrs7.mono fun _ _ h => h.same s10) (.cons ⟨t, k2, _, rfl, ?_, s10 _ _ hk7, hN _ nk2, hpk7.same s10⟩ .nil)
      exact same_new ht3 _ _ (same_new hD3 _ _ (same_new hD2 _ _ upd_same))
end G
set_option Elab.async false
set_option linter.all false
set_option maxRecDepth 100000
set_option maxHeartbeats 4000000
namespace G
open PySem PySem.Spec PyProof.Rows L2
/-! ### how long what is shown is at most -/
/-- data of a depth and a bulk, its ints of at most 41 signs -/
structure Fit (d : PyData) (dep blk : Nat) : Prop where
  s : d.showable = true
  n : d.hasDict = false
  l : d.leavesShort 41 = true
  dp : d.depth ≤ dep
  b : d.bulk ≤ blk
theorem Fit.le {d : PyData} {a b a2 b2 : Nat} (h : Fit d a b) (h1 : a ≤ a2) (h2 : b ≤ b2) : Fit d a2 b2 := ⟨h.s, h.n, h.l, Nat.le_trans h.dp h1, Nat.le_trans h.b h2⟩
theorem Fit.shown {d : PyData} {a b : Nat} (h : Fit d a b) (hb : 43 * b + 41 ≤ sizeLine) : d.shown.length ≤ sizeLine := by
  have h1 := PyData.shown_le_bulk 41 (by decide) d h.l
  have h2 : (41 + 2) * d.bulk ≤ 43 * b := Nat.mul_le_mul_left _ h.b
  omega
theorem log_of40 {i : Int} (h : i.natAbs < 10 ^ 40) : i.natAbs.log2 < 1920 := by
  have : (10 : Nat) ^ 40 < 2 ^ 1900 := by decide +kernel
  exact log_of (Nat.lt_trans h this)
theorem len_of40 {i : Int} (h : i.natAbs < 10 ^ 40) : (Str.ofString (toString i)).length ≤ 41 := by
  rw [PySem.ofString_length]
  exact PySem.int_text_length_le10 (k := 40) (by decide) h
theorem Fit.int {i : Int} (h : i.natAbs < 10 ^ 40) : Fit (.int i) 1 0 where
  s := by simp only [PyData.showable]; exact decide_eq_true (log_of40 h)
  n := by simp only [PyData.hasDict]
  l := by
    simp only [PyData.leavesShort]
    exact decide_eq_true (len_of40 h)
  dp := by simp [PyData.depth]
  b := by simp only [PyData.bulk]; exact Nat.le_refl _
theorem Fit.str {x : Str} {k : Nat} (h : ∀ c ∈ x.cps.toList, c < 16 ^ 8) (hk : x.length ≤ k) : Fit (.str x) 1 k where
  s := by simp only [PyData.showable]
  n := by simp only [PyData.hasDict]
  l := by
    simp only [PyData.leavesShort]
    exact List.all_eq_true.mpr fun c hc => decide_eq_true (h c hc)
  dp := by simp [PyData.depth]
  b := by simp only [PyData.bulk]; exact hk
structure Fits (ds : List PyData) (dep blk : Nat) : Prop where
  s : PyData.showableAll ds = true
  n : PyData.hasDictAll ds = false
  l : PyData.leavesShortAll 41 ds = true
  dp : PyData.depthAll ds ≤ dep
  b : PyData.bulkAll ds ≤ blk
theorem Fits.nil {dep : Nat} : Fits [] dep 0 := ⟨by simp only [PyData.showableAll], by simp only [PyData.hasDictAll], by simp only [PyData.leavesShortAll], by simp [PyData.depthAll], by simp [PyData.bulkAll]⟩
theorem Fits.cons {d : PyData} {ds : List PyData} {dep a b : Nat} (h : Fit d dep a) (r : Fits ds dep b) : Fits (d :: ds) dep (a + 1 + b) where
  s := by simp only [PyData.showableAll, h.s, r.s, Bool.and_self]
  n := by simp only [PyData.hasDictAll, h.n, r.n, Bool.or_self]
  l := by simp only [PyData.leavesShortAll, h.l, r.l, Bool.and_self]
  dp := by
    have h1 := h.dp
    have h2 := r.dp
    simp only [PyData.depthAll]
    omega
  b := by
    have h1 := h.b
    have h2 := r.b
    simp only [PyData.bulkAll]
    omega
theorem Fits.map {α : Type} {f : α → PyData} {dep b : Nat} : ∀ {ps : List α}, (∀ p ∈ ps, Fit (f p) dep b) → Fits (ps.map f) dep ((b + 1) * ps.length) := by
  intro ps
  induction ps with
  | nil => intro _; exact Fits.nil
  | cons a t ih =>
    intro h
    have h1 := Fits.cons (h a List.mem_cons_self) (ih fun p hp => h p (List.mem_cons_of_mem _ hp))
    refine ⟨h1.s, h1.n, h1.l, h1.dp, Nat.le_trans h1.b ?_⟩
    rw [List.length_cons, Nat.mul_add]
    omega
theorem Fits.le {ds : List PyData} {a b b2 : Nat} (h : Fits ds a b) (h2 : b ≤ b2) : Fits ds a b2 := ⟨h.s, h.n, h.l, h.dp, Nat.le_trans h.b h2⟩
theorem Fits.list {ds : List PyData} {dep b : Nat} (h : Fits ds dep b) : Fit (.list ds) (dep + 1) b where
  s := by simp only [PyData.showable]; exact h.s
  n := by simp only [PyData.hasDict]; exact h.n
  l := by simp only [PyData.leavesShort]; exact h.l
  dp := by
    have h1 := h.dp
    simp only [PyData.depth]
    omega
  b := by simp only [PyData.bulk]; exact h.b
theorem Fits.tup {ds : List PyData} {dep b : Nat} (h : Fits ds dep b) : Fit (.tuple ds) (dep + 1) b where
  s := by simp only [PyData.showable]; exact h.s
  n := by simp only [PyData.hasDict]; exact h.n
  l := by simp only [PyData.leavesShort]; exact h.l
  dp := by
    have h1 := h.dp
    simp only [PyData.depth]
    omega
  b := by simp only [PyData.bulk]; exact h.b
theorem cps_of {s : String} : ∀ c ∈ (Str.ofString s).cps.toList, c < 16 ^ 8 := by
  intro c hc
  have e : (Str.ofString s).cps.toList = s.toList.map Char.toNat := PyProof.Rows.signs_ofString s
  rw [e] at hc
  obtain ⟨d, _, rfl⟩ := List.mem_map.mp hc
  have := d.val.toNat_lt
  show d.val.toNat < _
  omega
theorem cps_app {x y : Str} (h1 : ∀ c ∈ x.cps.toList, c < 16 ^ 8) (h2 : ∀ c ∈ y.cps.toList, c < 16 ^ 8) : ∀ c ∈ (x ++ y).cps.toList, c < 16 ^ 8 := by
  intro c hc
  have e : (x ++ y).cps.toList = x.cps.toList ++ y.cps.toList := by
    show (x.cps ++ y.cps).toList = _
    exact Array.toList_append
  rw [e] at hc
  rcases List.mem_append.mp hc with z | z
  · exact h1 c z
  · exact h2 c z
theorem showQ_fit {n d : Int} (h1 : n.natAbs < 10 ^ 40) (h2 : d.natAbs < 10 ^ 40) : Fit (.str (showQ n d)) 1 83 := by
  have l1 := len_of40 h1
  have l2 := len_of40 h2
  have l3 : ("/" : Str).length = 1 := rfl
  unfold showQ
  split
  · refine Fit.str cps_of ?_
    exact Nat.le_trans l1 (by decide)
  · refine Fit.str (cps_app (cps_app cps_of cps_of) cps_of) ?_
    rw [PySem.Str.length_append, PySem.Str.length_append, l3]
    exact Nat.add_le_add (Nat.add_le_add l1 (Nat.le_refl 1)) l2
/-- points that are drawn -/
def PtB (p : Pt) : Prop := p.1.natAbs < 10 ^ 40 ∧ NumOk p.2.1 p.2.2
theorem PtB.ok {p : Pt} (h : PtB p) : OkPt p := by
  have : (10 : Nat) ^ 40 < 2 ^ 1900 := by decide +kernel
  exact ⟨h.2.1, Nat.lt_trans h.2.2.1 this, Nat.lt_trans h.2.2.2.2.1 this⟩
theorem ptD_fit {p : Pt} (h : PtB p) : Fit (ptD p) 2 85 := ((Fits.cons (Fit.int h.1) (Fits.cons (showQ_fit h.2.2.1 h.2.2.2.2.1) Fits.nil)).le (by decide)).tup
theorem name_fit {nm : Str} (h : NameOk nm) : Fit (.str nm) 1 8 := by
  refine Fit.str (fun c hc => ?_) h.2.1
  have h1 := h.2.2 c hc
  have h2 : ∀ c ∈ (("abcdefghijklmnopqrstuvwxyz" : Str)).cps.toList, c < 16 ^ 8 := cps_of
  exact h2 c h1
structure RowsB (n : Nat) (rows : List Row) : Prop where
  len : rows.length ≤ n
  row : ∀ r ∈ rows, NameOk r.1 ∧ r.2.length ≤ n ∧ ∀ p ∈ r.2, PtB p
theorem rowD_fit {n : Nat} {r : Row} (h1 : NameOk r.1) (h2 : r.2.length ≤ n) (h3 : ∀ p ∈ r.2, PtB p) : Fit (rowD r) 4 (86 * n + 10) := by
  have f := (Fits.map (f := ptD) fun p hp => ptD_fit (h3 p hp)).list
  have g : (85 + 1) * r.2.length ≤ 86 * n := Nat.mul_le_mul_left _ h2
  exact ((Fits.cons ((name_fit h1).le (by decide) (Nat.le_refl _)) (Fits.cons (f.le (Nat.le_refl _) g) Fits.nil)).le (by omega)).tup
theorem shownD_fit {mo : Int} {n : Nat} {rows : List Row} (hm : mo.natAbs < 10 ^ 40) (h : RowsB n rows) : Fit (shownD mo rows) 6 ((86 * n + 11) * n + 2) := by
  have f := (Fits.map (f := rowD) (ps := rows) fun r hr => rowD_fit (h.row r hr).1 (h.row r hr).2.1 (h.row r hr).2.2).list
  have g : (86 * n + 10 + 1) * rows.length ≤ (86 * n + 11) * n := Nat.mul_le_mul_left _ h.len
  exact ((Fits.cons ((Fit.int hm).le (by decide) (Nat.le_refl _)) (Fits.cons (f.le (Nat.le_refl _) g) Fits.nil)).le (by omega)).tup
/-! ### what a look leaves -/
theorem mem_putR {rows : List Row} {nm : Str} {pts : List Pt} {r : Row} (h : r ∈ putR rows nm pts) : r ∈ rows ∨ r = (nm, pts) := by
  unfold putR at h
  split at h
  · obtain ⟨x, hx, e⟩ := List.mem_map.mp h
    split at e
    · rename_i c
      rw [← c]
      exact .inr e.symm
    · rw [← e]
      exact .inl hx
  · rcases List.mem_append.mp h with z | z
    · exact .inl z
    · exact .inr (List.mem_singleton.mp z)
theorem putR_len (rows : List Row) (nm : Str) (pts : List Pt) : (putR rows nm pts).length ≤ rows.length + 1 := by
  unfold putR
  split
  · rw [List.length_map]
    omega
  · rw [List.length_append]
    exact Nat.le_refl _
theorem putR_nd {rows : List Row} {nm : Str} {pts : List Pt} (h : (rows.map (·.1)).Nodup) : ((putR rows nm pts).map (·.1)).Nodup := by
  unfold putR
  split
  · rw [List.map_map]
    have : ((fun x : Row => x.1) ∘ fun r : Row => if r.1 = nm then (r.1, pts) else r) = fun x : Row => x.1 := by
      funext r
      show (if r.1 = nm then (r.1, pts) else r).1 = r.1
      split <;> rfl
    rw [this]
    exact h
  · rename_i c
    rw [List.map_append, List.nodup_append]
    refine ⟨h, by simp, fun a ha b hb => ?_⟩
    obtain ⟨r, hr, rfl⟩ := List.mem_map.mp ha
    have : b = nm := List.mem_singleton.mp hb
    rw [this]
    intro z
    exact c (List.any_eq_true.mpr ⟨r, hr, decide_eq_true z⟩)
theorem insP_len (ps : List Pt) (p : Pt) : (insP ps p).length ≤ ps.length + 1 := by
  induction ps with
  | nil => exact Nat.le_refl _
  | cons a t ih =>
    unfold insP
    split
    · rw [List.length_cons, List.length_cons]
      omega
    · split
      · rw [List.length_cons, List.length_cons]
        omega
      · exact Nat.le_refl _
theorem lastN_mem {l : Nat} {ps : List Pt} {p : Pt} (h : p ∈ lastN l ps) : p ∈ ps := List.mem_of_mem_drop h
theorem lastN_len (l : Nat) (ps : List Pt) : (lastN l ps).length ≤ l ∧ (lastN l ps).length ≤ ps.length := by
  unfold lastN
  rw [List.length_drop]
  omega
theorem lastN_rise {l : Nat} {ps : List Pt} (h : RiseP ps) : RiseP (lastN l ps) := h.drop
theorem RowsOk.put {l : Nat} {rows : List Row} {nm : Str} {pts : List Pt} (h : RowsOk l rows) (h1 : RiseP pts) (h2 : pts.length ≤ l) (h3 : ∀ p ∈ pts, OkPt p) : RowsOk l (putR rows nm pts) :=
  ⟨putR_nd h.nd, fun r hr => (mem_putR hr).elim (h.ok r) fun e => by rw [e]; exact ⟨h1, h2, h3⟩⟩
theorem RowsB.put {n : Nat} {rows : List Row} {nm : Str} {pts : List Pt} (h : RowsB n rows) (hn : NameOk nm) (h2 : pts.length ≤ n + 1) (h3 : ∀ p ∈ pts, PtB p) : RowsB (n + 1) (putR rows nm pts) :=
  ⟨Nat.le_trans (putR_len _ _ _) (Nat.succ_le_succ h.len), fun r hr => (mem_putR hr).elim (fun m => ⟨(h.row r m).1, Nat.le_succ_of_le (h.row r m).2.1, (h.row r m).2.2⟩) fun e => by rw [e]; exact ⟨hn, h2, h3⟩⟩
theorem lookup_b {n : Nat} {rows : List Row} (h : RowsB n rows) (nm : Str) : ((rows.lookup nm).getD []).length ≤ n ∧ ∀ p ∈ (rows.lookup nm).getD [], PtB p := by
  cases e : rows.lookup nm with
  | none => exact ⟨Nat.zero_le _, fun p hp => nomatch hp⟩
  | some pts => exact (h.row _ (lookup_mem e)).2
theorem look_ok {l n : Nat} {rows : List Row} {nm : Str} {p : Pt} (h : RowsOk l rows) (hb : RowsB n rows) (hn : NameOk nm) (hp : PtB p) : RowsOk l (lookR l rows nm p) ∧ RowsB (n + 1) (lookR l rows nm p) := by
  obtain ⟨a1, a2, a3⟩ := lookup_ok h nm
  obtain ⟨b1, b2⟩ := lookup_b hb nm
  have hl := lastN_len l (insP ((rows.lookup nm).getD []) p)
  have hi := insP_len ((rows.lookup nm).getD []) p
  refine ⟨h.put (lastN_rise (insP_rise a1)) hl.1 fun x hx => ?_, hb.put hn (by omega) fun x hx => ?_⟩
  · rcases mem_insP (lastN_mem hx) with e | e
    · rw [e]
      exact hp.ok
    · exact a3 x e
  · rcases mem_insP (lastN_mem hx) with e | e
    · rw [e]
      exact hp
    · exact b2 x e
theorem lookup_putR {rows : List Row} {nm : Str} {pts : List Pt} : (putR rows nm pts).lookup nm = some pts := by
  unfold putR
  split
  · rename_i h
    induction rows with
    | nil => cases h
    | cons a t ih =>
      rw [List.map_cons]
      by_cases c : a.1 = nm
      · rw [if_pos c, c]
        show (match nm == nm with | true => some pts | false => _) = _
        rw [beq_self_eq_true]
      · rw [if_neg c]
        show (match nm == a.1 with | true => some a.2 | false => _) = _
        rw [show (nm == a.1) = false from beq_eq_false_iff_ne.mpr fun z => c z.symm]
        refine ih ?_
        rw [List.any_cons, decide_eq_false c] at h
        exact h
  · rename_i h
    induction rows with
    | nil =>
      show (match nm == nm with | true => some pts | false => _) = _
      rw [beq_self_eq_true]
    | cons a t ih =>
      by_cases c : a.1 = nm
      · exact absurd (by rw [List.any_cons, decide_eq_true c]; rfl) h
      · show (match nm == a.1 with | true => some a.2 | false => _) = _
        rw [show (nm == a.1) = false from beq_eq_false_iff_ne.mpr fun z => c z.symm]
        refine ih ?_
        rw [List.any_cons, decide_eq_false c] at h
        exact h
end G
set_option Elab.async false
set_option linter.all false
set_option maxRecDepth 100000
set_option maxHeartbeats 4000000
namespace G
open PySem PySem.Spec PyProof.Rows L2
/-! ### texts of numbers and points -/
abbrev tI (i : Int) : Str := Str.ofString (toString i)
/-- the signs of an int -/
def numI (i : Int) : List Nat := if i < 0 then 45 :: TL.numL i.natAbs else TL.numL i.natAbs
theorem tl_int (i : Int) : TL.tl (tI i) = numI i := by
  cases i with
  | ofNat m => exact TL.tl_num m
  | negSucc m =>
    have e1 : TL.tl (tI (Int.negSucc m)) = ("-" ++ Nat.repr (m + 1)).toList.map Char.toNat := TL.tl_ofString _
    rw [e1, String.toList_append, List.map_append]
    have e2 : (Nat.repr (m + 1)).toList.map Char.toNat = TL.numL (m + 1) := by
      rw [← TL.tl_num (m + 1)]
      exact (TL.tl_ofString _).symm
    rw [e2]
    unfold numI
    rw [if_pos (Int.negSucc_lt_zero m)]
    rfl
theorem numI_free {i : Int} {s : Nat} (h : s < 45 ∨ s = 46 ∨ s = 47 ∨ 57 < s) : s ∉ numI i := by
  have h2 : s ∉ TL.numL i.natAbs := TL.numL_free (by omega)
  unfold numI
  split
  · intro z
    rcases List.mem_cons.mp z with e | e
    · omega
    · exact h2 e
  · exact h2
theorem tI_len {i : Int} (h : i.natAbs < 10 ^ 40) : (tI i).length ≤ 41 := len_of40 h
theorem int_back {i : Int} (h : i.natAbs < 10 ^ 40) : intText? (tI i) = some i := by
  have hl := tI_len h
  have e := tl_int i
  unfold numI at e
  split at e
  · have := intText_neg (x := tI i) e (TL.numL_digits _) (TL.numL_ne _) (by omega)
    rw [TL.numL_val] at this
    rw [this]
    congr 1
    omega
  · have := intText_digits (x := tI i) (by rw [show (tI i).cps.toList = _ from e]; exact TL.numL_digits _) (by rw [show (tI i).cps.toList = _ from e]; exact TL.numL_ne _) (by omega)
    rw [show (tI i).cps.toList = _ from e, TL.numL_val] at this
    rw [this]
    congr 1
    omega
/-- the first figure -/
theorem numL_head : ∀ {n : Nat}, 0 < n → ∃ c r, TL.numL n = c :: r ∧ 49 ≤ c ∧ c ≤ 57 := by
  intro n
  induction n using Nat.strongRecOn with
  | _ n ih =>
    intro h
    by_cases h10 : n < 10
    · exact ⟨48 + n, [], TL.numL_lt h10, by omega, by omega⟩
    · obtain ⟨c, r, e, h1, h2⟩ := ih (n / 10) (by omega) (by omega)
      rw [TL.numL_step (by omega), e]
      exact ⟨c, r ++ [48 + n % 10], rfl, h1, h2⟩
theorem numL_zero : TL.numL 0 = [48] := TL.numL_lt (by decide)
/-- a point's text, the text of points, its words -/
def txtP (p : Pt) : Str := tI p.1 ++ " : " ++ showQ p.2.1 p.2.2
def txtPs (ps : List Pt) : Str := if ps = [] then "-" else Txt.join " , " (ps.map txtP)
def wordsP : List Pt → List Str
  | [] => []
  | [p] => [tI p.1, ":", showQ p.2.1 p.2.2]
  | p :: q :: r => tI p.1 :: ":" :: showQ p.2.1 p.2.2 :: "," :: wordsP (q :: r)
theorem joinL_words : ∀ ps : List Pt, TL.joinL [32, 44, 32] ((ps.map txtP).map TL.tl) = TL.joinL [32] ((wordsP ps).map TL.tl) := by
  have e1 : ∀ p : Pt, TL.tl (txtP p) = TL.tl (tI p.1) ++ ([32] ++ (TL.tl (":" : Str) ++ ([32] ++ TL.tl (showQ p.2.1 p.2.2)))) := by
    intro p
    unfold txtP
    rw [TL.tl_append, TL.tl_append, List.append_assoc]
    rfl
  have e2 : TL.tl ("," : Str) = [44] := rfl
  intro ps
  induction ps with
  | nil => rfl
  | cons p t ih =>
    cases t with
    | nil =>
      show TL.tl (txtP p) = _
      rw [e1]
      rfl
    | cons q r =>
      show TL.tl (txtP p) ++ ([32, 44, 32] ++ TL.joinL [32, 44, 32] (((q :: r).map txtP).map TL.tl)) = _
      rw [ih, e1]
      have hne : ∃ a b, (wordsP (q :: r)).map TL.tl = a :: b := by
        cases r with
        | nil => exact ⟨_, _, rfl⟩
        | cons _ _ => exact ⟨_, _, rfl⟩
      obtain ⟨a, b, hab⟩ := hne
      show _ = TL.joinL [32] (TL.tl (tI p.1) :: TL.tl (":" : Str) :: TL.tl (showQ p.2.1 p.2.2) :: TL.tl ("," : Str) :: (wordsP (q :: r)).map TL.tl)
      rw [hab, e2]
      simp only [TL.joinL, List.append_assoc, List.cons_append, List.nil_append]
theorem join_words (ps : List Pt) : Txt.join " , " (ps.map txtP) = Txt.join " " (wordsP ps) := by
  rw [TL.join_eq, TL.join_eq]
  refine TL.ext_tl ?_
  rw [TL.tl_join, TL.tl_join]
  exact joinL_words ps
theorem showQ_free {n d : Int} {s : Nat} (h : s < 45 ∨ s = 46 ∨ 57 < s) : s ∉ TL.tl (showQ n d) := by
  have h1 : s ∉ TL.tl (tI n) := by rw [tl_int]; exact numI_free (by omega)
  have h2 : s ∉ TL.tl (tI d) := by rw [tl_int]; exact numI_free (by omega)
  unfold showQ
  split
  · exact h1
  · rw [TL.tl_append, TL.tl_append]
    intro z
    rcases List.mem_append.mp z with z | z
    · rcases List.mem_append.mp z with z | z
      · exact h1 z
      · have : s = 47 := List.mem_singleton.mp z
        omega
    · exact h2 z
theorem words_free : ∀ {ps : List Pt}, ∀ w ∈ wordsP ps, 32 ∉ TL.tl w := by
  have h1 : ∀ i : Int, 32 ∉ TL.tl (tI i) := fun i => by rw [tl_int]; exact numI_free (by omega)
  intro ps
  induction ps with
  | nil => intro w h; cases h
  | cons p t ih =>
    cases t with
    | nil =>
      intro w h
      rcases List.mem_cons.mp h with e | h
      · rw [e]; exact h1 _
      rcases List.mem_cons.mp h with e | h
      · rw [e]; decide
      rw [List.mem_singleton.mp h]
      exact showQ_free (by omega)
    | cons q r =>
      intro w h
      rcases List.mem_cons.mp h with e | h
      · rw [e]; exact h1 _
      rcases List.mem_cons.mp h with e | h
      · rw [e]; decide
      rcases List.mem_cons.mp h with e | h
      · rw [e]; exact showQ_free (by omega)
      rcases List.mem_cons.mp h with e | h
      · rw [e]; decide
      exact ih w h
theorem split_points {ps : List Pt} (h : ps ≠ []) : Txt.split (Txt.join " , " (ps.map txtP)) " " = wordsP ps := by
  rw [join_words]
  refine TL.split_join (s := 32) (S := []) rfl (by decide +kernel) ?_ words_free
  cases ps with
  | nil => exact absurd rfl h
  | cons p t =>
    cases t with
    | nil => intro z; cases z
    | cons q r => intro z; cases z
theorem words_at : ∀ {ps : List Pt} {i : Nat} {p : Pt}, ps[i]? = some p → (wordsP ps)[4 * i]? = some (tI p.1) ∧ (wordsP ps)[4 * i + 1]? = some (":" : Str) ∧ (wordsP ps)[4 * i + 2]? = some (showQ p.2.1 p.2.2) ∧ (i + 1 < ps.length → (wordsP ps)[4 * i + 3]? = some ("," : Str)) ∧ (wordsP ps).length + 1 = 4 * ps.length := by
  intro ps
  induction ps with
  | nil => intro i p h; cases h
  | cons a t ih =>
    intro i p h
    cases t with
    | nil =>
      cases i with
      | zero =>
        cases h
        exact ⟨rfl, rfl, rfl, fun z => absurd z (Nat.lt_irrefl _), rfl⟩
      | succ j => cases h
    | cons q r =>
      have hlen : (wordsP (q :: r)).length + 1 = 4 * (q :: r).length := (ih (i := 0) rfl).2.2.2.2
      have hl2 : (wordsP (a :: q :: r)).length + 1 = 4 * (a :: q :: r).length := by
        show (wordsP (q :: r)).length + 1 + 1 + 1 + 1 + 1 = 4 * ((q :: r).length + 1)
        omega
      cases i with
      | zero =>
        cases h
        exact ⟨rfl, rfl, rfl, fun _ => rfl, hl2⟩
      | succ j =>
        obtain ⟨h1, h2, h3, h4, _⟩ := ih (i := j) h
        have e : ∀ k, (wordsP (a :: q :: r))[4 * (j + 1) + k]? = (wordsP (q :: r))[4 * j + k]? := by
          intro k
          rw [show 4 * (j + 1) + k = (4 * j + k) + 1 + 1 + 1 + 1 by omega]
          rfl
        refine ⟨(e 0).trans h1, (e 1).trans h2, (e 2).trans h3, fun z => (e 3).trans (h4 ?_), hl2⟩
        have : (a :: q :: r).length = (q :: r).length + 1 := rfl
        omega
/-- the words of a number's text -/
theorem split_num {n d : Int} : Txt.split (showQ n d) "/" = if d = 1 then [tI n] else [tI n, tI d] := by
  have h1 : ∀ i : Int, 47 ∉ TL.tl (tI i) := fun i => by rw [tl_int]; exact numI_free (by omega)
  unfold showQ
  split
  · have := TL.split_join (y := "/") (s := 47) (S := []) rfl (by decide +kernel) (parts := [tI n]) (by intro z; cases z) (fun p hp => by rw [List.mem_singleton.mp hp]; exact h1 _)
    rw [TL.join_eq] at this
    exact this
  · have := TL.split_join (y := "/") (s := 47) (S := []) rfl (by decide +kernel) (parts := [tI n, tI d]) (by intro z; cases z) (fun p hp => by
      rcases List.mem_cons.mp hp with e | e
      · rw [e]; exact h1 _
      · rw [List.mem_singleton.mp e]; exact h1 _)
    rw [TL.join_eq] at this
    exact this
end G
set_option Elab.async false
set_option linter.all false
set_option maxRecDepth 100000
set_option maxHeartbeats 4000000
namespace G
open PySem PySem.Spec PyProof.Rows L2
variable {P : Program} {w : World} {K : PySem.W.Frag} {mg : Str → Option Value} {base : Heap}
/-! ### reading -/
theorem cutS_head {z : Str} {c : Nat} {r : List Nat} (h : z.cps.toList = c :: r) : cutS z none (some 1) = ⟨#[c]⟩ := by
  have hl : z.length = r.length + 1 := by
    rw [TL.len_tl]
    show z.cps.toList.length = _
    rw [h]
    rfl
  unfold cutS
  rw [h, HT.sIx_none, show (some (1 : Int)) = some ((1 : Nat) : Int) from rfl, HT.sIx_nat, hl, Nat.min_eq_left (by omega)]
  rfl
theorem cutS_tail {z : Str} {c : Nat} {r : List Nat} (h : z.cps.toList = c :: r) : (cutS z (some 1) none).cps.toList = r := by
  have hl : z.length = r.length + 1 := by
    rw [TL.len_tl]
    show z.cps.toList.length = _
    rw [h]
    rfl
  unfold cutS
  rw [h, HT.sIx_none, show (some (1 : Int)) = some ((1 : Nat) : Int) from rfl, HT.sIx_nat, hl, Nat.min_eq_left (by omega)]
  show (List.take (r.length + 1 - 1) r) = r
  rw [List.take_of_length_le (by omega)]
theorem digit_mem {c : Nat} (h : 48 ≤ c ∧ c ≤ 57) : c ∈ (("0123456789" : Str)).cps.toList := by
  have e : (("0123456789" : Str)).cps.toList = [48, 49, 50, 51, 52, 53, 54, 55, 56, 57] := rfl
  rw [e]
  simp only [List.mem_cons, List.not_mem_nil, or_false]
  omega
theorem txtP_len {p : Pt} (h : PtB p) : (txtP p).length ≤ 127 := by
  have h1 := tI_len h.1
  have h2 := (showQ_fit h.2.2.1 h.2.2.2.2.1).b
  simp only [PyData.bulk] at h2
  have h3 : (showQ p.2.1 p.2.2).length ≤ 83 := h2
  unfold txtP
  rw [PySem.Str.length_append, PySem.Str.length_append, show (" : " : Str).length = 3 from rfl]
  omega
theorem txtPs_len {ps : List Pt} (h : ∀ p ∈ ps, PtB p) : (txtPs ps).length ≤ 130 * ps.length + 1 := by
  unfold txtPs
  split
  · show 1 ≤ _
    omega
  · rw [TL.join_eq]
    have h1 := PySem.StrLaws.join_length_le " , " (ps.map txtP)
    have h2 : ((ps.map txtP).map (·.length)).sum ≤ 127 * ps.length := by
      clear h1
      rename_i hne
      clear hne
      induction ps with
      | nil => exact Nat.le_refl _
      | cons a t ih =>
        have h1 := txtP_len (h a List.mem_cons_self)
        have h2 := ih fun p hp => h p (List.mem_cons_of_mem _ hp)
        simp only [List.map_cons, List.sum_cons, List.length_cons]
        omega
    rw [List.length_map, show (" , " : Str).length = 3 from rfl] at h1
    omega
theorem all_true {is : List Nat} {l : List V} (h : Paired (fun (_ : Nat) v => v = V.bl true) is l) : ∃ bs : List Bool, l = bs.map V.bl ∧ bs.all id = true := by
  induction h with
  | nil => exact ⟨[], rfl, rfl⟩
  | cons f _ ih =>
    obtain ⟨bs, e, e2⟩ := ih
    exact ⟨true :: bs, by rw [f, e]; rfl, by rw [List.all_cons, e2]; rfl⟩
def sp_is_figures : Sp := fun vs H Q _ => ∃ i : Int, vs = [.str (tI i)] ∧ i.natAbs < 10 ^ 40 ∧ ∀ H', Same H H' → Q (.bl true) H'
theorem sc_is_figures : FnScope N_is_figures P_is_figures (defScope s_is_figures) := ⟨rfl, rfl, rfl, by decide +kernel, rfl, by decide +kernel, by decide +kernel⟩
theorem is_figures_ok (T : Txt K mg) : FnR P w K mg base CX0 1 f_is_figures sp_is_figures := by
  refine fr_mk (ps := P_is_figures) (N := N_is_figures) T.fd_is_figures sc_is_figures (fun _ _ _ _ _ _ us h => match us, h with | [_], _ => rfl) ?_ ?_
  · rintro vs H Q E ⟨i, rfl, _⟩
    rfl
  · rintro cdv A outer s H vs Q E hr ⟨i, rfl, hi, q⟩
    have nd := sc_is_figures.nd
    refine ⟨_, (pss_cons (ps_if (pt_not (pt_val (pe_callB call_isi (by rfl) T.n_isinstance (by decide +kernel) (pa_cons (pv 0) (pa_cons (pe_bltn (by rfl) T.n_str (by decide +kernel) (v := .ty "str") rfl) pa_nil))))) (pss_one (ps_ret pe_bl)) pss_nil) (Evl.pss_cut (ps_set (i := 1) nd rfl (by first | exact Or.inl rfl | exact Or.inr rfl) (pe_ifExp (pt_cmpR op_eq (pe_slice sl_str (pv 0) po_none (po_some pe_int)) pe_str (nomark _)) (pe_slice sl_str (pv 0) (po_some pe_int) po_none) (pv 0))) (pss_cons (ps_if (pt_not (pt_chain op_le op_le pe_int (pe_callB call_len (by rfl) T.n_len (by decide +kernel) (pa_cons (pv 1) pa_nil)) (pe_glob (v := .int 4000) rfl T.g_MOST_FIGURES.choose_spec ⟨_, rfl⟩))) (pss_one (ps_ret pe_bl)) pss_nil) (pss_cons (ps_if (pt_not (pt_val (pe_callB (cr_all rfl) (by rfl) T.n_all (by decide +kernel) (pa_cons (pe_lc (own := [("sign", 2)]) (g := (gName 2)) (tt := tYes) (by rfl) nd (pi_str (pv 1)) (blkOk_by (own := [("sign", 2)]) (N := N_is_figures) (sc := defScope s_is_figures) (by decide +kernel)) (fun _ _ _ _ _ => (pg_name (i := 2) nd rfl (Or.inl rfl))) (fun _ _ _ _ _ => pts_nil) (fun _ _ _ _ _ => (pe_cmpR op_in_sign (pv 2) pe_str rfl))) pa_nil)))) (pss_one (ps_ret pe_bl)) pss_nil) (pss_one (ps_ret (pe_or (pe_cmpR op_eq (pv 0) pe_str (nomark _)) (pe_one (pe_cmpR op_ne (pe_ix ix_str (pv 1) pe_int (fun _ _ => rfl)) pe_str (nomark _)))))))))), ?_⟩
    have hlen := tI_len hi
    have etl : (tI i).cps.toList = numI i := tl_int i
    have hl := line10k
    refine ⟨_, rfl, _, _, _, _, _, rfl, .ty _, .base (.str _), kt "str" "str" true, _, rfl, iteF ?_⟩
    refine ⟨fun σ' H' => H' = H ∧ ∃ f : Str, σ' = [some (.str (tI i)), some (.str f), none] ∧ f.cps.toList = TL.numL i.natAbs, ?_, ?_⟩
    · refine ⟨_, rfl, ?_⟩
      unfold tNoPart
      refine ⟨_, rfl, _, rfl, by omega, rfl, _, rfl, ?_⟩
      by_cases c : i < 0
      · have en : (tI i).cps.toList = 45 :: TL.numL i.natAbs := by
          rw [etl]
          unfold numI
          rw [if_pos c]
        refine iteTc (str_eq (cutS_head en)) ⟨_, rfl, _, rfl, ?_⟩
        refine ⟨_, rfl, by omega, rfl, _, rfl, ?_⟩
        rw [cutS_tail en]
      · have en : (tI i).cps.toList = TL.numL i.natAbs := by
          rw [etl]
          unfold numI
          rw [if_neg c]
        obtain ⟨d, r, ed⟩ : ∃ d r, TL.numL i.natAbs = d :: r := by
          cases e : TL.numL i.natAbs with
          | nil => exact absurd e (TL.numL_ne _)
          | cons d r => exact ⟨d, r, rfl⟩
        have hd := TL.numL_digits i.natAbs d (by rw [ed]; exact List.mem_cons_self)
        refine iteFc (str_ne ?_) ⟨_, rfl, rfl, _, rfl, en⟩
        rw [cutS_head (en.trans ed)]
        intro z
        have z2 : [d] = [45] := congrArg TL.tl z
        injection z2 with z2
        omega
    rintro σ1 H1 ⟨rfl, f, rfl, hf⟩
    have hfl : f.length = (TL.numL i.natAbs).length := by
      rw [TL.len_tl]
      exact congrArg List.length hf
    have hl41 : (TL.numL i.natAbs).length ≤ 40 := TL.numL_len (by decide) hi
    obtain ⟨d, r, ed⟩ : ∃ d r, TL.numL i.natAbs = d :: r := by
      cases e : TL.numL i.natAbs with
      | nil => exact absurd e (TL.numL_ne _)
      | cons d r => exact ⟨d, r, rfl⟩
    have h1l : 1 ≤ (TL.numL i.natAbs).length := by
      rw [ed]
      exact Nat.succ_le_succ (Nat.zero_le _)
    refine ⟨_, rfl, _, _, rfl, ⟨by omega, rfl⟩, _, _, rfl, rfl, _, rfl, iteTc (decide_eq_true (by omega)) ⟨_, _, rfl, rfl, _, rfl, iteFc (by rw [decide_eq_true (by omega)]; rfl) ?_⟩⟩
    refine ⟨_, rfl, _, rfl, fun D hD => ?_⟩
    refine lc_all (walk_str (z := f)) aStore (fun _ v _ => v = .bl true) (by show f.length ≤ sizeLine; omega) hD (fun _ _ _ _ _ h => h) (fun _ _ => trivial) ?_ mono_name ?_
    · rintro j x H5 H6 Pk hj s5 ⟨rfl, c, hcc, rfl⟩ hk
      have hm : c ∈ TL.numL i.natAbs := by
        rw [← Array.getElem?_toList, hf] at hcc
        exact List.mem_of_getElem? hcc
      have hc := TL.numL_digits _ c hm
      refine ⟨rfl, _, rfl, c, _, rfl, rfl, hk _ _ (Same.refl _) (by rw [decide_eq_true (digit_mem hc)])⟩
    · intro H5 l5 s5 hl5 pr5
      obtain ⟨bs, e1, e2⟩ := all_true pr5
      rw [e1] at hl5
      refine ⟨D, bs, rfl, SqL.of hl5, _, rfl, ?_⟩
      rw [e2]
      refine iteF ⟨_, rfl, rfl, ?_⟩
      by_cases c : i = 0
      · subst c
        have : decide (V.str (tI 0) = V.str "0") = true := decide_eq_true rfl
        rw [this]
        exact ⟨_, rfl, q _ s5⟩
      · have hne : decide (V.str (tI i) = V.str "0") = false := by
          refine str_ne fun z => c ?_
          have := int_back hi
          rw [z] at this
          have h0 : intText? ("0" : Str) = some 0 := int_back (i := 0) (by decide)
          rw [h0] at this
          exact (Option.some.inj this).symm
        rw [hne]
        obtain ⟨c2, r2, e2, h49, _⟩ := numL_head (n := i.natAbs) (by omega)
        refine ⟨_, rfl, _, rfl, _, _, _, rfl, rfl, by omega, atI_nat (j := 0) (v := c2) (by rw [hf, e2]; rfl), rfl, ?_⟩
        have hz : decide (V.str (⟨#[c2]⟩ : Str) = V.str "0") = false := by
          refine str_ne fun z => ?_
          have z2 : [c2] = [48] := congrArg TL.tl z
          injection z2 with z2
          omega
        have qq := q _ s5
        rw [hz]
        exact qq
def sp_word_at : Sp := fun vs H Q _ => ∃ (a : Addr) (ws : List Str) (i : Nat) (x : Str), vs = [.ref a, .int i] ∧ H a = some (.lst (ws.map V.str)) ∧ ws[i]? = some x ∧ Q (.str x) H
theorem sc_word_at : FnScope N_word_at P_word_at (defScope s_word_at) := ⟨rfl, rfl, rfl, by decide +kernel, rfl, by decide +kernel, by decide +kernel⟩
theorem word_at_ok (T : Txt K mg) : FnR P w K mg base CX0 1 f_word_at sp_word_at := by
  refine fr_mk (ps := P_word_at) (N := N_word_at) T.fd_word_at sc_word_at (fun _ _ _ _ _ _ us h => match us, h with | [_, _], _ => rfl) ?_ ?_
  · rintro vs H Q E ⟨a, ws, i, x, rfl, _⟩
    rfl
  · rintro cdv A outer s H vs Q E hr ⟨a, ws, i, x, rfl, ha, hx, q⟩
    have nd := sc_word_at.nd
    refine ⟨_, (pss_one (ps_ret (pe_ifExp (pt_cmpR op_lt (pv 1) (pe_callB call_len_seq (by rfl) T.n_len (by decide +kernel) (pa_cons (pv 0) pa_nil)) (nomark _)) (pe_ix ix_list (pv 0) (pv 1) (fun _ _ => rfl)) pe_str))), ?_⟩
    have hlt : i < ws.length := (List.getElem?_eq_some_iff.mp hx).1
    refine ⟨_, rfl, _, rfl, _, _, rfl, .inl (SqL.of ha), _, _, rfl, rfl, _, rfl, iteTc (decide_eq_true (by rw [List.length_map]; omega)) ⟨_, rfl, _, rfl, _, _, _, _, rfl, rfl, SqL.of ha, atI_nat (v := .str x) (by rw [List.getElem?_map, hx]; rfl), q⟩⟩
def sp_integer_at : Sp := fun vs H Q _ => ∃ (a : Addr) (ws : List Str) (i : Nat) (n : Int), vs = [.ref a, .int i] ∧ H a = some (.lst (ws.map V.str)) ∧ ws[i]? = some (tI n) ∧ n.natAbs < 10 ^ 40 ∧ ∀ H', Same H H' → Q (.int n) H'
theorem sc_integer_at : FnScope N_integer_at P_integer_at (defScope s_integer_at) := ⟨rfl, rfl, rfl, by decide +kernel, rfl, by decide +kernel, by decide +kernel⟩
theorem integer_at_ok (T : Txt K mg) : FnR P w K mg base CX0 2 f_integer_at sp_integer_at := by
  refine fr_mk (ps := P_integer_at) (N := N_integer_at) T.fd_integer_at sc_integer_at (fun _ _ _ _ _ _ us h => match us, h with | [_, _], _ => rfl) ?_ ?_
  · rintro vs H Q E ⟨a, ws, i, x, rfl, _⟩
    rfl
  · rintro cdv A outer s H vs Q E hr ⟨a, ws, i, n, rfl, ha, hx, hn, q⟩
    have nd := sc_integer_at.nd
    refine ⟨_, (pss_cons (ps_set (i := 2) nd rfl (by first | exact Or.inl rfl | exact Or.inr rfl) (pe_callR (word_at_ok T) (hr.mono (by decide)) rfl T.g_word_at T.k_word_at pass0 (pa_cons (pv 0) (pa_cons (pv 1) pa_nil)))) (pss_cons (ps_if (pt_not (pt_val (pe_callR (is_figures_ok T) (hr.mono (by decide)) rfl T.g_is_figures T.k_is_figures pass0 (pa_cons (pv 2) pa_nil)))) (pss_one ps_never) pss_nil) (pss_one (ps_ret (pe_callTy call_int_str (by rfl) T.n_int (by decide +kernel) (pa_cons (pv 2) pa_nil)))))), ?_⟩
    have := tI_len hn
    exact ⟨_, rfl, _, rfl, a, ws, i, _, rfl, ha, hx, _, rfl, n, rfl, hn, fun H1 s1 => ⟨_, rfl, iteF ⟨_, rfl, _, n, rfl, int_back hn, by omega, q H1 s1⟩⟩⟩
def sp_Ratio_read : Sp := fun vs H Q _ => ∃ n d : Int, vs = [.ref aRatio, .str (showQ n d)] ∧ NumOk n d ∧ ∀ H' a, Same H H' → IsQ H' a n d → Q (.ref a) H'
theorem sc_Ratio_read : FnScope N_Ratio_read P_Ratio_read (defScope s_Ratio_read) := ⟨rfl, rfl, rfl, by decide +kernel, rfl, by decide +kernel, by decide +kernel⟩
theorem Ratio_read_ok (T : Txt K mg) : FnR P w K mg base CX0 5 f_Ratio_read sp_Ratio_read := by
  refine fr_mk (ps := P_Ratio_read) (N := N_Ratio_read) T.fd_Ratio_read sc_Ratio_read (fun _ _ _ _ _ _ us h => match us, h with | [_, _], _ => rfl) ?_ ?_
  · rintro vs H Q E ⟨n, d, rfl, _⟩
    rfl
  · rintro cdv A outer s H vs Q E hr ⟨n, d, rfl, hok, q⟩
    have nd := sc_Ratio_read.nd
    refine ⟨_, (Evl.pss_cut (ps_set (i := 2) nd rfl (by first | exact Or.inl rfl | exact Or.inr rfl) (pe_ifExp (pt_val (pe_callB call_isi (by rfl) T.n_isinstance (by decide +kernel) (pa_cons (pv 1) (pa_cons (pe_bltn (by rfl) T.n_str (by decide +kernel) (v := .ty "str") rfl) pa_nil)))) (pe_split (pv 1) pe_str) (pe_lst pa_nil))) (Evl.pss_cut (ps_if (PW.pt (pw_or (pt_not (pt_chain op_le op_le pe_int (pe_callB call_len_seq (by rfl) T.n_len (by decide +kernel) (pa_cons (pv 2) pa_nil)) pe_int)) (pw_or1 (pt_not (pt_val (pe_callB (cr_all rfl) (by rfl) T.n_all (by decide +kernel) (pa_cons (pe_lc (own := [("part", 5)]) (g := (gName 5)) (tt := tYes) (by rfl) nd (pi_list (pv 2)) (blkOk_by (own := [("part", 5)]) (N := N_Ratio_read) (sc := defScope s_Ratio_read) (by decide +kernel)) (fun _ _ _ _ _ => (pg_name (i := 5) nd rfl (Or.inl rfl))) (fun _ _ _ _ _ => pts_nil) (fun _ _ _ _ _ => (pe_callR (is_figures_ok T) (hr.mono (by decide)) rfl T.g_is_figures T.k_is_figures pass0 (pa_cons (pv 5) pa_nil)))) pa_nil))))))) (pss_one ps_never) pss_nil) (Evl.pss_cut (ps_par (i := 3) (j := 4) rfl nd rfl rfl (by decide) rfl rfl (pa_cons (pe_callTy call_int_str (by rfl) T.n_int (by decide +kernel) (pa_cons (pe_ix ix_list (pv 2) pe_int (fun _ _ => rfl)) pa_nil)) (pa_cons (pe_ifExp (pt_cmpR op_eq (pe_callB call_len_seq (by rfl) T.n_len (by decide +kernel) (pa_cons (pv 2) pa_nil)) pe_int (nomark _)) (pe_callTy call_int_str (by rfl) T.n_int (by decide +kernel) (pa_cons (pe_ix ix_list (pv 2) (pe_un un_neg pe_int) (fun _ _ => rfl)) pa_nil)) pe_int) pa_nil)) (by rfl)) (Evl.pss_cut (ps_if (PW.pt (pw_and (pt_cmpR op_eq (pe_callB call_len_seq (by rfl) T.n_len (by decide +kernel) (pa_cons (pv 2) pa_nil)) pe_int (nomark _)) (pw_and1 (PW.pt (pw_or (pt_cmpR op_lt (pv 4) pe_int (nomark _)) (pw_or1 (pt_cmpR op_ne (pe_callR (divisor_of_ok T) (hr.mono (by decide)) rfl T.g_divisor_of T.k_divisor_of pass0 (pa_cons (pe_callB call_abs (by rfl) T.n_abs (by decide +kernel) (pa_cons (pv 3) pa_nil)) (pa_cons (pv 4) pa_nil))) pe_int (nomark _)))))))) (pss_one ps_never) pss_nil) (pss_one (ps_ret (pe_makeV T.mk_Ratio (Ratio_init_ok T) (hr.mono (by decide)) pass0 (i := 0) rfl (Or.inl rfl) (pa_cons (pv 3) (pa_cons (pv 4) pa_nil))))))))), ?_⟩
    have hn40 := hok.2.1
    have hd40 := hok.2.2.2.1
    have hd0 := hok.2.2.1
    have hqz := (showQ_fit hn40 hd40).b
    have hql : (showQ n d).length ≤ 83 := by
      simp only [PyData.bulk] at hqz
      exact hqz
    have l1m := line1m
    generalize hws : (if d = 1 then [tI n] else [tI n, tI d]) = ws
    refine ⟨fun σ' H' => ∃ pa, σ' = [some (.ref aRatio), some (.str (showQ n d)), some (.ref pa), none, none, none] ∧ Same H H' ∧ H' pa = some (.lst (ws.map V.str)), ?_, ?_⟩
    · refine ⟨_, rfl, _, _, _, _, _, rfl, .ty _, .base (.str _), kt "str" "str" true, _, rfl, iteT ⟨_, rfl, ⟨_, rfl⟩, _, _, rfl, rfl, by decide +kernel, by omega, fun pa hpa => ?_⟩⟩
      refine ⟨pa, rfl, same_new hpa, ?_⟩
      rw [upd_same, split_num, hws]
    rintro σ1 H1 ⟨pa, rfl, s1, hpa⟩
    have hwn : ∀ w ∈ ws, ∃ i : Int, w = tI i ∧ i.natAbs < 10 ^ 40 := by
      intro w hw
      rw [← hws] at hw
      split at hw
      · rw [List.mem_singleton.mp hw]
        exact ⟨n, rfl, hn40⟩
      · rcases List.mem_cons.mp hw with e | e
        · rw [e]; exact ⟨n, rfl, hn40⟩
        · rw [List.mem_singleton.mp e]; exact ⟨d, rfl, hd40⟩
    have hwl : 1 ≤ ws.length ∧ ws.length ≤ 2 := by
      rw [← hws]
      split
      · exact ⟨Nat.le_refl 1, Nat.le_succ 1⟩
      · exact ⟨Nat.le_succ 1, Nat.le_refl 2⟩
    refine ⟨fun σ' H' => σ' = [some (.ref aRatio), some (.str (showQ n d)), some (.ref pa), none, none, none] ∧ Same H H' ∧ H' pa = some (.lst (ws.map V.str)), ?_, ?_⟩
    · refine ⟨_, rfl, _, _, rfl, .inl (SqL.of hpa), _, _, rfl, rfl, _, rfl, iteTc (decide_eq_true (by rw [List.length_map]; omega)) ⟨_, _, rfl, rfl, _, rfl, iteFc (by rw [decide_eq_true (by rw [List.length_map]; omega)]; rfl) ⟨_, rfl, _, rfl, ⟨_, SqL.of hpa⟩, fun D hD => ?_⟩⟩⟩
      refine lc_all (walk_list (K := K) (xs := ws.map V.str)) aStore (fun _ v _ => v = .bl true) (by rw [List.length_map]; omega) hD (fun _ _ _ _ _ h => h) (fun H s => SqL.of (s _ _ hpa)) ?_ mono_name ?_
      · rintro j x H5 H6 Pk hj s5 ⟨rfl, h1⟩ hk
        obtain ⟨w, hw, rfl⟩ := get_map h1
        obtain ⟨i, rfl, hi⟩ := hwn w (List.mem_of_getElem? hw)
        exact ⟨rfl, _, rfl, i, rfl, hi, fun H7 s7 => hk _ _ s7 rfl⟩
      · intro H5 l5 s5 hl5 pr5
        obtain ⟨bs, e1, e2⟩ := all_true pr5
        rw [e1] at hl5
        refine ⟨D, bs, rfl, SqL.of hl5, _, rfl, ?_⟩
        rw [e2]
        exact iteF ⟨rfl, s1.trans s5, s5 _ _ hpa⟩
    rintro σ2 H2 ⟨rfl, s2, hpa2⟩
    refine ⟨fun σ' H' => H' = H2 ∧ σ' = [some (.ref aRatio), some (.str (showQ n d)), some (.ref pa), some (.int n), some (.int d), none], ?_, ?_⟩
    · by_cases c : d = 1
      · subst c
        rw [if_pos rfl] at hws
        subst hws
        have hn640 := tI_len hn40
        exact ⟨_, rfl, _, _, _, _, rfl, rfl, SqL.of hpa2, atI_nat (j := 0) rfl, _, n, rfl, int_back hn40, by omega, _, rfl, _, _, rfl, .inl (SqL.of hpa2), rfl, _, rfl, iteFc (decide_eq_false (show ¬ V.int 1 = V.int 2 by decide)) ⟨_, _, rfl, rfl, rfl⟩⟩
      · rw [if_neg c] at hws
        subst hws
        have hn640 := tI_len hn40
        have hd640 := tI_len hd40
        exact ⟨_, rfl, _, _, _, _, rfl, rfl, SqL.of hpa2, atI_nat (j := 0) rfl, _, n, rfl, int_back hn40, by omega, _, rfl, _, _, rfl, .inl (SqL.of hpa2), rfl, _, rfl, iteTc (decide_eq_true (show V.int 2 = V.int 2 from rfl)) ⟨_, rfl, _, rfl, _, _, _, _, rfl, rfl, SqL.of hpa2, atI_last [V.str (tI n)] (V.str (tI d)), _, d, rfl, int_back hd40, by omega, _, _, rfl, rfl, rfl⟩⟩
    rintro σ3 H3 ⟨rfl, rfl⟩
    refine ⟨fun σ' H' => H' = H3 ∧ σ' = [some (.ref aRatio), some (.str (showQ n d)), some (.ref pa), some (.int n), some (.int d), none], ?_, ?_⟩
    · by_cases c : d = 1
      · subst c
        rw [if_pos rfl] at hws
        subst hws
        exact ⟨_, rfl, _, _, rfl, .inl (SqL.of hpa2), rfl, _, rfl, iteFc (decide_eq_false (show ¬ V.int 1 = V.int 2 by decide)) ⟨rfl, rfl⟩⟩
      · rw [if_neg c] at hws
        subst hws
        refine ⟨_, rfl, _, _, rfl, .inl (SqL.of hpa2), rfl, _, rfl, iteTc (decide_eq_true (show V.int 2 = V.int 2 from rfl)) ⟨_, rfl, _, _, rfl, rfl, _, rfl, iteFc (decide_eq_false (by omega)) ⟨_, rfl, _, rfl, _, rfl, n.natAbs, d.natAbs, by rw [abs_nat, show ((d.natAbs : Nat) : Int) = d by omega], rfl, _, rfl, ?_⟩⟩⟩
        rw [hok.2.2.2.2]
        exact iteNS rfl ⟨rfl, rfl⟩
    rintro σ4 H4 ⟨rfl, rfl⟩
    have hbig : (10 : Nat) ^ 40 < 2 ^ 1900 := by decide +kernel
    refine ⟨rfl, _, rfl, _, rfl, fun x dx nx ndx ne => ⟨x, dx, n, d, rfl, upd_same, hd0, Nat.lt_trans hd40 hbig, rfl, q _ _ (s2.trans (same_made nx ndx)) ⟨dx, ?_⟩⟩⟩
    have hg : g_ n d = 1 := by
      unfold g_
      rw [hok.2.2.2.2]
      rfl
    rw [upd_same, hg, Int.ediv_one, Int.ediv_one]
    rfl
def sp_number_at : Sp := fun vs H Q _ => ∃ (a : Addr) (ws : List Str) (i : Nat) (n d : Int), vs = [.ref a, .int i] ∧ H a = some (.lst (ws.map V.str)) ∧ ws[i]? = some (showQ n d) ∧ NumOk n d ∧ ∀ H' b, Same H H' → IsQ H' b n d → Q (.ref b) H'
theorem sc_number_at : FnScope N_number_at P_number_at (defScope s_number_at) := ⟨rfl, rfl, rfl, by decide +kernel, rfl, by decide +kernel, by decide +kernel⟩
theorem number_at_ok (T : Txt K mg) : FnR P w K mg base CX0 6 f_number_at sp_number_at := by
  refine fr_mk (ps := P_number_at) (N := N_number_at) T.fd_number_at sc_number_at (fun _ _ _ _ _ _ us h => match us, h with | [_, _], _ => rfl) ?_ ?_
  · rintro vs H Q E ⟨a, ws, i, n, d, rfl, _⟩
    rfl
  · rintro cdv A outer s H vs Q E hr ⟨a, ws, i, n, d, rfl, ha, hx, hok, q⟩
    have nd := sc_number_at.nd
    refine ⟨_, (pss_one (ps_try_thru (pss_one (ps_ret (ClX.pe_cmeth (pe_glob rfl T.g_Ratio (v := .ref aRatio) rfl) T.rd_Ratio T.cm_Ratio_read (Ratio_read_ok T) (hr.mono (by decide)) pass0 (pa_cons (pe_callR (word_at_ok T) (hr.mono (by decide)) rfl T.g_word_at T.k_word_at pass0 (pa_cons (pv 0) (pa_cons (pv 1) pa_nil))) pa_nil)))) pss_nil)), ?_⟩
    exact ⟨rfl, _, rfl, _, rfl, a, ws, i, _, rfl, ha, hx, n, d, rfl, hok, q⟩
def sp_read_points : Sp := fun vs H Q _ => ∃ (a : Addr) (ps : List Pt), vs = [.ref a] ∧ H a = some (.lst ((if ps = [] then [("-" : Str)] else wordsP ps).map V.str)) ∧ ps.length ≤ 5000 ∧ (∀ p ∈ ps, PtB p) ∧ ∀ H' b xs, Same H H' → H' b = some (.lst xs) → Pqs H' ps xs → Q (.ref b) H'
theorem sc_read_points : FnScope N_read_points P_read_points (defScope s_read_points) := ⟨rfl, rfl, rfl, by decide +kernel, rfl, by decide +kernel, by decide +kernel⟩
theorem read_points_ok (T : Txt K mg) : FnR P w K mg base CX0 7 f_read_points sp_read_points := by
  refine fr_mk (ps := P_read_points) (N := N_read_points) T.fd_read_points sc_read_points (fun _ _ _ _ _ _ us h => match us, h with | [_], _ => rfl) ?_ ?_
  · rintro vs H Q E ⟨a, ps, rfl, _⟩
    rfl
  · rintro cdv A outer s H vs Q E hr ⟨a, ps, rfl, ha, hz, hok, q⟩
    have nd := sc_read_points.nd
    refine ⟨_, (pss_cons (ps_par (i := 1) (j := 2) rfl nd rfl rfl (by decide) rfl rfl (pa_cons (pe_lst pa_nil) (pa_cons pe_int pa_nil)) (by rfl)) (Evl.pss_cut (ps_if (pt_cmpR op_eq (pe_ix ix_list (pv 0) pe_int (fun _ _ => rfl)) pe_str (nomark _)) (pss_cons (ps_if (pt_cmpR op_gt (pe_callB call_len_seq (by rfl) T.n_len (by decide +kernel) (pa_cons (pv 0) pa_nil)) pe_int (nomark _)) (pss_one ps_never) pss_nil) (pss_one (ps_ret (pv 1)))) pss_nil) (pss_one (ps_while PassesOwn.never (pt_val pe_bl) (pss_cons (ps_set (i := 3) nd rfl (by first | exact Or.inl rfl | exact Or.inr rfl) (pe_callR (integer_at_ok T) (hr.mono (by decide)) rfl T.g_integer_at T.k_integer_at pass0 (pa_cons (pv 0) (pa_cons (pv 2) pa_nil)))) (pss_cons (ps_if (pt_cmpR op_ne (pe_callR (word_at_ok T) (hr.mono (by decide)) rfl T.g_word_at T.k_word_at pass0 (pa_cons (pv 0) (pa_cons (pe_op op_add (pv 2) pe_int) pa_nil))) pe_str (nomark _)) (pss_one ps_never) pss_nil) (pss_cons (ps_expr (pe_bm PySem.F.plainAttrs_list PySem.F.slot_list_append PySem.F.type_list_append mt_append (pv 1) (pa_cons (pe_tup (pa_cons (pv 3) (pa_cons (pe_callR (number_at_ok T) (hr.mono (by decide)) rfl T.g_number_at T.k_number_at pass0 (pa_cons (pv 0) (pa_cons (pe_op op_add (pv 2) pe_int) pa_nil))) pa_nil))) pa_nil))) (pss_cons (ps_set (i := 2) nd rfl (by first | exact Or.inl rfl | exact Or.inr rfl) (pe_op op_add (pv 2) pe_int)) (pss_cons (ps_if (pt_cmpR op_eq (pv 2) (pe_callB call_len_seq (by rfl) T.n_len (by decide +kernel) (pa_cons (pv 0) pa_nil)) (nomark _)) (pss_one (ps_ret (pv 1))) pss_nil) (pss_cons (ps_if (pt_cmpR op_ne (pe_ix ix_list (pv 0) (pv 2) (fun _ _ => rfl)) pe_str (nomark _)) (pss_one ps_never) pss_nil) (pss_one (ps_set (i := 2) nd rfl (by first | exact Or.inl rfl | exact Or.inr rfl) (pe_op op_add (pv 2) pe_int))))))))))))), ?_⟩
    have l1m := line1m
    refine ⟨by show 0 ≤ sizeLine; decide, fun fl hfl => ⟨_, _, rfl, ?_⟩⟩
    have s1 := same_new (o := .lst []) hfl
    have ha1 := s1 _ _ ha
    have hf1 : (upd H fl (.lst [])) fl = some (.lst []) := upd_same
    generalize hH1 : upd H fl (.lst []) = H1 at s1 ha1 hf1 ⊢
    by_cases c : ps = []
    · subst c
      rw [if_pos rfl] at ha1
      refine ⟨fun _ _ => False, ⟨_, rfl, _, _, _, _, rfl, rfl, SqL.of ha1, atI_nat (j := 0) rfl, rfl, _, rfl, iteTc (str_eq rfl) ?_⟩, fun _ _ h => h.elim⟩
      exact ⟨_, rfl, _, _, rfl, .inl (SqL.of ha1), _, _, rfl, rfl, _, rfl, iteFc (decide_eq_false (by show ¬ (1 : Int) > 1; omega)) ⟨_, rfl, q _ fl [] s1 hf1 .nil⟩⟩
    rw [if_neg c] at ha1
    obtain ⟨p0, hp0⟩ : ∃ p, ps[0]? = some p := by
      cases ps with
      | nil => exact absurd rfl c
      | cons a t => exact ⟨a, rfl⟩
    have hlen1 := (words_at hp0).2.2.2.2
    have hpos : 0 < ps.length := (List.getElem?_eq_some_iff.mp hp0).1
    refine ⟨fun σ' H' => H' = H1 ∧ σ' = [some (.ref a), some (.ref fl), some (.int 0), none], ?_, ?_⟩
    · refine ⟨_, rfl, _, _, _, _, rfl, rfl, SqL.of ha1, atI_nat (j := 0) (v := .str (tI p0.1)) (by rw [List.getElem?_map, (words_at hp0).1]; rfl), rfl, _, rfl, iteFc (str_ne ?_) ⟨rfl, rfl⟩⟩
      intro z
      have h1 := int_back (hok p0 (List.mem_of_getElem? hp0)).1
      have h0 : intText? ("-" : Str) = none := intText_none (by decide) (by
        rintro ⟨h1, _⟩
        have := h1 45 List.mem_cons_self
        omega) (by
        rintro ⟨cs, h1, h2, h3⟩
        have h4 : [45] = 45 :: cs := h1
        injection h4 with _ h4
        exact h3 h4.symm)
      rw [z, h0] at h1
      cases h1
    rintro σ2 H2 ⟨rfl, rfl⟩
    refine while_by (fun σ H' => ∃ (i : Nat) (m : Option V) (xs : List V), σ = [some (.ref a), some (.ref fl), some (.int ((4 * i : Nat) : Int)), m] ∧ i < ps.length ∧ Same H H' ∧ H' fl = some (.lst xs) ∧ Pqs H' (ps.take i) xs) (fun σ _ => match σ with | [_, _, some (.int at_), _] => (4 * (ps.length : Int) - at_).toNat | _ => 0) ⟨0, _, [], rfl, hpos, s1, hf1, .nil⟩ ?_ ?_
    · rintro σ H3 ⟨i, m, xs, rfl, hi, s3, hf3, hx3⟩
      obtain ⟨p, hp⟩ : ∃ p, ps[i]? = some p := ⟨_, List.getElem?_eq_getElem hi⟩
      obtain ⟨w0, w1, w2, w3, _⟩ := words_at hp
      have hpb := hok p (List.mem_of_getElem? hp)
      have ha0 : H a = some (.lst ((wordsP ps).map V.str)) := by
        rw [if_neg c] at ha
        exact ha
      have hxl : xs.length = i := by
        rw [← hx3.length, List.length_take]
        omega
      refine ⟨true, rfl, iteT ?_⟩
      refine ⟨_, rfl, _, rfl, a, _, 4 * i, p.1, rfl, s3 _ _ ha0, w0, hpb.1, fun H4 s4 => ?_⟩
      have s34 := s3.trans s4
      refine ⟨_, rfl, _, rfl, _, _, rfl, rfl, a, _, 4 * i + 1, _, rfl, s34 _ _ ha0, w1, rfl, _, rfl, iteNS rfl ?_⟩
      have hf4 := s4 _ _ hf3
      refine ⟨_, rfl, .inl ⟨rfl, _, SqL.of hf4⟩, _, rfl, _, rfl, _, rfl, _, _, rfl, rfl, a, _, 4 * i + 2, p.2.1, p.2.2, rfl, s34 _ _ ha0, w2, hpb.2, fun H5 b s5 hb => ⟨by show 2 ≤ sizeLine; decide, fun t ht => ?_⟩⟩
      have s6 := s5.trans (same_new (o := .tup [.int p.1, .ref b]) ht)
      have hf6 := s6 _ _ hf4
      refine ⟨_, _, _, rfl, rfl, hf6, by omega, _, rfl, _, _, rfl, rfl, ?_⟩
      have nt : t ≠ fl := (ne_of_none (s5 _ _ hf4) ht).symm
      generalize hH7 : upd (upd H5 t (.tup [.int p.1, .ref b])) fl (.lst (xs ++ [.ref t])) = H7
      have s7 : Same H H7 := by rw [← hH7]; exact Same.at_ hfl (s34.trans s6)
      have kp7 : Kp aStore H4 H7 := by rw [← hH7]; exact (Kp.of s6).trans (.upd hf6 (fun z => z))
      have hf7 : H7 fl = some (.lst (xs ++ [.ref t])) := by rw [← hH7]; exact upd_same
      have hx7 : Pqs H7 (ps.take (i + 1)) (xs ++ [.ref t]) := by
        have e : ps.take (i + 1) = ps.take i ++ [p] := by
          rw [List.take_succ, hp]
          rfl
        rw [e]
        refine ((hx3.mono fun _ _ h => h.kp (Kp.of (S := aStore) s4)).mono fun _ _ h => h.kp kp7).snoc ⟨t, b, rfl, ?_, ?_⟩
        · rw [← hH7, upd_ne nt]
          exact upd_same
        · rw [← hH7]
          exact (hb.same (same_new ht)).kp (S := aStore) (.upd hf6 (fun z => z))
      have hlw : ((wordsP ps).map V.str).length + 1 = 4 * ps.length := by
        rw [List.length_map]
        exact hlen1
      refine ⟨_, rfl, _, rfl, _, _, rfl, .inl (SqL.of (s7 _ _ ha0)), rfl, _, rfl, ?_⟩
      by_cases ce : i + 1 = ps.length
      · refine iteTc (decide_eq_true ?_) ⟨_, rfl, q _ fl _ s7 hf7 ?_⟩
        · have : ((4 * i : Nat) : Int) + 3 = (((wordsP ps).map V.str).length : Nat) := by omega
          show V.int (((4 * i : Nat) : Int) + 3) = _
          rw [this]
        · rw [ce, List.take_length] at hx7
          exact hx7
      · refine iteFc (decide_eq_false ?_) ?_
        · intro z
          have z2 : V.int (((4 * i : Nat) : Int) + 3) = V.int (((wordsP ps).map V.str).length : Nat) := z
          injection z2 with z2
          omega
        have w3' := w3 (by omega)
        refine ⟨_, rfl, _, rfl, _, _, _, _, rfl, rfl, SqL.of (s7 _ _ ha0), atI_nat (j := 4 * i + 3) (v := .str ",") (by rw [List.getElem?_map, w3']; rfl), rfl, _, rfl, iteNS rfl ⟨_, rfl, _, _, rfl, rfl, ?_⟩⟩
        refine ⟨⟨i + 1, some (.int p.1), _, ?_, by omega, s7, hf7, hx7⟩, ?_⟩
        · have : ((4 * i : Nat) : Int) + 3 + 1 = ((4 * (i + 1) : Nat) : Int) := by omega
          show [_, _, some (V.int (((4 * i : Nat) : Int) + 3 + 1)), _] = _
          rw [this]
        · show (4 * (ps.length : Int) - (((4 * i : Nat) : Int) + 3 + 1)).toNat < (4 * (ps.length : Int) - ((4 * i : Nat) : Int)).toNat
          omega
    · rintro σ H Q Q' f ⟨b, e, h⟩
      exact ⟨b, e, f _ _ h⟩
def sp_Series_read : Sp := fun vs H Q _ => ∃ ps : List Pt, vs = [.ref aSeries, .str (txtPs ps)] ∧ ps.length ≤ 5000 ∧ RiseP ps ∧ (∀ p ∈ ps, PtB p) ∧ ∀ H' a, Same H H' → IsSer H' a ps → Q (.ref a) H'
theorem sc_Series_read : FnScope N_Series_read P_Series_read (defScope s_Series_read) := ⟨rfl, rfl, rfl, by decide +kernel, rfl, by decide +kernel, by decide +kernel⟩
theorem Series_read_ok (T : Txt K mg) : FnR P w K mg base CX0 12 f_Series_read sp_Series_read := by
  refine fr_mk (ps := P_Series_read) (N := N_Series_read) T.fd_Series_read sc_Series_read (fun _ _ _ _ _ _ us h => match us, h with | [_, _], _ => rfl) ?_ ?_
  · rintro vs H Q E ⟨ps, rfl, _⟩
    rfl
  · rintro cdv A outer s H vs Q E hr ⟨ps, rfl, hz, hri, hok, q⟩
    have nd := sc_Series_read.nd
    refine ⟨_, (pss_cons (ps_if (pt_not (pt_val (pe_callB call_isi (by rfl) T.n_isinstance (by decide +kernel) (pa_cons (pv 1) (pa_cons (pe_bltn (by rfl) T.n_str (by decide +kernel) (v := .ty "str") rfl) pa_nil))))) (pss_one ps_never) pss_nil) (pss_cons (ps_set (i := 2) nd rfl (by first | exact Or.inl rfl | exact Or.inr rfl) (pe_callR (read_points_ok T) (hr.mono (by decide)) rfl T.g_read_points T.k_read_points pass0 (pa_cons (pe_split (pv 1) pe_str) pa_nil))) (pss_one (ps_ret (pe_makeVS T.mk_Series (Series_init_ok T) (hr.mono (by decide)) pass0 (i := 0) rfl (Or.inl rfl) (pv 2)))))), ?_⟩
    have l1m := line1m
    refine ⟨_, rfl, _, _, _, _, _, rfl, .ty _, .base (.str _), kt "str" "str" true, _, rfl, iteF ?_⟩
    refine ⟨_, rfl, ⟨_, rfl⟩, _, _, rfl, rfl, by decide +kernel, ?_, fun p hp => ?_⟩
    · have := txtPs_len hok
      omega
    refine ⟨p, ps, rfl, ?_, hz, hok, fun H2 b xs s2 hb hpq => ?_⟩
    · rw [upd_same]
      by_cases c : ps = []
      · subst c
        rw [if_pos rfl]
        have := TL.split_join (y := " ") (s := 32) (S := []) rfl (by decide +kernel) (parts := [("-" : Str)]) (by intro z; cases z) (fun p hp => by
          rw [List.mem_singleton.mp hp]
          decide)
        rw [TL.join_eq] at this
        exact congrArg (fun l => some (HO.lst (List.map V.str l))) this
      · unfold txtPs
        rw [if_neg c, if_neg c, split_points c]
    have s12 := (same_new hp).trans s2
    refine ⟨rfl, _, rfl, _, _, rfl, .inr (SqL.of hb), fun x dx nx ndx ne => ⟨x, dx, xs, ps, rfl, upd_same, ?_, rise_iff.mpr hri, hz, fun z h => (hok z h).ok, fun H' sb is => ⟨rfl, q H' x (s12.trans (same_mk nx ndx sb)) is⟩⟩⟩
    exact Pts.kp (Pqs.pts hpq) (Kp.of (S := aStore) (same_mk nx ndx (SameB.refl _ _)))
end G
set_option Elab.async false
set_option linter.all false
set_option maxRecDepth 100000
set_option maxHeartbeats 4000000
/-! A for within a generator's body. -/
namespace G
open PySem PySem.Spec PyProof.Rows L2 GenW
open Sem (wp)
section
variable {prog : Program} {w : World} {A : Around} {R : GenEnd} {Y : Protocol} {n : Nat} {s₀ : Shared} {c : Code} {fs : List Frame} {s : Shared} {env : Env}
  {K : Flow → Sem PySem.Fin} {J : Value → Sem PySem.Fin} {gd : Bool → Bool} {lv : List Value → List Value}
theorem exec_For2 (tg iter : Expr) (body : List Stmt) (pos : Pos) : exec (.For tg iter body [] pos) env =
    (do standAt pos
        let x ← foldedSetIterable iter env (← eval iter env)
        standAt iter.pos
        holding [x] (pyIter x)) >>= fun it => runOwn (.forLoop tg it body [] env) env := by
  rw [exec_For]
  simp only [bind_assoc]
theorem seg_For {tg iter : Expr} {body : List Stmt} {pos : Pos}
    (h : wpAny (model prog w) (A.over c fs) (eval iter env) (fun x s₁ => wpAny (model prog w) (A.over c fs) (pyIter x) (fun it s₂ => ∀ p, Seg (model prog w) A R Y n s₀ (.forLoop tg it body [] env) ((model prog w).den (.forLoop tg it body [] env))
      (.ret (fun r => ((match r with | .ok f => (.pure f : Sem Flow) | .error e => .raise e).onRaise (cameBack env)).wrap K J gd lv) none (gd false) (lv []) c p [] :: fs) s₂) (fun x s' => Seg (model prog w) A R Y n s₀ c (J x) fs s') s₁) (fun x s' => Seg (model prog w) A R Y n s₀ c (J x) fs s') s)
    (hs : ∀ x, foldedSetIterable iter env x = pure x) :
    Seg (model prog w) A R Y n s₀ c ((exec (.For tg iter body [] pos) env).wrap K J gd lv) fs s := by
  rw [exec_For2, Sem.bind_eq_wrap', Sem.wrap_wrap]
  refine seg_wrap (wpAny_bind (wpAny_standAt (wpAny_bind (wpAny_mono h (fun x s₁ h₁ => wpAny_bind (wpAny_of_eq (hs x) (wpAny_bind (wpAny_standAt (wpAny_holding (wpAny_mono h₁ (fun it s₂ h₂ => ?_) fun _ _ h' => h')))))) fun _ _ h' => h'))))
  exact seg_call h₂
abbrev noted (env : Env) : Value → Sem PySem.Fin := fun e => (do noteFrame e env; theTreesLotGoes e : Sem Unit).wrap (fun _ => .raise e) .raise id id
theorem seg_forLoop {tg : Expr} {it : Value} {body : List Stmt}
    (h : wpAny (model prog w) (A.over (.forLoop tg it body [] env) fs) (pyNext it) (fun r s₁ => match r with
      | none => Seg (model prog w) A R Y n s₀ (.block [] env) (.pure (.done .next)) fs s₁
      | some v => wpAny (model prog w) (A.over (.forLoop tg it body [] env) fs) (letOwnedTupleGo tg it v) (fun _ s₂ => wpAny (model prog w) (A.over (.forLoop tg it body [] env) fs) (assign tg env v) (fun _ s₃ =>
          Seg (model prog w) A R Y n s₀ (.forLoop tg it body [] env) ((execs body env).wrap (fun f => match f with
            | .next | .cont => .pure (.again (.forLoop tg it body [] env))
            | .brk => .pure (.done .next)
            | .ret v => .pure (.done (.ret v))) (noted env) id id) fs s₃)
          (fun x s' => Seg (model prog w) A R Y n s₀ (.forLoop tg it body [] env) (noted env x) fs s') s₂) (fun x s' => Seg (model prog w) A R Y n s₀ (.forLoop tg it body [] env) (noted env x) fs s') s₁)
      (fun x s' => Seg (model prog w) A R Y n s₀ (.forLoop tg it body [] env) (noted env x) fs s') s) :
    Seg (model prog w) A R Y n s₀ (.forLoop tg it body [] env) ((model prog w).den (.forLoop tg it body [] env)) fs s := by
  show Seg _ A R Y n s₀ _ ((forTurn tg it body [] env).onRaise (fun x => do noteFrame x env; theTreesLotGoes x)) fs s
  have hn : ∀ e : Value, ((do noteFrame e env; theTreesLotGoes e : Sem Unit).bind fun _ => (.raise e : Sem PySem.Fin)) = noted env e := fun e => Sem.bind_eq_wrap _ _
  unfold forTurn
  rw [Sem.onRaise_eq_wrap]
  simp only [hn]
  rw [Sem.bind_eq_wrap', Sem.wrap_wrap]
  refine seg_wrap (wpAny_standAt ?_)
  rw [Sem.bind_eq_wrap', Sem.wrap_wrap]
  refine seg_wrap (wpAny_onRaise (wpAny_mono h (fun r s₁ h₁ => ?_) fun x s' hx => wpAny_standAt hx))
  cases r with
  | none => exact seg_again rfl h₁
  | some v =>
    show Seg _ A R Y n s₀ _ (Sem.wrap _ _ _ _ (letOwnedTupleGo tg it v >>= _)) fs s₁
    rw [Sem.bind_eq_wrap', Sem.wrap_wrap]
    refine seg_wrap (wpAny_mono h₁ (fun _ s₂ h₂ => ?_) fun x s' hx => hx)
    rw [Sem.bind_eq_wrap', Sem.wrap_wrap]
    refine seg_wrap (wpAny_mono h₂ (fun _ s₃ h₃ => ?_) fun x s' hx => hx)
    rw [Sem.bind_eq_wrap', Sem.wrap_wrap]
    rw [Sem.wrap_congr (execs body env) _ _ (K' := fun f => match f with
            | .next | .cont => .pure (.again (.forLoop tg it body [] env))
            | .brk => .pure (.done .next)
            | .ret v => .pure (.done (.ret v))) (H' := noted env) (fun f => by cases f <;> rfl) (fun e => by rfl)]
    exact h₃
end
section
variable {X : Cx}
def tGFor (wi : TI) (g : TG) (tb : TGn) : TGn := fun D ys σ H => wi σ H fun J H1 => ∃ W : Nat → Nat → List V → L2.St → Hp → Prop, (∃ m, W 0 m ys σ H1) ∧ ∀ i m ys σ H, W i m ys σ H →
  (J.stop i H ∧ D.nx ys σ H) ∨ (J.go i H ∧ ∃ N : List V → L2.St → Hp → Prop, (∀ ys' σ' H', N ys' σ' H' → ∃ m', m' < m ∧ W (i + 1) m' ys' σ' H') ∧ ∀ x H', J.yld i H x H' → g x σ H' fun σ2 H2 => tb { D with nx := N, ct := N, bk := D.nx } ys σ2 H2)
theorem gs_for {tg iter : Expr} {body : List Stmt} {wi : TI} {g : TG} {tb : TGn} {pos : Pos} (hp : PassesOwn (model X.prog X.w) X.A X.env X.xe) (hc : X.calm = true) (hi : PI X tg iter wi) (hg : PG X tg g) (hb : GSs X body tb)
    (hs : ∀ x, foldedSetIterable iter X.env x = pure x := by intro _; rfl) : GS X (.For tg iter body [] pos) (tGFor wi g tb) := by
  refine ⟨fun A S ip R n ys s₀ c fs K J gd lv s σ H D g0 hn k hI ht => ?_⟩
  obtain ⟨acc, cc, r, I⟩ := hI
  refine seg_For ?_ hs
  rw [g0.over]
  refine wpAny_mono (hi.run _ s σ H _ I ht) (fun v s1 h1 => wpAny_mono h1 (fun itv s2 h2 p => ?_) fun x s' hx => k.exc n s₀ x s' hx) fun x s' hx => k.exc n s₀ x s' hx
  obtain ⟨it, fp, tn, Jt, H2, e, I2, T, st2, f2, W, ⟨m0, w0⟩, turn⟩ := h2
  subst e
  have gl := fun (kk : Result → Sem PySem.Fin) => gc_loop (k := kk) (c' := .forLoop tg (.ref it) body [] X.env) (l := lv []) (kp := []) (p := p) g0 rfl rfl
  have stat : ∀ {acc' : Array Value} {c' : Nat} {H' : Hp}, (∀ b ∈ fp, H' b = none) → ∀ b ∈ fp, FpOk X ((S, lstObj acc' c') :: ip) H' b := fun hn b hb => by
    obtain ⟨_, a1, a2, a3, a4, a5⟩ := f2 b hb
    refine ⟨hn b hb, a1, a2, a3, a4, fun p hp => ?_⟩
    rcases List.mem_append.mp hp with z | z
    · exact a5 p (List.mem_append_left _ z)
    · rcases List.mem_cons.mp z with z | z
      · rw [z]
        exact a5 (S, lstObj acc cc) (List.mem_append_right _ List.mem_cons_self)
      · exact a5 p (List.mem_append_right _ (List.mem_cons_of_mem _ z))
  have nS : ∀ b ∈ fp, b ≠ S := fun b hb z => (f2 b hb).2.2.2.2.2 (S, lstObj acc cc) (List.mem_append_right _ List.mem_cons_self) z.symm
  have loop : ∀ (m i n : Nat) (ys : List V) (s₀ s : Shared) (σ : L2.St) (H : Hp), n + ys.length = sizeLine → W i m ys σ H → GI X S ip ys σ H s → tn i s.heap → (∀ b ∈ fp, H b = none) →
      Seg (model X.prog X.w) A R (GY X S) n s₀ (.forLoop tg (.ref it) body [] X.env) ((model X.prog X.w).den (.forLoop tg (.ref it) body [] X.env))
        (.ret (fun r => ((match r with | .ok f => (.pure f : Sem Flow) | .error e => .raise e).onRaise (cameBack X.env)).wrap K J gd lv) none (gd false) (lv []) c p [] :: fs) s := by
    intro m
    induction m using Nat.strongRecOn with
    | ind m ih =>
      intro i n ys s₀ s σ H hn w hI sti fri
      have ee : ∀ (n : Nat) (s₀ : Shared) (x : Value) (s' : Shared), X.xe x s' → Seg (model X.prog X.w) A R (GY X S) n s₀ (.forLoop tg (.ref it) body [] X.env) (noted X.env x)
          (.ret (fun r => ((match r with | .ok f => (.pure f : Sem Flow) | .error e => .raise e).onRaise (cameBack X.env)).wrap K J gd lv) none (gd false) (lv []) c p [] :: fs) s' := fun n s₀ x s' hx => by
        refine seg_wrap ?_
        rw [(gl _).over]
        refine wpAny_bind (wpAny_mono (hp x s' hx) (fun _ s'' hcb => wpAny_theTreesLotGoes ?_) fun y s'' hcb => ?_)
        · exact seg_leaf (.error x) (seg_cameBack g0 k hcb)
        · exact seg_leaf (.error y) (seg_cameBack g0 k hcb)
      refine seg_forLoop ?_
      rw [(gl _).over]
      obtain ⟨acc, cc, r, I⟩ := hI
      rcases turn i m ys σ H w with ⟨stop, qn⟩ | ⟨go, N, hN, step⟩
      · refine wpAny_mono (T.done X rfl rfl rfl hc i _ s σ H X.xe I (stat fri) sti stop) (fun r s4 ⟨hr, I4⟩ => ?_) fun x s' hx => ee n s₀ x s' hx
        subst hr
        exact seg_leaf (.ok .next) (k.ok n ys s₀ s4 .next hn ⟨σ, H, ⟨acc, cc, r, I4⟩, qn⟩)
      · refine wpAny_mono (T.item X rfl rfl rfl hc i _ s σ H X.xe I (stat fri) sti go) (fun r s4 ⟨u, hr, h4⟩ => ?_) fun x s' hx => ee n s₀ x s' hx
        subst hr
        refine wpAny_mono h4 (fun _ s5 ⟨x, H5, I5, r5, y5, st5, fr5⟩ => ?_) fun x s' hx => ee n s₀ x s' hx
        have I5' := I5.pinned (stat fr5) (T.obj _ _ st5)
        refine wpAny_mono (hg.run _ s5 σ H5 x u _ I5' r5 (step x H5 y5)) (fun _ s6 ⟨σ6, H6, I6, q6⟩ => ?_) fun x s' hx => ee n s₀ x s' hx
        have hpS : ∀ p ∈ ip ++ pinsAt fp s5.heap, p.1 ≠ S := fun p hp => (List.mem_append.mp hp).elim (g0.ip p) fun z => nS p.1 (of_pinsAt z).1
        have gl2 : ∀ kk : Result → Sem PySem.Fin, GC X S (ip ++ pinsAt fp s5.heap) A (.forLoop tg (.ref it) body [] X.env) (.ret kk none (gd false) (lv []) c p [] :: fs) id := fun kk => ⟨(gl kk).pn, hpS, (gl kk).apart, (gl kk).over, (gl kk).split, (gl kk).guard, (gl kk).gd⟩
        have unpin : ∀ {ys' : List V} {σ7 : L2.St} {H7 : Hp} {s7 : Shared}, GI X S (ip ++ pinsAt fp s5.heap) ys' σ7 H7 s7 → GI X S ip ys' σ7 H7 s7 := fun ⟨a7, c7, r7, I7⟩ => ⟨a7, c7, r7, I7.pins_of fun q hq => I7.pin q (List.mem_append_right _ ((List.mem_cons.mp hq).elim (fun z => by rw [z]; exact List.mem_cons_self) fun z => List.mem_cons_of_mem _ (List.mem_append_left _ z)))⟩
        have again : ∀ {n' : Nat} {ys' : List V} {s₀' s7 : Shared} {σ7 : L2.St} {H7 : Hp}, n' + ys'.length = sizeLine → GI X S (ip ++ pinsAt fp s5.heap) ys' σ7 H7 s7 → N ys' σ7 H7 →
            Seg (model X.prog X.w) A R (GY X S) n' s₀' (.forLoop tg (.ref it) body [] X.env) (.pure (.again (.forLoop tg (.ref it) body [] X.env)))
              (.ret (fun r => ((match r with | .ok f => (.pure f : Sem Flow) | .error e => .raise e).onRaise (cameBack X.env)).wrap K J gd lv) none (gd false) (lv []) c p [] :: fs) s7 := fun {n' ys' s₀' s7 σ7 H7} hn' gi n7 => by
          obtain ⟨m', hm, w7⟩ := hN ys' σ7 H7 n7
          have gi0 := unpin gi
          obtain ⟨a7, c7, r7, I7⟩ := gi
          have pin : ∀ b ∈ fp, ∀ o, s5.heap.get? b = some o → s7.heap.get? b = some o ∧ H7 b = none := fun b hb o e => by
            have := I7.pin (b, o) (List.mem_append_right _ (List.mem_cons_of_mem _ (List.mem_append_right _ (mem_pinsAt hb e))))
            exact ⟨this.1, this.2.1⟩
          refine seg_again rfl (ih m' hm (i + 1) n' ys' s₀' s7 σ7 H7 hn' w7 gi0 (T.keep _ _ _ st5 fun b hb o e => (pin b hb o e).1) fun b hb => ?_)
          obtain ⟨o, e, _⟩ := T.obj _ _ st5 b hb
          exact (pin b hb o e).2
        refine hb.run A S (ip ++ pinsAt fp s5.heap) R n ys s₀ _ _ _ _ id id s6 σ6 H6 { D with nx := N, ct := N, bk := D.nx } (gl2 _) hn ⟨fun n' ys' s₀' s3 f hn' hs' => ?_, fun n' s₀' x s3 hx => ee n' s₀' x s3 hx⟩ ⟨acc, cc, r, I6⟩ q6
        cases f with
        | next =>
          obtain ⟨σ3, H3, I3, n3⟩ := hs'
          exact again hn' I3 n3
        | cont =>
          obtain ⟨σ3, H3, I3, n3⟩ := hs'
          exact again hn' I3 n3
        | brk =>
          obtain ⟨σ3, H3, I3, n3⟩ := hs'
          exact seg_leaf (.ok .next) (k.ok n' ys' s₀' s3 .next hn' ⟨σ3, H3, unpin I3, n3⟩)
        | ret v =>
          obtain ⟨v3, σ3, H3, I3, r3, n3⟩ := hs'
          exact seg_leaf (.ok (.ret v)) (k.ok n' ys' s₀' s3 (.ret v) hn' ⟨v3, σ3, H3, unpin I3, r3, n3⟩)
  exact loop m0 0 n ys s₀ s2 σ H2 hn w0 ⟨acc, cc, r, I2⟩ st2 fun b hb => (f2 b hb).1
end
end G
set_option Elab.async false
set_option linter.all false
set_option maxRecDepth 100000
set_option maxHeartbeats 4000000
namespace G
open PySem PySem.Spec PyProof.Rows L2
variable {P : Program} {w : World} {K : PySem.W.Frag} {mg : Str → Option Value} {base : Heap}
/-! ### equal points -/
def RQ (a b : Addr) (H : Hp) : Prop := ∃ n d, IsQ H a n d ∧ IsQ H b n d
def DNum : Eqv := fun x y H => DFlat x y H ∨ DIns aRatio RQ x y H
theorem RQ.ext (a b : Addr) (H H' : Hp) (e : Ext H H') (r : RQ a b H) : RQ a b H' := by
  obtain ⟨n, d, h1, h2⟩ := r
  exact ⟨n, d, h1.same e, h2.same e⟩
theorem mon_num : Mon DNum := mon_flat.or (mon_ins RQ.ext)
theorem sc_Ratio_eq : FnScope N_Ratio_eq P_Ratio_eq (defScope s_Ratio_eq) := ⟨rfl, rfl, rfl, by decide +kernel, rfl, by decide +kernel, by decide +kernel⟩
theorem Ratio_eq_fok (T : Txt K mg) : ∃ fd, FnOk P w K mg base CX0 1 f_Ratio_eq fd P_Ratio_eq (spEq RQ) ∧ Binds K fd P_Ratio_eq [] := by
  obtain ⟨fd, F⟩ := T.fd_Ratio_eq
  refine ⟨fd, fok_mk F sc_Ratio_eq ?_ ?_, F.bindsN (fun _ _ _ _ _ _ us h => match us, h with | [_, _], _ => rfl)⟩
  · rintro vs H Q E ⟨a, b, rfl, _⟩
    rfl
  · rintro cdv A outer s H vs Q E hr ⟨a, b, rfl, ⟨n, d, ⟨dx, h1⟩, ⟨dy, h2⟩⟩, q⟩
    have nd := sc_Ratio_eq.nd
    refine ⟨_, (pss_one (ps_ret (pe_and (pe_callB call_isi (by rfl) T.n_isinstance (by decide +kernel) (pa_cons (pv 1) (pa_cons (pe_glob rfl T.g_Ratio (v := .ref aRatio) rfl) pa_nil))) (pe_and (pe_cmpR op_eq (pe_fld (pv 0) rfl) (pe_fld (pv 1) rfl) (nomark _)) (pe_one (pe_cmpR op_eq (pe_fld (pv 0) rfl) (pe_fld (pv 1) rfl) (nomark _))))))), ?_⟩
    refine ⟨_, rfl, _, _, _, _, _, rfl, .own _, tyIns h2 T.ty_Ratio T.cl_Ratio, T.i_Ratio_Ratio, _, rfl, iteT ?_⟩
    refine ⟨_, rfl, _, _, _, _, _, rfl, h1, T.cl_Ratio, T.no_Ratio_over, rfl, _, rfl, _, _, _, _, _, rfl, h2, T.cl_Ratio, T.no_Ratio_over, rfl, rfl, _, rfl, iteTc (decide_eq_true rfl) ⟨_, rfl, _, _, _, _, _, rfl, h1, T.cl_Ratio, T.no_Ratio_under, rfl, _, rfl, _, _, _, _, _, rfl, h2, T.cl_Ratio, T.no_Ratio_under, rfl, rfl, ?_⟩⟩
    have z := q H Ext.rfl'
    rw [show decide (V.int d = V.int d) = true from decide_eq_true rfl]
    exact z
theorem eq_pt {H : Hp} {q : Pt} {v : V} {t y : Addr} (h : IsPq H q v) (ht : H t = some (.tup [.int q.1, .ref y])) (hy : IsQ H y q.2.1 q.2.2) : DTup K DNum v (.ref t) H := by
  obtain ⟨a, b, rfl, h1, h2⟩ := h
  have h2' := h2
  have hy' := hy
  obtain ⟨dx, h2⟩ := h2
  obtain ⟨dy, hy⟩ := hy
  refine ⟨a, t, _, _, rfl, rfl, SqT.of h1, SqT.of ht, Prs.cons (.inl ⟨rfl, rfl, ?_⟩) (Prs.cons (.inr ⟨b, y, dx, dy, _, _, rfl, rfl, h2, hy, _, _, h2', hy'⟩) Prs.nil)⟩
  show (q.1 == q.1) = true
  exact beq_self_eq_true _
theorem eqg_num {X : Cx} (T : Txt X.K X.mg) : EqG X 1 DNum := by
  obtain ⟨fd, F, B⟩ := Ratio_eq_fok (P := X.prog) (w := X.w) (base := X.base) T
  exact (eqG_flat.mono (by decide)).or (eqG_ins F T.m_Ratio_eq.at_ T.m_Ratio_eq.fn B pass0)
theorem eqg_pts {X : Cx} (T : Txt X.K X.mg) : RcG X 3 (DTup X.K (DTup X.K DNum)) := rcG_tup (mon_tup mon_num) (eqG_tup mon_num (eqg_num T))
theorem prs_pq {H : Hp} {ps : List Pt} : ∀ {xs ys : List V}, Pqs H ps xs → Pqs H ps ys → Prs (DTup K DNum) xs ys H := by
  induction ps with
  | nil =>
    intro xs ys h1 h2
    cases h1
    cases h2
    exact Prs.nil
  | cons a t ih =>
    intro xs ys h1 h2
    cases h1 with
    | cons f1 r1 =>
      cases h2 with
      | cons f2 r2 =>
        obtain ⟨a2, b2, rfl, h3, h4⟩ := f2
        exact Prs.cons (eq_pt f1 h3 h4) (ih r1 r2)
def RSer (a b : Addr) (H : Hp) : Prop := ∃ ps, IsSer H a ps ∧ IsSer H b ps
theorem RSer.ext (a b : Addr) (H H' : Hp) (e : Ext H H') (r : RSer a b H) : RSer a b H' := by
  obtain ⟨ps, h1, h2⟩ := r
  exact ⟨ps, h1.kp (Kp.of (S := aStore) e), h2.kp (Kp.of (S := aStore) e)⟩
theorem sc_Series_eq : FnScope N_Series_eq P_Series_eq (defScope s_Series_eq) := ⟨rfl, rfl, rfl, by decide +kernel, rfl, by decide +kernel, by decide +kernel⟩
theorem Series_eq_fok (T : Txt K mg) : ∃ fd, FnOk P w K mg base CX0 4 f_Series_eq fd P_Series_eq (spEq RSer) ∧ Binds K fd P_Series_eq [] := by
  obtain ⟨fd, F⟩ := T.fd_Series_eq
  refine ⟨fd, fok_mk F sc_Series_eq ?_ ?_, F.bindsN (fun _ _ _ _ _ _ us h => match us, h with | [_, _], _ => rfl)⟩
  · rintro vs H Q E ⟨a, b, rfl, _⟩
    rfl
  · rintro cdv A outer s H vs Q E hr ⟨a, b, rfl, ⟨ps, ⟨dx, pt, lk, rd, xs, h1, i2, i3, i4⟩, ⟨dy, pt2, lk2, rd2, ys, h2, j2, j3, j4⟩⟩, q⟩
    have nd := sc_Series_eq.nd
    refine ⟨_, (pss_one (ps_ret (pe_and (pe_callB call_isi (by rfl) T.n_isinstance (by decide +kernel) (pa_cons (pv 1) (pa_cons (pe_glob rfl T.g_Series (v := .ref aSeries) rfl) pa_nil))) (pe_one (pe_cmpR (op_eqG (eqg_pts T) (hr.mono (by decide))) (pe_fld (pv 0) rfl) (pe_fld (pv 1) rfl) (nomark _)))))), ?_⟩
    refine ⟨_, rfl, _, _, _, _, _, rfl, .own _, tyIns h2 T.ty_Series T.cl_Series, T.i_Series_Series, _, rfl, iteT ?_⟩
    exact ⟨_, rfl, _, _, _, _, _, rfl, h1, T.cl_Series, T.no_Series_points, rfl, _, rfl, _, _, _, _, _, rfl, h2, T.cl_Series, T.no_Series_points, rfl, ⟨pt, pt2, xs, ys, rfl, rfl, i2.sq, j2.sq, prs_pq i3 j3⟩, fun H' e => q H' e⟩
theorem eqg_ser {X : Cx} (T : Txt X.K X.mg) : EqG X 4 (DIns aSeries RSer) := by
  obtain ⟨fd, F, B⟩ := Series_eq_fok (P := X.prog) (w := X.w) (base := X.base) T
  exact eqG_ins F T.m_Series_eq.at_ T.m_Series_eq.fn B pass0
theorem tab_eq {H : Hp} {a b : Addr} {ka kb : List (Key × V)} {rows : List Row} (ha : TabD H ka rows) (hb : TabD H kb rows) (n : (rows.map (·.1)).Nodup) (e1 : H a = some (.dK ka)) (e2 : H b = some (.dK kb)) : DDict (DIns aSeries RSer) (.ref a) (.ref b) H := by
  refine ⟨a, b, ka, kb, rfl, rfl, e1, e2, ha.length.symm.trans hb.length, fun k v hm => ?_⟩
  obtain ⟨i, hi⟩ := List.getElem?_of_mem hm
  obtain ⟨r, hr, f1, x, f2, f3⟩ := paired_at _ ha hi
  obtain ⟨⟨k2, v2⟩, hi2, g1, y, g2, g3⟩ := pair_at i hb hr
  dsimp only at f1 f2 g1 g2
  subst f1 f2 g1 g2
  refine ⟨.ref y, valV_at (hb.nd n) hi2, fun H' st => ?_⟩
  have kp : Kp aStore H H' := fun c o i e => st c o (ne_of e e1 (by intro z; subst z; exact i.elim)) (ne_of e e2 (by intro z; subst z; exact i.elim)) e
  have f4 := f3.kp kp
  have g4 := g3.kp kp
  obtain ⟨dx, pt, lk, rd, xs, h1, _⟩ := f4
  obtain ⟨dy, pt2, lk2, rd2, ys, h2, _⟩ := g4
  exact ⟨x, y, dx, dy, _, _, rfl, rfl, h1, h2, r.2, f3.kp kp, g3.kp kp⟩
theorem cpsU_of {s : String} : ∀ c ∈ (Str.ofString s).cps.toList, c < 0x110000 := by
  intro c hc
  have e : (Str.ofString s).cps.toList = s.toList.map Char.toNat := PyProof.Rows.signs_ofString s
  rw [e] at hc
  obtain ⟨d, _, rfl⟩ := List.mem_map.mp hc
  have h := d.valid
  show d.val.toNat < _
  rcases h with h | ⟨_, h⟩
  · exact Nat.lt_trans h (by decide)
  · exact h
theorem strOk_of {x : Str} (h : ∀ c ∈ x.cps.toList, c < 0x110000) : PyData.strOk x = true := by
  unfold PyData.strOk
  rw [← Array.all_toList, List.all_eq_true]
  exact fun c hc => decide_eq_true (h c hc)
theorem NameOk.strOk {z : Str} (h : NameOk z) : PyData.strOk z = true := strOk_of fun c hc => cpsU_of c (h.2.2 c hc)
theorem canLayAll_map {α : Type} {f : α → PyData} : ∀ {l : List α}, (∀ a ∈ l, (f a).canLay0 = true) → PyData.canLayAll0 (l.map f) = true := by
  intro l
  induction l with
  | nil => intro _; rfl
  | cons a t ih =>
    intro h
    rw [List.map_cons]
    unfold PyData.canLayAll0
    rw [h a List.mem_cons_self, ih fun b hb => h b (List.mem_cons_of_mem _ hb)]
    rfl
theorem depthAll_map {α : Type} {f : α → PyData} {n : Nat} : ∀ {l : List α}, (∀ a ∈ l, (f a).depth ≤ n) → PyData.depthAll (l.map f) ≤ n := by
  intro l
  induction l with
  | nil => intro _; rw [List.map_nil]; simp [PyData.depthAll]
  | cons a t ih =>
    intro h
    have h1 := h a List.mem_cons_self
    have h2 := ih fun b hb => h b (List.mem_cons_of_mem _ hb)
    rw [List.map_cons]
    simp only [PyData.depthAll]
    omega
def namesD (rows : List Row) : PyData := .tuple (rows.map fun r => .str r.1)
theorem names_shaped {rows : List Row} (h : ∀ r ∈ rows, NameOk r.1) : SeqAt.shaped (namesD rows) = true := by
  unfold SeqAt.shaped namesD
  refine Bool.and_eq_true_iff.mpr ⟨?_, decide_eq_true ?_⟩
  · unfold PyData.canLay0
    exact canLayAll_map fun r hr => by
      unfold PyData.canLay0
      exact (h r hr).strOk
  · have := depthAll_map (f := fun r : Row => PyData.str r.1) (n := 1) (l := rows) fun r _ => by simp [PyData.depth]
    simp only [PyData.depth]
    omega
theorem names_dp {H : Hp} {t : Addr} {rows : List Row} (h : H t = some (.tup (rows.map fun r => V.str r.1))) : Dp K H (.ref t) (namesD rows) := by
  refine .tup (SqT.of h) ?_
  clear h
  induction rows with
  | nil => exact .nil
  | cons a r ih => exact .cons (.str _) ih
def sp_Store_eq : Sp := fun vs H Q _ => ∃ p q l mo rows d1 d2 past1 past2, vs = [.ref p, .ref q] ∧ StoreH H p l ⟨mo, rows, d1⟩ past1 ∧ StoreH H q l ⟨mo, rows, d2⟩ past2 ∧ (rows.map (·.1)).Nodup ∧ (∀ r ∈ rows, NameOk r.1) ∧ ∀ H', Same H H' → Q (.bl true) H'
theorem sc_Store_eq : FnScope N_Store_eq P_Store_eq (defScope s_Store_eq) := ⟨rfl, rfl, rfl, by decide +kernel, rfl, by decide +kernel, by decide +kernel⟩
theorem Store_eq_ok (T : Txt K mg) : FnR P w K mg base CX0 6 f_Store_eq sp_Store_eq := by
  refine fr_mk (ps := P_Store_eq) (N := N_Store_eq) T.fd_Store_eq sc_Store_eq (fun _ _ _ _ _ _ us h => match us, h with | [_, _], _ => rfl) ?_ ?_
  · rintro vs H Q E ⟨p, q, l, mo, rows, d1, d2, past1, past2, rfl, _⟩
    rfl
  · rintro cdv A outer s0 H vs Q E hr ⟨p, q, l, mo, rows, d1, d2, past1, past2, rfl, hs1, hs2, hnd, hnm, qq⟩
    have nd := sc_Store_eq.nd
    have hs10 := hs1
    have hs20 := hs2
    obtain ⟨dx, st, pa, pvs, hp, ⟨dx2, tb, dd, dv, kvs, h1, h2, h3, h4, h5⟩, hpa, hpv⟩ := hs1
    obtain ⟨dy, st2, pa2, pvs2, hq, ⟨dy2, tb2, dd2, dv2, kvs2, g1, g2, g3, g4, g5⟩, gpa, gpv⟩ := hs2
    refine ⟨_, (pss_cons (ps_if (PW.pt (pw_or (pt_not (pt_val (pe_callB call_isi (by rfl) T.n_isinstance (by decide +kernel) (pa_cons (pv 1) (pa_cons (pe_glob rfl T.g_Store (v := .ref aStore) rfl) pa_nil))))) (pw_or (pt_cmpR op_ne (pe_fld (pv 0) rfl) (pe_fld (pv 1) rfl) (nomark _)) (pw_or1 (pt_cmpR op_ne (pe_fld (pe_fld (pv 0) rfl) rfl) (pe_fld (pe_fld (pv 1) rfl) rfl) (nomark _)))))) (pss_one (ps_ret pe_bl)) pss_nil) (pss_one (ps_ret (pe_and (pe_cmpR (op_eqD hr.units) (pe_propR (pv 0) T.cl_Store T.p_Store_names (Store_names_ok T) (hr.mono (by decide)) pass0 rfl) (pe_propR (pv 1) T.cl_Store T.p_Store_names (Store_names_ok T) (hr.mono (by decide)) pass0 rfl) (nomark _)) (pe_one (pe_cmpR (op_eqG (rcG_dict (eqg_ser T)) (hr.mono (by decide))) (pe_fld (pe_fld (pv 0) rfl) rfl) (pe_fld (pe_fld (pv 1) rfl) rfl) (nomark _))))))), ?_⟩
    refine ⟨_, rfl, _, _, _, _, _, rfl, .own _, tyIns hq T.ty_Store T.cl_Store, T.i_Store_Store, _, rfl, iteF ?_⟩
    refine ⟨_, rfl, _, _, _, _, _, rfl, hp, T.cl_Store, T.no_Store_limit, rfl, _, rfl, _, _, _, _, _, rfl, hq, T.cl_Store, T.no_Store_limit, rfl, rfl, _, rfl, iteFc (by rw [decide_eq_true rfl]; rfl) ?_⟩
    refine ⟨_, rfl, _, _, _, _, _, rfl, hp, T.cl_Store, T.no_Store_state, rfl, _, _, _, _, _, rfl, h1, T.cl_StoreState, T.no_StoreState_moment, rfl, _, rfl, _, _, _, _, _, rfl, hq, T.cl_Store, T.no_Store_state, rfl, _, _, _, _, _, rfl, g1, T.cl_StoreState, T.no_StoreState_moment, rfl, rfl, _, rfl, iteFc (by rw [decide_eq_true rfl]; rfl) ?_⟩
    refine ⟨_, rfl, _, _, _, rfl, hp, p, l, _, past1, rfl, hs10, fun t ht => ?_⟩
    have s1 := same_new (o := .tup (rows.map fun r => V.str r.1)) ht
    refine ⟨_, rfl, _, _, _, rfl, s1 _ _ hq, q, l, _, past2, rfl, hs20.same s1, fun t2 ht2 => ?_⟩
    have s2 := same_new (o := .tup (rows.map fun r => V.str r.1)) ht2
    have s12 := s1.trans s2
    refine ⟨namesD rows, namesD rows, names_dp (s2 _ _ upd_same), names_dp upd_same, names_shaped hnm, names_shaped hnm, _, rfl, iteTc (PySem.SeqAt.eqv_refl _ (SeqAt.canLay_of_shaped (names_shaped hnm))) ?_⟩
    refine ⟨_, rfl, _, _, _, _, _, rfl, s12 _ _ hp, T.cl_Store, T.no_Store_state, rfl, _, _, _, _, _, rfl, s12 _ _ h1, T.cl_StoreState, T.no_StoreState_table, rfl, _, rfl, _, _, _, _, _, rfl, s12 _ _ hq, T.cl_Store, T.no_Store_state, rfl, _, _, _, _, _, rfl, s12 _ _ g1, T.cl_StoreState, T.no_StoreState_table, rfl, tab_eq (h3.kp (Kp.of s12)) (g3.kp (Kp.of s12)) hnd (s12 _ _ h2) (s12 _ _ g2), fun H' e => qq H' (s12.trans e)⟩
/-! ### history -/
def sp_history : SpG := fun vs H Q _ => ∃ p l s past, vs = [.ref p] ∧ StoreH H p l s past ∧ s.ds.length ≤ sizeLine ∧ ∀ dv, Paired (DeedAt H) s.ds dv → Q dv H
theorem gsc_Store_history : GScope N_Store_history P_Store_history (defScope s_Store_history) := ⟨rfl, rfl, rfl, by decide +kernel, rfl, by decide +kernel, by decide +kernel⟩
theorem Store_history_fn (T : Txt K mg) : ∃ fd, GFn P w K mg base 2 f_Store_history fd P_Store_history sp_history ∧ Binds K fd P_Store_history [] := by
  obtain ⟨fd, F⟩ := T.fd_Store_history
  have B := F.bindsN (ps := P_Store_history) (fun _ _ _ _ _ _ us h => match us, h with | [_], _ => rfl)
  obtain ⟨oc, od, dV, kV, doc, pm, an, cdv, ct, osl, rfl, lk, hcd, _, _⟩ := F.ex
  refine ⟨_, gfn_of lk hcd gsc_Store_history ?_ ?_, B⟩
  · rintro vs H Q E ⟨p, l, s, past, rfl, _⟩
    rfl
  · rintro A outer s0 H vs Q E pn hr ⟨p, l, s, past, rfl, ⟨dx, st, pa, pvs, hp, ⟨dx2, tb, dd, dv, kvs, h1, h2, h3, h4, h5⟩, hpa, hpv⟩, hz, q⟩
    have nd := gsc_Store_history.nd
    have hdl : dv.length = s.ds.length := h5.length.symm
    refine ⟨_, gss_cons (gs_for owns_gcx rfl (pi_tup (pe_fld (pe_fld (pv 0) rfl) rfl)) (pg_name (i := 1) nd rfl (Or.inl rfl)) (gss_cons (gs_yield (pv 1)) gss_nil)) gss_nil, ?_⟩
    refine ⟨_, rfl, _, _, _, _, _, rfl, hp, T.cl_Store, T.no_Store_state, rfl, _, _, _, _, _, rfl, h1, T.cl_StoreState, T.no_StoreState_deeds, rfl, _, rfl, ⟨_, SqT.of h4⟩, ?_⟩
    have w := walk_tup (K := K) (a := dd) (xs := dv)
    refine ⟨fun i m ys σ H' => m = dv.length - i ∧ i ≤ dv.length ∧ H' = H ∧ ys = dv.take i ∧ ∃ x, σ = [some (.ref p), x], ⟨_, rfl, Nat.zero_le _, rfl, rfl, _, rfl⟩, ?_⟩
    rintro i m ys σ H' ⟨rfl, hi, rfl, rfl, x, rfl⟩
    by_cases hlt : i < dv.length
    · refine .inr ⟨w.goes i H' hlt (SqT.of h4), fun ys σ H2 => H2 = H' ∧ ys = dv.take (i + 1) ∧ ∃ x, σ = [some (.ref p), x], ?_, ?_⟩
      · rintro ys σ H2 ⟨rfl, rfl, x, rfl⟩
        exact ⟨dv.length - (i + 1), by omega, rfl, hlt, rfl, rfl, _, rfl⟩
      · intro x2 H2 y
        obtain ⟨rfl, hx⟩ := w.yields i H' x2 H2 hlt (SqT.of h4) y
        refine ⟨by rw [List.length_take]; omega, _, rfl, ⟨rfl, ?_, _, rfl⟩⟩
        rw [List.take_succ, hx]
        rfl
    · have e : i = dv.length := by omega
      subst e
      refine .inl ⟨w.stops H' (SqT.of h4), ?_⟩
      have := q dv h5
      rw [← List.take_length (l := dv)] at this
      exact this
theorem pass00 {X : Cx} : Passes (CX X.prog X.w) X E0 := fun _ _ _ _ _ _ _ ⟨_, _, _, _, _, _, _, _, _, _, _, _, h⟩ => h.elim
theorem nostop0 {K : PySem.W.Frag} : NoStop K E0 := fun _ _ _ h => h.elim
/-- repr of a bool -/
theorem call_reprB {X : Cx} : CallR X (.builtin "repr") (fun xs H Q => ∃ b, xs = [.bl b] ∧ Q (.str (if b then "True" else "False")) H) := by
  intro pins s σ H xs us Q I r h
  obtain ⟨b, rfl, q⟩ := h
  obtain ⟨u, rfl, ru⟩ := vals1 r
  obtain rfl : u = .bool b := ru
  exact PySem.P.repr_of_bool ⟨.str (if b then "True" else "False"), H, I.tok _, ⟨_, rfl⟩, q⟩
end G
set_option Elab.async false
set_option linter.all false
set_option maxRecDepth 100000
set_option maxHeartbeats 4000000
namespace G
open PySem PySem.Spec PyProof.Rows L2
variable {P : Program} {w : World} {K : PySem.W.Frag} {mg : Str → Option Value} {base : Heap}
/-- a text * an int -/
theorem op_mulStr {X : Cx} : OpR X (binaryOp .Mult) (fun x y H Q => ∃ z n, x = .str z ∧ y = .int n ∧ MulOk z n ∧ Q (.str (Txt.mul z n)) H) := by
  intro pins s σ H x y v u Q I rx ry h
  obtain ⟨z, n, rfl, rfl, ok, q⟩ := h
  obtain ⟨t, rfl⟩ := rx
  obtain ⟨t', rfl⟩ := ry
  exact SB.mul ok fun t' k => ⟨.str (Txt.mul z n), H, I.tok _, ⟨_, rfl⟩, q⟩
/-! ### what deeds lead to -/
def applyD (l : Nat) (s : Snap) (de : Deed) : Snap := ⟨(afterR l s.mo s.rows de).1, (afterR l s.mo s.rows de).2, s.ds ++ [de]⟩
def runD (l : Nat) (ds : List Deed) : Snap := ds.foldl (applyD l) ⟨0, [], []⟩
theorem run_snoc {l : Nat} {ds : List Deed} {de : Deed} : runD l (ds ++ [de]) = applyD l (runD l ds) de := by
  unfold runD
  rw [List.foldl_append]
  rfl
theorem run_ds {l : Nat} : ∀ ds : List Deed, (runD l ds).ds = ds := by
  suffices h : ∀ (ds : List Deed) (s : Snap), (ds.foldl (applyD l) s).ds = s.ds ++ ds by
    intro ds
    have := h ds ⟨0, [], []⟩
    exact this
  intro ds
  induction ds with
  | nil => intro s; rw [List.append_nil]; rfl
  | cons a t ih =>
    intro s
    rw [List.foldl_cons, ih]
    show (s.ds ++ [a]) ++ t = s.ds ++ (a :: t)
    rw [List.append_assoc]
    rfl
def pastOf (l : Nat) (ds : List Deed) : List Snap := (List.range ds.length).map fun i => runD l (ds.take i)
theorem past_len {l : Nat} {ds : List Deed} : (pastOf l ds).length = ds.length := by
  unfold pastOf
  rw [List.length_map, List.length_range]
theorem past_snoc {l : Nat} {ds : List Deed} {de : Deed} : pastOf l (ds ++ [de]) = pastOf l ds ++ [runD l ds] := by
  unfold pastOf
  rw [List.length_append, List.length_singleton, List.range_succ, List.map_append, List.map_singleton, List.take_append_of_le_length (Nat.le_refl _), List.take_length]
  congr 1
  refine List.map_congr_left fun i hi => ?_
  rw [List.take_append_of_le_length (Nat.le_of_lt (List.mem_range.mp hi))]
/-- a store to which deeds were done -/
def StoreD (H : Hp) (p : Addr) (l : Nat) (ds : List Deed) : Prop := StoreH H p l (runD l ds) (pastOf l ds)
theorem StoreD.step {H : Hp} {p : Addr} {l : Nat} {ds : List Deed} {de : Deed} (h : StoreH H p l (applyD l (runD l ds) de) (pastOf l ds ++ [runD l ds])) : StoreD H p l (ds ++ [de]) := by
  unfold StoreD
  rw [run_snoc, past_snoc]
  exact h
theorem StoreD.same {H H' : Hp} {p : Addr} {l : Nat} {ds : List Deed} (h : StoreD H p l ds) (s : Same H H') : StoreD H' p l ds := StoreH.same h s
theorem StoreD.some {H : Hp} {p : Addr} {l : Nat} {ds : List Deed} (h : StoreD H p l ds) : ∃ dx fs, H p = Option.some (.ins aStore dx fs) ∧ ∃ st pa : Addr, fs = ([("limit", .int l), ("state", .ref st), ("past", .ref pa)] : List (Str × V)) := StoreH.some h
def DeedV (s : Snap) : Deed → Prop
  | .now m => s.mo ≤ m ∧ m ≤ s.mo + 10 ^ 28
  | .drop nm => NameOk nm ∧ (s.rows.any fun r => decide (r.1 = nm)) = true
  | .set nm ps => NameOk nm ∧ RiseP ps ∧ ps.length ≤ 5 ∧ ∀ x ∈ ps, PtB x ∧ x.1 ≤ s.mo
  | .look nm p => NameOk nm ∧ PtB p ∧ p.1 ≤ s.mo
inductive Vd (l : Nat) : List Deed → Prop
  | nil : Vd l []
  | snoc {ds : List Deed} {de : Deed} : Vd l ds → DeedV (runD l ds) de → Vd l (ds ++ [de])
theorem Vd.last {l : Nat} {ds : List Deed} {de : Deed} (h : Vd l (ds ++ [de])) : Vd l ds ∧ DeedV (runD l ds) de := by
  generalize e : ds ++ [de] = xs at h
  cases h with
  | nil => exact absurd e (by simp)
  | snoc h1 h2 =>
    obtain ⟨e1, e2⟩ := List.append_inj' e rfl
    cases e2
    subst e1
    exact ⟨h1, h2⟩
theorem snoc_of {α : Type} {xs : List α} (h : xs ≠ []) : ∃ a b, xs = a ++ [b] := ⟨xs.dropLast, xs.getLast h, (List.dropLast_concat_getLast h).symm⟩
structure Good (l n : Nat) (s : Snap) : Prop where
  ok : RowsOk l s.rows
  bd : RowsB (n + 5) s.rows
  m0 : 0 ≤ s.mo
  m1 : s.mo ≤ 10 ^ 28 * n
theorem Good.step {l n : Nat} {s : Snap} {de : Deed} (h : Good l n s) (v : DeedV s de) : Good l (n + 1) (applyD l s de) := by
  obtain ⟨ok, bd, m0, m1⟩ := h
  have e28 : (10 : Int) ^ 28 * ((n + 1 : Nat) : Int) = 10 ^ 28 * (n : Int) + 10 ^ 28 := by
    rw [Int.natCast_add, Int.mul_add]
    rfl
  have up : ∀ {rows : List Row}, RowsB (n + 5) rows → RowsB (n + 1 + 5) rows := fun h => ⟨Nat.le_trans h.len (by omega), fun r hr => ⟨(h.row r hr).1, Nat.le_trans (h.row r hr).2.1 (by omega), (h.row r hr).2.2⟩⟩
  cases de with
  | now m =>
    obtain ⟨v1, v2⟩ := v
    refine ⟨ok, up bd, ?_, ?_⟩
    · show 0 ≤ m
      omega
    · show m ≤ _
      rw [e28]
      omega
  | drop nm =>
    refine ⟨⟨?_, fun r hr => ok.ok r (List.mem_filter.mp hr).1⟩, ⟨?_, fun r hr => (up bd).row r (List.mem_filter.mp hr).1⟩, m0, ?_⟩
    · exact ok.nd.sublist ((List.filter_sublist).map _)
    · exact Nat.le_trans (List.length_filter_le _ _) (up bd).len
    · rw [e28]
      show s.mo ≤ _
      omega
  | set nm ps =>
    obtain ⟨v1, v2, v3, v4⟩ := v
    have hl := lastN_len l ps
    refine ⟨ok.put (lastN_rise v2) hl.1 fun x hx => (v4 x (lastN_mem hx)).1.ok, ?_, m0, ?_⟩
    · have := bd.put (nm := nm) (pts := lastN l ps) v1 (by omega) fun x hx => (v4 x (lastN_mem hx)).1
      exact this
    · rw [e28]
      show s.mo ≤ _
      omega
  | look nm p =>
    obtain ⟨v1, v2, v3⟩ := v
    obtain ⟨o, b⟩ := look_ok ok bd v1 v2
    refine ⟨o, b, m0, ?_⟩
    rw [e28]
    show s.mo ≤ _
    omega
theorem Vd.good {l : Nat} {ds : List Deed} (h : Vd l ds) : Good l ds.length (runD l ds) := by
  induction h with
  | nil => exact ⟨⟨.nil, fun r hr => nomatch hr⟩, ⟨Nat.zero_le _, fun r hr => nomatch hr⟩, Int.le_refl 0, Int.le_refl 0⟩
  | snoc h v ih =>
    rw [run_snoc, List.length_append]
    exact ih.step v
theorem deedD_fit {l n : Nat} {s : Snap} {de : Deed} (h : Good l n s) (hn : n ≤ 100) (v : DeedV s de) : Fit (deedD de) 5 600 := by
  obtain ⟨ok, bd, m0, m1⟩ := h
  have k : ∀ m : Int, 0 ≤ m → m ≤ s.mo + 10 ^ 28 → m.natAbs < 10 ^ 40 := fun m h0 h1 => by omega
  have tx : ∀ (x : String) (q : (Str.ofString x).length ≤ 8), Fit (.str (Str.ofString x)) 1 8 := fun x q => Fit.str cps_of q
  cases de with
  | now m =>
    obtain ⟨v1, v2⟩ := v
    have := (Fits.cons (tx "now" (by decide)) (Fits.cons (Fit.int (k m (by omega) v2)) Fits.nil)).tup
    exact this.le (by decide) (by decide)
  | drop nm =>
    have := (Fits.cons (tx "drop" (by decide)) (Fits.cons (name_fit v.1) Fits.nil)).tup
    exact this.le (by decide) (by decide)
  | set nm ps =>
    obtain ⟨v1, v2, v3, v4⟩ := v
    have f := (Fits.map (f := ptD) fun p hp => ptD_fit (v4 p hp).1).list
    have g : (85 + 1) * ps.length ≤ 86 * 5 := Nat.mul_le_mul_left _ v3
    have := (Fits.cons ((tx "set" (by decide)).le (by decide) (Nat.le_refl _)) (Fits.cons ((name_fit v1).le (by decide) (Nat.le_refl _)) (Fits.cons (f.le (Nat.le_refl _) g) Fits.nil))).tup
    exact this.le (by decide) (by decide)
  | look nm p =>
    obtain ⟨v1, v2, v3⟩ := v
    have := (Fits.cons (tx "look" (by decide)) (Fits.cons (name_fit v1) (Fits.cons (Fit.int v2.1) (Fits.cons (showQ_fit v2.2.2.1 v2.2.2.2.2.1) Fits.nil)))).tup
    exact this.le (by decide) (by decide)
theorem cpsU_app {x y : Str} (h1 : ∀ c ∈ x.cps.toList, c < 0x110000) (h2 : ∀ c ∈ y.cps.toList, c < 0x110000) : ∀ c ∈ (x ++ y).cps.toList, c < 0x110000 := by
  intro c hc
  have e : (x ++ y).cps.toList = x.cps.toList ++ y.cps.toList := by
    show (x.cps ++ y.cps).toList = _
    exact Array.toList_append
  rw [e] at hc
  rcases List.mem_append.mp hc with z | z
  · exact h1 c z
  · exact h2 c z
theorem showQ_U {n d : Int} : PyData.strOk (showQ n d) = true := by
  unfold showQ
  split
  · exact strOk_of cpsU_of
  · exact strOk_of (cpsU_app (cpsU_app cpsU_of cpsU_of) cpsU_of)
theorem lay_nil : PyData.canLayAll0 [] = true := by unfold PyData.canLayAll0; rfl
theorem lay_cons {d : PyData} {ds : List PyData} (h : d.canLay0 = true) (r : PyData.canLayAll0 ds = true) : PyData.canLayAll0 (d :: ds) = true := by
  unfold PyData.canLayAll0
  rw [h, r]
  rfl
theorem lay_str {x : Str} (h : PyData.strOk x = true) : (PyData.str x).canLay0 = true := by unfold PyData.canLay0; exact h
theorem lay_int {i : Int} : (PyData.int i).canLay0 = true := by unfold PyData.canLay0; rfl
theorem lay_tup {ds : List PyData} (h : PyData.canLayAll0 ds = true) : (PyData.tuple ds).canLay0 = true := by unfold PyData.canLay0; exact h
theorem lay_list {ds : List PyData} (h : PyData.canLayAll0 ds = true) : (PyData.list ds).canLay0 = true := by unfold PyData.canLay0; exact h
theorem ptD_lay (p : Pt) : (ptD p).canLay0 = true := lay_tup (lay_cons lay_int (lay_cons (lay_str showQ_U) lay_nil))
theorem deedD_lay {s : Snap} {de : Deed} (v : DeedV s de) : (deedD de).canLay0 = true := by
  cases de with
  | now m => exact lay_tup (lay_cons (lay_str (strOk_of cpsU_of)) (lay_cons lay_int lay_nil))
  | drop nm => exact lay_tup (lay_cons (lay_str (strOk_of cpsU_of)) (lay_cons (lay_str v.1.strOk) lay_nil))
  | set nm ps => exact lay_tup (lay_cons (lay_str (strOk_of cpsU_of)) (lay_cons (lay_str v.1.strOk) (lay_cons (lay_list (canLayAll_map fun p _ => ptD_lay p)) lay_nil)))
  | look nm p => exact lay_tup (lay_cons (lay_str (strOk_of cpsU_of)) (lay_cons (lay_str v.1.strOk) (lay_cons lay_int (lay_cons (lay_str showQ_U) lay_nil))))
theorem list_shaped {α : Type} {f : α → PyData} {l : List α} (h1 : ∀ a ∈ l, (f a).canLay0 = true) (h2 : ∀ a ∈ l, (f a).depth ≤ 60) : SeqAt.shaped (.list (l.map f)) = true := by
  unfold SeqAt.shaped
  refine Bool.and_eq_true_iff.mpr ⟨lay_list (canLayAll_map h1), decide_eq_true ?_⟩
  have := depthAll_map h2
  simp only [PyData.depth]
  omega
theorem eqv_emp {α : Type} {f : α → PyData} (l : List α) : PyData.eqv (.list (l.map f)) (.list []) = l.isEmpty := by
  cases l <;> rfl
theorem paired_get {α : Type} {f : α → V} {ps : List α} {l : List V} (h : Paired (fun (i : Nat) v => ∃ q, ps[i]? = some q ∧ v = f q) (List.range ps.length) l) : l = ps.map f := by
  have := paired_of (F := fun q v => v = f q) h
  clear h
  induction this with
  | nil => rfl
  | cons f _ ih => rw [f, ih]; rfl
theorem txts_sum {ps : List Pt} (h : ∀ p ∈ ps, PtB p) : ((ps.map txtP).map (·.length)).sum ≤ 127 * ps.length := by
  induction ps with
  | nil => exact Nat.le_refl _
  | cons a t ih =>
    have h1 := txtP_len (h a List.mem_cons_self)
    have h2 := ih fun p hp => h p (List.mem_cons_of_mem _ hp)
    simp only [List.map_cons, List.sum_cons, List.length_cons]
    omega
/-! ### a series by its text -/
def sp_law_series : Sp := fun vs H Q _ => ∃ (pl : Addr) (ys : List V) (ps : List Pt), vs = [.ref pl] ∧ H pl = some (.lst ys) ∧ Pds H ps ys ∧ ps.length ≤ 5000 ∧ RiseP ps ∧ (∀ x ∈ ps, PtB x) ∧ ∀ H' a, Same H H' → IsSer H' a ps → Q (.ref a) H'
theorem sc_law_series : FnScope N_law_series P_law_series (defScope s_law_series) := ⟨rfl, rfl, rfl, by decide +kernel, rfl, by decide +kernel, by decide +kernel⟩
theorem law_series_ok (T : Txt K mg) : FnR P w K mg base CX0 13 f_law_series sp_law_series := by
  refine fr_mk (ps := P_law_series) (N := N_law_series) T.fd_law_series sc_law_series (fun _ _ _ _ _ _ us h => match us, h with | [_], _ => rfl) ?_ ?_
  · rintro vs H Q E ⟨pl, ys, ps, rfl, _⟩
    rfl
  · rintro cdv A outer s H vs Q E hr ⟨pl, ys, ps, rfl, hpl, hys, hz, hri, hok, q⟩
    have nd := sc_law_series.nd
    refine ⟨_, (pss_one (ps_ret (ClX.pe_cmeth (pe_glob rfl T.g_Series (v := .ref aSeries) rfl) T.rd_Series T.cm_Series_read (Series_read_ok T) (hr.mono (by decide)) pass0 (pa_cons (pe_ifExp (pt_cmpR (op_neD hr.units) (pv 0) (pe_lst pa_nil) (nomark _)) (pe_join pe_str (pe_lc (own := [("moment", 1), ("text", 2)]) (g := (gTup K 2 (gCons (gName 1) (gCons (gName 2) gNil)))) (tt := tYes) (by rfl) nd (pi_list (pv 0)) (blkOk_by (own := [("moment", 1), ("text", 2)]) (N := N_law_series) (sc := defScope s_law_series) (by decide +kernel)) (fun _ _ _ _ _ => (pg_tup rfl (pgs_cons (pg_name (i := 1) nd rfl (Or.inl rfl)) (pgs_cons (pg_name (i := 2) nd rfl (Or.inl rfl)) pgs_nil)))) (fun _ _ _ _ _ => pts_nil) (fun _ _ _ _ _ => (pe_op op_add_str (pe_op op_add_str (pe_callTy call_str_int (by rfl) T.n_str (by decide +kernel) (pa_cons (pv 1) pa_nil)) pe_str) (pv 2))))) pe_str) pa_nil)))), ?_⟩
    have l1m := line1m
    refine ⟨rfl, _, rfl, by show 0 ≤ sizeLine; decide, fun l0 hl0 => ?_⟩
    have s0 := same_new (o := .lst []) hl0
    have hpl0 := s0 _ _ hpl
    have hys0 := hys.same s0
    refine ⟨.list (ps.map ptD), .list [], DA.dp (N := fun _ => True) _ _ (.lst hpl0 trivial (das_of (hys0.mono fun _ _ h => h.da))), .lst (SqL.of upd_same) .nil, list_shaped (fun p _ => ptD_lay p) (fun p hp => Nat.le_trans (ptD_fit (hok p hp)).dp (by decide)), PySem.W.ke_shaped_ints [], _, rfl, ?_⟩
    rw [eqv_emp]
    cases e : ps with
    | nil =>
      subst e
      refine iteF ?_
      exact ⟨[], rfl, Nat.zero_le _, .nil, (fun p hp => nomatch hp), fun H2 a s2 is => q H2 a (s0.trans s2) is⟩
    | cons p0 pt =>
      rw [← e]
      have hne : ps ≠ [] := by rw [e]; exact fun z => nomatch z
      refine iteTc (by rw [e]; rfl) ⟨⟨_, rfl⟩, _, rfl, _, rfl, ⟨_, SqL.of hpl0⟩, fun D hD => ?_⟩
      refine lc_all (walk_list (K := K) (xs := ys)) aStore (fun i v _ => ∃ z, ps[i]? = some z ∧ v = .str (txtP z)) ?_ hD (fun _ _ _ _ _ h => h) (fun H s => SqL.of (s _ _ hpl0)) ?_ mono_pair ?_
      · have := hys.length
        omega
      · rintro j y H7 H8 Pk hj s7 ⟨rfl, h1⟩ hk
        obtain ⟨z, hz1, tz, rfl, hz2⟩ := paired_at _ hys0 h1
        have ok := hok z (List.mem_of_getElem? hz1)
        have b1 := tI_len ok.1
        have b2 : (showQ z.2.1 z.2.2).length ≤ 83 := by
          have := (showQ_fit ok.2.2.1 ok.2.2.2.2.1).b
          simp only [PyData.bulk] at this
          exact this
        refine ⟨_, _, rfl, SqT.of (s7 _ _ hz2), rfl, _, _, rfl, _, _, rfl, rfl, rfl, _, rfl, _, rfl, log_of40 ok.1, _, _, rfl, rfl, ?_, _, rfl, _, _, rfl, rfl, ?_, hk _ _ (Same.refl _) ⟨z, hz1, rfl⟩⟩
        · show (tI _).length + 3 ≤ sizeLine
          omega
        · rw [PySem.Str.length_append]
          show (tI _).length + 3 + _ ≤ sizeLine
          omega
      · intro H7 l7 s7 hl7 pr7
        have el : l7 = ps.map fun z => V.str (txtP z) := paired_get (by rw [hys.length]; exact pr7)
        refine ⟨_, D, ps.map txtP, rfl, rfl, .inl (SqL.of (by rw [hl7, el, List.map_map]; rfl)), ?_, ps, ?_, hz, hri, hok, fun H8 a s8 is => q H8 a ((s0.trans s7).trans s8) is⟩
        · have h1 := txts_sum hok
          have h2 : (ps.map txtP).length = ps.length := List.length_map _
          rw [h2, show (" , " : Str).length = 3 from rfl]
          omega
        · unfold txtPs
          rw [if_neg hne]
end G
set_option Elab.async false
set_option linter.all false
set_option maxRecDepth 100000
set_option maxHeartbeats 4000000
namespace G
open PySem PySem.Spec PyProof.Rows L2
variable {P : Program} {w : World} {K : PySem.W.Frag} {mg : Str → Option Value} {base : Heap}
theorem StoreD.pen {H H' : Hp} {x p : Addr} {l : Nat} {ds : List Deed} {xs : List V} (h : StoreD H x l ds) (hp : H p = Option.some (.lst xs)) (s : SameB p H H') : StoreD H' x l ds := by
  obtain ⟨dx, fs, hq, _⟩ := StoreD.some h
  exact StoreH.sb h hp trivial s (ne_of hq hp (by intro z; cases z))
theorem PenAt.sb {c : Addr} {H H' : Hp} {q p : Addr} {k : Nat} {u : HO} (h : PenAt c H p k) (hq : H q = Option.some u) (hu : ∀ xs, u ≠ .lst xs) (s : SameB q H H') : PenAt c H' p k := by
  obtain ⟨cells, cnt, r, h1, h2, h3⟩ := h
  exact ⟨cells, cnt, r, h1, s _ _ (ne_of h2 hq (fun z => hu _ z.symm)) h2, s _ _ (ne_of h3 hq (fun z => hu _ z.symm)) h3⟩
theorem SameB.at_ {H H' H2 : Hp} {p q : Addr} (n : H q = none) (s : SameB p H H') (s2 : SameB q H' H2) : SameB p H H2 := fun b o nb e => s2 b o (ne_of_none e n) (s b o nb e)
theorem PenAt.ne {c : Addr} {H : Hp} {p : Addr} {k : Nat} (h : PenAt c H p k) {b : Addr} (hb : H b = none) : b ≠ p := by
  obtain ⟨xs, e⟩ := h.some
  exact fun z => by rw [z, e] at hb; cases hb
/-- a plain deed is done -/
def sp_do : Sp := fun vs H Q _ => ∃ (p : Addr) (k : Nat) (pc x : Addr) (l : Nat) (ds : List Deed) (de : Deed) (dd : Addr) (N : Addr → Prop), vs = [.ref p, .ref x, .ref dd] ∧ PenAt pc H p k ∧ k < 2 ^ 20 ∧ StoreD H x l ds ∧ DA H N (.ref dd) (deedD de) ∧ (∀ b, N b → b ≠ p) ∧ Vd l ds ∧ DeedV (runD l ds) de ∧ 1 ≤ l ∧ l ≤ 5000 ∧ ds.length ≤ 60 ∧
  ∀ H1 H', SameB p H H1 → PenAt pc H1 p (k + 1) → SameB x H1 H' → StoreD H' x l (ds ++ [de]) → Q .non H'
theorem sc_law_do : FnScope N_law_do P_law_do (defScope s_law_do) := ⟨rfl, rfl, rfl, by decide +kernel, rfl, by decide +kernel, by decide +kernel⟩
theorem law_do_ok (T : Txt K mg) : FnR P w K mg base CX0 16 f_law_do sp_do := by
  refine fr_mk (ps := P_law_do) (N := N_law_do) T.fd_law_do sc_law_do (fun _ _ _ _ _ _ us h => match us, h with | [_, _, _], _ => rfl) ?_ ?_
  · rintro vs H Q E ⟨p, k, pc, x, l, ds, de, dd, N, rfl, _⟩
    rfl
  · rintro cdv A outer s0 H vs Q E hr ⟨p, k, pc, x, l, ds, de, dd, N, rfl, hp, hk, hst, hde, hN, hvd, hdv, hl1, hl2, hz, q⟩
    have nd := sc_law_do.nd
    refine ⟨_, (pss_cons (ps_set (i := 3) nd rfl (by first | exact Or.inl rfl | exact Or.inr rfl) (pe_callR (law_draw_ok T) (hr.mono (by decide)) rfl T.g__law_draw T.k_law_draw pass0 (pa_cons (pv 0) (pa_cons pe_int pa_nil)))) (pss_one (ps_if (PW.pt (pw_and (pt_cmpR op_eq (pe_ix ix_tup (pv 2) pe_int (fun _ _ => rfl)) pe_str (nomark _)) (pw_and1 (pt_cmpR op_eq (pv 3) pe_int (nomark _))))) (pss_one (ps_expr (pe_methR (pv 1) T.cl_Store T.m_Store_advance (Store_advance_ok T) (hr.mono (by decide)) pass0 (pa_cons (pe_ix ix_tup (pv 2) pe_int (fun _ _ => rfl)) pa_nil)))) (pss_one (ps_if (pt_cmpR op_eq (pe_ix ix_tup (pv 2) pe_int (fun _ _ => rfl)) pe_str (nomark _)) (pss_one (ps_expr (pe_methKw0 (pv 1) T.cl_Store T.m_Store_advance (Store_advance_kw_now T) (hr.mono (by decide)) pass0 (pk_cons (pe_ix ix_tup (pv 2) pe_int (fun _ _ => rfl)) pk_nil)))) (pss_one (ps_if (pt_cmpR op_eq (pe_ix ix_tup (pv 2) pe_int (fun _ _ => rfl)) pe_str (nomark _)) (pss_one (ps_expr (pe_methR (pv 1) T.cl_Store T.m_Store_drop (Store_drop_ok T) (hr.mono (by decide)) pass0 (pa_cons (pe_ix ix_tup (pv 2) pe_int (fun _ _ => rfl)) pa_nil)))) (pss_one (ps_if (pt_cmpR op_eq (pe_ix ix_tup (pv 2) pe_int (fun _ _ => rfl)) pe_str (nomark _)) (pss_one (ps_expr (pe_methKw0 (pv 1) T.cl_Store T.m_Store_look (Store_look_kw_moment_name_value T) (hr.mono (by decide)) pass0 (pk_cons (pe_ix ix_tup (pv 2) pe_int (fun _ _ => rfl)) (pk_cons (pe_ix ix_tup (pv 2) pe_int (fun _ _ => rfl)) (pk_cons (ClX.pe_cmeth (pe_glob rfl T.g_Ratio (v := .ref aRatio) rfl) T.rd_Ratio T.cm_Ratio_read (Ratio_read_ok T) (hr.mono (by decide)) pass0 (pa_cons (pe_ix ix_tup (pv 2) pe_int (fun _ _ => rfl)) pa_nil)) pk_nil)))))) (pss_one (ps_if (pt_cmpR op_eq (pv 3) pe_int (nomark _)) (pss_one (ps_asg (pe_callR (law_series_ok T) (hr.mono (by decide)) rfl T.g__law_series T.k_law_series pass0 (pa_cons (pe_ix ix_tup (pv 2) pe_int (fun _ _ => rfl)) pa_nil)) (pg_sub (pv 1) (pe_ix ix_tup (pv 2) pe_int (fun _ _ => rfl)) (set_own T.m_Store_setitem T.nosq_Store (Store_setitem_ok T) (hr.mono (by decide)) pass0) (fun _ => rfl)))) (pss_one (ps_expr (pe_methKw (pv 1) T.cl_Store T.m_Store_put (Store_put_kw_series T) (hr.mono (by decide)) pass0 (pa_cons (pe_ix ix_tup (pv 2) pe_int (fun _ _ => rfl)) pa_nil) (pk_cons (pe_callR (law_series_ok T) (hr.mono (by decide)) rfl T.g__law_series T.k_law_series pass0 (pa_cons (pe_ix ix_tup (pv 2) pe_int (fun _ _ => rfl)) pa_nil)) pk_nil))))))))))))))), ?_⟩
    have two : (2 : Nat) ^ 20 = 1048576 := by decide
    have b2 : (2 : Int).natAbs < 2 ^ 1900 := by decide +kernel
    have l1m := line1m
    have l10 := line10k
    refine ⟨_, rfl, p, k, _, _, rfl, hp, hk, by decide, b2, fun H1 way s1 p1 w0 w1 => ?_⟩
    obtain ⟨xs, hxs⟩ := hp.some
    have hst1 := hst.pen hxs s1
    have hde1 : DA H1 (fun _ => True) (.ref dd) (deedD de) := hde.sb hxs (fun _ z => nomatch z) s1 fun b nb => ⟨hN b nb, trivial⟩
    have q1 := fun H' => q H1 H' s1 p1
    clear hst hde q
    obtain ⟨ok, bd, m0, m1⟩ := hvd.good (l := l)
    obtain ⟨dx, fs, hq, _, _, rfl⟩ := hst1.some
    have hdl : (runD l ds).ds.length < sizeLine := by rw [run_ds]; omega
    have hpl : (pastOf l ds).length < sizeLine := by rw [past_len]; omega
    have hrl : (runD l ds).rows.length < 100 := by
      have := bd.len
      omega
    cases de with
    | now m =>
      have hdd := deed_now hde1
      obtain ⟨v1, v2⟩ := hdv
      have go : ∀ H', SameB x H1 H' → StoreH H' x l ⟨m, (runD l ds).rows, (runD l ds).ds ++ [.now m]⟩ (pastOf l ds ++ [runD l ds]) → Q .non H' := fun H' s2 st2 => q1 H' s2 (StoreD.step st2)
      refine ⟨_, rfl, _, _, _, _, rfl, rfl, SqT.of hdd, atI_nat rfl, rfl, _, rfl, iteTc (by decide +kernel) ⟨_, rfl, rfl, _, rfl, ite2 (fun _ => ?_) (fun _ => ?_)⟩⟩
      · exact ⟨_, rfl, _, _, _, rfl, hq, rfl, _, rfl, _, _, _, _, rfl, rfl, SqT.of hdd, atI_nat rfl, x, l, m, _, _, rfl, hst1, v1, hdl, hpl, go⟩
      · refine ⟨_, rfl, _, _, _, _, rfl, rfl, SqT.of hdd, atI_nat rfl, rfl, _, rfl, iteTc (by decide +kernel) ?_⟩
        exact ⟨_, rfl, _, _, _, rfl, hq, rfl, _, rfl, _, _, _, _, rfl, rfl, SqT.of hdd, atI_nat rfl, rfl, rfl, x, l, m, _, _, rfl, hst1, v1, hdl, hpl, go⟩
    | drop nm =>
      have hdd := deed_drop hde1
      refine ⟨_, rfl, _, _, _, _, rfl, rfl, SqT.of hdd, atI_nat rfl, rfl, _, rfl, iteFc (by decide +kernel) ⟨_, rfl, _, _, _, _, rfl, rfl, SqT.of hdd, atI_nat rfl, rfl, _, rfl, iteFc (by decide +kernel) ⟨_, rfl, _, _, _, _, rfl, rfl, SqT.of hdd, atI_nat rfl, rfl, _, rfl, iteTc (by decide +kernel) ?_⟩⟩⟩
      exact ⟨_, rfl, _, _, _, rfl, hq, rfl, _, rfl, _, _, _, _, rfl, rfl, SqT.of hdd, atI_nat rfl, x, l, _, _, nm, rfl, hst1, ok.nd, hdv.2, hdl, hpl, by omega, fun H' s2 st2 => q1 H' s2 (StoreD.step st2)⟩
    | look nm pt =>
      have hdd := deed_look hde1
      obtain ⟨v1, v2, v3⟩ := hdv
      refine ⟨_, rfl, _, _, _, _, rfl, rfl, SqT.of hdd, atI_nat rfl, rfl, _, rfl, iteFc (by decide +kernel) ⟨_, rfl, _, _, _, _, rfl, rfl, SqT.of hdd, atI_nat rfl, rfl, _, rfl, iteFc (by decide +kernel) ⟨_, rfl, _, _, _, _, rfl, rfl, SqT.of hdd, atI_nat rfl, rfl, _, rfl, iteFc (by decide +kernel) ⟨_, rfl, _, _, _, _, rfl, rfl, SqT.of hdd, atI_nat rfl, rfl, _, rfl, iteTc (by decide +kernel) ?_⟩⟩⟩⟩
      refine ⟨_, rfl, _, _, _, rfl, hq, rfl, _, rfl, _, _, _, _, rfl, rfl, SqT.of hdd, atI_nat rfl, _, rfl, _, _, _, _, rfl, rfl, SqT.of hdd, atI_nat rfl, rfl, _, rfl, _, _, _, _, rfl, rfl, SqT.of hdd, atI_nat rfl, _, _, rfl, v2.2, fun H2 b s2 hb => ⟨rfl, rfl, ?_⟩⟩
      exact ⟨x, l, _, _, nm, pt.1, .ref b, pt.2.1, pt.2.2, rfl, v1, hst1.same s2, ok, hrl, hl1, hl2, hdl, hpl, v3, .inr ⟨b, rfl, hb⟩, v2.ok, fun H' s3 st3 => q1 H' ((SameB.of s2).trans s3) (StoreD.step st3)⟩
    | set nm ps =>
      obtain ⟨bl, ys, hdd, hbl, hys⟩ := deed_set hde1
      obtain ⟨v1, v2, v3, v4⟩ := hdv
      refine ⟨_, rfl, _, _, _, _, rfl, rfl, SqT.of hdd, atI_nat rfl, rfl, _, rfl, iteFc (by decide +kernel) ⟨_, rfl, _, _, _, _, rfl, rfl, SqT.of hdd, atI_nat rfl, rfl, _, rfl, iteFc (by decide +kernel) ⟨_, rfl, _, _, _, _, rfl, rfl, SqT.of hdd, atI_nat rfl, rfl, _, rfl, iteFc (by decide +kernel) ⟨_, rfl, _, _, _, _, rfl, rfl, SqT.of hdd, atI_nat rfl, rfl, _, rfl, iteFc (by decide +kernel) ?_⟩⟩⟩⟩
      refine ⟨_, rfl, rfl, _, rfl, ite2 (fun _ => ?_) (fun _ => ?_)⟩
      · refine ⟨_, rfl, _, _, _, _, rfl, rfl, SqT.of hdd, atI_nat rfl, bl, ys, ps, rfl, hbl, hys, by omega, v2, fun z hz => (v4 z hz).1, fun H2 a s2 is => ?_⟩
        refine ⟨_, rfl, _, rfl, _, _, _, _, rfl, rfl, SqT.of (s2 _ _ hdd), atI_nat rfl, _, _, _, rfl, s2 _ _ hq, x, l, _, _, nm, a, ps, rfl, v1, hst1.same s2, ok, hrl, hl1, hl2, hdl, hpl, is, v2, fun z hz => (v4 z hz).1.ok, fun z hz => (v4 z hz).2, fun H' s3 st3 => q1 H' ((SameB.of s2).trans s3) (StoreD.step st3)⟩
      · refine ⟨_, rfl, _, _, _, rfl, hq, rfl, _, rfl, _, _, _, _, rfl, rfl, SqT.of hdd, atI_nat rfl, _, rfl, _, _, _, _, rfl, rfl, SqT.of hdd, atI_nat rfl, bl, ys, ps, rfl, hbl, hys, by omega, v2, fun z hz => (v4 z hz).1, fun H2 a s2 is => ⟨rfl, rfl, ?_⟩⟩
        exact ⟨x, l, _, _, nm, a, ps, rfl, v1, hst1.same s2, ok, hrl, hl1, hl2, hdl, hpl, is, v2, fun z hz => (v4 z hz).1.ok, fun z hz => (v4 z hz).2, fun H' s3 st3 => q1 H' ((SameB.of s2).trans s3) (StoreD.step st3)⟩
end G
set_option Elab.async false
set_option linter.all false
set_option maxRecDepth 100000
set_option maxHeartbeats 4000000
namespace G
open PySem PySem.Spec PyProof.Rows L2
variable {P : Program} {w : World} {K : PySem.W.Frag} {mg : Str → Option Value} {base : Heap}
theorem nameOk_of {z : Str} (h : (decide (1 ≤ z.length) && decide (z.length ≤ 8) && z.cps.toList.all fun c => decide (c ∈ (("abcdefghijklmnopqrstuvwxyz" : Str)).cps.toList)) = true) : NameOk z := by
  obtain ⟨h, h3⟩ := Bool.and_eq_true_iff.mp h
  obtain ⟨h1, h2⟩ := Bool.and_eq_true_iff.mp h
  exact ⟨of_decide_eq_true h1, of_decide_eq_true h2, fun c hc => of_decide_eq_true (List.all_eq_true.mp h3 c hc)⟩
theorem das_names {H : Hp} {N : Addr → Prop} : ∀ {rows : List Row}, DAs H N (rows.map fun r => V.str r.1) ((rows.map fun r => r.1).map PyData.str)
  | [] => .nil
  | _ :: _ => .cons (.str _) das_names
/-- a drawn deed -/
def sp_deed : Sp := fun vs H Q _ => ∃ (p : Addr) (k : Nat) (pc st : Addr) (mo : Int) (rows : List Row) (N : Addr → Prop), vs = [.ref p, .ref st] ∧ PenAt pc H p k ∧ k + 60 ≤ 2 ^ 20 ∧ DA H N (.ref st) (shownD mo rows) ∧ (∀ b, N b → b ≠ p) ∧ (∀ b, H b = none → N b) ∧ rows.length ≤ 100 ∧ (∀ r ∈ rows, NameOk r.1) ∧ 0 ≤ mo ∧ mo ≤ 10 ^ 30 ∧
  ∀ H' dd de, SameB p H H' → PenAt pc H' p (k + 60) → DA H' N (.ref dd) (deedD de) → (∀ ds, DeedV ⟨mo, rows, ds⟩ de) → Q (.ref dd) H'
theorem sc_law_deed : FnScope N_law_deed P_law_deed (defScope s_law_deed) := ⟨rfl, rfl, rfl, by decide +kernel, rfl, by decide +kernel, by decide +kernel⟩
theorem law_deed_ok (T : Txt K mg) : FnR P w K mg base CX0 7 f_law_deed sp_deed := by
  refine fr_mk (ps := P_law_deed) (N := N_law_deed) T.fd_law_deed sc_law_deed (fun _ _ _ _ _ _ us h => match us, h with | [_, _], _ => rfl) ?_ ?_
  · rintro vs H Q E ⟨p, k, pc, st, mo, rows, N, rfl, _⟩
    rfl
  · rintro cdv A outer s0 H vs Q E hr ⟨p, k, pc, st, mo, rows, N, rfl, hp, hk, hst, hN, hF, hrz, hnm, m0, m1, q⟩
    have nd := sc_law_deed.nd
    refine ⟨_, (pss_cons (ps_par (i := 2) (j := 3) rfl nd rfl rfl (by decide) rfl rfl (pa_cons (pe_ix ix_tup (pv 1) pe_int (fun _ _ => rfl)) (pa_cons (pe_lc (own := [("name", 5), ("points", 7)]) (g := (gTup K 2 (gCons (gName 5) (gCons (gName 7) gNil)))) (tt := tYes) (by rfl) nd (pi_list (pe_ix ix_tup (pv 1) pe_int (fun _ _ => rfl))) (blkOk_by (own := [("name", 5), ("points", 7)]) (N := N_law_deed) (sc := defScope s_law_deed) (by decide +kernel)) (fun _ _ _ _ _ => (pg_tup rfl (pgs_cons (pg_name (i := 5) nd rfl (Or.inl rfl)) (pgs_cons (pg_name (i := 7) nd rfl (Or.inl rfl)) pgs_nil)))) (fun _ _ _ _ _ => pts_nil) (fun _ _ _ _ _ => (pv 5))) pa_nil)) (by rfl)) (pss_cons (ps_par (i := 4) (j := 5) rfl nd rfl rfl (by decide) rfl rfl (pa_cons (pe_callR (law_draw_ok T) (hr.mono (by decide)) rfl T.g__law_draw T.k_law_draw pass0 (pa_cons (pv 0) (pa_cons pe_int pa_nil))) (pa_cons (pe_callR (law_pick_ok T) (hr.mono (by decide)) rfl T.g__law_pick T.k_law_pick pass0 (pa_cons (pv 0) (pa_cons (pe_op op_cat (pe_lst (pa_cons pe_str (pa_cons pe_str (pa_cons pe_str (pa_cons (pe_op op_mulStr pe_str pe_int) pa_nil))))) (pv 3)) pa_nil))) pa_nil)) (by rfl)) (pss_cons (ps_if (pt_cmpR op_eq (pv 4) pe_int (nomark _)) (pss_one (ps_ret (pe_tup (pa_cons pe_str (pa_cons (pe_op op_add (pv 2) (pe_callR (law_pick_ok T) (hr.mono (by decide)) rfl T.g__law_pick T.k_law_pick pass0 (pa_cons (pv 0) (pa_cons (pe_lst (pa_cons pe_int (pa_cons pe_int (pa_cons pe_int (pa_cons (pe_callR (law_draw_ok T) (hr.mono (by decide)) rfl T.g__law_draw T.k_law_draw pass0 (pa_cons (pv 0) (pa_cons pe_int pa_nil))) (pa_cons (pe_op op_pow pe_int pe_int) pa_nil)))))) pa_nil)))) pa_nil))))) pss_nil) (Evl.pss_cut (ps_if (PW.pt (pw_and (pt_cmpR op_eq (pv 4) pe_int (nomark _)) (pw_and1 (pt_cmpR (op_neD hr.units) (pv 3) (pe_lst pa_nil) (nomark _))))) (pss_one (ps_ret (pe_tup (pa_cons pe_str (pa_cons (pe_callR (law_pick_ok T) (hr.mono (by decide)) rfl T.g__law_pick T.k_law_pick pass0 (pa_cons (pv 0) (pa_cons (pv 3) pa_nil))) pa_nil))))) pss_nil) (pss_cons (ps_if (pt_cmpR op_eq (pv 4) pe_int (nomark _)) (pss_cons (ps_par (i := 6) (j := 7) rfl nd rfl rfl (by decide) rfl rfl (pa_cons (pe_op op_sub (pv 2) (pe_callR (law_draw_ok T) (hr.mono (by decide)) rfl T.g__law_draw T.k_law_draw pass0 (pa_cons (pv 0) (pa_cons pe_int pa_nil)))) (pa_cons (pe_lst pa_nil) pa_nil)) (by rfl)) (pss_cons (ps_for PassesOwn.never rfl (pi_range1 rfl T.n_range (pa_cons (pe_callR (law_draw_ok T) (hr.mono (by decide)) rfl T.g__law_draw T.k_law_draw pass0 (pa_cons (pv 0) (pa_cons pe_int pa_nil))) pa_nil)) (pg_name (i := 8) nd rfl (by first | exact Or.inl rfl | exact Or.inr rfl)) (pss_cons (ps_set (i := 7) nd rfl (by first | exact Or.inl rfl | exact Or.inr rfl) (pe_op op_cat (pe_lst (pa_cons (pe_tup (pa_cons (pv 6) (pa_cons (pe_ix ix_tup (pe_callR (law_number_ok T) (hr.mono (by decide)) rfl T.g__law_number T.k_law_number pass0 (pa_cons (pv 0) pa_nil)) pe_int (fun _ _ => rfl)) pa_nil))) pa_nil)) (pv 7))) (pss_one (ps_set (i := 6) nd rfl (by first | exact Or.inl rfl | exact Or.inr rfl) (pe_op op_sub (pe_op op_sub (pv 6) pe_int) (pe_callR (law_draw_ok T) (hr.mono (by decide)) rfl T.g__law_draw T.k_law_draw pass0 (pa_cons (pv 0) (pa_cons pe_int pa_nil)))))))) (pss_one (ps_ret (pe_tup (pa_cons pe_str (pa_cons (pv 5) (pa_cons (pv 7) pa_nil)))))))) pss_nil) (pss_one (ps_ret (pe_tup (pa_cons pe_str (pa_cons (pv 5) (pa_cons (pe_op op_sub (pv 2) (pe_callR (law_pick_ok T) (hr.mono (by decide)) rfl T.g__law_pick T.k_law_pick pass0 (pa_cons (pv 0) (pa_cons (pe_lst (pa_cons pe_int (pa_cons pe_int (pa_cons pe_int (pa_cons pe_int (pa_cons (pe_callR (law_draw_ok T) (hr.mono (by decide)) rfl T.g__law_draw T.k_law_draw pass0 (pa_cons (pv 0) (pa_cons pe_int pa_nil))) (pa_cons (pe_callR (law_draw_ok T) (hr.mono (by decide)) rfl T.g__law_draw T.k_law_draw pass0 (pa_cons (pv 0) (pa_cons (pe_op op_pow pe_int pe_int) pa_nil))) pa_nil))))))) pa_nil)))) (pa_cons (pe_ix ix_tup (pe_callR (law_number_ok T) (hr.mono (by decide)) rfl T.g__law_number T.k_law_number pass0 (pa_cons (pv 0) pa_nil)) pe_int (fun _ _ => rfl)) pa_nil)))))))))))), ?_⟩
    have two : (2 : Nat) ^ 20 = 1048576 := by decide
    have bb : ∀ i : Int, i.natAbs < 10 ^ 29 → i.natAbs < 2 ^ 1900 := fun i h => Nat.lt_trans h (by decide +kernel)
    have l1m := line1m
    have l10 := line10k
    have e9 : (10 : Int) ^ (9 : Int).toNat = 1000000000 := by decide +kernel
    have e28 : (10 : Int) ^ (28 : Int).toNat = 10 ^ 28 := by decide +kernel
    obtain ⟨t0, rl, rs, e0, hx, hrl, nrl, hrs⟩ := shown_inv hst
    cases e0
    have hrsl : rs.length = rows.length := hrs.length.symm
    have fr : ∀ {H' b}, SameB p H H' → PenAt pc H' p (k + 60) → H' b = none → N b := fun {H' b} sb pn e => by
      obtain ⟨xs, hxs⟩ := pn.some
      exact hF b (sb_free sb hxs e)
    -- names
    refine ⟨_, rfl, _, _, _, _, rfl, rfl, SqT.of hx, atI_nat rfl, _, rfl, _, _, _, _, rfl, rfl, SqT.of hx, atI_nat rfl, _, rfl, ⟨_, SqL.of hrl⟩, fun D hD => ?_⟩
    refine lc_all (walk_list (K := K) (xs := rs)) aStore (fun i v _ => ∃ r, rows[i]? = some r ∧ v = .str r.1) (by omega) hD (fun _ _ _ _ _ h => h) (fun H s => SqL.of (s _ _ hrl)) ?_ mono_pair ?_
    · rintro j y H7 H8 Pk hj s7 ⟨rfl, h1⟩ hk
      obtain ⟨r, hr1, t, ol, ys, rfl, k1, k2, k3, k4⟩ := paired_at _ hrs h1
      exact ⟨_, _, rfl, SqT.of (s7 _ _ k1), rfl, _, _, rfl, _, _, rfl, rfl, rfl, _, rfl, hk _ _ (Same.refl _) ⟨r, hr1, rfl⟩⟩
    intro H1 l1 s1 hl1 pr1
    have el : l1 = rows.map fun r => V.str r.1 := paired_get (by rw [← hrsl]; exact pr1)
    subst el
    refine ⟨_, _, rfl, ?_⟩
    have p1 := hp.same s1
    have nDp : D ≠ p := hp.ne hD
    -- kind, name
    refine ⟨_, rfl, p, k, _, _, rfl, p1, by omega, by decide, bb 8 (by decide +kernel), fun H2 kind s2 p2 k0 k8 => ?_⟩
    refine ⟨_, rfl, _, _, rfl, rfl, ⟨by decide, by decide, by decide⟩, by show 4 ≤ sizeLine; omega, fun a3 ha3 => ?_⟩
    have s3 := same_new (o := .lst [.str "a", .str "b", .str "mem", .str (Txt.mul "z" 8)]) ha3
    have hD3 := s3 _ _ (s2 _ _ nDp hl1)
    refine ⟨_, rfl, _, _, _, _, rfl, rfl, upd_same, hD3, by simp only [List.length_map, List.length_cons, List.length_nil]; omega, fun a4 ha4 => ?_⟩
    have s4 := s3.trans (same_new (o := .lst ([.str "a", .str "b", .str "mem", .str (Txt.mul "z" 8)] ++ rows.map fun r => V.str r.1)) ha4)
    refine ⟨p, k + 1, a4, _, _, rfl, p2.same s4, by omega, upd_same, p2.ne (s3.free ha4), by simp, by simp; omega, fun H5 nv s5 p5 hnv => ?_⟩
    obtain ⟨nm, rfl, hname⟩ : ∃ z : Str, nv = .str z ∧ NameOk z := by
      rcases List.mem_append.mp hnv with hnv | hnv
      · simp only [List.mem_cons, List.not_mem_nil, or_false] at hnv
        rcases hnv with e | e | e | e
        · exact ⟨_, e, nameOk_of (by decide +kernel)⟩
        · exact ⟨_, e, nameOk_of (by decide +kernel)⟩
        · exact ⟨_, e, nameOk_of (by decide +kernel)⟩
        · exact ⟨_, e, nameOk_of (by decide +kernel)⟩
      · obtain ⟨r, hr1, e⟩ := List.mem_map.mp hnv
        exact ⟨r.1, e.symm, hnm r hr1⟩
    refine ⟨_, _, rfl, ?_⟩
    have sb5 : SameB p H H5 := ((SameB.of s1).trans s2).trans ((SameB.of s4).trans s5)
    have hD5 : H5 D = some (.lst (rows.map fun r => V.str r.1)) := s5 _ _ nDp (same_new ha4 _ _ hD3)
    -- a number behind mo
    -- now
    refine ⟨_, rfl, rfl, _, rfl, ite2 (fun _ => ?_) (fun _ => ?_)⟩
    · refine ⟨_, rfl, _, rfl, _, rfl, p, _, _, _, rfl, p5, by omega, by decide, bb 99 (by decide +kernel), fun H6 d6 s6 p6 d60 d61 => ⟨_, _, rfl, rfl, ⟨by decide, by decide, by decide⟩, by show 5 ≤ sizeLine; omega, fun a6 ha6 => ?_⟩⟩
      have s7 := same_new (o := .lst [.int 0, .int 1, .int 15, .int d6, .int (10 ^ (28 : Int).toNat)]) ha6
      refine ⟨p, _, a6, _, _, rfl, p6.same s7, by omega, upd_same, p6.ne ha6, (show 0 < 5 by decide), (show 5 ≤ 5000 by decide), fun H8 g s8 p8 hg => ?_⟩
      obtain ⟨g, rfl, hg0, hg1⟩ : ∃ z : Int, g = .int z ∧ 0 ≤ z ∧ z ≤ 10 ^ 28 := by
        simp only [List.mem_cons, List.not_mem_nil, or_false] at hg
        rw [e28] at hg
        rcases hg with e | e | e | e | e
        · exact ⟨0, e, by omega, by omega⟩
        · exact ⟨1, e, by omega, by omega⟩
        · exact ⟨15, e, by omega, by omega⟩
        · exact ⟨d6, e, by omega, by omega⟩
        · exact ⟨_, e, by omega, by omega⟩
      refine ⟨_, _, rfl, rfl, by show 2 ≤ sizeLine; omega, fun t ht => ?_⟩
      exact q _ t (.now (mo + g)) (((sb5.trans s6).trans ((SameB.of s7).trans s8)).trans (SameB.of (same_new ht))) ((p8.same (same_new ht)).mono (by omega)) (.tup upd_same (.cons (.str _) (.cons (.int _) .nil))) fun ds => ⟨by show mo ≤ mo + g; omega, by show mo + g ≤ mo + 10 ^ 28; omega⟩
    -- drop
    refine ⟨fun σ' H' => Same H5 H' ∧ σ' = [some (.ref p), some (.ref st), some (.int mo), some (.ref D), some (.int kind), some (.str nm), none, none, none], ?_, ?_⟩
    · refine ⟨_, rfl, rfl, _, rfl, ite2 (fun _ => ?_) (fun _ => ⟨Same.refl _, rfl⟩)⟩
      refine ⟨_, rfl, by show 0 ≤ sizeLine; omega, fun l0 hl0 => ?_⟩
      have s6 := same_new (o := .lst []) hl0
      have hD6 := s6 _ _ hD5
      refine ⟨.list ((rows.map fun r => r.1).map PyData.str), .list [], DA.dp (N := fun _ => True) _ _ (.lst hD6 trivial ?_), .lst (SqL.of upd_same) .nil, list_shaped (fun z hz => ?_) (fun z hz => by simp [PyData.depth]), PySem.W.ke_shaped_ints [], _, rfl, ?_⟩
      · exact das_names
      · obtain ⟨r, hr1, e⟩ := List.mem_map.mp hz
        rw [← e]
        exact lay_str (hnm r hr1).strOk
      rw [eqv_emp]
      cases er : rows with
      | nil => exact iteFc rfl ⟨s6, rfl⟩
      | cons r0 rt =>
        rw [← er]
        have hlen : 0 < (rows.map fun r => V.str r.1).length := by rw [er]; exact Nat.zero_lt_succ _
        refine iteTc (by rw [er]; rfl) ⟨_, rfl, _, rfl, p, _, D, _, _, rfl, p5.same s6, by omega, hD6, nDp, hlen, by rw [List.length_map]; omega, fun H7 nv2 s7 p7 hnv2 => ?_⟩
        obtain ⟨r, hr1, rfl⟩ := List.mem_map.mp hnv2
        refine ⟨by show 2 ≤ sizeLine; omega, fun t ht => ?_⟩
        refine q _ t (.drop r.1) ((sb5.trans ((SameB.of s6).trans s7)).trans (SameB.of (same_new ht))) ((p7.same (same_new ht)).mono (by omega)) (.tup upd_same (.cons (.str _) (.cons (.str _) .nil))) fun ds => ⟨hnm r hr1, ?_⟩
        exact List.any_eq_true.mpr ⟨r, hr1, decide_eq_true rfl⟩
    rintro σ5 H6 ⟨s56, rfl⟩
    replace sb5 := sb5.trans (SameB.of s56)
    replace p5 := p5.same s56
    clear s56 hD5
    refine ⟨_, rfl, rfl, _, rfl, ite2 (fun _ => ?_) (fun _ => ?_)⟩
    · -- set
      refine ⟨_, rfl, _, rfl, p, _, _, _, rfl, p5, by omega, by decide, bb 3 (by decide +kernel), fun H7 d6 s6 p6 d60 d61 => ⟨_, _, rfl, rfl, by show 0 ≤ sizeLine; omega, fun pl hpl => ⟨_, _, rfl, ?_⟩⟩⟩
      have s7 := same_new (o := .lst []) hpl
      have sb7 := (sb5.trans s6).trans (SameB.of s7)
      have p7 := p6.same s7
      refine ⟨_, rfl, p, _, _, _, rfl, p7, by omega, by decide, bb 6 (by decide +kernel), fun H8 d8 s8 p8 d80 d81 => ⟨_, rfl, by omega, by omega, ?_⟩⟩
      have nplp := p6.ne hpl
      have npl : N pl := fr (sb5.trans s6) (p6.mono (by omega)) hpl
      refine for_it walk_range (fun i σ H' => ∃ (last : Int) (pl : Addr) (ys : List V) (ps : List Pt) (a : Option V), σ = [some (.ref p), some (.ref st), some (.int mo), some (.ref D), some (.int kind), some (.str nm), some (.int last), some (.ref pl), a] ∧ SameB p H H' ∧ PenAt pc H' p (k + 4 + 7 * i) ∧ H' pl = some (.lst ys) ∧ N pl ∧ Pds H' ps ys ∧ ps.length = i ∧ RiseP ps ∧ (∀ z ∈ ps, PtB z ∧ z.1 ≤ mo ∧ last < z.1) ∧ last ≤ mo ∧ mo - 3 - 10 * i ≤ last) ?_ (fun _ _ _ _ _ => trivial) ?_ ?_
      · exact ⟨_, pl, [], [], _, rfl, sb7.trans s8, p8, s8 _ _ nplp upd_same, npl, .nil, rfl, .nil, (fun z hz => nomatch hz), by omega, by omega⟩
      · rintro i xi σ H9 H10 hi ⟨last, pl, ys, ps, a, rfl, sb9, p9, hpl9, npl, hys, hpsl, hri, hok, hl1, hl2⟩ ⟨rfl, rfl⟩
        have hi5 : i < 5 := by omega
        refine ⟨_, rfl, _, rfl, p, _, _, rfl, p9, by omega, fun H11 t v n d s11 p11 ht htup hnum hno => ?_⟩
        refine ⟨_, _, _, _, rfl, rfl, SqT.of htup, atI_nat rfl, by show 2 ≤ sizeLine; omega, fun t2 ht2 => ⟨by show 1 ≤ sizeLine; omega, fun a2 ha2 => ?_⟩⟩
        have s12 := (same_new (o := .tup [.int last, .str (showQ n d)]) ht2).trans (same_new (o := .lst [.ref t2]) ha2)
        have hpl11 := s11 _ _ (hN _ npl) hpl9
        obtain ⟨xs9, hx9⟩ := p9.some
        have hys11 : Pds H11 ps ys := hys.kp (S := aStore) (s11.kp hx9 (fun z => z))
        have hysl : ys.length = i := by rw [← hys.length]; exact hpsl
        refine ⟨_, rfl, _, _, _, _, rfl, rfl, upd_same, s12 _ _ hpl11, by rw [hysl]; show 1 + i ≤ sizeLine; omega, fun a3 ha3 => ?_⟩
        have s13 := s12.trans (same_new (o := .lst ([.ref t2] ++ ys)) ha3)
        have sb13 := (sb9.trans s11).trans (SameB.of s13)
        have p13 := p11.same s13
        have npl3 : N a3 := fr ((sb9.trans s11).trans (SameB.of s12)) ((p11.same s12).mono (by omega)) ha3
        refine ⟨_, rfl, _, _, rfl, rfl, _, rfl, p, _, _, _, rfl, p13, by omega, by decide, bb 9 (by decide +kernel), fun H14 d14 s14 p14 d140 d141 => ⟨_, _, rfl, rfl, ?_⟩⟩
        obtain ⟨xs13, hx13⟩ := p13.some
        refine ⟨last - 1 - d14, a3, .ref t2 :: ys, (last, n, d) :: ps, _, rfl, sb13.trans s14, p14.mono (by omega), s14 _ _ (hN _ npl3) upd_same, npl3, .cons ⟨t2, rfl, ?_⟩ ?_, by rw [List.length_cons, hpsl], List.pairwise_cons.mpr ⟨fun z hz => (hok z hz).2.2, hri⟩, fun z hz => ?_, by omega, by omega⟩
        · refine s14 _ _ (p11.ne ht2) (same_new ha3 _ _ (same_new ha2 _ _ upd_same))
        · exact (hys11.same s13).kp (S := aStore) (s14.kp hx13 (fun z => z))
        · rcases List.mem_cons.mp hz with e | hz
          · subst e
            refine ⟨⟨?_, hno⟩, hl1, ?_⟩
            · show last.natAbs < 10 ^ 40
              omega
            · show last - 1 - d14 < last
              omega
          · obtain ⟨h1, h2, h3⟩ := hok z hz
            exact ⟨h1, h2, by omega⟩
      · rintro σ H9 ⟨last, pl, ys, ps, a, rfl, sb9, p9, hpl9, npl, hys, hpsl, hri, hok, hl1, hl2⟩
        refine ⟨_, rfl, _, rfl, by show 3 ≤ sizeLine; omega, fun t ht => ?_⟩
        have s10 := same_new (o := .tup [.str "set", .str nm, .ref pl]) ht
        refine q _ t (.set nm ps) (sb9.trans (SameB.of s10)) ((p9.same s10).mono (by omega)) (.tup upd_same (.cons (.str _) (.cons (.str _) (.cons (.lst (s10 _ _ hpl9) npl (das_of ((hys.same s10).mono fun _ _ h => h.da))) .nil)))) fun ds => ⟨hname, hri, by omega, fun z hz => ⟨(hok z hz).1, (hok z hz).2.1⟩⟩
    · -- look
      refine ⟨_, rfl, _, rfl, _, rfl, _, rfl, p, _, _, _, rfl, p5, by omega, by decide, bb 30 (by decide +kernel), fun H7 d7 s7 p7 d70 d71 => ?_⟩
      refine ⟨_, rfl, _, _, rfl, rfl, ⟨by decide, by decide, by decide⟩, p, _, _, _, rfl, p7, by omega, by decide +kernel, by rw [e9]; exact bb _ (by decide +kernel), fun H8 d8 s8 p8 d80 d81 => ⟨by show 6 ≤ sizeLine; omega, fun a9 ha9 => ?_⟩⟩
      have s9 := same_new (o := .lst [.int 0, .int 1, .int 2, .int 5, .int d7, .int d8]) ha9
      refine ⟨p, _, a9, _, _, rfl, p8.same s9, by omega, upd_same, p8.ne ha9, (show 0 < 6 by decide), (show 6 ≤ 5000 by decide), fun H10 g s10 p10 hg => ?_⟩
      rw [e9] at d81
      obtain ⟨g, rfl, hg0, hg1⟩ : ∃ z : Int, g = .int z ∧ 0 ≤ z ∧ z ≤ 1000000000 := by
        simp only [List.mem_cons, List.not_mem_nil, or_false] at hg
        rcases hg with e | e | e | e | e | e
        · exact ⟨0, e, by omega, by omega⟩
        · exact ⟨1, e, by omega, by omega⟩
        · exact ⟨2, e, by omega, by omega⟩
        · exact ⟨5, e, by omega, by omega⟩
        · exact ⟨d7, e, by omega, by omega⟩
        · exact ⟨d8, e, by omega, by omega⟩
      refine ⟨_, _, rfl, rfl, _, rfl, p, _, _, rfl, p10, by omega, fun H11 t v n d s11 p11 ht htup hnum hno => ?_⟩
      refine ⟨_, _, _, _, rfl, rfl, SqT.of htup, atI_nat rfl, by show 4 ≤ sizeLine; omega, fun t2 ht2 => ?_⟩
      have s12 := same_new (o := .tup [.str "look", .str nm, .int (mo - g), .str (showQ n d)]) ht2
      refine q _ t2 (.look nm (mo - g, n, d)) (((((sb5.trans s7).trans s8).trans ((SameB.of s9).trans s10)).trans s11).trans (SameB.of s12)) ((p11.same s12).mono (by omega)) (.tup upd_same (.cons (.str _) (.cons (.str _) (.cons (.int _) (.cons (.str _) .nil))))) fun ds => ⟨hname, ⟨?_, hno⟩, ?_⟩
      · show (mo - g).natAbs < 10 ^ 40
        omega
      · show mo - g ≤ mo
        omega
end G
set_option Elab.async false
set_option linter.all false
set_option maxRecDepth 100000
set_option maxHeartbeats 4000000
namespace G
open PySem PySem.Spec PyProof.Rows L2
variable {P : Program} {w : World} {K : PySem.W.Frag} {mg : Str → Option Value} {base : Heap}
theorem call_list_ofK {X : Cx} (hK : X.K = K) : CallR X (.type "list") (fun xs H Q => ∃ p ys, xs = [V.ref p] ∧ (SqL K H p ys ∨ SqT K H p ys) ∧ ∀ l, H l = none → Q (V.ref l) (upd H l (.lst ys))) := hK ▸ call_list_of
theorem Vd.at {l : Nat} {ds : List Deed} (h : Vd l ds) : ∀ {i : Nat} {de : Deed}, ds[i]? = some de → Vd l (ds.take i) ∧ DeedV (runD l (ds.take i)) de := by
  induction h with
  | nil => intro i de e; cases e
  | @snoc ds0 de0 h v ih =>
    intro i de e
    by_cases c : i < ds0.length
    · rw [List.getElem?_append_left c] at e
      obtain ⟨h1, h2⟩ := ih e
      rw [List.take_append_of_le_length (Nat.le_of_lt c)]
      exact ⟨h1, h2⟩
    · have hi : i = ds0.length := by
        have := (List.getElem?_eq_some_iff.mp e).1
        rw [List.length_append, List.length_singleton] at this
        omega
      subst hi
      rw [List.getElem?_append_right (Nat.le_refl _), Nat.sub_self] at e
      cases e
      rw [List.take_append_of_le_length (Nat.le_refl _), List.take_length]
      exact ⟨h, v⟩
/-- what may be shown of a deed -/
def DeedB : Deed → Prop
  | .set _ ps => ps.length ≤ 5000 ∧ ∀ x ∈ ps, PtB x
  | .look _ p => PtB p
  | _ => True
theorem DeedV.b {s : Snap} : ∀ {de : Deed}, DeedV s de → DeedB de
  | .now _, _ => trivial
  | .drop _, _ => trivial
  | .set _ _, ⟨_, _, h, h2⟩ => ⟨Nat.le_trans h (by decide), fun x hx => (h2 x hx).1⟩
  | .look _ _, ⟨_, h, _⟩ => h
theorem Vd.b {l : Nat} {ds : List Deed} (h : Vd l ds) : ∀ de ∈ ds, DeedB de := fun de hd => by
  obtain ⟨i, hi⟩ := List.getElem?_of_mem hd
  exact (h.at hi).2.b
theorem take_snoc {α : Type} {xs : List α} {i : Nat} {x : α} (h : xs[i]? = some x) : xs.take (i + 1) = xs.take i ++ [x] := by
  rw [List.take_succ, h]
  rfl
theorem Same.sb {H H' H2 : Hp} {x : Addr} (n : H x = none) (s : Same H H') (sb : SameB x H' H2) : Same H H2 := fun b o e => sb b o (ne_of_none e n) (s b o e)
theorem DA.new {H : Hp} {N : Addr → Prop} {d : PyData} {v : V} {D : Addr} (h : DA H N v d) (hD : H D = none) : DA H (fun b => b ≠ D) v d := h.mono (fun _ _ e => e) (fun _ _ _ e => ⟨e, ne_of_none e hD⟩)
/-! ### what history tells, as plain data -/
def sp_told (K : PySem.W.Frag) : Sp := fun vs H Q _ => ∃ (a : Addr) (dv : List V) (ds : List Deed), vs = [.ref a] ∧ H a = some (.lst dv) ∧ Paired (DeedAt H) ds dv ∧ ds.length ≤ 100 ∧ (∀ de ∈ ds, DeedB de) ∧ ∀ H' b, Same H H' → Dp K H' (.ref b) (.list (ds.map deedD)) → Q (.ref b) H'
theorem sc_law_told : FnScope N_law_told P_law_told (defScope s_law_told) := ⟨rfl, rfl, rfl, by decide +kernel, rfl, by decide +kernel, by decide +kernel⟩
theorem law_told_ok (T : Txt K mg) : FnR P w K mg base CX0 4 f_law_told (sp_told K) := by
  refine fr_mk (ps := P_law_told) (N := N_law_told) T.fd_law_told sc_law_told (fun _ _ _ _ _ _ us h => match us, h with | [_], _ => rfl) ?_ ?_
  · rintro vs H Q E ⟨a, dv, ds, rfl, _⟩
    rfl
  · rintro cdv A outer s0 H vs Q E hr ⟨a, dv, ds, rfl, ha, hdv, hz, hb, q⟩
    have nd := sc_law_told.nd
    refine ⟨_, (pss_cons (ps_set (i := 1) nd rfl (by first | exact Or.inl rfl | exact Or.inr rfl) (pe_lst pa_nil)) (pss_cons (ps_for PassesOwn.never rfl (pi_list (pv 0)) (pg_name (i := 2) nd rfl (by first | exact Or.inl rfl | exact Or.inr rfl)) (pss_one (ps_if (pt_cmpR op_eq (pe_ix ix_tup (pv 2) pe_int (fun _ _ => rfl)) pe_str (nomark _)) (pss_one (ps_expr (pe_bm PySem.F.plainAttrs_list PySem.F.slot_list_append PySem.F.type_list_append mt_append (pv 1) (pa_cons (pe_op op_catA (pe_slice sl_tupA (pv 2) po_none (po_some pe_int)) (pe_tup (pa_cons (pe_ifExp (pt_val (pe_callB call_isi (by rfl) T.n_isinstance (by decide +kernel) (pa_cons (pe_ix ix_tup (pv 2) pe_int (fun _ _ => rfl)) (pa_cons (pe_glob rfl T.g_Ratio (v := .ref aRatio) rfl) pa_nil)))) (pe_callTy (call_strOwn T.m_Ratio_str (Ratio_str_ok T) (hr.mono (by decide)) pass0) (by rfl) T.n_str (by decide +kernel) (pa_cons (pe_ix ix_tup (pv 2) pe_int (fun _ _ => rfl)) pa_nil)) pe_non) pa_nil))) pa_nil)))) (pss_one (ps_if (pt_cmpR op_eq (pe_ix ix_tup (pv 2) pe_int (fun _ _ => rfl)) pe_str (nomark _)) (pss_one (ps_expr (pe_bm PySem.F.plainAttrs_list PySem.F.slot_list_append PySem.F.type_list_append mt_append (pv 1) (pa_cons (pe_op op_catA (pe_slice sl_tupA (pv 2) po_none (po_some pe_int)) (pe_tup (pa_cons (pe_ifExp (pt_val (pe_callB call_isi (by rfl) T.n_isinstance (by decide +kernel) (pa_cons (pe_ix ix_tup (pv 2) pe_int (fun _ _ => rfl)) (pa_cons (pe_glob rfl T.g_Series (v := .ref aSeries) rfl) pa_nil)))) (pe_lc (own := [("moment", 3), ("value", 4)]) (g := (gTup K 2 (gCons (gName 3) (gCons (gName 4) gNil)))) (tt := tYes) (by rfl) nd (pi_tup (pe_fld (pe_ix ix_tup (pv 2) pe_int (fun _ _ => rfl)) rfl)) (blkOk_by (own := [("moment", 3), ("value", 4)]) (N := N_law_told) (sc := defScope s_law_told) (by decide +kernel)) (fun _ _ _ _ _ => (pg_tup rfl (pgs_cons (pg_name (i := 3) nd rfl (Or.inl rfl)) (pgs_cons (pg_name (i := 4) nd rfl (Or.inl rfl)) pgs_nil)))) (fun _ _ _ _ _ => pts_nil) (fun _ _ _ _ _ => (pe_tup (pa_cons (pv 3) (pa_cons (pe_callTy (call_strOwn T.m_Ratio_str (Ratio_str_ok T) (hr.mono (by decide)) pass0) (by rfl) T.n_str (by decide +kernel) (pa_cons (pv 4) pa_nil)) pa_nil))))) pe_non) pa_nil))) pa_nil)))) (pss_one (ps_expr (pe_bm PySem.F.plainAttrs_list PySem.F.slot_list_append PySem.F.type_list_append mt_append (pv 1) (pa_cons (pv 2) pa_nil))))))))) (pss_one (ps_ret (pv 1))))), ?_⟩
    have l1m := line1m
    have hdvl : dv.length = ds.length := hdv.length.symm
    refine ⟨by show 0 ≤ sizeLine; omega, fun fl hfl => ?_⟩
    have s1 := same_new (o := .lst []) hfl
    refine ⟨_, rfl, _, rfl, ⟨_, SqL.of (s1 _ _ ha)⟩, ?_⟩
    refine for_it (walk_list (K := K) (xs := dv)) (fun i σ H' => Same H H' ∧ ∃ x y z fs, σ = [some (.ref a), some (.ref fl), x, y, z] ∧ H' fl = some (.lst fs) ∧ Paired (fun de v => DA H' (fun b => b ≠ fl) v (deedD de)) (ds.take i) fs) ⟨s1, _, _, _, [], rfl, upd_same, .nil⟩ (fun i σ H' _ h => SqL.of (h.1 _ _ ha)) ?_ ?_
    · rintro i xi σ H2 H3 hi ⟨s2, x, y, z, fs, rfl, hf, hfs⟩ ⟨rfl, hxi⟩
      obtain ⟨de, hde, hat⟩ := paired_at _ hdv hxi
      have hat2 : DeedAt H3 de xi := hat.ks (KS.of s2)
      have hdb := hb de (List.mem_of_getElem? hde)
      have hfl2 : fs.length = i := by
        rw [← hfs.length, List.length_take]
        have := (List.getElem?_eq_some_iff.mp hde).1
        omega
      -- one more
      have fin : ∀ {H4 : Hp} {v : V} {y z : Option V}, Same H3 H4 → DA H4 (fun b => b ≠ fl) v (deedD de) → ∃ l b zs, V.ref fl = .ref l ∧ [v] = [zs] ∧ H4 l = some (.lst b) ∧ b.length < sizeLine ∧ (Same H (upd H4 l (.lst (b ++ [zs]))) ∧ ∃ x2 y2 z2 fs, [some (.ref a), some (.ref fl), some xi, y, z] = [some (.ref a), some (.ref fl), x2, y2, z2] ∧ (upd H4 l (.lst (b ++ [zs]))) fl = some (.lst fs) ∧ Paired (fun de v => DA (upd H4 l (.lst (b ++ [zs]))) (fun b => b ≠ fl) v (deedD de)) (ds.take (i + 1)) fs) := by
        intro H4 v y z s4 d4
        refine ⟨fl, fs, v, rfl, rfl, s4 _ _ hf, by omega, Same.at_ hfl (s2.trans s4), _, _, _, _, rfl, upd_same, ?_⟩
        rw [take_snoc hde]
        have up : ∀ {d : PyData} {u : V}, DA H4 (fun b => b ≠ fl) u d → DA (upd H4 fl (.lst (fs ++ [v]))) (fun b => b ≠ fl) u d := fun h => h.sb (s4 _ _ hf) (fun _ z => nomatch z) .upd fun b nb => ⟨nb, nb⟩
        exact (hfs.mono fun _ _ h => up (h.same s4)).snoc (up d4)
      cases de with
      | now m =>
        obtain ⟨t, rfl, ht⟩ := hat2
        refine ⟨_, rfl, _, _, _, _, rfl, rfl, SqT.of ht, atI_nat rfl, rfl, _, rfl, iteFc (by decide +kernel) ⟨_, rfl, _, _, _, _, rfl, rfl, SqT.of ht, atI_nat rfl, rfl, _, rfl, iteFc (by decide +kernel) ?_⟩⟩
        exact ⟨_, rfl, .inl ⟨rfl, _, SqL.of hf⟩, _, rfl, fin (Same.refl _) (.tup ht (.cons (.str _) (.cons (.int _) .nil)))⟩
      | drop nm =>
        obtain ⟨t, rfl, ht⟩ := hat2
        refine ⟨_, rfl, _, _, _, _, rfl, rfl, SqT.of ht, atI_nat rfl, rfl, _, rfl, iteFc (by decide +kernel) ⟨_, rfl, _, _, _, _, rfl, rfl, SqT.of ht, atI_nat rfl, rfl, _, rfl, iteFc (by decide +kernel) ?_⟩⟩
        exact ⟨_, rfl, .inl ⟨rfl, _, SqL.of hf⟩, _, rfl, fin (Same.refl _) (.tup ht (.cons (.str _) (.cons (.str _) .nil)))⟩
      | look nm p =>
        obtain ⟨t, b, rfl, ht, ⟨dq, hq⟩⟩ := hat2
        refine ⟨_, rfl, _, _, _, _, rfl, rfl, SqT.of ht, atI_nat rfl, rfl, _, rfl, iteTc (by decide +kernel) ?_⟩
        refine ⟨_, rfl, .inl ⟨rfl, _, SqL.of hf⟩, _, rfl, ?_⟩
        unfold tNoPart
        refine ⟨_, rfl, t, _, rfl, SqT.of ht, fun z => absurd z.2 (by show ¬ (3 : Nat) = 4; decide), fun _ t1 ht1 => ?_⟩
        have s4 := same_new (o := .tup (cutV [.str "look", .str nm, .int p.1, .ref b] none (some 3))) ht1
        refine ⟨_, rfl, _, _, _, _, rfl, rfl, SqT.of (s4 _ _ ht), atI_nat rfl, _, _, _, _, _, rfl, .own _, tyIns (s4 _ _ hq) T.ty_Ratio T.cl_Ratio, T.i_Ratio_Ratio, _, rfl, iteT ?_⟩
        refine ⟨_, rfl, _, _, _, _, rfl, rfl, SqT.of (s4 _ _ ht), atI_nat rfl, _, _, _, rfl, s4 _ _ hq, b, _, _, rfl, ⟨dq, s4 _ _ hq⟩, log_of40 hdb.2.2.1, log_of40 hdb.2.2.2.2.1, _, rfl, by show 1 ≤ sizeLine; omega, fun t2 ht2 => ?_⟩
        have s5 := s4.trans (same_new (o := .tup [.str (showQ p.2.1 p.2.2)]) ht2)
        refine ⟨t1, t2, [.str "look", .str nm, .int p.1], [.str (showQ p.2.1 p.2.2)], rfl, rfl, SqT.of (same_new ht2 _ _ upd_same), SqT.of upd_same, by show 4 ≤ sizeLine; omega, (fun z => nomatch z), (fun _ z => nomatch z), fun _ _ t3 ht3 => ?_⟩
        exact fin (s5.trans (same_new ht3)) (.tup upd_same (.cons (.str _) (.cons (.str _) (.cons (.int _) (.cons (.str _) .nil)))))
      | set nm ps =>
        obtain ⟨t, sr, rfl, ht, is⟩ := hat2
        refine ⟨_, rfl, _, _, _, _, rfl, rfl, SqT.of ht, atI_nat rfl, rfl, _, rfl, iteFc (by decide +kernel) ⟨_, rfl, _, _, _, _, rfl, rfl, SqT.of ht, atI_nat rfl, rfl, _, rfl, iteTc (by decide +kernel) ?_⟩⟩
        refine ⟨_, rfl, .inl ⟨rfl, _, SqL.of hf⟩, _, rfl, ?_⟩
        unfold tNoPart
        refine ⟨_, rfl, t, _, rfl, SqT.of ht, fun z => absurd z.2 (by show ¬ (2 : Nat) = 3; decide), fun _ t1 ht1 => ?_⟩
        have s4 := same_new (o := .tup (cutV [.str "set", .str nm, .ref sr] none (some 2))) ht1
        obtain ⟨dxs, pt, lk, rd, ys, i1, i2, i3, i4⟩ := is.kp (Kp.of s4)
        refine ⟨_, rfl, _, _, _, _, rfl, rfl, SqT.of (s4 _ _ ht), atI_nat rfl, _, _, _, _, _, rfl, .own _, tyIns i1 T.ty_Series T.cl_Series, T.i_Series_Series, _, rfl, iteT ?_⟩
        refine ⟨_, rfl, _, _, _, _, rfl, rfl, SqT.of (s4 _ _ ht), atI_nat rfl, _, _, _, _, _, rfl, i1, T.cl_Series, T.no_Series_points, rfl, _, rfl, ⟨_, i2.sq⟩, fun D hD => ?_⟩
        obtain ⟨hb1, hb2⟩ := hdb
        refine lc_allD (walk_tup (K := K) (xs := ys)) (fun i v H => ∃ q, ps[i]? = some q ∧ DA H (fun _ => False) v (ptD q)) ?_ hD ?_ (fun H s => i2.sq.same s) ?_ mono_pair ?_
        · have := i3.length
          omega
        · rintro i v H H' ls hl sb ⟨r, h1, h2⟩
          exact ⟨r, h1, h2.sb hl (fun _ z => nomatch z) sb fun b nb => nb.elim⟩
        · rintro j y H7 H8 P2 hj s7 ⟨ls2, hls2⟩ ⟨rfl, h2⟩ hP2
          obtain ⟨q2, hq2, a2, b2, rfl, e1, ⟨dq, e2⟩⟩ := paired_at _ i3 h2
          have ok := (hb2 q2 (List.mem_of_getElem? hq2)).ok
          have e3 := s7 _ _ e2
          exact ⟨_, _, rfl, SqT.of (s7 _ _ e1), rfl, _, _, rfl, _, _, rfl, rfl, rfl, _, rfl, _, rfl, _, _, _, rfl, e3, b2, _, _, rfl, ⟨dq, e3⟩, log_int ok.2.1, log_int ok.2.2, _, rfl, by show 2 ≤ sizeLine; omega, fun t ht => hP2 _ _ (same_new ht) ⟨q2, hq2, .tup upd_same (.cons (.int _) (.cons (.str _) .nil))⟩⟩
        · intro H7 l2 s7 hl2 pr2
          have das : DAs H7 (fun _ => False) l2 (ps.map ptD) := das_of (paired_of (F := fun q v => DA H7 (fun _ => False) v (ptD q)) (by rw [i3.length]; exact pr2))
          have s47 := s4.trans s7
          refine ⟨by show 1 ≤ sizeLine; omega, fun t2 ht2 => ?_⟩
          have s8 := s7.trans (same_new (o := .tup [.ref D]) ht2)
          refine ⟨t1, t2, [.str "set", .str nm], [.ref D], rfl, rfl, SqT.of (s8 _ _ upd_same), SqT.of upd_same, by show 3 ≤ sizeLine; omega, (fun z => nomatch z), (fun _ z => nomatch z), fun _ _ t3 ht3 => ?_⟩
          have s9 := (same_new (o := .tup [.ref D]) ht2).trans (same_new (o := .tup ([.str "set", .str nm] ++ [.ref D])) ht3)
          refine fin (s4.trans (s8.trans (same_new ht3))) (.tup upd_same (.cons (.str _) (.cons (.str _) (.cons (.lst (s9 _ _ hl2) (ne_of_none (s4 _ _ hf) hD).symm ?_) .nil))))
          exact DAs.mono (fun _ _ e => s9 _ _ e) (fun _ _ n _ => n.elim) _ _ das
    · rintro σ H2 ⟨s2, x, y, z, fs, rfl, hf, hfs⟩
      rw [hdvl, List.take_length] at hfs
      refine ⟨_, rfl, q H2 fl s2 ?_⟩
      have das := das_of hfs
      exact DA.dp (N := fun _ => True) _ _ (.lst hf trivial (DAs.mono (fun _ _ e => e) (fun _ _ n e => ⟨e, trivial⟩) _ _ das))
/-! ### plain deeds, told again -/
def sp_plain (K : PySem.W.Frag) : Sp := fun vs H Q _ => ∃ (a : Addr) (ds : List Deed) (N : Addr → Prop), vs = [.ref a] ∧ DA H N (.ref a) (.list (ds.map deedD)) ∧ ds.length ≤ 100 ∧ ∀ H' b, Same H H' → Dp K H' (.ref b) (.list (ds.map deedD)) → Q (.ref b) H'
theorem sc_law_plain : FnScope N_law_plain P_law_plain (defScope s_law_plain) := ⟨rfl, rfl, rfl, by decide +kernel, rfl, by decide +kernel, by decide +kernel⟩
theorem law_plain_ok (T : Txt K mg) : FnR P w K mg base CX0 4 f_law_plain (sp_plain K) := by
  refine fr_mk (ps := P_law_plain) (N := N_law_plain) T.fd_law_plain sc_law_plain (fun _ _ _ _ _ _ us h => match us, h with | [_], _ => rfl) ?_ ?_
  · rintro vs H Q E ⟨a, ds, N, rfl, _⟩
    rfl
  · rintro cdv A outer s0 H vs Q E hr ⟨a, ds, N, rfl, hda, hz, q⟩
    have nd := sc_law_plain.nd
    refine ⟨_, (pss_one (ps_ret (pe_lc (own := [("deed", 1)]) (g := (gName 1)) (tt := tYes) (by rfl) nd (pi_list (pv 0)) (blkOk_by (own := [("deed", 1)]) (N := N_law_plain) (sc := defScope s_law_plain) (by decide +kernel)) (fun _ _ _ _ _ => (pg_name (i := 1) nd rfl (Or.inl rfl))) (fun _ _ _ _ _ => pts_nil) (fun _ _ _ _ _ => (pe_ifExp (pt_cmpR op_eq (pe_ix (ix_tupK (K := K) rfl) (pv 1) pe_int (fun _ _ => rfl)) pe_str (nomark _)) (pe_tup (pa_cons (pe_ix (ix_tupK (K := K) rfl) (pv 1) pe_int (fun _ _ => rfl)) (pa_cons (pe_ix (ix_tupK (K := K) rfl) (pv 1) pe_int (fun _ _ => rfl)) (pa_cons (pe_callTy (call_list_ofK (K := K) rfl) (by rfl) T.n_list (by decide +kernel) (pa_cons (pe_ix (ix_tupK (K := K) rfl) (pv 1) pe_int (fun _ _ => rfl)) pa_nil)) pa_nil)))) (pv 1)))))), ?_⟩
    have l1m := line1m
    obtain ⟨a2, dv, e, ha, na, das⟩ := hda.lst_inv
    cases e
    have hdv := das_inv das
    have hdvl : dv.length = ds.length := hdv.length.symm
    refine ⟨_, rfl, _, rfl, ⟨_, SqL.of ha⟩, fun D hD => ?_⟩
    refine lc_allD (walk_list (K := K) (xs := dv)) (fun i v H => ∃ de, ds[i]? = some de ∧ DA H (fun b => b ≠ D) v (deedD de)) (by omega) hD ?_ (fun H s => SqL.of (s _ _ ha)) ?_ mono_name ?_
    · rintro i v H H' ls hl sb ⟨r, h1, h2⟩
      exact ⟨r, h1, h2.sb hl (fun _ z => nomatch z) sb fun b nb => ⟨nb, nb⟩⟩
    · rintro j y H7 H8 P2 hj s7 ⟨ls, hls⟩ ⟨rfl, h2⟩ hP2
      obtain ⟨de, hde, hd⟩ := paired_at _ hdv h2
      have hdD := (hd.new hD).same s7
      cases de with
      | now m =>
        obtain ⟨t, _, rfl, _⟩ := hdD.tup_inv
        exact ⟨rfl, _, rfl, _, _, _, _, rfl, rfl, SqT.of (deed_now hdD), atI_nat rfl, rfl, _, rfl, iteFc (by decide +kernel) ⟨_, rfl, hP2 _ _ (Same.refl _) ⟨_, hde, hdD⟩⟩⟩
      | drop nm =>
        obtain ⟨t, _, rfl, _⟩ := hdD.tup_inv
        exact ⟨rfl, _, rfl, _, _, _, _, rfl, rfl, SqT.of (deed_drop hdD), atI_nat rfl, rfl, _, rfl, iteFc (by decide +kernel) ⟨_, rfl, hP2 _ _ (Same.refl _) ⟨_, hde, hdD⟩⟩⟩
      | look nm p =>
        obtain ⟨t, _, rfl, _⟩ := hdD.tup_inv
        exact ⟨rfl, _, rfl, _, _, _, _, rfl, rfl, SqT.of (deed_look hdD), atI_nat rfl, rfl, _, rfl, iteFc (by decide +kernel) ⟨_, rfl, hP2 _ _ (Same.refl _) ⟨_, hde, hdD⟩⟩⟩
      | set nm ps =>
        obtain ⟨t, _, rfl, _⟩ := hdD.tup_inv
        obtain ⟨b, ys, hdd, hb, hys⟩ := deed_set hdD
        refine ⟨rfl, _, rfl, _, _, _, _, rfl, rfl, SqT.of hdd, atI_nat rfl, rfl, _, rfl, iteTc (by decide +kernel) ⟨_, rfl, _, _, _, _, rfl, rfl, SqT.of hdd, atI_nat rfl, _, rfl, _, _, _, _, rfl, rfl, SqT.of hdd, atI_nat rfl, _, rfl, _, _, _, _, rfl, rfl, SqT.of hdd, atI_nat rfl, _, _, rfl, .inl (SqL.of hb), fun pl hpl => ⟨by show 3 ≤ sizeLine; omega, fun t ht => ?_⟩⟩⟩
        have s9 := (same_new (o := .lst ys) hpl).trans (same_new (o := .tup [.str "set", .str nm, .ref pl]) ht)
        exact hP2 _ _ s9 ⟨_, hde, .tup upd_same (.cons (.str _) (.cons (.str _) (.cons (.lst (same_new ht _ _ upd_same) (ne_of_none hls hpl).symm (das_of ((hys.same s9).mono fun _ _ h => h.da))) .nil)))⟩
    · intro H7 l2 s7 hl2 pr2
      have das : DAs H7 (fun b => b ≠ D) l2 (ds.map deedD) := das_of (paired_of (F := fun q v => DA H7 (fun b => b ≠ D) v (deedD q)) (by rw [← hdvl]; exact pr2))
      exact q H7 D s7 (DA.dp (N := fun _ => True) _ _ (.lst hl2 trivial (DAs.mono (fun _ _ e => e) (fun _ _ n e => ⟨e, trivial⟩) _ _ das)))
/-! ### what history tells, done to a new store -/
def sp_replayed : Sp := fun vs H Q _ => ∃ (a : Addr) (dv : List V) (ds : List Deed) (l : Nat), vs = [.ref a, .int l] ∧ H a = some (.lst dv) ∧ Paired (DeedAt H) ds dv ∧ Vd l ds ∧ 1 ≤ l ∧ l ≤ 5000 ∧ ds.length ≤ 60 ∧ ∀ H' y, Same H H' → H y = none → StoreD H' y l ds → Q (.ref y) H'
theorem sc_law_replayed : FnScope N_law_replayed P_law_replayed (defScope s_law_replayed) := ⟨rfl, rfl, rfl, by decide +kernel, rfl, by decide +kernel, by decide +kernel⟩
theorem law_replayed_ok (T : Txt K mg) : FnR P w K mg base CX0 15 f_law_replayed sp_replayed := by
  refine fr_mk (ps := P_law_replayed) (N := N_law_replayed) T.fd_law_replayed sc_law_replayed (fun _ _ _ _ _ _ us h => match us, h with | [_, _], _ => rfl) ?_ ?_
  · rintro vs H Q E ⟨a, dv, ds, l, rfl, _⟩
    rfl
  · rintro cdv A outer s0 H vs Q E hr ⟨a, dv, ds, l, rfl, ha, hdv, hvd, hl1, hl2, hz, q⟩
    have nd := sc_law_replayed.nd
    refine ⟨_, (pss_cons (ps_set (i := 2) nd rfl (by first | exact Or.inl rfl | exact Or.inr rfl) (pe_makeG T.mk_Store (Store_init_ok T) (hr.mono (by decide)) rfl T.g_Store pass0 (pa_cons (pv 1) pa_nil))) (pss_cons (ps_for PassesOwn.never rfl (pi_list (pv 0)) (pg_name (i := 3) nd rfl (by first | exact Or.inl rfl | exact Or.inr rfl)) (pss_one (ps_if (pt_cmpR op_eq (pe_ix ix_tup (pv 3) pe_int (fun _ _ => rfl)) pe_str (nomark _)) (pss_one (ps_expr (pe_methR (pv 2) T.cl_Store T.m_Store_advance (Store_advance_ok T) (hr.mono (by decide)) pass0 (pa_cons (pe_ix ix_tup (pv 3) pe_int (fun _ _ => rfl)) pa_nil)))) (pss_one (ps_if (pt_cmpR op_eq (pe_ix ix_tup (pv 3) pe_int (fun _ _ => rfl)) pe_str (nomark _)) (pss_one (ps_expr (pe_methR (pv 2) T.cl_Store T.m_Store_look (Store_look_ok T) (hr.mono (by decide)) pass0 (pa_cons (pe_ix ix_tup (pv 3) pe_int (fun _ _ => rfl)) (pa_cons (pe_ix ix_tup (pv 3) pe_int (fun _ _ => rfl)) (pa_cons (pe_ix ix_tup (pv 3) pe_int (fun _ _ => rfl)) pa_nil)))))) (pss_one (ps_if (pt_cmpR op_eq (pe_ix ix_tup (pv 3) pe_int (fun _ _ => rfl)) pe_str (nomark _)) (pss_one (ps_asg (pe_ix ix_tup (pv 3) pe_int (fun _ _ => rfl)) (pg_sub (pv 2) (pe_ix ix_tup (pv 3) pe_int (fun _ _ => rfl)) (set_own T.m_Store_setitem T.nosq_Store (Store_setitem_ok T) (hr.mono (by decide)) pass0) (fun _ => rfl)))) (pss_one (ps_expr (pe_methR (pv 2) T.cl_Store T.m_Store_drop (Store_drop_ok T) (hr.mono (by decide)) pass0 (pa_cons (pe_ix ix_tup (pv 3) pe_int (fun _ _ => rfl)) pa_nil))))))))))) (pss_one (ps_ret (pv 2))))), ?_⟩
    have l1m := line1m
    have l10 := line10k
    have hdvl : dv.length = ds.length := hdv.length.symm
    refine ⟨_, rfl, fun x dx nx ndx ne => ⟨x, dx, l, rfl, upd_same, hl1, hl2, fun H1 sx hst => ⟨rfl, ?_⟩⟩⟩
    have s1 : Same H H1 := same_mk nx ndx sx
    refine ⟨_, rfl, _, rfl, ⟨_, SqL.of (s1 _ _ ha)⟩, ?_⟩
    refine for_it (walk_list (K := K) (xs := dv)) (fun i σ H' => Same H H' ∧ StoreD H' x l (ds.take i) ∧ ∃ d, σ = [some (.ref a), some (.int l), some (.ref x), d]) ⟨s1, hst, _, rfl⟩ (fun i σ H' _ h => SqL.of (h.1 _ _ ha)) ?_ ?_
    · rintro i xi σ H2 H3 hi ⟨s2, st2, d, rfl⟩ ⟨rfl, hxi⟩
      obtain ⟨de, hde, hat⟩ := paired_at _ hdv hxi
      have hat2 : DeedAt H3 de xi := hat.ks (KS.of s2)
      obtain ⟨hv1, hv2⟩ := hvd.at hde
      obtain ⟨ok, bd, m0, m1⟩ := hv1.good (l := l)
      have hil : (ds.take i).length ≤ 60 := by
        rw [List.length_take]
        omega
      have hdl : (runD l (ds.take i)).ds.length < sizeLine := by rw [run_ds]; omega
      have hpl : (pastOf l (ds.take i)).length < sizeLine := by rw [past_len]; omega
      have hrl : (runD l (ds.take i)).rows.length < 100 := by
        have := bd.len
        omega
      obtain ⟨dx3, fs3, hq, _, _, rfl⟩ := st2.some
      have fin : ∀ {H'}, SameB x H3 H' → StoreH H' x l (applyD l (runD l (ds.take i)) de) (pastOf l (ds.take i) ++ [runD l (ds.take i)]) → Same H H' ∧ StoreD H' x l (ds.take (i + 1)) ∧ ∃ d, [some (.ref a), some (.int l), some (.ref x), some xi] = [some (.ref a), some (.int l), some (.ref x), d] := fun {H'} sb st => ⟨Same.sb nx s2 sb, by rw [take_snoc hde]; exact StoreD.step st, _, rfl⟩
      cases de with
      | now m =>
        obtain ⟨t, rfl, ht⟩ := hat2
        exact ⟨_, rfl, _, _, _, _, rfl, rfl, SqT.of ht, atI_nat rfl, rfl, _, rfl, iteTc (by decide +kernel) ⟨_, rfl, _, _, _, rfl, hq, rfl, _, rfl, _, _, _, _, rfl, rfl, SqT.of ht, atI_nat rfl, x, l, m, _, _, rfl, st2, hv2.1, hdl, hpl, fun H' sb st => fin sb st⟩⟩
      | look nm pt =>
        obtain ⟨t, b, rfl, ht, hb⟩ := hat2
        obtain ⟨v1, v2, v3⟩ := hv2
        refine ⟨_, rfl, _, _, _, _, rfl, rfl, SqT.of ht, atI_nat rfl, rfl, _, rfl, iteFc (by decide +kernel) ⟨_, rfl, _, _, _, _, rfl, rfl, SqT.of ht, atI_nat rfl, rfl, _, rfl, iteTc (by decide +kernel) ?_⟩⟩
        exact ⟨_, rfl, _, _, _, rfl, hq, rfl, _, rfl, _, _, _, _, rfl, rfl, SqT.of ht, atI_nat rfl, _, rfl, _, _, _, _, rfl, rfl, SqT.of ht, atI_nat rfl, _, rfl, _, _, _, _, rfl, rfl, SqT.of ht, atI_nat rfl, x, l, _, _, nm, pt.1, .ref b, pt.2.1, pt.2.2, rfl, v1, st2, ok, hrl, hl1, hl2, hdl, hpl, v3, .inr ⟨b, rfl, hb⟩, v2.ok, fun H' sb st => fin sb st⟩
      | set nm ps =>
        obtain ⟨t, sr, rfl, ht, is⟩ := hat2
        obtain ⟨v1, v2, v3, v4⟩ := hv2
        refine ⟨_, rfl, _, _, _, _, rfl, rfl, SqT.of ht, atI_nat rfl, rfl, _, rfl, iteFc (by decide +kernel) ⟨_, rfl, _, _, _, _, rfl, rfl, SqT.of ht, atI_nat rfl, rfl, _, rfl, iteFc (by decide +kernel) ⟨_, rfl, _, _, _, _, rfl, rfl, SqT.of ht, atI_nat rfl, rfl, _, rfl, iteTc (by decide +kernel) ?_⟩⟩⟩
        exact ⟨_, rfl, _, _, _, _, rfl, rfl, SqT.of ht, atI_nat rfl, _, rfl, _, rfl, _, _, _, _, rfl, rfl, SqT.of ht, atI_nat rfl, _, _, _, rfl, hq, x, l, _, _, nm, sr, ps, rfl, v1, st2, ok, hrl, hl1, hl2, hdl, hpl, is, v2, fun z hz => (v4 z hz).1.ok, fun z hz => (v4 z hz).2, fun H' sb st => fin sb st⟩
      | drop nm =>
        obtain ⟨t, rfl, ht⟩ := hat2
        refine ⟨_, rfl, _, _, _, _, rfl, rfl, SqT.of ht, atI_nat rfl, rfl, _, rfl, iteFc (by decide +kernel) ⟨_, rfl, _, _, _, _, rfl, rfl, SqT.of ht, atI_nat rfl, rfl, _, rfl, iteFc (by decide +kernel) ⟨_, rfl, _, _, _, _, rfl, rfl, SqT.of ht, atI_nat rfl, rfl, _, rfl, iteFc (by decide +kernel) ?_⟩⟩⟩
        exact ⟨_, rfl, _, _, _, rfl, hq, rfl, _, rfl, _, _, _, _, rfl, rfl, SqT.of ht, atI_nat rfl, x, l, _, _, nm, rfl, st2, ok.nd, hv2.2, hdl, hpl, by omega, fun H' sb st => fin sb st⟩
    · rintro σ H2 ⟨s2, st2, d, rfl⟩
      rw [hdvl, List.take_length] at st2
      exact ⟨_, rfl, q H2 x s2 nx st2⟩
end G
set_option Elab.async false
set_option linter.all false
set_option maxRecDepth 100000
set_option maxHeartbeats 4000000
namespace G
open PySem PySem.Spec PyProof.Rows L2
variable {P : Program} {w : World} {K : PySem.W.Frag} {mg : Str → Option Value} {base : Heap}
/-! ### states and deeds, the law's own -/
def shD (l : Nat) (ds : List Deed) : PyData := shownD (runD l ds).mo (runD l ds).rows
def prefD (l : Nat) (ds : List Deed) : List PyData := (List.range (ds.length + 1)).map fun i => shD l (ds.take i)
theorem pref_len {l : Nat} {ds : List Deed} : (prefD l ds).length = ds.length + 1 := by
  unfold prefD
  rw [List.length_map, List.length_range]
theorem pref_snoc {l : Nat} {ds : List Deed} {de : Deed} : prefD l (ds ++ [de]) = prefD l ds ++ [shD l (ds ++ [de])] := by
  unfold prefD
  rw [List.length_append, List.length_singleton, List.range_succ (n := ds.length + 1), List.map_append, List.map_singleton]
  congr 1
  · refine List.map_congr_left fun i hi => ?_
    have := List.mem_range.mp hi
    rw [List.take_append_of_le_length (by omega)]
  · rw [List.take_of_length_le (by rw [List.length_append, List.length_singleton]; exact Nat.le_refl _)]
theorem pref_last {l : Nat} {ds : List Deed} : ∃ r, prefD l ds = r ++ [shD l ds] := by
  unfold prefD
  rw [List.range_succ, List.map_append, List.map_singleton, List.take_length]
  exact ⟨_, rfl⟩
theorem DAs.snoc_inv {H : Hp} {N : Addr → Prop} {d : PyData} : ∀ {r : List PyData} {vs : List V}, DAs H N vs (r ++ [d]) → ∃ us u, vs = us ++ [u] ∧ DAs H N us r ∧ DA H N u d := by
  intro r
  induction r with
  | nil =>
    intro vs h
    obtain ⟨v, r2, rfl, h1, h2⟩ := h.cons_inv
    rw [h2.nil_inv]
    exact ⟨[], v, rfl, .nil, h1⟩
  | cons a t ih =>
    intro vs h
    obtain ⟨v, r2, rfl, h1, h2⟩ := h.cons_inv
    obtain ⟨us, u, rfl, h3, h4⟩ := ih h2
    exact ⟨v :: us, u, rfl, .cons h1 h3, h4⟩
theorem DAs.snoc {H : Hp} {N : Addr → Prop} {d : PyData} {u : V} : ∀ {r : List PyData} {vs : List V}, DAs H N vs r → DA H N u d → DAs H N (vs ++ [u]) (r ++ [d]) := by
  intro r
  induction r with
  | nil =>
    intro vs h h1
    rw [h.nil_inv]
    exact .cons h1 .nil
  | cons a t ih =>
    intro vs h h1
    obtain ⟨v, r2, rfl, h2, h3⟩ := h.cons_inv
    exact .cons h2 (ih h3 h1)
theorem DAs.len {H : Hp} {N : Addr → Prop} : ∀ {r : List PyData} {vs : List V}, DAs H N vs r → vs.length = r.length := by
  intro r
  induction r with
  | nil => intro vs h; rw [h.nil_inv]; rfl
  | cons a t ih =>
    intro vs h
    obtain ⟨v, r2, rfl, h2, h3⟩ := h.cons_inv
    rw [List.length_cons, List.length_cons, ih h3]
theorem cut_take {xs : List V} {n : Nat} (h : n ≤ xs.length) : cutV xs none (some (n : Int)) = xs.take n := by
  have h2 : HT.sIx xs.length xs.length (some (n : Int)) = n := by
    show (if (n : Int) < 0 then ((n : Int) + (xs.length : Int)).toNat else min (n : Int).toNat xs.length) = n
    rw [if_neg (by omega)]
    omega
  unfold cutV
  rw [HT.sIx_none, h2, List.drop_zero, Nat.sub_zero]
theorem deeds_fit {l : Nat} {ds : List Deed} (h : Vd l ds) (hn : ds.length ≤ 60) : Fit (.list (ds.map deedD)) 6 36060 := by
  have f := (Fits.map (f := deedD) (ps := ds) (dep := 5) (b := 600) fun de hd => by
    obtain ⟨i, hi⟩ := List.getElem?_of_mem hd
    obtain ⟨h1, h2⟩ := h.at hi
    exact deedD_fit (h1.good (l := l)) (by rw [List.length_take]; omega) h2).list
  have g : (600 + 1) * ds.length ≤ 601 * 60 := Nat.mul_le_mul_left _ hn
  exact f.le (Nat.le_refl _) g
theorem deeds_shaped {l : Nat} {ds : List Deed} (h : Vd l ds) (hn : ds.length ≤ 60) : SeqAt.shaped (.list (ds.map deedD)) = true := by
  refine list_shaped (fun de hd => ?_) fun de hd => ?_
  · obtain ⟨i, hi⟩ := List.getElem?_of_mem hd
    exact deedD_lay (h.at hi).2
  · obtain ⟨i, hi⟩ := List.getElem?_of_mem hd
    obtain ⟨h1, h2⟩ := h.at hi
    exact Nat.le_trans (deedD_fit (h1.good (l := l)) (by rw [List.length_take]; omega) h2).dp (by decide)
theorem shD_fit {l : Nat} {ds : List Deed} (h : Vd l ds) (hn : ds.length ≤ 30) : Fit (shD l ds) 6 106157 := by
  obtain ⟨ok, bd, m0, m1⟩ := h.good (l := l)
  refine (shownD_fit (n := 35) (by omega) ⟨Nat.le_trans bd.len (by omega), fun r hr => ⟨(bd.row r hr).1, Nat.le_trans (bd.row r hr).2.1 (by omega), (bd.row r hr).2.2⟩⟩).le (Nat.le_refl _) (by decide)
/-- pen, store and the law's own lists, as the turns go -/
structure RJ (pc p x : Addr) (l : Nat) (H0 H : Hp) (c : Nat) (sl dl : Addr) (ds : List Deed) : Prop where
  sb : SameB p H0 H
  pen : PenAt pc H p c
  sto : StoreD H x l ds
  sts : DA H (fun b => b ≠ p ∧ b ≠ x) (.ref sl) (.list (prefD l ds))
  dls : DA H (fun b => b ≠ p ∧ b ≠ x) (.ref dl) (.list (ds.map deedD))
  vd : Vd l ds
section
variable {pc p x sl dl : Addr} {l c c' : Nat} {H0 H H2 : Hp} {ds ds' : List Deed}
theorem RJ.draw (h : RJ pc p x l H0 H c sl dl ds) (s : SameB p H H2) (pn : PenAt pc H2 p c') : RJ pc p x l H0 H2 c' sl dl ds := by
  obtain ⟨xs, hx⟩ := h.pen.some
  exact ⟨h.sb.trans s, pn, h.sto.pen hx s, h.sts.sb hx (fun _ z => nomatch z) s fun b nb => ⟨nb.1, nb⟩, h.dls.sb hx (fun _ z => nomatch z) s fun b nb => ⟨nb.1, nb⟩, h.vd⟩
theorem RJ.le (h : RJ pc p x l H0 H c sl dl ds) (hc : c ≤ c') : RJ pc p x l H0 H c' sl dl ds := ⟨h.sb, h.pen.mono hc, h.sto, h.sts, h.dls, h.vd⟩
theorem RJ.same (h : RJ pc p x l H0 H c sl dl ds) (s : Same H H2) : RJ pc p x l H0 H2 c sl dl ds := ⟨h.sb.trans (SameB.of s), h.pen.same s, h.sto.same s, h.sts.same s, h.dls.same s, h.vd⟩
theorem RJ.free (h : RJ pc p x l H0 H c sl dl ds) : ∀ b, H b = none → b ≠ p ∧ b ≠ x := fun b e => ⟨h.pen.ne e, fun z => by
  obtain ⟨dx, fs, hq, _⟩ := h.sto.some
  rw [z, hq] at e
  cases e⟩
end
theorem DA.and {H : Hp} {N : Addr → Prop} {d : PyData} {v : V} {D : Addr} (h : DA H N v d) (hD : H D = none) : DA H (fun b => N b ∧ b ≠ D) v d := h.mono (fun _ _ e => e) (fun _ _ n e => ⟨e, n, ne_of_none e hD⟩)
/-! ### deeds, taken back -/
theorem nf {K : PySem.W.Frag} {C : Addr} : PySem.W.notFirst K C (.ref C) = true := by simp [PySem.W.notFirst]
theorem take_pred {ds : List Deed} {i : Nat} (h : i < ds.length) : ∃ de, ds.take (ds.length - i) = ds.take (ds.length - (i + 1)) ++ [de] ∧ ds[ds.length - (i + 1)]? = some de := by
  have hlt : ds.length - (i + 1) < ds.length := by omega
  refine ⟨ds[ds.length - (i + 1)], ?_, List.getElem?_eq_getElem hlt⟩
  have e := take_snoc (List.getElem?_eq_getElem hlt)
  rw [show ds.length - (i + 1) + 1 = ds.length - i by omega] at e
  exact e
theorem undo_any {H : Hp} {x : Addr} {l : Nat} {ds : List Deed} {Q : VK} {E : XK} (h : StoreD H x l ds) (hz : ds.length ≤ 100) (q : ∀ H', SameB x H H' → StoreD H' x l ds.dropLast → Q (.bl (!ds.isEmpty)) H') : sp_undo [.ref x] H Q E := by
  have l1m := line1m
  refine ⟨x, l, _, _, rfl, h, by rw [past_len]; omega, fun e => ?_, fun q0 s2 H' e sb st => ?_⟩
  · have : ds = [] := by
      have := past_len (l := l) (ds := ds)
      rw [e] at this
      exact List.length_eq_zero_iff.mp this.symm
    subst this
    exact q H (SameB.refl _ _) h
  · have hne : ds ≠ [] := fun z => by
      subst z
      cases q0 <;> cases e
    obtain ⟨d0, de, rfl⟩ := snoc_of hne
    rw [past_snoc] at e
    obtain ⟨e1, e2⟩ := List.append_inj' e rfl
    cases e2
    subst e1
    have := q H' sb (by rw [List.dropLast_concat]; exact st)
    rw [show (!(d0 ++ [de]).isEmpty) = true by cases d0 <;> rfl] at this
    exact this
theorem pref_cut {H : Hp} {N : Addr → Prop} {l : Nat} {ds : List Deed} {ss : List V} (h : DAs H N ss (prefD l ds)) : DAs H N (ss.take (max 1 ds.length)) (prefD l ds.dropLast) := by
  have hl := h.len
  rw [pref_len] at hl
  by_cases c : ds = []
  · subst c
    rw [List.take_of_length_le (by rw [hl]; exact Nat.le_refl _)]
    exact h
  · obtain ⟨d0, de, rfl⟩ := snoc_of c
    rw [pref_snoc] at h
    obtain ⟨us, u, rfl, h1, h2⟩ := h.snoc_inv
    rw [List.length_append, List.length_append] at hl
    have e : max 1 (d0 ++ [de]).length = us.length := by
      rw [List.length_append]
      simp only [List.length_singleton] at hl ⊢
      omega
    rw [e, List.take_append_of_le_length (Nat.le_refl _), List.take_length, List.dropLast_concat]
    exact h1
theorem deeds_cut {H : Hp} {N : Addr → Prop} {ds : List Deed} {dv : List V} (h : DAs H N dv (ds.map deedD)) : DAs H N (cutV dv none (some (-1))) (ds.dropLast.map deedD) := by
  by_cases c : ds = []
  · subst c
    rw [h.nil_inv]
    exact .nil
  · obtain ⟨d0, de, rfl⟩ := snoc_of c
    rw [List.map_append] at h
    obtain ⟨us, u, rfl, h1, h2⟩ := h.snoc_inv
    rw [cut_dropLast, List.dropLast_concat]
    exact h1
theorem Vd.drop {l : Nat} {ds : List Deed} (h : Vd l ds) : Vd l ds.dropLast := by
  by_cases c : ds = []
  · subst c
    exact h
  · obtain ⟨d0, de, rfl⟩ := snoc_of c
    rw [List.dropLast_concat]
    exact h.last.1
def sp_right : Sp := fun vs H Q _ => ∃ p k pc, vs = [.ref p] ∧ PenAt pc H p k ∧ k + 1200 ≤ 2 ^ 20 ∧ ∀ H', SameB p H H' → PenAt pc H' p (k + 1200) → Q (.bl true) H'
theorem sc_law_right : FnScope N_law_right P_law_right (defScope s_law_right) := ⟨rfl, rfl, rfl, by decide +kernel, rfl, by decide +kernel, by decide +kernel⟩
theorem law_right_ok (T : Txt K mg) : FnRG P w K mg base 20 f_law_right sp_right := by
  refine fr_mkG (ps := P_law_right) (N := N_law_right) T.fd_law_right sc_law_right (fun _ _ _ _ _ _ us h => match us, h with | [_], _ => rfl) ?_ ?_
  · rintro vs H Q E ⟨p, k, pc, rfl, _⟩
    rfl
  · rintro cdv A outer s H vs Q E hgu hr ⟨p, k, pc, rfl, hp, hk, q⟩
    have nd := sc_law_right.nd
    have two : (2 : Nat) ^ 20 = 1048576 := by decide
    have bb : ∀ i : Int, i.natAbs < 10 ^ 29 → i.natAbs < 2 ^ 1900 := fun i h => Nat.lt_trans h (by decide +kernel)
    have l1m := line1m
    refine ⟨_, (pss_cons (ps_set (i := 1) nd rfl (by first | exact Or.inl rfl | exact Or.inr rfl) (pe_callR (law_pick_ok T) (hr.mono (by decide)) rfl T.g__law_pick T.k_law_pick pass0 (pa_cons (pv 0) (pa_cons (pe_lst (pa_cons pe_int (pa_cons pe_int (pa_cons pe_int (pa_cons (pe_op op_add pe_int (pe_callR (law_draw_ok T) (hr.mono (by decide)) rfl T.g__law_draw T.k_law_draw pass0 (pa_cons (pv 0) (pa_cons pe_int pa_nil)))) (pa_cons pe_int pa_nil)))))) pa_nil)))) (pss_cons (ps_par3 (i := 2) (j := 3) (l := 4) rfl nd rfl rfl rfl (by decide) (by decide) (by decide) rfl rfl rfl (pa_cons (pe_makeG T.mk_Store (Store_init_ok T) (hr.mono (by decide)) rfl T.g_Store pass0 (pa_cons (pv 1) pa_nil)) (pa_cons (pe_lst (pa_cons (pe_tup (pa_cons pe_int (pa_cons (pe_lst pa_nil) pa_nil))) pa_nil)) (pa_cons (pe_lst pa_nil) pa_nil))) (by rfl)) (Evl.pss_cut (ps_if (PW.pt (pw_or (pt_cmpR op_notBl (pe_methR0 (pv 2) T.cl_Store T.m_Store_undo (Store_undo_ok T) (hr.mono (by decide)) pass0) pe_bl (nomark _)) (pw_or1 (pt_cmpR (op_neD hr.units) (pe_listG (E := E0) (pgen_meth0 (E := E0) (pv 2) T.cl_Store T.m_Store_history (Store_history_fn T).choose_spec.1 (hr.mono (by decide)) (Store_history_fn T).choose_spec.2 .nil) pass00 nostop0 (hr.mono (by decide)) (by rfl) T.n_list (by decide +kernel)) (pe_lst pa_nil) (nomark _))))) (pss_one (ps_ret pe_bl)) pss_nil) (pss_cons (ps_for PassesOwn.never rfl (pi_range1 rfl T.n_range (pa_cons pe_int pa_nil)) (pg_name (i := 5) nd rfl (by first | exact Or.inl rfl | exact Or.inr rfl)) (Evl.pss_cut (ps_if (pt_cmpR op_eq (pe_callR (law_draw_ok T) (hr.mono (by decide)) rfl T.g__law_draw T.k_law_draw pass0 (pa_cons (pv 0) (pa_cons pe_int pa_nil))) pe_int (nomark _)) (Evl.pss_cut (ps_if (pt_cmpR op_ne (pe_callB call_reprB (by rfl) T.n_repr (by decide +kernel) (pa_cons (pe_methR0 (pv 2) T.cl_Store T.m_Store_undo (Store_undo_ok T) (hr.mono (by decide)) pass0) pa_nil)) (pe_callB call_reprB (by rfl) T.n_repr (by decide +kernel) (pa_cons (pe_cmpR (op_neD hr.units) (pv 4) (pe_lst pa_nil) (nomark _)) pa_nil)) (nomark _)) (pss_one (ps_ret pe_bl)) pss_nil) (pss_one (ps_par (i := 3) (j := 4) rfl nd rfl rfl (by decide) rfl rfl (pa_cons (pe_slice sl_list (pv 3) po_none (po_some (pe_callB (call_max2 rfl) (by rfl) T.n_max (by decide +kernel) (pa_cons pe_int (pa_cons (pe_op op_sub (pe_callB call_len_seq (by rfl) T.n_len (by decide +kernel) (pa_cons (pv 3) pa_nil)) pe_int) pa_nil))))) (pa_cons (pe_slice sl_list (pv 4) po_none (po_some (pe_un un_neg pe_int))) pa_nil)) (by rfl)))) (pss_cons (ps_set (i := 6) nd rfl (by first | exact Or.inl rfl | exact Or.inr rfl) (pe_callR (law_deed_ok T) (hr.mono (by decide)) rfl T.g__law_deed T.k_law_deed pass0 (pa_cons (pv 0) (pa_cons (pe_ix ix_list (pv 3) (pe_un un_neg pe_int) (fun _ _ => rfl)) pa_nil)))) (pss_cons (ps_expr (pe_callR (law_do_ok T) (hr.mono (by decide)) rfl T.g__law_do T.k_law_do pass0 (pa_cons (pv 0) (pa_cons (pv 2) (pa_cons (pv 6) pa_nil))))) (pss_one (ps_par (i := 3) (j := 4) rfl nd rfl rfl (by decide) rfl rfl (pa_cons (pe_op op_cat (pv 3) (pe_lst (pa_cons (pe_callR (law_after_ok T) (hr.mono (by decide)) rfl T.g__law_after T.k_law_after pass0 (pa_cons (pe_ix ix_list (pv 3) (pe_un un_neg pe_int) (fun _ _ => rfl)) (pa_cons (pv 1) (pa_cons (pv 6) pa_nil)))) pa_nil))) (pa_cons (pe_op op_cat (pv 4) (pe_lst (pa_cons (pv 6) pa_nil))) pa_nil)) (by rfl)))))) (pss_one (ps_if (PW.pt (pw_or (pt_cmpR op_ne (pe_callB (call_reprD hgu hr.units) (by rfl) T.n_repr (by decide +kernel) (pa_cons (pe_callR (law_shown_ok T) (hr.mono (by decide)) rfl T.g__law_shown T.k_law_shown pass0 (pa_cons (pv 2) pa_nil)) pa_nil)) (pe_callB (call_reprD hgu hr.units) (by rfl) T.n_repr (by decide +kernel) (pa_cons (pe_ix ix_list (pv 3) (pe_un un_neg pe_int) (fun _ _ => rfl)) pa_nil)) (nomark _)) (pw_or1 (pt_cmpR op_ne (pe_callB (call_reprD hgu hr.units) (by rfl) T.n_repr (by decide +kernel) (pa_cons (pe_callR (law_told_ok T) (hr.mono (by decide)) rfl T.g__law_told T.k_law_told pass0 (pa_cons (pe_listG (E := E0) (pgen_meth0 (E := E0) (pv 2) T.cl_Store T.m_Store_history (Store_history_fn T).choose_spec.1 (hr.mono (by decide)) (Store_history_fn T).choose_spec.2 .nil) pass00 nostop0 (hr.mono (by decide)) (by rfl) T.n_list (by decide +kernel)) pa_nil)) pa_nil)) (pe_callB (call_reprD hgu hr.units) (by rfl) T.n_repr (by decide +kernel) (pa_cons (pe_callR (law_plain_ok T) (hr.mono (by decide)) rfl T.g__law_plain T.k_law_plain pass0 (pa_cons (pv 4) pa_nil)) pa_nil)) (nomark _))))) (pss_one (ps_ret pe_bl)) pss_nil)))) (pss_cons (ps_set (i := 7) nd rfl (by first | exact Or.inl rfl | exact Or.inr rfl) (pe_callR (law_replayed_ok T) (hr.mono (by decide)) rfl T.g__law_replayed T.k_law_replayed pass0 (pa_cons (pe_listG (E := E0) (pgen_meth0 (E := E0) (pv 2) T.cl_Store T.m_Store_history (Store_history_fn T).choose_spec.1 (hr.mono (by decide)) (Store_history_fn T).choose_spec.2 .nil) pass00 nostop0 (hr.mono (by decide)) (by rfl) T.n_list (by decide +kernel)) (pa_cons (pv 1) pa_nil)))) (Evl.pss_cut (ps_if (PW.pt (pw_or (pt_not (pt_cmpR (op_ownC (fun _ _ => rfl) T.m_Store_eq.at_ T.m_Store_eq.fn (Store_eq_ok T) (hr.mono (by decide)) pass0) (pv 7) (pv 2) (nomark _))) (pw_or (pt_cmpR (op_neOwn T.ne_Store T.ty_Store.hm T.m_Store_eq.at_ T.m_Store_eq.fn (Store_eq_ok T) (hr.mono (by decide)) pass0) (pv 7) (pv 2) (nomark _)) (pw_or1 (pt_cmpR op_ne (pe_callB (call_reprD hgu hr.units) (by rfl) T.n_repr (by decide +kernel) (pa_cons (pe_callR (law_told_ok T) (hr.mono (by decide)) rfl T.g__law_told T.k_law_told pass0 (pa_cons (pe_listG (E := E0) (pgen_meth0 (E := E0) (pv 7) T.cl_Store T.m_Store_history (Store_history_fn T).choose_spec.1 (hr.mono (by decide)) (Store_history_fn T).choose_spec.2 .nil) pass00 nostop0 (hr.mono (by decide)) (by rfl) T.n_list (by decide +kernel)) pa_nil)) pa_nil)) (pe_callB (call_reprD hgu hr.units) (by rfl) T.n_repr (by decide +kernel) (pa_cons (pe_callR (law_told_ok T) (hr.mono (by decide)) rfl T.g__law_told T.k_law_told pass0 (pa_cons (pe_listG (E := E0) (pgen_meth0 (E := E0) (pv 2) T.cl_Store T.m_Store_history (Store_history_fn T).choose_spec.1 (hr.mono (by decide)) (Store_history_fn T).choose_spec.2 .nil) pass00 nostop0 (hr.mono (by decide)) (by rfl) T.n_list (by decide +kernel)) pa_nil)) pa_nil)) (nomark _)))))) (pss_one (ps_ret pe_bl)) pss_nil) (pss_cons (ps_for PassesOwn.never rfl (pi_range1 rfl T.n_range (pa_cons (pe_callB call_len_seq (by rfl) T.n_len (by decide +kernel) (pa_cons (pv 4) pa_nil)) pa_nil)) (pg_name (i := 5) nd rfl (by first | exact Or.inl rfl | exact Or.inr rfl)) (Evl.pss_cut (ps_if (PW.pt (pw_or (pt_cmpR op_notBl (pe_methR0 (pv 2) T.cl_Store T.m_Store_undo (Store_undo_ok T) (hr.mono (by decide)) pass0) pe_bl (nomark _)) (pw_or1 (pt_cmpR op_notBl (pe_methR0 (pv 7) T.cl_Store T.m_Store_undo (Store_undo_ok T) (hr.mono (by decide)) pass0) pe_bl (nomark _))))) (pss_one (ps_ret pe_bl)) pss_nil) (pss_cons (ps_set (i := 3) nd rfl (by first | exact Or.inl rfl | exact Or.inr rfl) (pe_slice sl_list (pv 3) po_none (po_some (pe_un un_neg pe_int)))) (pss_one (ps_if (PW.pt (pw_or (pt_cmpR op_ne (pe_callB (call_reprD hgu hr.units) (by rfl) T.n_repr (by decide +kernel) (pa_cons (pe_callR (law_shown_ok T) (hr.mono (by decide)) rfl T.g__law_shown T.k_law_shown pass0 (pa_cons (pv 2) pa_nil)) pa_nil)) (pe_callB (call_reprD hgu hr.units) (by rfl) T.n_repr (by decide +kernel) (pa_cons (pe_ix ix_list (pv 3) (pe_un un_neg pe_int) (fun _ _ => rfl)) pa_nil)) (nomark _)) (pw_or1 (pt_cmpR (op_neOwn T.ne_Store T.ty_Store.hm T.m_Store_eq.at_ T.m_Store_eq.fn (Store_eq_ok T) (hr.mono (by decide)) pass0) (pv 7) (pv 2) (nomark _))))) (pss_one (ps_ret pe_bl)) pss_nil))))) (pss_one (ps_ret (pe_and (pe_cmpR op_isBl (pe_methR0 (pv 2) T.cl_Store T.m_Store_undo (Store_undo_ok T) (hr.mono (by decide)) pass0) pe_bl (nomark _)) (pe_and (pe_cmpR (op_ownC (fun _ _ => rfl) T.m_Store_eq.at_ T.m_Store_eq.fn (Store_eq_ok T) (hr.mono (by decide)) pass0) (pv 2) (pe_makeG T.mk_Store (Store_init_ok T) (hr.mono (by decide)) rfl T.g_Store pass0 (pa_cons (pv 1) pa_nil)) (nomark _)) (pe_and (pe_cmpR (op_eqD hr.units) (pe_listG (E := E0) (pgen_meth0 (E := E0) (pv 2) T.cl_Store T.m_Store_history (Store_history_fn T).choose_spec.1 (hr.mono (by decide)) (Store_history_fn T).choose_spec.2 .nil) pass00 nostop0 (hr.mono (by decide)) (by rfl) T.n_list (by decide +kernel)) (pe_lst pa_nil) (nomark _)) (pe_one (pe_cmpR op_eq (pe_callB (call_lenOwn T.m_Store_len (Store_len_ok T) (hr.mono (by decide)) pass0) (by rfl) T.n_len (by decide +kernel) (pa_cons (pv 2) pa_nil)) pe_int (nomark _))))))))))))))), ?_⟩
    refine ⟨_, rfl, _, rfl, p, k, _, _, rfl, hp, by omega, by decide, bb 9 (by decide +kernel), fun H1 d1 s1 p1 d10 d11 => ⟨_, _, rfl, rfl, by show 5 ≤ sizeLine; omega, fun a1 ha1 => ?_⟩⟩
    refine ⟨p, k + 1, a1, _, _, rfl, p1.same (same_new ha1), by omega, upd_same, p1.ne ha1, (show 0 < 5 by decide), (show 5 ≤ 5000 by decide), fun H2 lv s2 p2 hlv => ?_⟩
    obtain ⟨l, rfl, hl1, hl2⟩ : ∃ l : Nat, lv = .int l ∧ 1 ≤ l ∧ l ≤ 5000 := by
      simp only [List.mem_cons, List.not_mem_nil, or_false] at hlv
      rcases hlv with e | e | e | e | e
      · exact ⟨1, e, by omega, by omega⟩
      · exact ⟨2, e, by omega, by omega⟩
      · exact ⟨3, e, by omega, by omega⟩
      · exact ⟨(1 + d1).toNat, by rw [e, Int.toNat_of_nonneg (by omega)], by omega, by omega⟩
      · exact ⟨1000, e, by omega, by omega⟩
    have sb2 : SameB p H H2 := s1.trans ((SameB.of (same_new ha1)).trans s2)
    -- the store, the lists
    refine ⟨_, rfl, fun x dx nx ndx ne => ⟨x, dx, l, rfl, upd_same, hl1, hl2, fun H3 sx hst => ⟨rfl, by show 0 ≤ sizeLine; omega, fun a2 ha2 => ⟨by show 2 ≤ sizeLine; omega, fun t2 ht2 => ⟨by show 1 ≤ sizeLine; omega, fun sl hsl => ⟨by show 0 ≤ sizeLine; omega, fun dl hdl => ⟨_, _, _, rfl, ?_⟩⟩⟩⟩⟩⟩⟩
    have s3 : Same H2 H3 := same_mk nx ndx sx
    have nq : H x = none := by
      obtain ⟨xs2, e2⟩ := p2.some
      exact sb_free sb2 e2 nx
    have s23 : Same H3 (upd (upd (upd H3 a2 (.lst [])) t2 (.tup [.int 0, .ref a2])) sl (.lst [.ref t2])) := ((same_new ha2).trans (same_new ht2)).trans (same_new hsl)
    have ri : RJ pc p x l H (upd (upd (upd (upd H3 a2 (.lst [])) t2 (.tup [.int 0, .ref a2])) sl (.lst [.ref t2])) dl (.lst [])) (k + 2) sl dl [] := by
      have hpen : PenAt pc H3 p (k + 2) := p2.same s3
      have s4 := s23.trans (same_new (o := .lst []) hdl)
      have fr : ∀ b, H3 b = none → b ≠ p ∧ b ≠ x := fun b e => ⟨hpen.ne e, fun z => by
        obtain ⟨dx, fs, hq, _⟩ := StoreH.some hst
        rw [z, hq] at e
        cases e⟩
      refine ⟨(sb2.trans (SameB.of s3)).trans (SameB.of s4), hpen.same s4, StoreD.same hst s4, ?_, .lst upd_same (fr _ (s23.free hdl)) .nil, .nil⟩
      have d1 : DA (upd (upd (upd H3 a2 (.lst [])) t2 (.tup [.int 0, .ref a2])) sl (.lst [.ref t2])) (fun b => b ≠ p ∧ b ≠ x) (.ref t2) (shD l []) := .tup (same_new hsl _ _ upd_same) (.cons (.int _) (.cons (.lst (same_new hsl _ _ (same_new ht2 _ _ upd_same)) (fr _ ha2) .nil) .nil))
      exact DA.same (.lst upd_same (fr _ (((same_new ha2).trans (same_new ht2)).free hsl)) (.cons d1 .nil)) (same_new hdl)
    generalize upd (upd (upd (upd H3 a2 (.lst [])) t2 (.tup [.int 0, .ref a2])) sl (.lst [.ref t2])) dl (.lst []) = H4 at ri
    -- nothing to be taken back
    refine ⟨fun σ' H' => Same H4 H' ∧ σ' = [some (.ref p), some (.int l), some (.ref x), some (.ref sl), some (.ref dl), none, none, none], ?_, ?_⟩
    · obtain ⟨dx, fs, hq, _, _, rfl⟩ := ri.sto.some
      refine ⟨_, rfl, _, _, _, rfl, hq, rfl, x, l, _, _, rfl, ri.sto, by rw [past_len]; show 0 < sizeLine; omega, fun _ => ?_, fun q0 s2 H' e => ?_⟩
      · refine ⟨_, _, rfl, rfl, _, rfl, iteF ?_⟩
        refine ⟨_, rfl, _, _, _, rfl, hq, rfl, x, l, _, _, rfl, ri.sto, by rw [run_ds]; exact Nat.zero_le _, fun dv hdv a ha => ?_⟩
        have hdv2 : Paired (DeedAt H4) [] dv := hdv
        cases hdv2
        refine ⟨by show 0 ≤ sizeLine; omega, fun l0 hl0 => ?_⟩
        refine ⟨.list [], .list [], .lst (SqL.of (same_new hl0 _ _ upd_same)) .nil, .lst (SqL.of upd_same) .nil, PySem.W.ke_shaped_ints [], PySem.W.ke_shaped_ints [], _, rfl, iteFc rfl ⟨(same_new ha).trans (same_new hl0), rfl⟩⟩
      · cases q0 <;> cases e
    rintro σ5 H5 ⟨s45, rfl⟩
    replace ri := ri.same s45
    refine ⟨_, rfl, by decide, by decide, ?_⟩
    refine for_it walk_range (fun i σ H' => ∃ sl dl ds a5 a6, σ = [some (.ref p), some (.int l), some (.ref x), some (.ref sl), some (.ref dl), a5, a6, none] ∧ RJ pc p x l H H' (k + 2 + 62 * i) sl dl ds ∧ ds.length ≤ i) ⟨sl, dl, [], _, _, rfl, ri, Nat.zero_le _⟩ (fun _ _ _ _ _ => trivial) ?_ ?_
    · rintro i xi σ H6 H7 hi ⟨sl, dl, ds, a5, a6, rfl, ri, hdl⟩ ⟨rfl, rfl⟩
      have hi18 : i < 18 := hi
      refine ⟨fun σ' H' => ∃ sl dl ds a5 a6, σ' = [some (.ref p), some (.int l), some (.ref x), some (.ref sl), some (.ref dl), a5, a6, none] ∧ RJ pc p x l H H' (k + 2 + 62 * i + 62) sl dl ds ∧ ds.length ≤ i + 1, ?_, ?_⟩
      · refine ⟨_, rfl, p, _, _, _, rfl, ri.pen, by omega, by decide, bb 3 (by decide +kernel), fun H8 d8 s8 p8 d80 d81 => ⟨rfl, _, rfl, ite2 (fun _ => ?_) (fun _ => ?_)⟩⟩
        · -- taken back
          have ri8 := ri.draw s8 p8
          refine ⟨fun σ' H' => σ' = [some (.ref p), some (.int l), some (.ref x), some (.ref sl), some (.ref dl), some (.int (0 + (i : Nat))), a6, none] ∧ SameB p H H' ∧ PenAt pc H' p (k + 2 + 62 * i + 1) ∧ StoreD H' x l ds.dropLast ∧ DA H' (fun b => b ≠ p ∧ b ≠ x) (.ref sl) (.list (prefD l ds)) ∧ DA H' (fun b => b ≠ p ∧ b ≠ x) (.ref dl) (.list (ds.map deedD)), ?_, ?_⟩
          · obtain ⟨dx, fs, hq, _, _, rfl⟩ := ri8.sto.some
            refine ⟨_, rfl, _, _, _, rfl, hq, rfl, undo_any ri8.sto (by omega) fun H9 s9 st9 => ?_⟩
            have da9 := ri8.sts.sb hq (fun _ z => nomatch z) s9 fun b nb => ⟨nb.2, nb⟩
            have dd9 := ri8.dls.sb hq (fun _ z => nomatch z) s9 fun b nb => ⟨nb.2, nb⟩
            refine ⟨_, rfl, _, rfl, by show 0 ≤ sizeLine; omega, fun l0 hl0 => ?_⟩
            have s10 := same_new (o := .lst []) hl0
            refine ⟨.list (ds.map deedD), .list [], (dd9.same s10).dp, .lst (SqL.of upd_same) .nil, deeds_shaped ri8.vd (by omega), PySem.W.ke_shaped_ints [], _, rfl, rfl, _, rfl, ?_⟩
            rw [eqv_emp]
            refine iteNS rfl ⟨rfl, (SameB.at_ nq ri8.sb s9).trans (SameB.of s10), (ri8.pen.sb hq (fun _ z => nomatch z) s9).same s10, st9.same s10, da9.same s10, dd9.same s10⟩
          · rintro σ9 H9 ⟨rfl, sb9, p9, st9, da9, dd9⟩
            obtain ⟨sl1, ss, e, hsl, nsl, dass⟩ := da9.lst_inv
            cases e
            obtain ⟨dl1, dvs, e, hdls, ndl, dasd⟩ := dd9.lst_inv
            cases e
            have hss := dass.len
            rw [pref_len] at hss
            refine ⟨_, rfl, ?_⟩
            unfold tNoPart
            refine ⟨_, rfl, _, _, rfl, .inl (SqL.of hsl), _, _, rfl, rfl, _, _, rfl, _, rfl, sl, ss, rfl, SqL.of hsl, fun sl2 hsl2 => ⟨_, rfl, ?_⟩⟩
            have em : (if ((ss.length : Nat) : Int) - 1 > 1 then ((ss.length : Nat) : Int) - 1 else 1) = ((max 1 ds.length : Nat) : Int) := by
              rw [hss]
              split <;> omega
            rw [em, cut_take (by rw [hss]; omega)]
            have s10 := same_new (o := .lst (ss.take (max 1 ds.length))) hsl2
            refine ⟨_, rfl, _, rfl, dl, dvs, rfl, SqL.of (s10 _ _ hdls), fun dl2 hdl2 => ⟨_, _, rfl, ?_⟩⟩
            have s11 := s10.trans (same_new (o := .lst (cutV dvs none (some (-1)))) hdl2)
            have fr : ∀ b, H9 b = none → b ≠ p ∧ b ≠ x := fun b e => ⟨p9.ne e, fun z => by
              obtain ⟨dx, fs, hq, _⟩ := st9.some
              rw [z, hq] at e
              cases e⟩
            have hdl3 := List.length_dropLast (xs := ds)
            refine ⟨sl2, dl2, ds.dropLast, _, _, rfl, RJ.le ⟨sb9.trans (SameB.of s11), p9.same s11, st9.same s11, DA.same (.lst upd_same (fr _ hsl2) ?_) (same_new hdl2), .lst upd_same (fr _ (s10.free hdl2)) ?_, ri8.vd.drop⟩ (by omega), by omega⟩
            · exact DAs.mono (fun _ _ e => s10 _ _ e) (fun _ _ n e => ⟨s10 _ _ e, n⟩) _ _ (pref_cut dass)
            · exact DAs.mono (fun _ _ e => s11 _ _ e) (fun _ _ n e => ⟨s11 _ _ e, n⟩) _ _ (deeds_cut dasd)
        · -- done
          have ri8 := ri.draw s8 p8
          obtain ⟨rp, erp⟩ := pref_last (l := l) (ds := ds)
          have h1 := ri8.sts
          rw [erp] at h1
          obtain ⟨sl1, ss, e, hsl, nsl, dass⟩ := h1.lst_inv
          cases e
          obtain ⟨us, u, rfl, dus, du⟩ := dass.snoc_inv
          obtain ⟨st, _, rfl, _⟩ := du.tup_inv
          obtain ⟨ok, bd, m0, m1⟩ := ri8.vd.good (l := l)
          refine ⟨_, rfl, _, rfl, _, rfl, _, _, _, _, rfl, rfl, SqL.of hsl, atI_last _ _, ?_⟩
          refine ⟨p, _, pc, st, (runD l ds).mo, (runD l ds).rows, _, rfl, ri8.pen, by omega, du, fun b nb => nb.1, ri8.free, by have := bd.len; omega, fun r hr => (bd.row r hr).1, m0, by omega, fun H9 dd de s9 p9 dade hdv => ?_⟩
          have ri9 := ri8.draw s9 p9
          have hvd : DeedV (runD l ds) de := hdv (runD l ds).ds
          refine ⟨_, rfl, _, rfl, _, rfl, p, _, pc, x, l, ds, de, dd, _, rfl, ri9.pen, by omega, ri9.sto, dade, fun b nb => nb.1, ri9.vd, hvd, hl1, hl2, by omega, fun H10 H11 s10 p10 s11 st11 => ?_⟩
          have ri10 := ri9.draw s10 p10
          obtain ⟨xs9, hx9⟩ := ri9.pen.some
          have dade10 := dade.sb hx9 (fun _ z => nomatch z) s10 fun b nb => ⟨nb.1, nb⟩
          obtain ⟨dx, fs, hq, _, _, rfl⟩ := ri10.sto.some
          have da11 := ri10.sts.sb hq (fun _ z => nomatch z) s11 fun b nb => ⟨nb.2, nb⟩
          have dd11 := ri10.dls.sb hq (fun _ z => nomatch z) s11 fun b nb => ⟨nb.2, nb⟩
          have dade11 := dade10.sb hq (fun _ z => nomatch z) s11 fun b nb => ⟨nb.2, nb⟩
          have p11 := ri10.pen.sb hq (fun _ z => nomatch z) s11
          have sb11 := SameB.at_ nq ri10.sb s11
          have fr : ∀ b, H11 b = none → b ≠ p ∧ b ≠ x := fun b e => ⟨p11.ne e, fun z => by
            obtain ⟨dx, fs, hq, _⟩ := st11.some
            rw [z, hq] at e
            cases e⟩
          rw [erp] at da11
          obtain ⟨sl1, ss, e, hsl, nsl, dass⟩ := da11.lst_inv
          cases e
          obtain ⟨us, u, rfl, dus, du⟩ := dass.snoc_inv
          obtain ⟨st, _, rfl, _⟩ := du.tup_inv
          have hok : DeedOk de := by
            cases de with
            | set nm ps => exact ⟨hvd.2.1, by have := hvd.2.2.1; omega⟩
            | _ => trivial
          refine ⟨_, rfl, _, rfl, _, rfl, _, _, _, _, rfl, rfl, SqL.of hsl, atI_last _ _, _, rfl, _, rfl, ?_⟩
          refine ⟨st, l, dd, (runD l ds).mo, (runD l ds).rows, de, _, rfl, du, dade11, fr, ok, hok, hl1, hl2, by have := bd.len; omega, fun H12 t s12 dat => ⟨by show 1 ≤ sizeLine; omega, fun a13 ha13 => ?_⟩⟩
          have s13 := s12.trans (same_new (o := .lst [.ref t]) ha13)
          have hssl := dus.len
          have hrl : rp.length = ds.length := by
            have := congrArg List.length erp
            rw [pref_len, List.length_append, List.length_singleton] at this
            omega
          refine ⟨_, _, _, _, rfl, rfl, s13 _ _ hsl, upd_same, by rw [List.length_append, List.length_singleton, List.length_singleton]; omega, fun sl2 hsl2 => ?_⟩
          have s14 := s13.trans (same_new (o := .lst ((us ++ [.ref st]) ++ [.ref t])) hsl2)
          obtain ⟨dl1, dvs, e, hdls, ndl, dasd⟩ := dd11.lst_inv
          cases e
          have hdvl := dasd.len
          rw [List.length_map] at hdvl
          refine ⟨_, rfl, _, rfl, by show 1 ≤ sizeLine; omega, fun a15 ha15 => ?_⟩
          have s15 := s14.trans (same_new (o := .lst [.ref dd]) ha15)
          refine ⟨_, _, _, _, rfl, rfl, s15 _ _ hdls, upd_same, by rw [List.length_singleton]; omega, fun dl2 hdl2 => ⟨_, _, rfl, ?_⟩⟩
          have s16 := s15.trans (same_new (o := .lst (dvs ++ [.ref dd])) hdl2)
          refine ⟨sl2, dl2, ds ++ [de], _, _, rfl, RJ.le ⟨sb11.trans (SameB.of s16), p11.same s16, st11.same s16, ?_, ?_, .snoc ri8.vd hvd⟩ (by omega), by rw [List.length_append, List.length_singleton]; omega⟩
          · refine .lst (same_new hdl2 _ _ (same_new ha15 _ _ upd_same)) (fr _ (s13.free hsl2)) ?_
            rw [pref_snoc, erp]
            refine DAs.snoc (DAs.snoc (DAs.mono (fun _ _ e => s16 _ _ e) (fun _ _ n e => ⟨s16 _ _ e, n⟩) _ _ dus) (du.same s16)) ?_
            have e1 : shD l (ds ++ [de]) = shownD (afterR l (runD l ds).mo (runD l ds).rows de).1 (afterR l (runD l ds).mo (runD l ds).rows de).2 := by
              unfold shD
              rw [run_snoc]
              rfl
            rw [e1]
            exact dat.same ((same_new ha13).trans ((same_new hsl2).trans ((same_new ha15).trans (same_new hdl2))))
          · refine .lst upd_same (fr _ (s15.free hdl2)) ?_
            rw [List.map_append]
            exact DAs.snoc (DAs.mono (fun _ _ e => s16 _ _ e) (fun _ _ n e => ⟨s16 _ _ e, n⟩) _ _ dasd) (dade11.same s16)
      · rintro σ8 H8 ⟨sl, dl, ds, a5, a6, rfl, ri, hdl⟩
        obtain ⟨ok, bd, m0, m1⟩ := ri.vd.good (l := l)
        have hfit := shD_fit ri.vd (l := l) (by omega)
        have hlen := hfit.shown (by decide)
        have dfit := deeds_fit ri.vd (by omega)
        have dlen := dfit.shown (by decide)
        refine ⟨_, rfl, x, l, (runD l ds).mo, (runD l ds).rows, (runD l ds).ds, _, rfl, ri.sto, ok, hl2, by have := bd.len; omega, fun H9 ts s9 dp9 => ?_⟩
        have ri9 := ri.same s9
        obtain ⟨rp, erp⟩ := pref_last (l := l) (ds := ds)
        have h1 := ri9.sts
        rw [erp] at h1
        obtain ⟨sl1, ss, e, hsl, nsl, dass⟩ := h1.lst_inv
        cases e
        obtain ⟨us, u, rfl, dus, du⟩ := dass.snoc_inv
        obtain ⟨st, _, rfl, _⟩ := du.tup_inv
        refine ⟨ts, shD l ds, rfl, dp9, hfit.s, hfit.n, Nat.le_trans hfit.dp (by decide), hlen, _, rfl, _, rfl, _, _, _, _, rfl, rfl, SqL.of hsl, atI_last _ _, st, shD l ds, rfl, du.dp, hfit.s, hfit.n, Nat.le_trans hfit.dp (by decide), hlen, rfl, _, rfl, iteNS rfl ?_⟩
        obtain ⟨dx, fs, hq, _, _, rfl⟩ := ri9.sto.some
        refine ⟨_, rfl, _, _, _, rfl, hq, rfl, x, l, _, _, rfl, ri9.sto, by rw [run_ds]; omega, fun dv hdv a ha => ?_⟩
        rw [run_ds] at hdv
        have s10 := same_new (o := .lst dv) ha
        refine ⟨a, dv, ds, rfl, upd_same, hdv.mono (fun _ _ h => h.ks (KS.of s10)), by omega, ri.vd.b, fun H11 b s11 dp11 => ?_⟩
        have ri11 := ri9.same (s10.trans s11)
        refine ⟨b, _, rfl, dp11, dfit.s, dfit.n, Nat.le_trans dfit.dp (by decide), dlen, _, rfl, dl, ds, _, rfl, ri11.dls, by omega, fun H12 b2 s12 dp12 => ?_⟩
        refine ⟨b2, _, rfl, dp12, dfit.s, dfit.n, Nat.le_trans dfit.dp (by decide), dlen, rfl, _, rfl, iteNS rfl ?_⟩
        exact ⟨sl, dl, ds, _, _, rfl, (ri11.same s12).le (by omega), hdl⟩
    · rintro σ H6 ⟨sl, dl, ds, a5, a6, rfl, ri, hdl⟩
      have hdl18 : ds.length ≤ 18 := hdl
      obtain ⟨dx, fs, hq, _, _, rfl⟩ := ri.sto.some
      refine ⟨_, rfl, _, _, _, rfl, hq, rfl, x, l, _, _, rfl, ri.sto, by rw [run_ds]; omega, fun dv hdv a ha => ?_⟩
      rw [run_ds] at hdv
      have s7 := same_new (o := .lst dv) ha
      refine ⟨_, rfl, a, dv, ds, l, rfl, upd_same, hdv.mono (fun _ _ h => h.ks (KS.of s7)), ri.vd, hl1, hl2, by omega, fun H8 y s8 ny sty => ?_⟩
      have ri8 := ri.same (s7.trans s8)
      have ny6 : H6 y = none := s7.free ny
      have nyx : y ≠ x := fun z => by rw [z, hq] at ny6; cases ny6
      have nyp : y ≠ p := ri.pen.ne ny6
      have nyH : H y = none := by
        obtain ⟨xs, hxs⟩ := ri.pen.some
        exact sb_free ri.sb hxs ny6
      obtain ⟨ok, bd, m0, m1⟩ := ri.vd.good (l := l)
      have hnm : ∀ r ∈ (runD l ds).rows, NameOk r.1 := fun r hr => (bd.row r hr).1
      have dsts : DA H8 (fun b => (b ≠ p ∧ b ≠ x) ∧ b ≠ y) (.ref sl) (.list (prefD l ds)) := (ri.sts.and ny6).same (s7.trans s8)
      refine ⟨fun σ' H' => Same H8 H' ∧ σ' = [some (.ref p), some (.int l), some (.ref x), some (.ref sl), some (.ref dl), a5, a6, some (.ref y)], ?_, ?_⟩
      · obtain ⟨dx8, fs8, hq8, _, _, rfl⟩ := ri8.sto.some
        obtain ⟨dy, fy, hy, _, _, rfl⟩ := sty.some
        refine ⟨_, rfl, _, rfl, _, _, _, _, rfl, hy, .ins hq8, nf, y, x, l, (runD l ds).mo, (runD l ds).rows, (runD l ds).ds, (runD l ds).ds, _, _, rfl, sty, ri8.sto, ok.nd, hnm, fun H9 s9 => ⟨_, rfl, iteF ?_⟩⟩
        refine ⟨_, rfl, _, rfl, _, _, _, _, rfl, s9 _ _ hy, .ins (s9 _ _ hq8), nf, y, x, l, (runD l ds).mo, (runD l ds).rows, (runD l ds).ds, (runD l ds).ds, _, _, rfl, sty.same s9, ri8.sto.same s9, ok.nd, hnm, fun H10 s10 => ⟨true, rfl, _, rfl, iteF ?_⟩⟩
        have dfit := deeds_fit ri.vd (by omega)
        have dlen := dfit.shown (by decide)
        have s910 := s9.trans s10
        refine ⟨_, rfl, _, _, _, rfl, s910 _ _ hy, rfl, y, l, _, _, rfl, sty.same s910, by rw [run_ds]; omega, fun dv1 hdv1 b1 hb1 => ?_⟩
        rw [run_ds] at hdv1
        have s11 := same_new (o := .lst dv1) hb1
        refine ⟨b1, dv1, ds, rfl, upd_same, hdv1.mono (fun _ _ h => h.ks (KS.of s11)), by omega, ri.vd.b, fun H12 b2 s12 dp12 => ?_⟩
        have s13 := s910.trans (s11.trans s12)
        refine ⟨b2, _, rfl, dp12, dfit.s, dfit.n, Nat.le_trans dfit.dp (by decide), dlen, _, rfl, _, _, _, rfl, s13 _ _ hq8, rfl, x, l, _, _, rfl, ri8.sto.same s13, by rw [run_ds]; omega, fun dv2 hdv2 b3 hb3 => ?_⟩
        rw [run_ds] at hdv2
        have s14 := same_new (o := .lst dv2) hb3
        refine ⟨b3, dv2, ds, rfl, upd_same, hdv2.mono (fun _ _ h => h.ks (KS.of s14)), by omega, ri.vd.b, fun H15 b4 s15 dp15 => ?_⟩
        exact ⟨b4, _, rfl, dp15, dfit.s, dfit.n, Nat.le_trans dfit.dp (by decide), dlen, rfl, _, rfl, iteNS rfl ⟨s13.trans (s14.trans s15), rfl⟩⟩
      rintro σ9 H9 ⟨s89, rfl⟩
      have ri9 := ri8.same s89
      obtain ⟨dl1, dvs, e, hdls, ndl, dasd⟩ := ri9.dls.lst_inv
      cases e
      have hdvl := dasd.len
      rw [List.length_map] at hdvl
      refine ⟨_, rfl, _, _, rfl, .inl (SqL.of hdls), _, rfl, by rw [hdvl]; omega, by rw [hdvl]; omega, ?_⟩
      rw [hdvl, show ((ds.length : Nat) : Int).toNat = ds.length from rfl]
      refine for_it walk_range (fun i σ H' => ∃ sl a5, σ = [some (.ref p), some (.int l), some (.ref x), some (.ref sl), some (.ref dl), a5, a6, some (.ref y)] ∧ SameB p H H' ∧ PenAt pc H' p (k + 2 + 62 * 18) ∧ StoreD H' x l (ds.take (ds.length - i)) ∧ StoreD H' y l (ds.take (ds.length - i)) ∧ DA H' (fun b => (b ≠ p ∧ b ≠ x) ∧ b ≠ y) (.ref sl) (.list (prefD l (ds.take (ds.length - i))))) ⟨sl, _, rfl, ri9.sb, ri9.pen, ?_, ?_, ?_⟩ (fun _ _ _ _ _ => trivial) ?_ ?_
      · rw [Nat.sub_zero, List.take_length]
        exact ri9.sto
      · rw [Nat.sub_zero, List.take_length]
        exact sty.same s89
      · rw [Nat.sub_zero, List.take_length]
        exact dsts.same s89
      · rintro i xi σ H10 H11 hi ⟨sl, a5, rfl, sb10, p10, stx, sty, dst⟩ ⟨rfl, rfl⟩
        obtain ⟨de, e1, e2⟩ := take_pred hi
        rw [e1] at stx sty dst
        have hv := (ri.vd.at e2).1
        have hel : (ds.take (ds.length - (i + 1))).length ≤ 18 := by
          rw [List.length_take]
          omega
        generalize ds.take (ds.length - (i + 1)) = e at stx sty dst hv hel ⊢
        have hel1 : (e ++ [de]).length ≤ 100 := by
          rw [List.length_append, List.length_singleton]
          omega
        obtain ⟨dx, fs, hq, _, _, rfl⟩ := stx.some
        refine ⟨fun σ' H' => σ' = [some (.ref p), some (.int l), some (.ref x), some (.ref sl), some (.ref dl), some (.int (0 + (i : Nat))), a6, some (.ref y)] ∧ SameB p H H' ∧ PenAt pc H' p (k + 2 + 62 * 18) ∧ StoreD H' x l e ∧ StoreD H' y l e ∧ DA H' (fun b => (b ≠ p ∧ b ≠ x) ∧ b ≠ y) (.ref sl) (.list (prefD l (e ++ [de]))), ?_, ?_⟩
        · refine ⟨_, rfl, _, _, _, rfl, hq, rfl, undo_any stx hel1 fun H12 s12 st12 => ?_⟩
          rw [List.dropLast_concat] at st12
          rw [show (!(e ++ [de]).isEmpty) = true by cases e <;> rfl]
          have sty12 : StoreD H12 y l (e ++ [de]) := StoreH.sb sty hq rfl s12 nyx
          have dst12 := dst.sb hq (fun _ z => nomatch z) s12 fun b nb => ⟨nb.1.2, nb⟩
          have p12 := p10.sb hq (fun _ z => nomatch z) s12
          obtain ⟨dy, fy, hy, _, _, rfl⟩ := sty12.some
          obtain ⟨dx2, fs2, hq2, _, _, rfl⟩ := st12.some
          refine ⟨_, _, rfl, rfl, _, rfl, iteNS rfl ⟨_, rfl, _, _, _, rfl, hy, rfl, undo_any sty12 hel1 fun H13 s13 st13 => ?_⟩⟩
          rw [List.dropLast_concat] at st13
          rw [show (!(e ++ [de]).isEmpty) = true by cases e <;> rfl]
          have stx13 : StoreD H13 x l e := StoreH.sb st12 hy rfl s13 (fun z => nyx z.symm)
          have dst13 := dst12.sb hy (fun _ z => nomatch z) s13 fun b nb => ⟨nb.2, nb⟩
          have p13 := p12.sb hy (fun _ z => nomatch z) s13
          exact ⟨_, _, rfl, rfl, _, rfl, iteNS rfl ⟨rfl, SameB.at_ nyH (SameB.at_ nq sb10 s12) s13, p13, stx13, st13, dst13⟩⟩
        rintro σ14 H14 ⟨rfl, sb14, p14, stx, sty, dst⟩
        rw [pref_snoc] at dst
        obtain ⟨sl1, ss, e0, hsl, nsl, dass⟩ := dst.lst_inv
        cases e0
        obtain ⟨us, u, rfl, dus, du⟩ := dass.snoc_inv
        refine ⟨_, rfl, ?_⟩
        unfold tNoPart
        refine ⟨_, rfl, _, rfl, sl, us ++ [u], rfl, SqL.of hsl, fun sl2 hsl2 => ?_⟩
        rw [cut_dropLast]
        have s15 := same_new (o := .lst us) hsl2
        obtain ⟨dx, fs, hq, _, _, rfl⟩ := stx.some
        obtain ⟨dy, fy, hy, _, _, rfl⟩ := sty.some
        have fr : (sl2 ≠ p ∧ sl2 ≠ x) ∧ sl2 ≠ y := ⟨⟨p14.ne hsl2, (ne_of_none hq hsl2).symm⟩, (ne_of_none hy hsl2).symm⟩
        have dst15 : DA (upd H14 sl2 (.lst us)) (fun b => (b ≠ p ∧ b ≠ x) ∧ b ≠ y) (.ref sl2) (.list (prefD l e)) := .lst upd_same fr (DAs.mono (fun _ _ e => s15 _ _ e) (fun _ _ n e => ⟨s15 _ _ e, n⟩) _ _ dus)
        have sb15 := sb14.trans (SameB.of s15)
        have p15 := p14.same s15
        have stx15 := stx.same s15
        have sty15 := sty.same s15
        have hq15 := s15 _ _ hq
        have hy15 := s15 _ _ hy
        generalize upd H14 sl2 (.lst us) = H15 at dst15 sb15 p15 stx15 sty15 hq15 hy15
        obtain ⟨ok, bd, m0, m1⟩ := hv.good (l := l)
        have hnm : ∀ r ∈ (runD l e).rows, NameOk r.1 := fun r hr => (bd.row r hr).1
        have hfit := shD_fit hv (by omega)
        have hlen := hfit.shown (by decide)
        refine ⟨_, rfl, x, l, (runD l e).mo, (runD l e).rows, (runD l e).ds, _, rfl, stx15, ok, hl2, by have := bd.len; omega, fun H16 ts s16 dp16 => ?_⟩
        have dst16 := dst15.same s16
        obtain ⟨rp, erp⟩ := pref_last (l := l) (ds := e)
        have h1 := dst16
        rw [erp] at h1
        obtain ⟨sl1, ss, e0, hsl, nsl, dass⟩ := h1.lst_inv
        cases e0
        obtain ⟨us, u, rfl, dus, du⟩ := dass.snoc_inv
        obtain ⟨st, _, rfl, _⟩ := du.tup_inv
        refine ⟨ts, shD l e, rfl, dp16, hfit.s, hfit.n, Nat.le_trans hfit.dp (by decide), hlen, _, rfl, _, rfl, _, _, _, _, rfl, rfl, SqL.of hsl, atI_last _ _, st, shD l e, rfl, du.dp, hfit.s, hfit.n, Nat.le_trans hfit.dp (by decide), hlen, rfl, _, rfl, iteNS rfl ?_⟩
        refine ⟨_, rfl, _, rfl, _, _, _, _, rfl, s16 _ _ hy15, .ins (s16 _ _ hq15), nf, y, x, l, (runD l e).mo, (runD l e).rows, (runD l e).ds, (runD l e).ds, _, _, rfl, sty15.same s16, stx15.same s16, ok.nd, hnm, fun H17 s17 => ⟨true, rfl, _, rfl, iteF ?_⟩⟩
        have s167 := s16.trans s17
        exact ⟨sl2, _, rfl, sb15.trans (SameB.of s167), p15.same s167, stx15.same s167, sty15.same s167, dst15.same s167⟩
      · rintro σ H10 ⟨sl, a5, rfl, sb10, p10, stx, sty, dst⟩
        rw [Nat.sub_self, List.take_zero] at stx
        obtain ⟨dx, fs, hq, _, _, rfl⟩ := stx.some
        refine ⟨_, rfl, _, _, _, rfl, hq, rfl, undo_any stx (Nat.zero_le _) fun H11 s11 st11 => ?_⟩
        have st11' : StoreD H11 x l [] := st11
        have sb11 := SameB.at_ nq sb10 s11
        have p11 := p10.sb hq (fun _ z => nomatch z) s11
        clear st11 stx hq
        refine ⟨_, _, rfl, rfl, _, rfl, iteTc rfl ?_⟩
        refine ⟨_, rfl, _, rfl, fun z dz nz ndz nez => ⟨z, dz, l, rfl, upd_same, hl1, hl2, fun H12 sz stz => ?_⟩⟩
        have s12 : Same H11 H12 := same_mk nz ndz sz
        have st12 := st11'.same s12
        obtain ⟨dx12, fs12, hq12, _, _, rfl⟩ := st12.some
        obtain ⟨dz12, fz12, hz12, _, _, rfl⟩ := StoreH.some stz
        refine ⟨rfl, _, _, _, _, rfl, hq12, .ins hz12, nf, x, z, l, 0, [], [], [], [], [], rfl, st12, stz, .nil, (fun r hr => nomatch hr), fun H13 s13 => ⟨_, rfl, iteT ?_⟩⟩
        have st13 := st12.same s13
        refine ⟨_, rfl, _, _, _, rfl, s13 _ _ hq12, rfl, x, l, _, _, rfl, st13, Nat.zero_le _, fun dv hdv a ha => ?_⟩
        have hdv2 : Paired (DeedAt H13) [] dv := hdv
        cases hdv2
        refine ⟨by show 0 ≤ sizeLine; omega, fun l0 hl0 => ?_⟩
        refine ⟨.list [], .list [], .lst (SqL.of (same_new hl0 _ _ upd_same)) .nil, .lst (SqL.of upd_same) .nil, PySem.W.ke_shaped_ints [], PySem.W.ke_shaped_ints [], _, rfl, iteTc rfl ?_⟩
        have s14 := s13.trans ((same_new (o := .lst []) ha).trans (same_new (o := .lst []) hl0))
        have s15 := s12.trans s14
        refine ⟨_, rfl, _, _, _, rfl, s14 _ _ hq12, x, l, _, _, rfl, st12.same s14, _, rfl, ⟨Int.le_refl 0, by show (0 : Int) < _; decide⟩, rfl, ?_⟩
        exact q _ (sb11.trans (SameB.of s15)) ((p11.same s15).mono (by omega))
end G
set_option Elab.async false
set_option linter.all false
set_option maxRecDepth 100000
set_option maxHeartbeats 4000000
/-! C() of an own class. -/
namespace G
open PySem PySem.Spec PyProof.Rows L2
theorem pe_makeG0 {X : Cx} {CX : CXT} {k : Nat} {C f : Addr} {sp : Sp} {E : XK} {x : Str} {pp pos : Pos} (M : Mk X.K C f) (F : FnR X.prog X.w X.K X.mg X.base CX k f sp) (hr : Room (k + 1) X.A) (hg : Gl X x) (hm : X.mg x = some (.ref C)) (hx : Passes CX X E) (hdb : (x == ("__debug__" : Str)) = false := by decide) :
    PE X (.Call (.Name x pp) [] [] pos) (tMakeG C sp E tNil) := by
  refine ⟨fun pins s σ H Q I h => ?_⟩
  refine wpAny_Call_Name_kw (ld_glob I hg hm ?_ hdb)
  exact PySem.W.callWith_K0 I.kIn M.kp (run_mk M F hr hx I .nil h)
end G
set_option Elab.async false
set_option linter.all false
set_option maxRecDepth 100000
set_option maxHeartbeats 4000000
namespace G
open PySem PySem.Spec PyProof.Rows L2
variable {P : Program} {w : World} {K : PySem.W.Frag} {mg : Str → Option Value} {base : Heap}
def toldD (f : Int) : PyData := .list [.bool true, .bool true, .tuple [], .bool true, .int f, .bool true, .int 0, .bool false]
def sp_law (K : PySem.W.Frag) : Sp := fun vs H Q _ => ∃ (a : Addr) (ns : List Int), vs = [.ref a] ∧ SqL K H a (List.map V.int ns) ∧ ns.length ≤ sizeLine ∧ ∀ H', Q (.bl true) H'
theorem sc_law : FnScope N_law P_law (defScope s_law) := ⟨rfl, rfl, rfl, by decide +kernel, rfl, by decide +kernel, by decide +kernel⟩
theorem law_ok (T : Txt K mg) : FnRG P w K mg base 22 f_law (sp_law K) := by
  refine fr_mkG (ps := P_law) (N := N_law) T.fd_law sc_law (fun _ _ _ _ _ _ us h => match us, h with | [_], _ => rfl) ?_ ?_
  · rintro vs H Q E ⟨a, ns, rfl, _⟩
    rfl
  · rintro cdv A outer s H vs Q E hgu hr ⟨a, ns, rfl, ha, hz, q⟩
    have nd := sc_law.nd
    have two : (2 : Nat) ^ 20 = 1048576 := by decide
    have l1m := line1m
    refine ⟨_, (pss_cons (ps_set (i := 1) nd rfl (by first | exact Or.inl rfl | exact Or.inr rfl) (pe_callR (law_pen_ok T) (hr.mono (by decide)) rfl T.g__law_pen T.k_law_pen pass0 (pa_cons (pv 0) pa_nil))) (pss_cons (ps_for PassesOwn.never rfl (pi_range1 rfl T.n_range (pa_cons pe_int pa_nil)) (pg_name (i := 2) nd rfl (by first | exact Or.inl rfl | exact Or.inr rfl)) (pss_one (ps_if (pt_not (pt_val (pe_callG (E := E0) (law_right_ok T) hgu (hr.mono (by decide)) rfl T.g__law_right T.k_law_right (pa_cons (pv 1) pa_nil)))) (pss_one (ps_ret pe_bl)) pss_nil))) (pss_cons (ps_par (i := 3) (j := 4) rfl nd rfl rfl (by decide) rfl rfl (pa_cons (pe_makeG0 T.mk_Store (Store_init_ok0 T) (hr.mono (by decide)) rfl T.g_Store pass0) (pa_cons (pe_callR (law_draw_ok T) (hr.mono (by decide)) rfl T.g__law_draw T.k_law_draw pass0 (pa_cons (pv 1) (pa_cons pe_int pa_nil))) pa_nil)) (by rfl)) (pss_cons (ps_expr (pe_methR (pv 3) T.cl_Store T.m_Store_advance (Store_advance_ok T) (hr.mono (by decide)) pass0 (pa_cons (pv 4) pa_nil))) (pss_cons (ps_expr (pe_methR (pv 3) T.cl_Store T.m_Store_advance (Store_advance_ok T) (hr.mono (by decide)) pass0 (pa_cons (pv 4) pa_nil))) (pss_cons (ps_expr (pe_methR (pv 3) T.cl_Store T.m_Store_look (Store_look_ok T) (hr.mono (by decide)) pass0 (pa_cons pe_str (pa_cons (pv 4) (pa_cons pe_int pa_nil))))) (pss_cons (ps_expr (pe_methR (pv 3) T.cl_Store T.m_Store_look (Store_look_ok T) (hr.mono (by decide)) pass0 (pa_cons pe_str (pa_cons (pv 4) (pa_cons pe_int pa_nil))))) (pss_cons (ps_set (i := 5) nd rfl (by first | exact Or.inl rfl | exact Or.inr rfl) (pe_lst (pa_cons (pe_methR0 (pv 3) T.cl_Store T.m_Store_undo (Store_undo_ok T) (hr.mono (by decide)) pass0) (pa_cons (pe_methR0 (pv 3) T.cl_Store T.m_Store_undo (Store_undo_ok T) (hr.mono (by decide)) pass0) (pa_cons (pe_propR (pv 3) T.cl_Store T.p_Store_names (Store_names_ok T) (hr.mono (by decide)) pass0 rfl) (pa_cons (pe_methR0 (pv 3) T.cl_Store T.m_Store_undo (Store_undo_ok T) (hr.mono (by decide)) pass0) (pa_cons (pe_propR (pv 3) T.cl_Store T.p_Store_now (Store_now_ok T) (hr.mono (by decide)) pass0 rfl) (pa_cons (pe_methR0 (pv 3) T.cl_Store T.m_Store_undo (Store_undo_ok T) (hr.mono (by decide)) pass0) (pa_cons (pe_propR (pv 3) T.cl_Store T.p_Store_now (Store_now_ok T) (hr.mono (by decide)) pass0 rfl) (pa_cons (pe_methR0 (pv 3) T.cl_Store T.m_Store_undo (Store_undo_ok T) (hr.mono (by decide)) pass0) pa_nil)))))))))) (pss_one (ps_ret (pe_cmpR (op_eqD hr.units) (pv 5) (pe_lst (pa_cons pe_bl (pa_cons pe_bl (pa_cons (pe_tup pa_nil) (pa_cons pe_bl (pa_cons (pv 4) (pa_cons pe_bl (pa_cons pe_int (pa_cons pe_bl pa_nil))))))))) (nomark _)))))))))))), ?_⟩
    refine ⟨_, rfl, a, ns, rfl, ha, hz, fun H1 p pc s1 np npc p1 => ⟨_, rfl, by decide, by decide, ?_⟩⟩
    refine for_it walk_range (fun i σ H' => ∃ x, σ = [some (.ref a), some (.ref p), x, none, none, none] ∧ PenAt pc H' p (1200 * i)) ⟨_, rfl, p1⟩ (fun _ _ _ _ _ => trivial) ?_ ?_
    · rintro i xi σ H2 H3 hi ⟨x, rfl, p2⟩ ⟨rfl, rfl⟩
      have hi4 : i < 4 := hi
      exact ⟨_, rfl, p, _, pc, rfl, p2, by omega, fun H4 s4 p4 => ⟨_, rfl, iteF ⟨_, rfl, p4.mono (by omega)⟩⟩⟩
    · rintro σ H2 ⟨x0, rfl, p2⟩
      have h4 : (4 : Int).toNat = 4 := rfl
      refine fun x dx nx ndx ne => ⟨x, dx, 1000, rfl, upd_same, by decide, by decide, fun H3 sx hst => ⟨rfl, ?_⟩⟩
      have s3 : Same H2 H3 := same_mk nx ndx sx
      refine ⟨_, rfl, p, _, _, _, rfl, p2.same s3, by omega, by decide, by decide +kernel, fun H4 f s4 p4 d0 d1 => ⟨_, _, rfl, ?_⟩⟩
      obtain ⟨xs3, hx3⟩ := (p2.same s3).some
      have st0 : StoreD H4 x 1000 [] := StoreD.pen hst hx3 s4
      have e28 : (f : Int) ≤ 10 ^ 28 := by omega
      have v1 : Vd 1000 [.now f] := .snoc (ds := []) .nil ⟨d0, by show f ≤ 0 + 10 ^ 28; omega⟩
      have v2 : Vd 1000 [.now f, .now f] := .snoc (ds := [.now f]) v1 ⟨Int.le_refl f, by show f ≤ f + 10 ^ 28; omega⟩
      have hnm : NameOk "a" := nameOk_of (by decide +kernel)
      have pb : PtB (f, 5, 1) := ⟨by show f.natAbs < 10 ^ 40; omega, (show NumOk 5 1 from ⟨by decide, by decide +kernel, by decide, by decide +kernel, by decide⟩)⟩
      have v3 : Vd 1000 [.now f, .now f, .look "a" (f, 5, 1)] := .snoc (ds := [.now f, .now f]) v2 ⟨hnm, pb, Int.le_refl f⟩
      obtain ⟨dx0, fs0, hq0, _, _, rfl⟩ := st0.some
      refine ⟨_, rfl, _, _, _, rfl, hq0, rfl, _, rfl, x, 1000, f, runD 1000 [], pastOf 1000 [], rfl, st0, d0, by show 0 < sizeLine; omega, by show 0 < sizeLine; omega, fun H5 s5 st5 => ?_⟩
      have st1 : StoreD H5 x 1000 [.now f] := StoreD.step (ds := []) st5
      obtain ⟨dx1, fs1, hq1, _, _, rfl⟩ := st1.some
      refine ⟨_, rfl, _, _, _, rfl, hq1, rfl, _, rfl, x, 1000, f, runD 1000 [.now f], pastOf 1000 [.now f], rfl, st1, Int.le_refl f, by show 1 < sizeLine; omega, by show 1 < sizeLine; omega, fun H6 s6 st6 => ?_⟩
      have st2 : StoreD H6 x 1000 [.now f, .now f] := StoreD.step (ds := [.now f]) st6
      obtain ⟨dx2, fs2, hq2, _, _, rfl⟩ := st2.some
      obtain ⟨ok2, bd2, _, _⟩ := v2.good
      refine ⟨_, rfl, _, _, _, rfl, hq2, rfl, _, rfl, x, 1000, runD 1000 [.now f, .now f], pastOf 1000 [.now f, .now f], "a", f, .int 5, 5, 1, rfl, hnm, st2, ok2, by have := bd2.len; simp only [List.length_cons, List.length_nil] at this; omega, by decide, by decide, by show 2 < sizeLine; omega, by show 2 < sizeLine; omega, Int.le_refl f, .inl ⟨rfl, rfl⟩, pb.ok, fun H7 s7 st7 => ?_⟩
      have st3 : StoreD H7 x 1000 [.now f, .now f, .look "a" (f, 5, 1)] := StoreD.step (ds := [.now f, .now f]) (de := .look "a" (f, 5, 1)) st7
      obtain ⟨dx3, fs3, hq3, _, _, rfl⟩ := st3.some
      obtain ⟨ok3, bd3, _, _⟩ := v3.good
      refine ⟨_, rfl, _, _, _, rfl, hq3, rfl, _, rfl, x, 1000, runD 1000 [.now f, .now f, .look "a" (f, 5, 1)], pastOf 1000 [.now f, .now f, .look "a" (f, 5, 1)], "a", f, .int 5, 5, 1, rfl, hnm, st3, ok3, by have := bd3.len; simp only [List.length_cons, List.length_nil] at this; omega, by decide, by decide, by show 3 < sizeLine; omega, by show 3 < sizeLine; omega, Int.le_refl f, .inl ⟨rfl, rfl⟩, pb.ok, fun H8 s8 st8 => ?_⟩
      have st4 : StoreD H8 x 1000 [.now f, .now f, .look "a" (f, 5, 1), .look "a" (f, 5, 1)] := StoreD.step (ds := [.now f, .now f, .look "a" (f, 5, 1)]) (de := .look "a" (f, 5, 1)) st8
      -- told
      obtain ⟨dx4, fs4, hq4, _, _, rfl⟩ := st4.some
      refine ⟨_, rfl, _, _, _, rfl, hq4, rfl, undo_any st4 (by show 4 ≤ 100; decide) fun H9 s9 st9 => ?_⟩
      have st9' : StoreD H9 x 1000 [.now f, .now f, .look "a" (f, 5, 1)] := st9
      obtain ⟨dx9, fs9, hq9, _, _, rfl⟩ := st9'.some
      refine ⟨_, rfl, _, _, _, rfl, hq9, rfl, undo_any st9' (by show 3 ≤ 100; decide) fun H10 s10 st10 => ?_⟩
      have st10' : StoreD H10 x 1000 [.now f, .now f] := st10
      obtain ⟨dx10, fs10, hq10, _, _, rfl⟩ := st10'.some
      refine ⟨_, rfl, _, _, _, rfl, hq10, x, 1000, _, _, rfl, st10', fun t ht => ?_⟩
      have s11 := same_new (o := .tup ((runD 1000 [.now f, .now f]).rows.map fun r => V.str r.1)) ht
      refine ⟨_, rfl, _, _, _, rfl, s11 _ _ hq10, rfl, undo_any (st10'.same s11) (by show 2 ≤ 100; decide) fun H12 s12 st12 => ?_⟩
      have ht12 : H12 t = some (.tup []) := s12 _ _ (ne_of_none hq10 ht).symm upd_same
      have st12' : StoreD H12 x 1000 [.now f] := st12
      obtain ⟨dx12, fs12, hq12, _, _, rfl⟩ := st12'.some
      refine ⟨_, rfl, _, _, _, rfl, hq12, x, 1000, _, _, rfl, st12', ?_⟩
      refine ⟨_, rfl, _, _, _, rfl, hq12, rfl, undo_any st12' (by show 1 ≤ 100; decide) fun H13 s13 st13 => ?_⟩
      have st13' : StoreD H13 x 1000 [] := st13
      obtain ⟨dx13, fs13, hq13, _, _, rfl⟩ := st13'.some
      have ntx : t ≠ x := (ne_of_none hq10 ht).symm
      have ht13 := s13 _ _ ntx ht12
      refine ⟨_, rfl, _, _, _, rfl, hq13, x, 1000, _, _, rfl, st13', ?_⟩
      refine ⟨_, rfl, _, _, _, rfl, hq13, rfl, undo_any st13' (Nat.zero_le _) fun H14 s14 st14 => ?_⟩
      have ht14 := s14 _ _ ntx ht13
      refine ⟨by show 8 ≤ sizeLine; omega, fun a15 ha15 => ?_⟩
      have s15 := same_new (o := .lst [.bl true, .bl true, .ref t, .bl true, .int f, .bl true, .int 0, .bl false]) ha15
      refine ⟨_, rfl, by show 0 ≤ sizeLine; omega, fun t16 ht16 => ⟨_, rfl, by show 8 ≤ sizeLine; omega, fun a17 ha17 => ?_⟩⟩
      have s16 := same_new (o := .tup []) ht16
      have s17 := same_new (o := .lst [.bl true, .bl true, .ref t16, .bl true, .int f, .bl true, .int 0, .bl false]) ha17
      have sh : SeqAt.shaped (toldD f) = true := by
        unfold toldD SeqAt.shaped
        refine Bool.and_eq_true_iff.mpr ⟨?_, decide_eq_true ?_⟩
        · simp [PyData.canLay0, PyData.canLayAll0]
        · simp [PyData.depth, PyData.depthAll]
      refine ⟨toldD f, toldD f, ?_, ?_, sh, sh, ?_⟩
      · exact .lst (SqL.of (s17 _ _ (s16 _ _ upd_same))) (.cons (.bl _) (.cons (.bl _) (.cons (.tup (SqT.of (s17 _ _ (s16 _ _ (s15 _ _ ht14)))) .nil) (.cons (.bl _) (.cons (.int _) (.cons (.bl _) (.cons (.int _) (.cons (.bl _) .nil))))))))
      · exact .lst (SqL.of upd_same) (.cons (.bl _) (.cons (.bl _) (.cons (.tup (SqT.of (s17 _ _ upd_same)) .nil) (.cons (.bl _) (.cons (.int _) (.cons (.bl _) (.cons (.int _) (.cons (.bl _) .nil))))))))
      · rw [SeqAt.eqv_refl _ (SeqAt.canLay_of_shaped sh)]
        exact q _
end G
set_option Elab.async false
set_option linter.all false
set_option maxRecDepth 100000
set_option maxHeartbeats 0
namespace G
open PySem PySem.W PySem.Calls PyProof.Rows L2
abbrev R : OpenRow := OpenLaw.row PySem.Challenge.rw_gapshares_k86_whole_stores_taken_back
def loose0 : List PySem.Str := ["_wall", "SIGNS", "is_integer", "is_within", "is_name", "GapError", "BadRatio", "BadMoment", "BadName", "BadNumber", "BadLooks", "BadSeries", "BadStore", "BadText", "NoLook", "NoSeries", "Unlike", "TooMany", "MOST_FIGURES", "is_figures", "word_at", "divisor_of", "Ratio", "told_of", "above", "quotient", "remainder", "is_number", "MOST_LOOKS", "need_few"]
def loose1 : List PySem.Str := ["need_ticks", "need_looks", "integer_at", "merged", "Looks", "MOST_POINTS", "is_amount", "is_point", "need_series", "number_at", "read_points", "points_of", "Series", "MOST_LIMIT", "MOST_SERIES", "need_name", "latest", "StoreState", "Store", "_law_pen", "_law_draw", "_law_pick", "_law_text", "_law_number", "_law_shown", "_law_after", "_law_series", "_law_do", "_law_deed", "_law_told"]
def loose2 : List PySem.Str := ["_law_replayed", "_law_plain", "_law_right"]
abbrev loose_ : List PySem.Str := loose0 ++ loose1 ++ loose2
abbrev view_ : Program := view R.prog [71]
abbrev hk : Hook := hookX as_ cks_ fn_
def ob (s : SharedT) : AlX := obsXG as_ cks_ fn_ (HandSHeadRun.getT s)
theorem ob_eq (s : SharedT) : ob s = hk.obs s.abs := obsXG_eq (HandSHeadRun.getT_eq s)
open HandSHeadRun in
theorem runA (w : World) (os : OsState) : (endF (stepQ (denQ tabQ) R.prog w) 12000 R.prog w os).map (fun s => looksF R.prog (boot_heap w.params) s.abs) = some true := by
  kernel_rfl
open HandSHeadRun in
theorem runB (w : World) (os : OsState) : (endF (stepQ (denQ tabQ) R.prog w) 12000 R.prog w os).map (fun s => seenQ view_ loose_ (importedModules R.prog.main.body) (fun s => xlAt view_ [] s && recOk R.toRowW.records s) s.abs) = some (openGood view_ loose_) := by
  kernel_rfl
open HandSHeadRun in
theorem runC (w : World) (os : OsState) : (endF (stepQ (denQ tabQ) R.prog w) 12000 R.prog w os).map ob = some (hk.val w) := by
  kernel_rfl
theorem run (w : World) : HandSHeadRun.RunEq R view_ hk ob 12000 loose_ w := fun os => map3 (runA w os) (runB w os) (runC w os)
end G
set_option Elab.async false
set_option linter.all false
set_option maxRecDepth 100000
set_option maxHeartbeats 0
open PySem PySem.W PySem.Calls PyProof.Rows
theorem PySem.Challenge.cw_gapshares_k86_whole_stores_taken_back_holds : PySem.Challenge.rw_gapshares_k86_whole_stores_taken_back.Holds := by
  w_on; o_law
  refine HandSHeadRun.head_any (r := OpenLaw.row PySem.Challenge.rw_gapshares_k86_whole_stores_taken_back) (q := G.view_) (H := G.hk) (ob := G.ob) (M := 12000) (loose := G.loose_) (d := HandSHeadRun.topDef (OpenLaw.row PySem.Challenge.rw_gapshares_k86_whole_stores_taken_back).prog 71) (kwd := []) G.ob_eq
    (by kernel_rfl) (fun s => by kernel_rfl) G.run (by kernel_rfl) (by kernel_rfl) (by kernel_rfl) (by rfl) (by first | assumption | decide +kernel) (by decide +kernel) ⟨rfl, rfl, rfl, rfl, rfl, by decide +kernel⟩ ?hw ?hc
  case hw => w_witness2
  case hc =>
    refine G.walk_G (l := PySem.Challenge.rw_gapshares_k86_whole_stores_taken_back) (n := 63) (k := 22) rfl (by decide) (by kernel_rfl) ⟨rfl, by decide, by decide⟩ ?F
    intro w mg fa h Y GN hmg0
    obtain ⟨K, KX, c⟩ := Y
    have hmg : mg ("law" : PySem.Str) = some (.ref fa) := by
      have e : (HandSHeadRun.topDef (OpenLaw.row PySem.Challenge.rw_gapshares_k86_whole_stores_taken_back).prog 71).name = ("law" : PySem.Str) := by kernel_rfl
      rw [← e]
      exact hmg0
    have T : G.Txt K mg := ⟨h, KX, GN, c⟩
    have e2 := hmg.symm.trans T.g_law
    cases e2
    exact ⟨K, G.sp_law K, KX, fun H a ns hl _ hS => ⟨a, ns, rfl, hS, Nat.le_trans hl (by decide), fun _ => rfl⟩, fun base h1 h2 => G.law_ok ⟨h, KX, GN, c⟩⟩
