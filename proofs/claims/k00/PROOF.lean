import PyProof.Rows.All
import Wide.All
import OpenK.AllK
import Wide.FinOn
import HandS.ForMost
import HandS.Wide
import PyProof.ReprRoads
import PyProof.Rows.RuleB_pow
import HandS.ExcValue
import HandS.ExcInit
import HandS.ExcField
import KE.KExcIs
import KE.KExcInit
import HandS.Walk
import PySem.Challenge.RW_farrules_k00_errors
set_option Elab.async false
set_option linter.all false
set_option maxRecDepth 100000
set_option maxHeartbeats 4000000
/-! Farrules: a layer of its own over HandS: defs called where nothing is being shown (FnG), repr, great powers. -/
namespace Far
open PySem PySem.Spec PyProof.Rows L2

/-- a def that keeps its promise wherever no repr is under way -/
structure FnG (P : Program) (w : World) (K : PySem.W.Frag) (mg : Str → Option Value) (base : Heap) (CX : CXT) (k : Nat) (f : Addr) (fd : FuncData) (ps : List Str) (sp : Sp) : Prop where
  len : ∀ vs H Q E, sp vs H Q E → vs.length = ps.length
  run : ∀ (A : Around) (outer : List Env) (s : Shared) (H : Hp) (args : Args) (us : List Value) (vs : List V) (Q : VK) (E : XK),
    A.guards = some [] → Room k A → Env0 P w K mg base A outer s H → BindsTo s fd args (ps.zip us) → Vals vs us → sp vs H Q E →
    codeAny (model P w) A (.call (.ref f) args) (CR CX outer P w H s Q E) s

section
variable {P : Program} {w : World} {K : PySem.W.Frag} {mg : Str → Option Value} {base : Heap} {CX : CXT} {k : Nat} {f : Addr} {fd : FuncData} {ps : List Str} {sp : Sp}
theorem FnG.of (F : FnOk P w K mg base CX k f fd ps sp) : FnG P w K mg base CX k f fd ps sp :=
  ⟨F.len, fun A o s H a us vs Q E _ => F.run A o s H a us vs Q E⟩

/-- the def by its body -/
theorem fnG_of {name qual : Str} {params : Arguments} {body : List Stmt} {scope : Scope} {dV kV doc pm cdv ct oc : Value} {an od : Option Addr} {osl : Array (Option Value)} {N : List Str}
    (lk : K.lookup f = some ⟨oc, od, .func (PySem.W.fnOf name qual params body scope dV kV doc pm an cdv ct), osl⟩) (hcd : PySem.W.codeIn K cdv qual = true) (S : FnScope N ps scope)
    (len : ∀ vs H Q E, sp vs H Q E → vs.length = ps.length)
    (hbody : ∀ (A : Around) (outer : List Env) (s : Shared) (H : Hp) (vs : List V) (Q : VK) (E : XK), A.guards = some [] → Room k (A.deeper (envOfC qual scope s.heap.objs.size f cdv)) → sp vs H Q E →
      ∃ t, PSs (cxOf CX P w K mg base N qual scope f cdv A outer s H E) body t ∧ t { nx := fun _ H' => Q .non H', rt := Q } (start N vs) H) :
    FnG P w K mg base CX (k + 1) f (PySem.W.fnOf name qual params body scope dV kV doc pm an cdv ct) ps sp := by
  refine ⟨len, ?_⟩
  intro A outer s H args us vs Q E gd hr e0 hb r hsp
  have kin : K.In s.heap := e0.mod.kin.keeps fun b o z => (e0.bs b o z).1
  have lim : s.heap.NoLimit := e0.mod.nolimit.keeps fun b o z => (e0.bs b o z).1
  have kinds : ∀ y ∈ ps.zip us, scope.names.lookup y.1 = some .local ∨ (scope.names.lookup y.1 = some .cell ∧ ((cellsFrom (s.heap.objs.size + 1) scope.names []).lookup y.1).isSome = true) := by
    rintro ⟨n, v⟩ hy
    rcases S.par n (List.of_mem_zip hy).1 with q | q
    · exact .inl q
    · exact .inr ⟨q, PySem.W.cellsFrom_some _ _ _ (.inl q)⟩
  refine codeAny_call_function hr.depth (kin _ _ lk) rfl S.co S.gen rfl (PySem.W.codeRec_of kin hcd) (hb _ _ _ _ ?_)
  refine wpAny_newFunctionEnv_cells S.kind kinds fun env he s1 x => ?_
  subst he
  refine ⟨lim.keeps x.toInCall.keep, codeAny_func ?_⟩
  obtain ⟨t, ht, hq⟩ := hbody A outer s H vs Q E gd (hr.deeper _) hsp
  have I := inv_start (CX := CX) (E := E) (N := N) (qual := qual) (f := f) (cd := cdv) S hr.hd e0 (len _ _ _ _ hsp) r x
  refine wpAny_mono (ht.run [] s1 (start N vs) H _ I hq) ?_ (fun _ _ z => z)
  intro fl s' hs
  cases fl with
  | ret u =>
    obtain ⟨v, σ', H', J, rv, q⟩ := hs
    exact ⟨v, H', J.os, J.bare, J.base, J.hok, rv, q⟩
  | next =>
    obtain ⟨σ', H', J, q⟩ := hs
    exact ⟨.non, H', J.os, J.bare, J.base, J.hok, rfl, q⟩
  | brk => exact hs.elim fun _ z => z.elim fun _ y => y.2.elim
  | cont => exact hs.elim fun _ z => z.elim fun _ y => y.2.elim

theorem okG {x qual : Str} {st : Stmt} {N : List Str} (F : Fun K x qual st f fd) (S : FnScope N ps (defScope st)) (len : ∀ vs H Q E, sp vs H Q E → vs.length = ps.length)
    (hbody : ∀ (cdv : Value) (A : Around) (outer : List Env) (s : Shared) (H : Hp) (vs : List V) (Q : VK) (E : XK), A.guards = some [] → Room k (A.deeper (envOfC qual (defScope st) s.heap.objs.size f cdv)) → sp vs H Q E →
      ∃ t, PSs (cxOf CX0 P w K mg base N qual (defScope st) f cdv A outer s H E).nox (defBody st) t ∧ t { nx := fun _ H' => Q .non H', rt := Q } (start N vs) H) :
    FnG P w K mg base CX0 (k + 1) f fd ps sp := by
  obtain ⟨oc, od, kV, doc, pm, an, cdv, ct, osl, rfl, lk, hcd⟩ := F.ex
  refine fnG_of lk hcd S len fun A outer s H vs Q E gd hr hsp => ?_
  obtain ⟨t, h, q⟩ := hbody cdv A outer s H vs Q E gd hr hsp
  exact ⟨t, h.nox, q⟩
end

section
variable {X : Cx} {CX : CXT} {k : Nat} {f : Addr} {fd : FuncData} {ps : List Str} {sp : Sp} {dvs : List V} {ds : List Value} {E : XK} {x : Str} {p pos : Pos} {e : Expr} {es : List Expr} {t : TA}
theorem runG {pins : List (Addr × Obj)} {σ : L2.St} {H : Hp} {s : Shared} {Q : VK} {us : List Value} {vs : List V} (F : FnG X.prog X.w X.K X.mg X.base CX k f fd ps sp) (gd : X.A.guards = some []) (hr : Room k X.A)
    (hb : Binds X.K fd ps ds) (hd : Vals dvs ds) (hx : Passes CX X E) (I : Inv X pins σ H s) (r : Vals vs us) (h : sp (vs ++ dvs) H Q E) :
    wpAny (model X.prog X.w) X.A (call (.ref f) us) (EP X pins σ Q) X.xe s := by
  have r2 : Vals (vs ++ dvs) (us ++ ds) := r.append hd
  have hl : (us ++ ds).length = ps.length := by
    rw [← r2.length]
    exact F.len _ _ _ _ h
  refine wpAny_call (codeAny_mono (F.run X.A X.stack s H ⟨us, []⟩ (us ++ ds) (vs ++ dvs) Q E gd hr I.env0 (hb s us I.kIn hl) r2 h) ?_)
  intro r s' hq
  match r, hq with
  | .error e, hq => exact hx pins σ H s e s' I hq
  | .ok (.ret u), hq => exact I.after hq
  | .ok .next, hq => exact False.elim hq
  | .ok .brk, hq => exact False.elim hq
  | .ok .cont, hq => exact False.elim hq

/-- f(e, ..) of such a def -/
theorem pe_callG (F : FnG X.prog X.w X.K X.mg X.base CX k f fd ps sp) (gd : X.A.guards = some []) (hr : Room k X.A) (hg : Gl X x) (hm : X.mg x = some (.ref f)) (hk : PySem.W.keepIn X.K (.ref f) = true)
    (hb : Binds X.K fd ps ds) (hd : Vals dvs ds) (hx : Passes CX X E) (ha : PA X (e :: es) t) (hdb : (x == ("__debug__" : Str)) = false := by decide)
    (he : starEach (e :: es) X.env = (false, eval e X.env) :: starEach es X.env := by rfl) (hpl : (backTo pos (starEach es X.env)).any (·.1) = false := by rfl) :
    PE X (.Call (.Name x p) (e :: es) [] pos) (tCall sp dvs E t) := by
  constructor
  intro pins s σ H Q I h
  refine wpAny_Call_Name_kw (ld_glob I hg hm ?_ hdb)
  refine PySem.W.callWith_K (h₀ := X.base) I.ok.mod.kin hk (thn (ha.run pos pins s σ H _ I h) fun us s1 hh => ?_) he hpl
  obtain ⟨vs, H1, I1, r, q⟩ := hh
  exact ⟨I1.kIn, runG F gd hr hb hd hx I1 r q⟩
end

/-! ### repr of data -/
def rRepr (K : PySem.W.Frag) : List V → Hp → VK → Prop := fun xs H Q => ∃ (a : Addr) (d : PyData), xs = [.ref a] ∧ Dp K H (.ref a) d ∧ d.showable = true ∧ d.hasDict = false ∧ d.depth ≤ 40 ∧ d.shown.length ≤ sizeLine ∧ Q (.str d.shown) H
theorem call_repr {X : Cx} (gd : X.A.guards = some []) (hu : X.A.units + 64 < cLine) : CallR X (.builtin "repr") (rRepr X.K) := by
  intro pins s σ H xs us Q I r h
  obtain ⟨a, d, rfl, hd, hs, hn, hde, hz, q⟩ := h
  rw [Vals.ref1 r]
  obtain ⟨as, rd⟩ := Dp.reads I d (.ref a) (.ref a) hd rfl
  exact repr_of_reads' rd hs (PyData.noDict_hsm hn) gd (by omega) (fun _ _ z => z) (fun h' u tk hk => ⟨.str d.shown, H, I.kept (t' := tk) hk, ⟨_, rfl⟩, q⟩) hz

/-! ### ** of any base -/
def CPowW (i j : Int) : Prop := 0 ≤ j ∧ (Builtin.Int.intBits i : Int) * j ≤ 2 ^ 27
theorem op_powW {X : Cx} : OpR X (binaryOp .Pow) (rI CPowW fun i j => .int (i ^ j.toNat)) := opI fun _ _ _ _ _ _ _ hc q => pow_int hc.1 hc.2 q
end Far

set_option Elab.async false
set_option linter.all false
set_option maxRecDepth 100000
set_option maxHeartbeats 4000000
/-! Exceptions held as values: made by an own __init__ that stores one field, asked by isinstance, their field read. -/
namespace Far
open PySem PySem.Spec PyProof.Rows L2

/-- an exception object of the class at D stands at a: without a dict, with one -/
def ExAt (H : Hp) (a D : Addr) : Prop := H a = some (ExO (.ref D) a) ∨ ∃ (d : Addr) (fs : List (Str × V)), H a = some (exo a D (some d)) ∧ H d = some (exd d fs)
theorem ExAt.mono {H H' : Hp} {a D : Addr} (h : ExAt H a D) (e : Same H H') : ExAt H' a D := by
  rcases h with h | ⟨d, fs, h1, h2⟩
  · exact .inl (e _ _ h)
  · exact .inr ⟨d, fs, e _ _ h1, e _ _ h2⟩

/-- what isinstance asks of an exception's class -/
structure XC (K : PySem.W.Frag) (D : Addr) : Prop where
  cl : PySem.W.isClsIn K D = true
  ga : PySem.W.findIn K (.ref D) "__getattribute__" = some (some (.builtin "BaseException.__getattribute__"))
  gt : PySem.W.findIn K (.ref D) "__getattr__" = some none
  sb : PySem.W.subIn K (.ref D) (.type "BaseException") = some true
  ca : PySem.W.findIn K (.ref D) "__class__" = some (some (.builtin "object.__class__"))
  gg : PySem.W.specialIn K (.builtin "object.__class__") "__get__" = some (some (.builtin "getset_descriptor.__get__"))
  tk : PySem.W.takesIn K (.builtin "object.__class__") = some true
  mo : PySem.W.mroIn K D (.type "object") = some true

section
variable {X : Cx} {pins : List (Addr × Obj)} {σ : L2.St} {H : Hp} {s : Shared}
theorem ExAt.inst {a D : Addr} (I : Inv X pins σ H s) (h : ExAt H a D) : ∃ ox od, PySem.W.InstAt s.heap a ox D od := by
  rcases h with h | ⟨d, fs, h1, h2⟩
  · obtain ⟨⟨oe, vs, ho, hz, hd, _⟩, _, _⟩ := I.hok a _ h
    obtain ⟨oc, od, oda, osl⟩ := oe
    obtain ⟨z1, z2⟩ := hz
    dsimp only at z1 z2 hd
    subst z1 z2 hd
    exact ⟨_, none, ho, rfl, rfl, trivial⟩
  · obtain ⟨t1, ho⟩ := exo_at I.hok h1
    obtain ⟨mA, hns, _⟩ := exd_at I.hok h2
    obtain ⟨o, es, ep, hd, _⟩ := hns
    exact ⟨_, some o, ho, rfl, rfl, hd⟩

def rIsX (K : PySem.W.Frag) : List V → Hp → VK → Prop := fun xs H Q => ∃ (a D : Addr) (c : V) (cv : Value) (b : Bool), xs = [.ref a, c] ∧ ExAt H a D ∧ XC K D ∧ (∀ u, RelV c u → u = cv) ∧ PySem.W.kitOne K (.ref D) cv = some b ∧ Q (.bl b) H
end
/-- isinstance(e, c), e an exception that stands in H -/
theorem call_isX {X : Cx} : CallR X (.builtin "isinstance") (rIsX X.K) := by
  intro pins s σ H xs us Q I r h
  obtain ⟨a, D, c, cv, b, rfl, he, T, hc, e, q⟩ := h
  obtain ⟨u1, u2, rfl, r1, r2⟩ := vals2 r
  cases (show u1 = Value.ref a from r1)
  have e2 := hc _ r2
  subst e2
  obtain ⟨ox, od, J⟩ := he.inst I
  exact PySem.W.kia_one (PySem.W.kitx_exc T.cl T.ga T.gt T.sb T.ca T.gg T.tk T.mo) I.kIn J e (fun z => nomatch z) fun tk => ⟨.bl b, H, I.tok tk, rfl, q⟩

/-! ### the first store of a field -/
section
open Builtin Builtin.ObjectAttr
variable {prog : Program} {w : World} {A : Around} {E : Value → Shared → Prop} {R : Result → Shared → Prop} {hp : Heap} {g : Array GenState} {d : Drawn} {t : Nat} {os : OsState}
theorem osaG {K : W.Frag} {name : Str} {tk : Tok} {v : Value} {x C : Addr} {fv : Array Value} {cd : ClassData}
    (X : K.In hp) (hx : hp.get? x = some { cls := .ref C, data := .fields fv }) (hcd : W.clsIn K C = some cd) (mne : cd.mro.isEmpty = false) (mob : cd.mro.contains (.type "object") = true)
    (mps : ∀ self, refuseLoop self "__setattr__" cd.mro = pure ()) (hh : cd.hasDict = true) (ha : W.findIn K (.ref C) name = some none)
    (hq : ∀ h' tk' dx, (∀ b o, b ≠ x → hp.get? b = some o → h'.get? b = some o) → hp.objs.size ≤ dx → dx ≠ x → h'.get? x = some { cls := .ref C, dict := some dx, data := .fields fv } →
      h'.Ns1 dx (fun y => if y = name then some v else none) → R (.ok (.ret .none)) ⟨h', g, d, tk', os⟩) :
    codeAny (model prog w) A (.call (.builtin "object.__setattr__") ⟨[.ref x, .str name tk, v], []⟩) R ⟨hp, g, d, t, os⟩ := by
  have J : W.InstAt hp x { cls := .ref C, data := .fields fv } C none := ⟨hx, rfl, rfl, trivial⟩
  have SF := F.store_object
  have nx : x ≠ hp.objs.size := Nat.ne_of_lt (Heap.lt_size hx)
  have im : W.mroIn K C (.type "object") = some true := by
    unfold W.mroIn
    rw [hcd, Option.bind_some, if_neg (by rw [mne]; decide), mob]
  have sub : W.Looks (model prog w) hp (isInstance (.ref x) (.type "object")) true := J.type.andThen (W.looks_mroIn X im)
  refine codeAny_call_builtin SF.slot.plain SF.entry ?_
  refine @W.check_slot (model prog w) _ _ ⟨hp, g, d, t, os⟩ "object.__setattr__" "object" "__setattr__" (.ref x) [.str name tk, v] [] _ SF.kind SF.split sub (SF.args (.ref x) (.str name tk) v) ?_
  have L1 : W.Looks (model prog w) hp (mroOf (.ref C)) cd.mro := (W.looks_clsIn X hcd).andThen .now
  have L3 : W.Looks (model prog w) hp (storeTaker? none) none := .now
  have L4 : W.Looks (model prog w) hp (classData C) cd := W.looks_clsIn X hcd
  rw [W.osa_eq, refuse_eq]
  refine wpAny_bind (wpAny_bind (J.type.at (wpAny_bind (L1.at ?_))))
  rw [mps]
  refine wpAny_pure (wpAny_bind (J.type.at (wpAny_bind ((W.looks_findIn X ha).at (wpAny_bind (L3.at ?_))))))
  show wpAny _ _ (storeInOwnDict (.ref x) (.ref C) (.str name tk) name v false) _ _ _
  obtain ⟨nm, bs, mro, ns, qn, hd, sn, sb, ab, col, del⟩ := cd
  dsimp only at hh
  subst hh
  unfold storeInOwnDict ownDictForStores
  repeat (first | with_reducible refine HandSPX.store_in_new ?_ ?_ | with_reducible refine wpAny_loadPart_at hx ?_ | with_reducible refine L4.at ?_ | wp_step)
  · exact ⟨_, #[], _, (Heap.get?_update_ne _ _ _ _ nx.symm).trans (Heap.get?_push_at rfl rfl), rfl, fun e he => absurd he (by simp), fun _ => rfl⟩
  · intro h' tk' hn' hs
    have hx1 : (hp.push { cls := .type "dict", data := .dict #[] }).get? x = some { cls := .ref C, data := .fields fv } := Heap.get?_push_of_some _ hx
    refine hq h' tk' hp.objs.size ?_ (Nat.le_refl _) nx.symm ?_ hn'
    · intro b o hb ho
      exact (hs.2 b (Nat.ne_of_lt (Heap.lt_size ho))).trans ((Heap.get?_update_ne _ _ _ _ hb).trans (Heap.get?_push_of_some _ ho))
    · exact (hs.2 x nx).trans (Heap.get?_update_self _ hx1 rfl)
end

/-! ### a class of the program whose bases' __new__ is that of the built-in B: its chain bm beyond the class itself is only asked for three names -/
section
open PySem.W (Looks kdv_tup InitBack)
open PySem.HandSPX (excO)
variable {prog : Program} {w : World} {A : Around} {E : Value → Shared → Prop} {R : Result → Shared → Prop} {h : Heap} {g : Array GenState} {d : Drawn} {t : Nat} {os : OsState}
variable {nm q : Str} {C N : Addr} {bs bm bmB : List Value} {hdct : Bool} {sn : List Str} {sub : List Value} {ab : Bool} {col : Option Bool} {dd : Option Addr} {k0 k1 k2 k3 k5 : Option Value} {B newId initId : String}
structure Over (B : String) (bm : List Value) : Prop where
  hB : bm.contains (.type B) = true
  hA : bm.contains (.type "AttributeError") = false
  hN : bm.contains (.type "NameError") = false
theorem Over.cB {C : Addr} (o : Over B bm) : (Value.ref C :: bm).contains (.type B) = true := by rw [List.contains_cons, o.hB, Bool.or_true]
theorem Over.cA {C : Addr} (o : Over B bm) : (Value.ref C :: bm).contains (.type "AttributeError") = false := by rw [List.contains_cons, o.hA] <;> rfl
theorem Over.cN {C : Addr} (o : Over B bm) : (Value.ref C :: bm).contains (.type "NameError") = false := by rw [List.contains_cons, o.hN] <;> rfl
theorem checkX {rest : List Value} {Q : Unit → Shared → Prop} (F : ExcBaseFacts B newId initId bmB) (o : Over B bm)
    (hC : h.get? C = some (excClassObj nm q C N bs bm hdct sn sub ab col dd k0 k1 k2 k3 k5 newId)) (hq : Q () ⟨h, g, d, t, os⟩) : wpAny (model prog w) A (checkBuiltinCall newId ⟨.ref C :: rest, []⟩) Q E ⟨h, g, d, t, os⟩ := by
  have c1 := o.cB (C := C)
  have c2 := F.noStar
  simp only [checkBuiltinCall, F.newKind, F.newSplit, F.newRow]
  repeat (first | refine wpAny_loadPart_at hC ?_ | (refine wpAny_isSubtype_exc hC ?_; rw [c1]) | refine wpAny_staticBase_exc hC ?_ | refine wpAny_madeBy_exc hC ?_ | simp only [bne_self_eq_false, Bool.false_eq_true, if_false] | wp_step)
  exact hq
theorem newX {rest : List Value} (F : ExcBaseFacts B newId initId bmB) (o : Over B bm) (hC : h.get? C = some (excClassObj nm q C N bs bm hdct sn sub ab col dd k0 k1 k2 k3 k5 newId))
    (hq : R (.ok (.ret (.ref (h.objs.size + 1)))) ⟨(h.push (kdv_tup rest)).push (excO C h.objs.size), g, d, t, os⟩) (hrest : rest.length ≤ sizeLine) :
    codeAny (model prog w) A (.builtin newId ⟨.ref C :: rest, []⟩) R ⟨h, g, d, t, os⟩ := by
  have en := F.ends
  have cB := o.cB (C := C)
  have cA := o.cA (C := C)
  have cN := o.cN (C := C)
  refine codeAny_builtinAt F.entry ?_
  unfold Builtin.«BaseException.__new__»
  refine PySem.wpAt_bind ?_
  show PySem.wpAt _ _ _ (stack >>= _) _ _ _
  refine PySem.wpAt_bind (PySem.wpAt_stack fun p below => PySem.wpAt_of_wpAny ?_)
  wp_walk
  refine PySem.wpAt_of_wpAny ?_
  rw [F.owner]
  repeat (first | with_reducible refine wpAny_madeHere_exc F.canon hC ?_ | with_reducible refine wpAny_loadPart_at hC ?_ | (with_reducible refine wpAny_isSubtype_exc hC ?_; first | rw [cB] | rw [cA] | rw [cN]) | wp_step)
  show R _ _
  rw [Heap.size_push]
  exact hq
theorem typeX {rest : List Value} {fI : Addr} {Q : Fin → Shared → Prop} (F : ExcBaseFacts B newId initId bmB) (o : Over B bm) (hC : h.get? C = some (excClassObj nm q C N bs bm hdct sn sub ab col dd k0 k1 k2 k3 k5 newId))
    (hi : Looks (model prog w) h (typeLookup (.ref C) "__init__") (some (.ref fI))) (hb : ∀ self, Looks (model prog w) h (bindSpecial (.ref fI) self) (.ref fI, [self])) (hrest : rest.length ≤ sizeLine)
    (hq : codeAny (model prog w) A (.call (.ref fI) ⟨.ref (h.objs.size + 1) :: rest, []⟩)
      (fun r s' => match r with | .ok (.ret v) => v = .none ∧ Q (.done (.ret (.ref (h.objs.size + 1)))) s' | .ok _ => False | .error e => E e s') ⟨(h.push (kdv_tup rest)).push (excO C h.objs.size), g, d, t, os⟩) :
    wpAny (model prog w) A (Builtin.«type.__call__» ⟨.ref C :: rest, []⟩) Q E ⟨h, g, d, t, os⟩ := by
  repeat (first | with_reducible refine wpAny_loadPart_at hC ?_ | with_reducible refine wpAny_madeBy_exc hC ?_ | wp_step)
  refine codeAny_call_builtin_code (Code.quiet_builtin _ F.quiet) (checkX F o hC ?_)
  refine newX F o hC ?_ hrest
  show wpAny _ _ _ _ _ _
  have k : ∀ b u, h.get? b = some u → ((h.push (kdv_tup rest)).push (excO C h.objs.size)).get? b = some u := fun b u e => Heap.get?_push_of_some _ (Heap.get?_push_of_some _ e)
  have hC2 := k _ _ hC
  have hget : ((h.push (kdv_tup rest)).push (excO C h.objs.size)).get? (h.objs.size + 1) = some (excO C h.objs.size) := by heap_get
  have hcC : (Value.ref C :: bm).contains (.ref C) = true := by simp
  have i1 := hi.keeps k
  have b1 := (hb (.ref (h.objs.size + 1))).keeps k
  unfold isInstance
  repeat (first | with_reducible refine wpAny_loadPart_at hget ?_ | (with_reducible refine wpAny_isSubtype_exc hC2 ?_; rw [hcC]) | wp_step)
  show wpAny _ _ (typeLookup (.ref C) _) _ _ _
  refine i1.at (wpAny_holding (wpAny_bind (b1.at (wpAny_bind (wpAny_call (codeAny_mono hq ?_))))))
  intro r s' z
  match r, z with
  | .error e, z => exact z
  | .ok .next, z => exact z.elim
  | .ok .brk, z => exact z.elim
  | .ok .cont, z => exact z.elim
  | .ok (.ret v), z =>
    obtain ⟨rfl, z⟩ := z
    first
      | exact wpAny_pure (wpAny_pure z)
      | (wp_walk; exact z)
theorem callX {rest : List Value} {fI : Addr} (F : ExcBaseFacts B newId initId bmB) (o : Over B bm) (hC : h.get? C = some (excClassObj nm q C N bs bm hdct sn sub ab col dd k0 k1 k2 k3 k5 newId))
    (hi : Looks (model prog w) h (typeLookup (.ref C) "__init__") (some (.ref fI))) (hb : ∀ self, Looks (model prog w) h (bindSpecial (.ref fI) self) (.ref fI, [self])) (hrest : rest.length ≤ sizeLine)
    (hq : codeAny (model prog w) (A.under (.builtin "type.__call__" ⟨.ref C :: rest, []⟩)) (.call (.ref fI) ⟨.ref (h.objs.size + 1) :: rest, []⟩) (InitBack (h.objs.size + 1) R) ⟨(h.push (kdv_tup rest)).push (excO C h.objs.size), g, d, t, os⟩) :
    codeAny (model prog w) A (.call (.ref C) ⟨rest, []⟩) R ⟨h, g, d, t, os⟩ := by
  have f1 := PySem.tc_lookup
  have f2 := PySem.tc_bind (.ref C)
  have hTy : (⟨h, g, d, t, os⟩ : Shared).TypeIs (.ref C) "type" := ⟨_, hC, rfl⟩
  refine codeAny_of_tree ?_
  show wpAny _ _ (callAny (.ref C) _) _ _ _
  repeat (any_goals (first | assumption | with_reducible refine wpAny_loadPart_at hC ?_ | wp_step))
  refine ⟨rfl, codeAny_call_builtin_at (Code.quiet_builtin _ (by decide +kernel)) entry_typeCall (wpAny_check_type_call_sub hC (typeX F o hC hi hb hrest (codeAny_mono hq ?_)))⟩
  intro r s' z
  rcases r with e | (v | _ | _ | _) <;> exact z
end

/-- what the written part says of an own exception class over the built-in B -/
structure XI (K : PySem.W.Frag) (C : Addr) (B newId initId : String) (bmB bm : List Value) : Prop where
  base : ExcBaseFacts B newId initId bmB
  over : Over B bm
  pass : ∀ self, refuseLoop self "__setattr__" bm = pure ()
  ob : bm.contains (.type "object") = true
  cls : ∃ nm q N bs sn sub ab col dd k0 k1 k2 k3 k5, K.lookup C = some (excClassObj nm q C N bs bm true sn sub ab col dd k0 k1 k2 k3 k5 newId)
  sa : PySem.W.findIn K (.ref C) "__setattr__" = some (some (.builtin "object.__setattr__"))
  kC : PySem.W.keepIn K (.ref C) = true

section
variable {X : Cx} {pins : List (Addr × Obj)} {σ : L2.St} {H : Hp} {s : Shared} {a C : Addr} {f : Str} {y : V} {u : Value} {Q : Unit → Shared → Prop} {E : Value → Shared → Prop} {A : Around} {B newId initId : String} {bmB bm : List Value}
/-- self.f = y, the first one -/
theorem ostG (T : XI X.K C B newId initId bmB bm) (I : Inv X pins σ H s) (e : H a = some (exo a C none)) (hno : PySem.W.findIn X.K (.ref C) f = some none) (ry : RelV y u)
    (h : ∀ dx s', H dx = none → dx ≠ a → Inv X pins σ (upd (upd H dx (exd dx [(f, y)])) a (exo a C (some dx))) s' → Q () s') : wpAny (model X.prog X.w) A (setAttr (.ref a) f u) Q E s := by
  obtain ⟨nm, q, N, bs, sn, sub, ab, col, dd, k0, k1, k2, k3, k5, hC⟩ := T.cls
  have hcl : PySem.W.clsIn X.K C = some { name := nm, bases := bs, mro := .ref C :: bm, ns := N, qualname := q, hasDict := true, slotNames := sn, subclasses := sub, abstract := ab, collection := col, hasDel := false } := by
    unfold PySem.W.clsIn
    rw [hC] <;> rfl
  obtain ⟨t1, ho⟩ := exo_at I.hok e
  obtain ⟨hp, g, d, t, os⟩ := s
  refine PySem.W.set_plain I.kIn (ox := { cls := .ref C, dict := none, data := .fields #[.ref t1, .none, .none, .none, .bool false, .none] }) (od := none) ⟨ho, rfl, rfl, trivial⟩ T.sa ?_
  refine osaG I.kIn ho hcl rfl (by rw [List.contains_cons, T.ob, Bool.or_true]) (fun self => by rw [PySem.refuseLoop_ref]; exact T.pass self) rfl hno ?_
  intro h' tk' dx k dn dne hx hn
  have hnd : H dx = none := I.hok.fresh dn
  have nd : ∀ {b : Addr} {o : Obj}, hp.get? b = some o → b ≠ dx := fun {b o} z => Nat.ne_of_lt (Nat.lt_of_lt_of_le (Heap.lt_size z) dn)
  have na : ∀ {b : Addr}, H b = none → b ≠ a := fun {b} n z => by
    rw [z, e] at n
    cases n
  have U : Un X.fs [] H (upd (upd H dx (exd dx [(f, y)])) a (exo a C (some dx))) hp h' := by
    constructor
    · exact fun b o z n _ _ => k b o (na n) z
    · exact fun b o z n _ _ => ⟨o.slots, k b o (na n) z⟩
    · intro b o z n _
      rw [upd_ne (na n), upd_ne (nd z)]
      exact n
    · intro b o z _
      by_cases hb : b = a
      · exact ⟨_, by rw [hb]; exact hx⟩
      · exact ⟨o, k b o hb z⟩
    · intro b xs z
      rw [upd_ne (at_ne e z exo_tup), upd_ne (ne_of_none z hnd)]
      exact z
    · intro b o v z
      rw [upd_ne (at_ne e z exo_frz), upd_ne (ne_of_none z hnd)]
      exact z
    · intro b ps z
      refine ⟨#[], ?_⟩
      rw [upd_ne (at_ne e z exo_tbl), upd_ne (ne_of_none z hnd), z]
      simp
  refine h dx _ hnd dne (I.un (t' := tk') U ?_)
  intro b o z
  by_cases hb : b = a
  · subst hb
    rw [upd_same] at z
    cases z
    exact exo_ok hx
  · rw [upd_ne hb] at z
    by_cases hd : b = dx
    · subst hd
      rw [upd_same] at z
      cases z
      exact exd_ok hn (relO_put (fs := []) ry fun g => True.intro)
    · rw [upd_ne hd] at z
      refine (I.hok b o z).stay ?_ ?_ ?_
      · intro c v hc y
        refine k c v ?_ y
        rcases hc with hc | hc
        · rw [hc]
          exact hb
        · exact at_ne e hc exo_own
      · intro c hc
        rw [upd_ne (at_ne e hc exo_own), upd_ne (ne_of_none hc hnd)]
        exact hc
      · intro c xs hc
        rw [upd_ne (at_ne e hc exo_tup), upd_ne (ne_of_none hc hnd)]
        exact hc
end

/-- self.f = e in the __init__ of such a class -/
def tXSt (C : Addr) (f : Str) (to te : TE) : TS := fun D σ H => te σ H fun y H1 => to σ H1 fun x H2 => ∃ a : Addr, x = .ref a ∧ H2 a = some (exo a C none) ∧
  ∀ dx, H2 dx = none → dx ≠ a → D.nx σ (upd (upd H2 dx (exd dx [(f, y)])) a (exo a C (some dx)))
theorem ps_xst {X : Cx} {o e : Expr} {to te : TE} {f : Str} {p' pos : Pos} {C : Addr} {B newId initId : String} {bmB bm : List Value} (T : XI X.K C B newId initId bmB bm) (hno : PySem.W.findIn X.K (.ref C) f = some none) (ho : PE X o to) (he : PE X e te)
    (hs : swapsWith e (some (.Attribute o f p')) pos.line X.env = pure false := by rfl) : PS X (.Assign [.Attribute o f p'] e pos) (tXSt C f to te) := by
  constructor
  intro pins s σ H D I h
  refine plainObj_wpAny_Assign_Attribute (thn (he.run pins s σ H _ I h) ?_) hs
  rintro v s1 ⟨y, H1, I1, r1, q1⟩
  refine thn (ho.run pins s1 σ H1 _ I1 q1) ?_
  rintro u s2 ⟨x, H2, I2, r2, a, ex, ea, q⟩
  subst ex
  obtain rfl : u = Value.ref a := r2
  exact ostG T I2 ea hno r1 fun dx s' n ne J => ⟨σ, _, J, q dx n ne⟩

/-- the __init__'s promise -/
def spXI (C : Addr) (f : Str) : Sp := fun vs H Q _ => ∃ (a : Addr) (v : V), vs = [.ref a, v] ∧ H a = some (exo a C none) ∧ ∀ dx, H dx = none → dx ≠ a → Q .non (upd (upd H dx (exd dx [(f, v)])) a (exo a C (some dx)))
/-- C(e) as a value -/
def tMkX (C : Addr) (f : Str) (te : TE) : TE := fun σ H Q => te σ H fun v H1 => ∀ a d, H1 a = none → H1 d = none → d ≠ a → Q (.ref a) (upd (upd H1 d (exd d [(f, v)])) a (exo a C (some d)))
theorem upd3 {H : Hp} {a d : Addr} {o1 o2 o3 : HO} : upd (upd (upd H a o1) d o2) a o3 = upd (upd H d o2) a o3 := by
  funext b
  by_cases h : b = a
  · rw [h, upd_same, upd_same]
  · rw [upd_ne h, upd_ne h]
    by_cases h2 : b = d
    · rw [h2, upd_same, upd_same]
    · rw [upd_ne h2, upd_ne h2, upd_ne h]
theorem pe_excI {X : Cx} {x : Str} {C fI : Addr} {k : Nat} {fd : FuncData} {ps : List Str} {f : Str} {B newId initId : String} {bmB bm : List Value} {e : Expr} {te : TE} {p pos : Pos} (T : XI X.K C B newId initId bmB bm)
    (iC : PySem.W.findIn X.K (.ref C) "__init__" = some (some (.ref fI))) (tI : PySem.W.typeIn X.K (.ref fI) = some (.type "function"))
    (F1 : FnOk X.prog X.w X.K X.mg X.base CX0 k fI fd ps (spXI C f)) (hr : Room (k + 1) X.A) (hb : Binds X.K fd ps []) (hg : Gl X x) (hm : X.mg x = some (.ref C)) (he : PE X e te)
    (hdb : (x == ("__debug__" : Str)) = false := by decide) (hs : starEach [e] X.env = (false, eval e X.env) :: starEach [] X.env := by rfl) :
    PE X (.Call (.Name x p) [e] [] pos) (tMkX C f te) := by
  constructor
  intro pins s σ H Q I h
  obtain ⟨nm, q, N, bs, sn, sub, ab, col, dd, k0, k1, k2, k3, k5, hC⟩ := T.cls
  refine wpAny_Call_Name_kw (ld_glob I hg hm ?_ hdb)
  refine PySem.W.callWith_K (h₀ := X.base) I.ok.mod.kin T.kC ?_ hs (by rfl)
  rw [hs]
  show wpAny _ _ (spliced ((false, eval e X.env) :: backTo pos (starEach [] X.env))) _ _ s
  refine Calls.spliced_cons (thn (he.run pins s σ H _ I h) ?_)
  rintro u s1 ⟨v, H1, I1, r1, q1⟩
  refine Calls.spliced_nil ⟨I1.kIn, ?_⟩
  show wpAny _ _ (call (.ref C) [u]) _ _ _
  obtain ⟨hp, g, dr, tk, os⟩ := s1
  have hsz : hp.objs.size ≤ hp.objs.size + 1 := Nat.le_succ _
  have hn : H1 (hp.objs.size + 1) = none := I1.hok.fresh hsz
  have kk : ∀ b o, hp.get? b = some o → ((hp.push (PySem.W.kdv_tup [u])).push (PySem.HandSPX.excO C hp.objs.size)).get? b = some o := fun b o z => Heap.get?_push_of_some _ (Heap.get?_push_of_some _ z)
  have hget : ((hp.push (PySem.W.kdv_tup [u])).push (PySem.HandSPX.excO C hp.objs.size)).get? (hp.objs.size + 1) = some (PySem.HandSPX.excO C hp.objs.size) := by heap_get
  have I2 : Inv X pins σ (upd H1 (hp.objs.size + 1) (exo (hp.objs.size + 1) C none)) ⟨(hp.push (PySem.W.kdv_tup [u])).push (PySem.HandSPX.excO C hp.objs.size), g, dr, tk, os⟩ :=
    I1.laid (t' := tk) (a := hp.objs.size + 1) (o := exo (hp.objs.size + 1) C none) (h' := (hp.push (PySem.W.kdv_tup [u])).push (PySem.HandSPX.excO C hp.objs.size)) kk hsz (exo_ok hget)
  have r2 : Vals [V.ref (hp.objs.size + 1), v] [Value.ref (hp.objs.size + 1), u] := .cons rfl (.cons r1 .nil)
  have hq : spXI C f [V.ref (hp.objs.size + 1), v] (upd H1 (hp.objs.size + 1) (exo (hp.objs.size + 1) C none)) (fun z H2 => z = .non ∧ Q (.ref (hp.objs.size + 1)) H2) (fun _ _ _ => False) := by
    refine ⟨_, v, rfl, upd_same, fun dx nd ne => ⟨rfl, ?_⟩⟩
    rw [upd3]
    refine q1 _ dx hn ?_ ne
    rw [upd_ne ne] at nd
    exact nd
  have hl : ([Value.ref (hp.objs.size + 1), u] ++ []).length = ps.length := by
    have z := F1.len _ _ _ _ hq
    exact z
  refine wpAny_call (callX T.base T.over (I1.kIn _ _ hC) (PySem.W.looks_findIn I1.kIn iC) (fun self => PySem.W.bind_fn I1.kIn self tI) (by show 1 ≤ sizeLine; decide)
    (codeAny_mono (F1.run _ X.stack _ _ ⟨[Value.ref (hp.objs.size + 1), u], []⟩ [Value.ref (hp.objs.size + 1), u] _ _ (fun _ _ _ => False) (hr.make C [u] []) (I2.env0.make C [u] []) (hb _ [Value.ref (hp.objs.size + 1), u] I2.kIn hl) r2 hq) ?_))
  intro r s' hq'
  match r, hq' with
  | .error er, hq' => exact False.elim hq'
  | .ok .next, hq' => exact False.elim hq'
  | .ok .brk, hq' => exact False.elim hq'
  | .ok .cont, hq' => exact False.elim hq'
  | .ok (.ret w), hq' =>
    obtain ⟨z, H', I3, rv, ez, q3⟩ := I2.after hq'
    subst ez
    exact ⟨rv, V.ref (hp.objs.size + 1), H', I3, rfl, q3⟩

/-- e.f, e an exception that stands in H -/
def tXfld (C : Addr) (n : Str) (te : TE) : TE := fun σ H Q => te σ H fun x H1 => ∃ (a d : Addr) (fs : List (Str × V)) (v : V), x = .ref a ∧ H1 a = some (exo a C (some d)) ∧ H1 d = some (exd d fs) ∧ fs.lookup n = some v ∧ Q v H1
theorem pe_xfld {X : Cx} {C : Addr} {e : Expr} {te : TE} {pos : Pos} {n : Str} (T : XC X.K C) (hdC : PySem.W.hasDictIn X.K C = true) (hno : PySem.W.findIn X.K (.ref C) n = some none) (he : PE X e te)
    (hb : attributeBase e n X.env (eval e X.env) = eval e X.env := by rfl) : PE X (.Attribute e n pos) (tXfld C n te) := by
  constructor
  intro pins s σ H Q I h
  refine attr_of hb (thn (he.run pins s σ H _ I h) ?_)
  rintro u s1 ⟨x, H1, I1, rx, a, d, fs, v, ex, ea, ed, l, q⟩
  subst ex
  obtain rfl : u = Value.ref a := rx
  obtain ⟨t1, ho⟩ := exo_at I1.hok ea
  obtain ⟨mA, hns, hr⟩ := exd_at I1.hok ed
  obtain ⟨od, hod, hl⟩ := lookIn_ns hns
  obtain ⟨z, hz, rz⟩ := RelO.some_of (v := v) (o := mA n) (by rw [← l]; exact hr n)
  have J : PySem.W.InstAt s1.heap a _ C (some od) := ⟨ho, rfl, rfl, hod⟩
  exact HandSPX.exc_get I1.kIn J T.ga T.gt T.sb (PySem.W.findObj_own hdC hno rfl (by rw [hl, hz])) (handed_of rz) ⟨v, H1, I1.tok _, rz, q⟩
end Far

set_option Elab.async false
set_option linter.all false
set_option maxRecDepth 100000
set_option maxHeartbeats 4000000
/-! Data without lists (None, bools, ints, texts, tuples of these): it stays wherever tuples stay. -/
namespace Far
open PySem PySem.Spec PyProof.Rows L2

/-- tuples and what is locked stay -/
structure TP (H H' : Hp) : Prop where
  tup : ∀ b xs, H b = some (.tup xs) → H' b = some (.tup xs)
  frz : ∀ b o u, H b = some (.frz o u) → H' b = some (.frz o u)
theorem TP.refl (H : Hp) : TP H H := ⟨fun _ _ e => e, fun _ _ _ e => e⟩
theorem TP.trans {H H1 H2 : Hp} (x : TP H H1) (y : TP H1 H2) : TP H H2 := ⟨fun b xs e => y.tup b xs (x.tup b xs e), fun b o u e => y.frz b o u (x.frz b o u e)⟩
theorem TP.same {H H' : Hp} (s : Same H H') : TP H H' := ⟨fun b xs e => s _ _ e, fun b o u e => s _ _ e⟩
theorem TP.new {H : Hp} {p : Addr} {o : HO} (h : H p = none) : TP H (upd H p o) := ⟨fun b xs e => by rw [upd_ne (ne_of_none e h)]; exact e, fun b o' u e => by rw [upd_ne (ne_of_none e h)]; exact e⟩
theorem TP.lst {H : Hp} {p : Addr} {o : HO} {xs : List V} (h : H p = some (.lst xs)) : TP H (upd H p o) := by
  constructor
  · intro b ys e
    rw [upd_ne (ne_of e h (fun z => by cases z))]
    exact e
  · intro b o' u e
    rw [upd_ne (ne_of e h (fun z => by cases z))]
    exact e
theorem TP.sqT {K : PySem.W.Frag} {H H' : Hp} {a : Addr} {xs : List V} (t : TP H H') (h : SqT K H a xs) : SqT K H' a xs := by
  rcases h with (h | ⟨o, h⟩) | h
  · exact .inl (.inl (t.tup _ _ h))
  · exact .inl (.inr ⟨o, t.frz _ _ _ h⟩)
  · exact .inr h

mutual
def noL : PyData → Bool
  | .none => true
  | .bool _ => true
  | .int _ => true
  | .str _ => true
  | .list _ => false
  | .tuple xs => noLs xs
  | .dict _ => false
def noLs : List PyData → Bool
  | [] => true
  | d :: ds => noL d && noLs ds
end
mutual
theorem dpT {K : PySem.W.Frag} {H H' : Hp} (t : TP H H') : ∀ (d : PyData) (v : V), noL d = true → Dp K H v d → Dp K H' v d
  | .none, _, _, h => by cases h; exact .non
  | .bool b, _, _, h => by cases h; exact .bl b
  | .int i, _, _, h => by cases h; exact .int i
  | .str x, _, _, h => by cases h; exact .str x
  | .list ds, _, n, _ => by simp [noL] at n
  | .tuple ds, _, n, h => by
    cases h with
    | tup hs ha => exact .tup (t.sqT hs) (dpTs t ds _ (by simpa [noL] using n) ha)
  | .dict _, _, n, _ => by simp [noL] at n
theorem dpTs {K : PySem.W.Frag} {H H' : Hp} (t : TP H H') : ∀ (ds : List PyData) (vs : List V), noLs ds = true → DpAll K H vs ds → DpAll K H' vs ds
  | [], _, _, h => by cases h; exact .nil
  | d :: ds, _, n, h => by
    have n' : noL d = true ∧ noLs ds = true := by simpa [noLs] using n
    cases h with
    | cons h1 h2 => exact .cons (dpT t d _ n'.1 h1) (dpTs t ds _ n'.2 h2)
end
/-- a small datum, that can be shown -/
structure Small (m : Nat) (d : PyData) : Prop where
  nl : noL d = true
  sh : d.showable = true
  hd : d.hasDict = false
  dp : d.depth ≤ 20
  sz : d.shown.length ≤ m
theorem listText_len (t : Str) (r : List Str) : (listText (t :: r)).length = piled (t :: r) := by
  have h := textFrom_length_pos r 1 (("[" : Str) ++ (if (0 : Nat) > 0 then ", " else "" : String) ++ t) (Nat.succ_pos 0)
  have e : (("[" : Str) ++ (if (0 : Nat) > 0 then ", " else "" : String) ++ t).length = 1 + t.length := by
    rw [strLen_append, strLen_append]
    rfl
  have hX : (listText (t :: r)).length = (textFrom 0 "[" (t :: r)).length + 1 := by
    show (textFrom 0 "[" (t :: r) ++ "]").length = _
    rw [strLen_append]
    rfl
  have hY : (textFrom 0 "[" (t :: r)).length = (textFrom 1 (("[" : Str) ++ (if (0 : Nat) > 0 then ", " else "" : String) ++ t) r).length := rfl
  rw [hX, hY, h, e, piled_cons]
  omega
theorem listText_le (ts : List Str) : (listText ts).length ≤ piled ts + 2 := by
  cases ts with
  | nil => rw [listText_nil]; exact Nat.le_refl 2
  | cons t r => rw [listText_len]; omega
/-- a list of small data -/
theorem small_list {m : Nat} : ∀ ds : List PyData, (∀ d ∈ ds, Small m d) → PyData.showableAll ds = true ∧ PyData.hasDictAll ds = false ∧ PyData.depthAll ds ≤ 20 ∧ piled (PyData.shownAll ds) ≤ ds.length * (m + 2)
  | [], _ => by simp [PyData.showableAll, PyData.hasDictAll, PyData.depthAll, PyData.shownAll, piled]
  | d :: ds, h => by
    have h1 := h d (List.mem_cons_self ..)
    obtain ⟨a, b, c, e⟩ := small_list ds fun x hx => h x (List.mem_cons_of_mem _ hx)
    have z := h1.sz
    have y := h1.dp
    refine ⟨by simp [PyData.showableAll, h1.sh, a], by simp [PyData.hasDictAll, h1.hd, b], by simp only [PyData.depthAll]; omega, ?_⟩
    simp only [PyData.shownAll, piled_cons, List.length_cons, Nat.succ_mul]
    omega
theorem int_len {n : Int} {k : Nat} (h : n.natAbs < 2 ^ k) (hk : 0 < k) : (Str.ofString (toString n)).length ≤ k + 1 := by
  rw [PySem.ofString_length]
  exact int_text_length_le hk (PySem.Flt.log2_lt_of hk h)
theorem small_int {n : Int} {m : Nat} (h : n.natAbs < 2 ^ m) (hm : 0 < m) (h2 : m < 1900) : Small (m + 1) (.int n) := by
  refine ⟨rfl, ?_, rfl, by simp [PyData.depth], ?_⟩
  · simp only [PyData.showable, decide_eq_true_eq]
    have := PySem.Flt.log2_lt_of hm h
    omega
  · show (Str.ofString (toString n)).length ≤ m + 1
    exact int_len h hm
end Far

set_option Elab.async false
set_option linter.all false
set_option maxRecDepth 100000
set_option maxHeartbeats 4000000
/-! The end of a law row over FnG. -/
namespace Far
open PySem PySem.Spec PyProof.Rows L2

section
variable {P : Program} {w : World} {K : PySem.W.Frag} {mg mb : Str → Option Value} {CX : CXT} {k : Nat} {fa a : Addr} {fd : FuncData} {x : Str} {sp : Sp} {s₁ : Shared} {vs : List Value} {ns : List Int}
abbrev LawEnd (s₁ : Shared) (r : Result) (s' : Shared) : Prop := r = .ok (.ret (.bool true)) ∧ OldK s₁.heap s'.heap ∧ s'.os = s₁.os ∧ AllBare s'.gens
/-- from an abstract heap that tracks the script at most -/
theorem law_from (KX : K.In s₁.heap) (hns : s₁.heap.Ns mainGlobals mg) (hb : s₁.heap.Ns builtinsNs mb) (hbb : ∀ x : Str, x ≠ "__name__" → mb x = bootBuiltins x) (hlim : s₁.heap.NoLimit) (hg : s₁.gens = #[])
    (ha : s₁.heap.get? a = some { cls := .type "list", data := .seq vs.toArray }) (hr : Room k callerA)
    (F : ∀ base : Heap, K.In base → base.Ns mainGlobals mg → FnG P w K mg base CX k fa fd [x] sp) (hbind : ∀ (s : Shared) (u : Value), BindsTo s fd ⟨[u], []⟩ [(x, u)])
    (hCX : ∀ H e s', CX [] H s₁ (fun _ _ _ => False) e s' → False)
    {H : Hp} (hO : Only H) (hok : HOk P w H s₁.heap) (hA : ∀ b, H b ≠ none → b = a) (hK : H a ≠ none → K.lookup a = none) (hsp : sp [.ref a] H (fun v _ => v = .bl true) fun _ _ _ => False) :
    codeAny (model P w) callerA (.call (.ref fa) ⟨[.ref a], []⟩) (LawEnd s₁) s₁ := by
  have noD : ∀ {b : Addr} {o : Obj} {es : Array DictEntry} {ep : Nat}, s₁.heap.get? b = some o → o.data = .dict es ep → H b = none := by
    intro b o es ep e dd
    cases q : H b with
    | none => rfl
    | some u =>
      have e' : b = a := hA b (by rw [q]; exact fun z => nomatch z)
      rw [e', ha] at e
      cases e
      exact nomatch dd
  have nsK : ∀ {b : Addr} {m : Str → Option Value}, s₁.heap.Ns b m → (hidT s₁.heap H).Ns b m := by
    rintro b m ⟨o, es, ep, e, dd, r⟩
    exact ⟨o, es, ep, hidT_get e (noD e dd), dd, r⟩
  have hKb : K.In (hidT s₁.heap H) := by
    intro b o e
    refine hidT_get (KX b o e) ?_
    cases q : H b with
    | none => rfl
    | some u =>
      have e' : b = a := hA b (by rw [q]; exact fun z => nomatch z)
      subst e'
      rw [hK (by rw [q]; exact fun z => nomatch z)] at e
      cases e
  have lim2 : (hidT s₁.heap H).NoLimit := by
    obtain ⟨mc, h1, h2⟩ := hlim
    exact ⟨mc, nsK h1, h2⟩
  have e0 : Env0 P w K mg (hidT s₁.heap H) callerA [] s₁ H :=
    { frames := rfl, mod := ⟨hKb, nsK hns, ⟨mb, nsK hb, hbb⟩, lim2⟩, bs := fun b o e => of_hidT e, bsz := Nat.le_of_eq (hidT_size _ _), funs := trivial, frf := (fun b z => by cases z), hok := hok, bare := .of_eq hg }
  refine codeAny_mono ((F _ hKb (nsK hns)).run callerA [] s₁ H ⟨[.ref a], []⟩ [.ref a] [.ref a] _ _ rfl hr e0 (hbind s₁ (.ref a)) (.cons rfl .nil) hsp) ?_
  intro r s' h
  match r, h with
  | .error e, h => exact (hCX H e s' h).elim
  | .ok .next, h => exact False.elim h
  | .ok .brk, h => exact False.elim h
  | .ok .cont, h => exact False.elim h
  | .ok (.ret u), h =>
    obtain ⟨v, H', os, bare, un, hok', rr, q⟩ := h
    have ev : v = .bl true := q
    subst ev
    obtain rfl : u = Value.bool true := rr
    refine ⟨rfl, OldK.of_keep ?_, os, bare⟩
    intro b o e
    rcases hO b with z | ⟨ob, xs, z⟩
    · exact un.keep b o e z (fun y => nomatch y) (fun y => nomatch y)
    · obtain ⟨e1, _⟩ := hok b _ z
      obtain ⟨e2, _⟩ := hok' b _ (un.frzs b ob _ z)
      rw [e] at e1
      cases e1
      exact e2

theorem law_callG (KX : K.In s₁.heap) (hns : s₁.heap.Ns mainGlobals mg) (hb : s₁.heap.Ns builtinsNs mb) (hbb : ∀ x : Str, x ≠ "__name__" → mb x = bootBuiltins x) (hlim : s₁.heap.NoLimit) (hg : s₁.gens = #[])
    (ha : s₁.heap.get? a = some { cls := .type "list", data := .seq vs.toArray }) (hi : IntsAre vs ns) (hl : ns.length ≤ sizeLine) (hr : Room k callerA)
    (F : ∀ base : Heap, K.In base → base.Ns mainGlobals mg → FnG P w K mg base CX k fa fd [x] sp) (hbind : ∀ (s : Shared) (u : Value), BindsTo s fd ⟨[u], []⟩ [(x, u)])
    (hsp : ∀ H : Hp, Only H → SqL K H a (ns.map V.int) → sp [.ref a] H (fun v _ => v = .bl true) fun _ _ _ => False)
    (hCX : ∀ H e s', CX [] H s₁ (fun _ _ _ => False) e s' → False) :
    codeAny (model P w) callerA (.call (.ref fa) ⟨[.ref a], []⟩) (LawEnd s₁) s₁ := by
  have rv := vals_ints hi
  cases hk : K.lookup a with
  | some o =>
    have e := KX a o hk
    rw [ha] at e
    cases e
    have o0 : Only (fun _ => none) := fun _ => .inl rfl
    refine law_from KX hns hb hbb hlim hg ha hr F hbind hCX (H := fun _ => none) o0 (fun b u z => nomatch z) (fun b z => absurd rfl z) (fun z => absurd rfl z) (hsp _ o0 ?_)
    exact .inr ⟨_, vs.toArray, _, hk, rfl, rfl, rfl, by rw [List.size_toArray, hi.length]; exact hl, by simpa using rv⟩
  | none =>
    let ob : Obj := { cls := .type "list", data := .seq vs.toArray }
    let H : Hp := fun b => if b = a then some (.frz ob (.lst (ns.map V.int))) else none
    have Ha : H a = some (.frz ob (.lst (ns.map V.int))) := if_pos rfl
    have Hn : ∀ b, b ≠ a → H b = none := fun b hb => if_neg hb
    have hO : Only H := fun b => by
      by_cases hb : b = a
      · exact .inr ⟨ob, _, by rw [hb]; exact Ha⟩
      · exact .inl (Hn b hb)
    refine law_from KX hns hb hbb hlim hg ha hr F hbind hCX (H := H) hO ?_ ?_ (fun _ => hk) (hsp H hO (.inl (.inr ⟨ob, Ha⟩)))
    · intro b u z
      by_cases hb : b = a
      · subst hb
        rw [Ha] at z
        cases z
        exact ⟨ha, by rw [List.length_map]; exact hl, vs, _, rv, ha⟩
      · rw [Hn b hb] at z
        cases z
    · intro b z
      by_cases hb : b = a
      · exact hb
      · exact absurd (Hn b hb) z
end

/-- the goal that k_head leaves, from the law's promise -/
theorem walk_ofG {l : PySem.W.OpenLaw} {n k : Nat} {q : Program} {loose : List Str} {XP : (Str → Option Value) → Heap → Prop} {YP : World → Heap → Prop} {d : DefRec} {K : Params → PySem.W.Frag} {sp : PySem.W.Frag → Sp} {x : Str}
    (hn : l.most = some n) (hn2 : n ≤ sizeLine) (hdf : d.params.defaults = []) (hr : Room k callerA)
    (hY : ∀ (w : World) (h : Heap), YP w h → (K w.params).In h)
    (F : ∀ (w : World) (mg : Str → Option Value) (fa : Addr) (h : Heap), (K w.params).In h → h.Ns mainGlobals mg → mg d.name = some (.ref fa) →
      ∃ fd : FuncData, (∀ (s : Shared) (u : Value), BindsTo s fd ⟨[u], []⟩ [(x, u)]) ∧
        ∀ base : Heap, (K w.params).In base → base.Ns mainGlobals mg → FnG l.prog w (K w.params) mg base CX0 k fa fd [x] (sp (K w.params)))
    (hsp : ∀ (K : PySem.W.Frag) (H : Hp) (a : Addr) (ns : List Int), ns.length ≤ n → Only H → SqL K H a (ns.map V.int) → sp K [.ref a] H (fun v _ => v = .bl true) fun _ _ _ => False) :
    PySem.W.WalkO q loose XP YP l.row.toRowW d [] (fun f vs => PySem.call f vs) := by
  refine Att.attach_call hn hdf ?_
  intro w s₀ s₁ mg mb fa o pm cd doc a vs ns G Y ho hd hcd hmg hobj hints hlen hg
  have KX := hY w _ Y
  obtain ⟨fd, hb, hF⟩ := F w mg fa _ KX G.T.g hmg
  exact law_callG KX G.T.g G.T.b G.T.builtins G.T.nolimit hg hobj hints (Nat.le_trans hlen hn2) hr hF hb (fun H hO hS => hsp _ H a ns hlen hO hS) fun H e s' z => z
end Far

set_option Elab.async false
set_option linter.all false
set_option maxRecDepth 100000
set_option maxHeartbeats 4000000
namespace K00
open PySem PySem.Spec PyProof.Rows L2 Far
def topS (i : Nat) : Stmt := PySem.Challenge.pw_farrules_k00_errors.main.body.getD i (.Pass ⟨0, 0, 0, 0⟩)
abbrev s_l_dice : Stmt := topS 18
theorem sc_l_dice : FnScope ["_law_script", "_law_at", "_law_cell", "_law_great", "_law_seed"] ["_law_script", "_law_at"] (defScope s_l_dice) := ⟨rfl, rfl, rfl, by decide +kernel, rfl, by decide +kernel, by decide +kernel⟩
abbrev s_l_roll : Stmt := topS 19
theorem sc_l_roll : FnScope ["_law_dice_here", "_law_upto", "_law_found", "_law_one", "_law_two"] ["_law_dice_here", "_law_upto"] (defScope s_l_roll) := ⟨rfl, rfl, rfl, by decide +kernel, rfl, by decide +kernel, by decide +kernel⟩
abbrev s_l_one_of : Stmt := topS 20
theorem sc_l_one_of : FnScope ["_law_dice_here", "_law_items"] ["_law_dice_here", "_law_items"] (defScope s_l_one_of) := ⟨rfl, rfl, rfl, by decide +kernel, rfl, by decide +kernel, by decide +kernel⟩
abbrev s_l_number : Stmt := topS 22
theorem sc_l_number : FnScope ["_law_dice_here", "_law_more"] ["_law_dice_here"] (defScope s_l_number) := ⟨rfl, rfl, rfl, by decide +kernel, rfl, by decide +kernel, by decide +kernel⟩
abbrev s_l_built_in : Stmt := topS 23
theorem sc_l_built_in : FnScope ["_law_e", "_law_found", "_law_bit", "_law_one"] ["_law_e"] (defScope s_l_built_in) := ⟨rfl, rfl, rfl, by decide +kernel, rfl, by decide +kernel, by decide +kernel⟩
abbrev s_l_of_messages : Stmt := topS 24
theorem sc_l_of_messages : FnScope ["_law_e", "_law_found"] ["_law_e"] (defScope s_l_of_messages) := ⟨rfl, rfl, rfl, by decide +kernel, rfl, by decide +kernel, by decide +kernel⟩
abbrev s_l_of_values : Stmt := topS 25
theorem sc_l_of_values : FnScope ["_law_e", "_law_found"] ["_law_e"] (defScope s_l_of_values) := ⟨rfl, rfl, rfl, by decide +kernel, rfl, by decide +kernel, by decide +kernel⟩
abbrev s_l_only : Stmt := topS 26
theorem sc_l_only : FnScope ["_law_many", "_law_at", "_law_one"] ["_law_many", "_law_at"] (defScope s_l_only) := ⟨rfl, rfl, rfl, by decide +kernel, rfl, by decide +kernel, by decide +kernel⟩
abbrev s_l_messages_right : Stmt := topS 27
theorem sc_l_messages_right : FnScope ["_law_words", "_law_made", "_law_at", "_law_e", "_law_base"] ["_law_words"] (defScope s_l_messages_right) := ⟨rfl, rfl, rfl, by decide +kernel, rfl, by decide +kernel, by decide +kernel⟩
abbrev s_l_values_right : Stmt := topS 28
theorem sc_l_values_right : FnScope ["_law_dice_here", "_law_one", "_law_two", "_law_faults", "_law_fault", "_law_some", "_law_told", "_law_paper", "_law_limit", "_law_total", "_law_made", "_law_bits", "_law_at", "_law_e", "_law_kept"] ["_law_dice_here"] (defScope s_l_values_right) := ⟨rfl, rfl, rfl, by decide +kernel, rfl, by decide +kernel, by decide +kernel⟩
abbrev s_law : Stmt := topS 29
theorem sc_law : FnScope ["_law_script", "_law_at", "_law_dice_here", "_law_signs", "_law_words", "_law_turn"] ["_law_script"] (defScope s_law) := ⟨rfl, rfl, rfl, by decide +kernel, rfl, by decide +kernel, by decide +kernel⟩
abbrev s_InvalidNumber_init : Stmt := inClass (topS 10) 0
theorem sc_InvalidNumber_init : FnScope ["self", "value"] ["self", "value"] (defScope s_InvalidNumber_init) := ⟨rfl, rfl, rfl, by decide +kernel, rfl, by decide +kernel, by decide +kernel⟩
abbrev s_UnknownName_init : Stmt := inClass (topS 11) 0
theorem sc_UnknownName_init : FnScope ["self", "name"] ["self", "name"] (defScope s_UnknownName_init) := ⟨rfl, rfl, rfl, by decide +kernel, rfl, by decide +kernel, by decide +kernel⟩
abbrev s_InvalidWorld_init : Stmt := inClass (topS 12) 0
theorem sc_InvalidWorld_init : FnScope ["self", "fault"] ["self", "fault"] (defScope s_InvalidWorld_init) := ⟨rfl, rfl, rfl, by decide +kernel, rfl, by decide +kernel, by decide +kernel⟩
abbrev s_Refused_init : Stmt := inClass (topS 13) 0
theorem sc_Refused_init : FnScope ["self", "refusal"] ["self", "refusal"] (defScope s_Refused_init) := ⟨rfl, rfl, rfl, by decide +kernel, rfl, by decide +kernel, by decide +kernel⟩
abbrev s_Harmful_init : Stmt := inClass (topS 14) 0
theorem sc_Harmful_init : FnScope ["self", "harm"] ["self", "harm"] (defScope s_Harmful_init) := ⟨rfl, rfl, rfl, by decide +kernel, rfl, by decide +kernel, by decide +kernel⟩
abbrev s_TooMany_init : Stmt := inClass (topS 15) 0
theorem sc_TooMany_init : FnScope ["self", "limit"] ["self", "limit"] (defScope s_TooMany_init) := ⟨rfl, rfl, rfl, by decide +kernel, rfl, by decide +kernel, by decide +kernel⟩
abbrev s_NothingToUndo_init : Stmt := inClass (topS 16) 0
theorem sc_NothingToUndo_init : FnScope ["self", "many"] ["self", "many"] (defScope s_NothingToUndo_init) := ⟨rfl, rfl, rfl, by decide +kernel, rfl, by decide +kernel, by decide +kernel⟩

/-! ### the table of the classes -/
def bname : Nat → String
  | 0 => "ValueError" | 1 => "IndexError" | 2 => "KeyError" | 3 => "LookupError" | 4 => "RuntimeError" | 5 => "ArithmeticError" | _ => "OverflowError"
def brow : Nat → List Bool
  | 9 => [false, true, false, true, false, false, false]
  | 10 => [false, false, true, true, false, false, false]
  | 11 => [false, false, false, false, true, false, false]
  | 12 => [false, false, false, false, false, true, false]
  | 13 => [false, false, false, false, false, false, false]
  | 14 => [false, false, false, false, false, true, true]
  | 15 => [false, false, false, true, false, false, false]
  | _ => [true, false, false, false, false, false, false]
def btab (i j : Nat) : Bool := (brow i).getD j false
def otab (i j : Nat) : Bool := i == j || (j == 0 && i < 9)
def xcB (K : PySem.W.Frag) (D : Addr) : Bool :=
  PySem.W.isClsIn K D && (decide (PySem.W.findIn K (.ref D) "__getattribute__" = some (some (.builtin "BaseException.__getattribute__"))) && (decide (PySem.W.findIn K (.ref D) "__getattr__" = some none) &&
  (decide (PySem.W.subIn K (.ref D) (.type "BaseException") = some true) && (decide (PySem.W.findIn K (.ref D) "__class__" = some (some (.builtin "object.__class__"))) &&
  (decide (PySem.W.specialIn K (.builtin "object.__class__") "__get__" = some (some (.builtin "getset_descriptor.__get__"))) && (decide (PySem.W.takesIn K (.builtin "object.__class__") = some true) &&
  decide (PySem.W.mroIn K D (.type "object") = some true)))))))
theorem xcB_ok {K : PySem.W.Frag} {D : Addr} (h : xcB K D = true) : XC K D := by
  simp only [xcB, Bool.and_eq_true, decide_eq_true_eq] at h
  obtain ⟨h1, h2, h3, h4, h5, h6, h7, h8⟩ := h
  exact ⟨h1, h2, h3, h4, h5, h6, h7, h8⟩
def rowB (K : PySem.W.Frag) (cs : List Addr) (i : Nat) : Bool :=
  xcB K (cs.getD i 0) && (((List.range 7).all fun j => decide (PySem.W.kitOne K (.ref (cs.getD i 0)) (.type (bname j)) = some (btab i j))) &&
    ((List.range 16).all fun j => decide (PySem.W.kitOne K (.ref (cs.getD i 0)) (.ref (cs.getD j 0)) = some (otab i j))))
def tabB (K : PySem.W.Frag) (cs : List Addr) : Bool := (List.range 16).all fun i => rowB K cs i
structure Tab (K : PySem.W.Frag) (C : Nat → Addr) : Prop where
  xc : ∀ i, i < 16 → XC K (C i)
  bt : ∀ i j, i < 16 → j < 7 → PySem.W.kitOne K (.ref (C i)) (.type (bname j)) = some (btab i j)
  ot : ∀ i j, i < 16 → j < 16 → PySem.W.kitOne K (.ref (C i)) (.ref (C j)) = some (otab i j)
theorem tabB_ok {K : PySem.W.Frag} {cs : List Addr} (h : tabB K cs = true) : Tab K (fun i => cs.getD i 0) := by
  have h1 : ∀ i, i < 16 → rowB K cs i = true := fun i hi => List.all_eq_true.mp h i (List.mem_range.mpr hi)
  refine ⟨fun i hi => ?_, fun i j hi hj => ?_, fun i j hi hj => ?_⟩
  · have z := h1 i hi
    unfold rowB at z
    exact xcB_ok (Bool.and_eq_true_iff.mp z).1
  · have z := h1 i hi
    unfold rowB at z
    exact of_decide_eq_true (List.all_eq_true.mp (Bool.and_eq_true_iff.mp (Bool.and_eq_true_iff.mp z).2).1 j (List.mem_range.mpr hj))
  · have z := h1 i hi
    unfold rowB at z
    exact of_decide_eq_true (List.all_eq_true.mp (Bool.and_eq_true_iff.mp (Bool.and_eq_true_iff.mp z).2).2 j (List.mem_range.mpr hj))
theorem same_new {H : Hp} {p : Addr} {o : HO} (h : H p = none) : Same H (upd H p o) := fun b u e => by
  rw [upd_ne (ne_of_none e h)]
  exact e
section
structure Ads where
  f_l_dice : Addr
  d_l_dice : FuncData
  f_l_roll : Addr
  d_l_roll : FuncData
  f_l_one_of : Addr
  d_l_one_of : FuncData
  f_l_number : Addr
  d_l_number : FuncData
  f_l_built_in : Addr
  d_l_built_in : FuncData
  f_l_of_messages : Addr
  d_l_of_messages : FuncData
  f_l_of_values : Addr
  d_l_of_values : FuncData
  f_l_only : Addr
  d_l_only : FuncData
  f_l_messages_right : Addr
  d_l_messages_right : FuncData
  f_l_values_right : Addr
  d_l_values_right : FuncData
  f_law : Addr
  d_law : FuncData
  C : Nat → Addr
  fi_InvalidNumber : Addr
  di_InvalidNumber : FuncData
  fi_UnknownName : Addr
  di_UnknownName : FuncData
  fi_InvalidWorld : Addr
  di_InvalidWorld : FuncData
  fi_Refused : Addr
  di_Refused : FuncData
  fi_Harmful : Addr
  di_Harmful : FuncData
  fi_TooMany : Addr
  di_TooMany : FuncData
  fi_NothingToUndo : Addr
  di_NothingToUndo : FuncData
structure Txt (K : PySem.W.Frag) (mg : Str → Option Value) (a : Ads) : Prop where
  F_l_dice : Fun K "_law_dice" "_law_dice" s_l_dice a.f_l_dice a.d_l_dice
  g_l_dice : mg "_law_dice" = some (.ref a.f_l_dice)
  b_l_dice : Binds K a.d_l_dice ["_law_script", "_law_at"] []
  F_l_roll : Fun K "_law_roll" "_law_roll" s_l_roll a.f_l_roll a.d_l_roll
  g_l_roll : mg "_law_roll" = some (.ref a.f_l_roll)
  b_l_roll : Binds K a.d_l_roll ["_law_dice_here", "_law_upto"] []
  F_l_one_of : Fun K "_law_one_of" "_law_one_of" s_l_one_of a.f_l_one_of a.d_l_one_of
  g_l_one_of : mg "_law_one_of" = some (.ref a.f_l_one_of)
  b_l_one_of : Binds K a.d_l_one_of ["_law_dice_here", "_law_items"] []
  F_l_number : Fun K "_law_number" "_law_number" s_l_number a.f_l_number a.d_l_number
  g_l_number : mg "_law_number" = some (.ref a.f_l_number)
  b_l_number : Binds K a.d_l_number ["_law_dice_here"] []
  F_l_built_in : Fun K "_law_built_in" "_law_built_in" s_l_built_in a.f_l_built_in a.d_l_built_in
  g_l_built_in : mg "_law_built_in" = some (.ref a.f_l_built_in)
  b_l_built_in : Binds K a.d_l_built_in ["_law_e"] []
  F_l_of_messages : Fun K "_law_of_messages" "_law_of_messages" s_l_of_messages a.f_l_of_messages a.d_l_of_messages
  g_l_of_messages : mg "_law_of_messages" = some (.ref a.f_l_of_messages)
  b_l_of_messages : Binds K a.d_l_of_messages ["_law_e"] []
  F_l_of_values : Fun K "_law_of_values" "_law_of_values" s_l_of_values a.f_l_of_values a.d_l_of_values
  g_l_of_values : mg "_law_of_values" = some (.ref a.f_l_of_values)
  b_l_of_values : Binds K a.d_l_of_values ["_law_e"] []
  F_l_only : Fun K "_law_only" "_law_only" s_l_only a.f_l_only a.d_l_only
  g_l_only : mg "_law_only" = some (.ref a.f_l_only)
  b_l_only : Binds K a.d_l_only ["_law_many", "_law_at"] []
  F_l_messages_right : Fun K "_law_messages_right" "_law_messages_right" s_l_messages_right a.f_l_messages_right a.d_l_messages_right
  g_l_messages_right : mg "_law_messages_right" = some (.ref a.f_l_messages_right)
  b_l_messages_right : Binds K a.d_l_messages_right ["_law_words"] []
  F_l_values_right : Fun K "_law_values_right" "_law_values_right" s_l_values_right a.f_l_values_right a.d_l_values_right
  g_l_values_right : mg "_law_values_right" = some (.ref a.f_l_values_right)
  b_l_values_right : Binds K a.d_l_values_right ["_law_dice_here"] []
  F_law : Fun K "law" "law" s_law a.f_law a.d_law
  g_law : mg "law" = some (.ref a.f_law)
  b_law : Binds K a.d_law ["_law_script"] []
  n_len : mg "len" = none
  n_int : mg "int" = none
  n_abs : mg "abs" = none
  n_range : mg "range" = none
  n_isinstance : mg "isinstance" = none
  n_sum : mg "sum" = none
  n_zip : mg "zip" = none
  n_enumerate : mg "enumerate" = none
  n_repr : mg "repr" = none
  n_max : mg "max" = none
  n_min : mg "min" = none
  n_ValueError : mg "ValueError" = none
  n_IndexError : mg "IndexError" = none
  n_KeyError : mg "KeyError" = none
  n_LookupError : mg "LookupError" = none
  n_RuntimeError : mg "RuntimeError" = none
  n_ArithmeticError : mg "ArithmeticError" = none
  n_OverflowError : mg "OverflowError" = none
  g_FarError : mg "FarError" = some (.ref (a.C 0))
  g_InvalidName : mg "InvalidName" = some (.ref (a.C 1))
  g_InvalidTerm : mg "InvalidTerm" = some (.ref (a.C 2))
  g_InvalidPackage : mg "InvalidPackage" = some (.ref (a.C 3))
  g_InvalidManner : mg "InvalidManner" = some (.ref (a.C 4))
  g_InvalidOperation : mg "InvalidOperation" = some (.ref (a.C 5))
  g_InvalidEdit : mg "InvalidEdit" = some (.ref (a.C 6))
  g_ParseError : mg "ParseError" = some (.ref (a.C 7))
  g_InvalidCommand : mg "InvalidCommand" = some (.ref (a.C 8))
  g_InvalidNumber : mg "InvalidNumber" = some (.ref (a.C 9))
  g_UnknownName : mg "UnknownName" = some (.ref (a.C 10))
  g_InvalidWorld : mg "InvalidWorld" = some (.ref (a.C 11))
  g_Refused : mg "Refused" = some (.ref (a.C 12))
  g_Harmful : mg "Harmful" = some (.ref (a.C 13))
  g_TooMany : mg "TooMany" = some (.ref (a.C 14))
  g_NothingToUndo : mg "NothingToUndo" = some (.ref (a.C 15))
  tab : Tab K a.C
  ex : ∀ i, i < 9 → PySem.W.excIn K (a.C i) [.type "ValueError", .type "Exception", .type "BaseException", .type "object"] "ValueError.__new__" = true
  kp : ∀ i, i < 16 → PySem.W.keepIn K (.ref (a.C i)) = true
  I_InvalidNumber : Fun K "__init__" "InvalidNumber.__init__" s_InvalidNumber_init a.fi_InvalidNumber a.di_InvalidNumber
  bi_InvalidNumber : Binds K a.di_InvalidNumber ["self", "value"] []
  xi_InvalidNumber : XI K (a.C 9) "IndexError" "IndexError.__new__" "IndexError.__init__" [.type "IndexError", .type "LookupError", .type "Exception", .type "BaseException", .type "object"] [.type "IndexError", .type "LookupError", .type "Exception", .type "BaseException", .type "object"]
  ii_InvalidNumber : PySem.W.findIn K (.ref (a.C 9)) "__init__" = some (some (.ref a.fi_InvalidNumber))
  ti_InvalidNumber : PySem.W.typeIn K (.ref a.fi_InvalidNumber) = some (.type "function")
  nf_InvalidNumber : PySem.W.findIn K (.ref (a.C 9)) "value" = some none
  hd_InvalidNumber : PySem.W.hasDictIn K (a.C 9) = true
  I_UnknownName : Fun K "__init__" "UnknownName.__init__" s_UnknownName_init a.fi_UnknownName a.di_UnknownName
  bi_UnknownName : Binds K a.di_UnknownName ["self", "name"] []
  xi_UnknownName : XI K (a.C 10) "LookupError" "LookupError.__new__" "LookupError.__init__" [.type "LookupError", .type "Exception", .type "BaseException", .type "object"] [.type "KeyError", .type "LookupError", .type "Exception", .type "BaseException", .type "object"]
  ii_UnknownName : PySem.W.findIn K (.ref (a.C 10)) "__init__" = some (some (.ref a.fi_UnknownName))
  ti_UnknownName : PySem.W.typeIn K (.ref a.fi_UnknownName) = some (.type "function")
  nf_UnknownName : PySem.W.findIn K (.ref (a.C 10)) "name" = some none
  hd_UnknownName : PySem.W.hasDictIn K (a.C 10) = true
  I_InvalidWorld : Fun K "__init__" "InvalidWorld.__init__" s_InvalidWorld_init a.fi_InvalidWorld a.di_InvalidWorld
  bi_InvalidWorld : Binds K a.di_InvalidWorld ["self", "fault"] []
  xi_InvalidWorld : XI K (a.C 11) "RuntimeError" "RuntimeError.__new__" "RuntimeError.__init__" [.type "RuntimeError", .type "Exception", .type "BaseException", .type "object"] [.type "RuntimeError", .type "Exception", .type "BaseException", .type "object"]
  ii_InvalidWorld : PySem.W.findIn K (.ref (a.C 11)) "__init__" = some (some (.ref a.fi_InvalidWorld))
  ti_InvalidWorld : PySem.W.typeIn K (.ref a.fi_InvalidWorld) = some (.type "function")
  nf_InvalidWorld : PySem.W.findIn K (.ref (a.C 11)) "fault" = some none
  hd_InvalidWorld : PySem.W.hasDictIn K (a.C 11) = true
  I_Refused : Fun K "__init__" "Refused.__init__" s_Refused_init a.fi_Refused a.di_Refused
  bi_Refused : Binds K a.di_Refused ["self", "refusal"] []
  xi_Refused : XI K (a.C 12) "ArithmeticError" "ArithmeticError.__new__" "ArithmeticError.__init__" [.type "ArithmeticError", .type "Exception", .type "BaseException", .type "object"] [.type "ArithmeticError", .type "Exception", .type "BaseException", .type "object"]
  ii_Refused : PySem.W.findIn K (.ref (a.C 12)) "__init__" = some (some (.ref a.fi_Refused))
  ti_Refused : PySem.W.typeIn K (.ref a.fi_Refused) = some (.type "function")
  nf_Refused : PySem.W.findIn K (.ref (a.C 12)) "refusal" = some none
  hd_Refused : PySem.W.hasDictIn K (a.C 12) = true
  I_Harmful : Fun K "__init__" "Harmful.__init__" s_Harmful_init a.fi_Harmful a.di_Harmful
  bi_Harmful : Binds K a.di_Harmful ["self", "harm"] []
  xi_Harmful : XI K (a.C 13) "Exception" "Exception.__new__" "Exception.__init__" [.type "Exception", .type "BaseException", .type "object"] [.type "Exception", .type "BaseException", .type "object"]
  ii_Harmful : PySem.W.findIn K (.ref (a.C 13)) "__init__" = some (some (.ref a.fi_Harmful))
  ti_Harmful : PySem.W.typeIn K (.ref a.fi_Harmful) = some (.type "function")
  nf_Harmful : PySem.W.findIn K (.ref (a.C 13)) "harm" = some none
  hd_Harmful : PySem.W.hasDictIn K (a.C 13) = true
  I_TooMany : Fun K "__init__" "TooMany.__init__" s_TooMany_init a.fi_TooMany a.di_TooMany
  bi_TooMany : Binds K a.di_TooMany ["self", "limit"] []
  xi_TooMany : XI K (a.C 14) "OverflowError" "OverflowError.__new__" "OverflowError.__init__" [.type "OverflowError", .type "ArithmeticError", .type "Exception", .type "BaseException", .type "object"] [.type "OverflowError", .type "ArithmeticError", .type "Exception", .type "BaseException", .type "object"]
  ii_TooMany : PySem.W.findIn K (.ref (a.C 14)) "__init__" = some (some (.ref a.fi_TooMany))
  ti_TooMany : PySem.W.typeIn K (.ref a.fi_TooMany) = some (.type "function")
  nf_TooMany : PySem.W.findIn K (.ref (a.C 14)) "limit" = some none
  hd_TooMany : PySem.W.hasDictIn K (a.C 14) = true
  I_NothingToUndo : Fun K "__init__" "NothingToUndo.__init__" s_NothingToUndo_init a.fi_NothingToUndo a.di_NothingToUndo
  bi_NothingToUndo : Binds K a.di_NothingToUndo ["self", "many"] []
  xi_NothingToUndo : XI K (a.C 15) "LookupError" "LookupError.__new__" "LookupError.__init__" [.type "LookupError", .type "Exception", .type "BaseException", .type "object"] [.type "LookupError", .type "Exception", .type "BaseException", .type "object"]
  ii_NothingToUndo : PySem.W.findIn K (.ref (a.C 15)) "__init__" = some (some (.ref a.fi_NothingToUndo))
  ti_NothingToUndo : PySem.W.typeIn K (.ref a.fi_NothingToUndo) = some (.type "function")
  nf_NothingToUndo : PySem.W.findIn K (.ref (a.C 15)) "many" = some none
  hd_NothingToUndo : PySem.W.hasDictIn K (a.C 15) = true
variable {P : Program} {w : World} {K : PySem.W.Frag} {mg : Str → Option Value} {base : Heap} {a : Ads}

def spDice (K : PySem.W.Frag) : Sp := fun vs H Q _ => ∃ (a : Addr) (ns : List Int) (i : Nat), vs = [.ref a, .int i] ∧ SqL K H a (ns.map V.int) ∧ i ≤ 63 ∧
  ∀ (p : Addr) (x y z : Int), H p = none → Q (.ref p) (upd H p (.lst [.int x, .int y, .int z]))
theorem seed_small (g : Int) (i : Nat) (b : Int) (hi : i ≤ 63) (h0 : 0 ≤ b) (h1 : b ≤ 1) : (5 * (g % 2305843009213693951) + 3 * (i : Int) + 2 * b + 1).natAbs < 2 ^ 64 := by
  have z1 := Int.emod_nonneg g (show (2305843009213693951 : Int) ≠ 0 by decide)
  have z2 := Int.emod_lt_of_pos g (show (0 : Int) < 2305843009213693951 by decide)
  omega
theorem ok_l_dice {k : Nat} (T : Txt K mg a) : FnOk P w K mg base CX0 (k + 1) a.f_l_dice a.d_l_dice ["_law_script", "_law_at"] (spDice K) := by
  refine T.F_l_dice.ok sc_l_dice (fun vs H Q E h => ?_) (fun cdv A outer s H vs Q E hr h => ?_)
  · obtain ⟨_, _, _, rfl, _⟩ := h
    rfl
  · obtain ⟨p0, ns, i, rfl, hS, hi, q⟩ := h
    refine ⟨_, (pss_cons (ps_set (i := 2) sc_l_dice.nd rfl (Or.inl rfl) (pe_ifExp (pt_cmpR op_lt (pv 1) (pe_callB call_len_seq (by rfl) T.n_len PySem.boot_len (pa_cons (pv 0) pa_nil)) (nomark _)) (pe_ix ix_list (pv 0) (pv 1) (fun _ _ => rfl)) (pe_op op_add (pe_op op_mul pe_int (pv 1)) pe_int)))
 (pss_cons (ps_set (i := 3) sc_l_dice.nd rfl (Or.inl rfl) (pe_op op_mod (pe_callTy call_int1 (by rfl) T.n_int (by decide +kernel) (pa_cons (pe_callB call_abs (by rfl) T.n_abs (by decide +kernel) (pa_cons (pv 2) pa_nil)) pa_nil)) (pe_op op_powW (pe_op op_pow pe_int pe_int) pe_int)))
 (pss_cons (ps_set (i := 4) sc_l_dice.nd rfl (Or.inl rfl) (pe_op op_add (pe_op op_add (pe_op op_add (pe_op op_mul pe_int (pe_op op_mod (pe_callTy call_int1 (by rfl) T.n_int (by decide +kernel) (pa_cons (pv 3) pa_nil)) pe_int)) (pe_op op_mul pe_int (pv 1))) (pe_op op_mul pe_int (pe_callTy call_int1 (by rfl) T.n_int (by decide +kernel) (pa_cons (pe_cmpR op_lt (pv 2) pe_int (nomark _)) pa_nil)))) pe_int))
 (pss_one (ps_ret (pe_lst (pa_cons (pe_op op_fdivW (pv 3) (pe_op op_pow pe_int pe_int)) (pa_cons (pe_op op_mod (pe_callTy call_int1 (by rfl) T.n_int (by decide +kernel) (pa_cons (pe_op op_pow (pv 4) pe_int) pa_nil)) pe_int) (pa_cons pe_int pa_nil))))))))), ?_⟩
    have fin : ∀ (c : Int), (0 : Int) ≤ (if decide (c < 0) = true then 1 else 0) ∧ (if decide (c < 0) = true then (1 : Int) else 0) ≤ 1 := fun c => by
      by_cases z : c < 0 <;> simp [z]
    refine ⟨_, rfl, _, rfl, p0, _, rfl, .inl hS, _, _, rfl, rfl, _, rfl, ite2 (fun c => ?_) (fun c => ?_)⟩
    · have c2 : (i : Int) < ((ns.map V.int).length : Int) := of_decide_eq_true c
      have c3 : i < ns.length := by
        rw [List.length_map] at c2
        omega
      have hx : (ns.map V.int)[i]? = some (.int ns[i]) := by
        rw [List.getElem?_map, List.getElem?_eq_getElem c3]
        rfl
      refine ⟨_, rfl, _, rfl, p0, _, _, _, rfl, rfl, hS, atI_nat hx, ?_⟩
      generalize ns[i] = cell
      obtain ⟨f0, f1⟩ := fin cell
      refine ⟨_, rfl, _, rfl, .inl ⟨_, rfl, _, _, rfl, rfl, ⟨by decide, by decide, by decide⟩, _, _, rfl, rfl, ⟨by decide, by decide +kernel⟩, _, _, rfl, rfl, (show (0 : Int) < ((10 : Int) ^ Int.toNat 60) ^ Int.toNat 10 by decide +kernel), ?_⟩⟩
      refine ⟨_, rfl, .inl ⟨_, rfl, _, _, rfl, rfl, (by show (0 : Int) < 2305843009213693951; decide), _, _, rfl, rfl, .inl ⟨by decide, by decide⟩, _, rfl, _, _, rfl, rfl, .inl ⟨by decide, by decide⟩, _, _, rfl, rfl, _, rfl, _, _, rfl, rfl,
        .inr ⟨_, rfl, _, _, rfl, rfl, .inl ⟨by decide, by decide⟩, _, _, rfl, rfl, _, _, rfl, rfl, ?_⟩⟩⟩
      refine ⟨_, rfl, _, _, rfl, rfl, ⟨by decide, by decide, by decide⟩, _, _, rfl, rfl, wide_div (b := 64) (by decide +kernel) (by decide +kernel) (by decide) (by decide), _, rfl, _, _, rfl, rfl, ⟨by decide, by decide, seed_small _ i _ hi f0 f1⟩,
        .inl ⟨_, rfl, _, _, rfl, rfl, (by show (0 : Int) < 2305843009213693921; decide), (by show 3 ≤ sizeLine; decide), fun p np => q p _ _ _ np⟩⟩
    · refine ⟨_, rfl, _, _, rfl, rfl, .inl ⟨by decide, by decide⟩, _, _, rfl, rfl, ?_⟩
      obtain ⟨f0, f1⟩ := fin (31 * (i : Int) + 5)
      refine ⟨_, rfl, _, rfl, .inl ⟨_, rfl, _, _, rfl, rfl, ⟨by decide, by decide, by decide⟩, _, _, rfl, rfl, ⟨by decide, by decide +kernel⟩, _, _, rfl, rfl, (show (0 : Int) < ((10 : Int) ^ Int.toNat 60) ^ Int.toNat 10 by decide +kernel), ?_⟩⟩
      refine ⟨_, rfl, .inl ⟨_, rfl, _, _, rfl, rfl, (by show (0 : Int) < 2305843009213693951; decide), _, _, rfl, rfl, .inl ⟨by decide, by decide⟩, _, rfl, _, _, rfl, rfl, .inl ⟨by decide, by decide⟩, _, _, rfl, rfl, _, rfl, _, _, rfl, rfl,
        .inr ⟨_, rfl, _, _, rfl, rfl, .inl ⟨by decide, by decide⟩, _, _, rfl, rfl, _, _, rfl, rfl, ?_⟩⟩⟩
      refine ⟨_, rfl, _, _, rfl, rfl, ⟨by decide, by decide, by decide⟩, _, _, rfl, rfl, wide_div (b := 64) (by decide +kernel) (by decide +kernel) (by decide) (by decide), _, rfl, _, _, rfl, rfl, ⟨by decide, by decide, seed_small _ i _ hi f0 f1⟩,
        .inl ⟨_, rfl, _, _, rfl, rfl, (by show (0 : Int) < 2305843009213693921; decide), (by show 3 ≤ sizeLine; decide), fun p np => q p _ _ _ np⟩⟩

/-- the dice stand at d -/
def DiceAt (H : Hp) (d : Addr) : Prop := ∃ x y z : Int, H d = some (.lst [.int x, .int y, .int z])
def spRoll : Sp := fun vs H Q _ => ∃ (d : Addr) (u : Int), vs = [.ref d, .int u] ∧ DiceAt H d ∧ 0 < u ∧ u.natAbs < 2 ^ 64 ∧
  ∀ (n x y z : Int), 0 ≤ n → n < u → Q (.int n) (upd H d (.lst [.int x, .int y, .int z]))
theorem ok_l_roll {k : Nat} (T : Txt K mg a) : FnOk P w K mg base CX0 (k + 1) a.f_l_roll a.d_l_roll ["_law_dice_here", "_law_upto"] spRoll := by
  refine T.F_l_roll.ok sc_l_roll (fun vs H Q E h => ?_) (fun cdv A outer s H vs Q E hr h => ?_)
  · obtain ⟨_, _, rfl, _⟩ := h
    rfl
  · obtain ⟨d, u, rfl, ⟨x, y, z, hd⟩, hu, hu2, q⟩ := h
    refine ⟨_, (pss_cons (ps_if (pt_cmpR op_gt (pe_ix ix_list (pv 0) pe_int (fun _ _ => rfl)) pe_int (nomark _))
  (pss_cons (ps_set (i := 2) sc_l_roll.nd rfl (Or.inl rfl) (pe_op op_mod (pe_callTy call_int1 (by rfl) T.n_int (by decide +kernel) (pa_cons (pe_ix ix_list (pv 0) pe_int (fun _ _ => rfl)) pa_nil)) (pv 1)))
 (pss_cons (ps_asg (pe_op op_fdivW (pe_ix ix_list (pv 0) pe_int (fun _ _ => rfl)) (pv 1)) (pg_sub (pv 0) pe_int set_list))
 (pss_one (ps_ret (pv 2)))))
  pss_nil)
 (pss_cons (ps_asg (pe_op op_add (pe_ix ix_list (pv 0) pe_int (fun _ _ => rfl)) pe_int) (pg_sub (pv 0) pe_int set_list))
 (pss_cons (ps_set (i := 3) sc_l_roll.nd rfl (Or.inl rfl) (pe_op op_mod (pe_callTy call_int1 (by rfl) T.n_int (by decide +kernel) (pa_cons (pe_op op_add (pe_ix ix_list (pv 0) pe_int (fun _ _ => rfl)) (pe_op op_mul pe_int (pe_ix ix_list (pv 0) pe_int (fun _ _ => rfl)))) pa_nil)) pe_int))
 (pss_cons (ps_set (i := 4) sc_l_roll.nd rfl (Or.inl rfl) (pe_op op_add (pe_op op_mul (pe_op op_mod (pe_callTy call_int1 (by rfl) T.n_int (by decide +kernel) (pa_cons (pe_op op_mul (pv 3) (pv 3)) pa_nil)) pe_int) (pv 3)) (pe_op op_mul pe_int (pe_ix ix_list (pv 0) pe_int (fun _ _ => rfl)))))
 (pss_one (ps_ret (pe_op op_mod (pe_callTy call_int1 (by rfl) T.n_int (by decide +kernel) (pa_cons (pe_op op_fdiv (pe_op op_mod (pe_callTy call_int1 (by rfl) T.n_int (by decide +kernel) (pa_cons (pv 4) pa_nil)) pe_int) pe_int) pa_nil)) (pv 1)))))))), ?_⟩
    refine ⟨_, rfl, d, _, _, _, rfl, rfl, SqL.of hd, atI_nat (j := 0) rfl, _, _, rfl, rfl, _, rfl, ite2 (fun c => ?_) (fun c => ?_)⟩
    · refine ⟨_, rfl, d, _, _, _, rfl, rfl, SqL.of hd, atI_nat (j := 0) rfl, .inl ⟨_, rfl, _, rfl, _, _, rfl, rfl, hu, ?_⟩⟩
      refine ⟨_, rfl, d, _, _, _, rfl, rfl, SqL.of hd, atI_nat (j := 0) rfl, _, rfl, _, _, rfl, rfl, wide_div (b := 64) hu hu2 (by decide) (by decide), _, rfl, d, _, _, 0, rfl, rfl, hd, rfl, ?_⟩
      exact ⟨_, rfl, q _ _ _ _ (Int.emod_nonneg _ (by omega)) (Int.emod_lt_of_pos _ hu)⟩
    · refine ⟨_, rfl, d, _, _, _, rfl, rfl, SqL.of hd, atI_nat (j := 2) rfl, _, _, rfl, rfl, _, rfl, d, _, _, 2, rfl, rfl, hd, rfl, ?_⟩
      have hd2 : (upd H d (.lst ([.int x, .int y, .int z].set 2 (.int (z + 1))))) d = some (.lst [.int x, .int y, .int (z + 1)]) := upd_same
      refine ⟨_, rfl, d, _, _, _, rfl, rfl, SqL.of hd2, atI_nat (j := 1) rfl, _, rfl, d, _, _, _, rfl, rfl, SqL.of hd2, atI_nat (j := 2) rfl, _, _, rfl, rfl, .inl ⟨by decide, by decide⟩, _, _, rfl, rfl, .inl ⟨_, rfl, _, _, rfl, rfl, (by show (0 : Int) < 2305843009213693907; decide), ?_⟩⟩
      generalize e1 : (y + 1000003009 * (z + 1)) % 2305843009213693907 = one
      have o1 : 0 ≤ one := e1 ▸ Int.emod_nonneg _ (by decide)
      have o2 : one < 2305843009213693907 := e1 ▸ Int.emod_lt_of_pos _ (by decide)
      refine ⟨_, rfl, _, rfl, _, _, rfl, rfl, .inl ⟨by omega, by omega⟩, .inl ⟨_, rfl, _, _, rfl, rfl, (by show (0 : Int) < 2305843009213693921; decide), ?_⟩⟩
      have p1 := Int.emod_nonneg (one * one) (show (2305843009213693921 : Int) ≠ 0 by decide)
      have p2 := Int.emod_lt_of_pos (one * one) (show (0 : Int) < 2305843009213693921 by decide)
      refine ⟨_, rfl, _, _, rfl, rfl, .inl ⟨by omega, by omega⟩, _, rfl, d, _, _, _, rfl, rfl, SqL.of hd2, atI_nat (j := 2) rfl, _, _, rfl, rfl, .inl ⟨by decide, by decide⟩, _, _, rfl, rfl, ?_⟩
      refine ⟨_, rfl, .inl ⟨_, rfl, _, _, rfl, rfl, (by show (0 : Int) < 2305843009213693951; decide), _, _, rfl, rfl, ⟨by decide, by decide⟩, .inl ⟨_, rfl, _, rfl, _, _, rfl, rfl, hu, ?_⟩⟩⟩
      exact q _ _ _ _ (Int.emod_nonneg _ (by omega)) (Int.emod_lt_of_pos _ hu)

theorem sq_upd {K : PySem.W.Frag} {H : Hp} {l d : Addr} {o : HO} {xs : List V} (h : SqL K H l xs) (ne : l ≠ d) : SqL K (upd H d o) l xs := by
  rcases h with (h | ⟨u, h⟩) | h
  · exact .inl (.inl (by rw [upd_ne ne]; exact h))
  · exact .inl (.inr ⟨u, by rw [upd_ne ne]; exact h⟩)
  · exact .inr h
def spOne (K : PySem.W.Frag) : Sp := fun vs H Q _ => ∃ (d l : Addr) (xs : List V), vs = [.ref d, .ref l] ∧ DiceAt H d ∧ SqL K H l xs ∧ l ≠ d ∧ 0 < xs.length ∧ xs.length ≤ 1000000 ∧
  ∀ (i : Nat) (v : V) (x y z : Int), xs[i]? = some v → Q v (upd H d (.lst [.int x, .int y, .int z]))
theorem ok_l_one_of {k : Nat} (T : Txt K mg a) : FnOk P w K mg base CX0 (k + 2) a.f_l_one_of a.d_l_one_of ["_law_dice_here", "_law_items"] (spOne K) := by
  have O_l_roll : FnOk P w K mg base CX0 (k + 1) a.f_l_roll a.d_l_roll _ spRoll := ok_l_roll T
  refine T.F_l_one_of.ok sc_l_one_of (fun vs H Q E h => ?_) (fun cdv A outer s H vs Q E hr h => ?_)
  · obtain ⟨_, _, _, rfl, _⟩ := h
    rfl
  · obtain ⟨d, l, xs, rfl, hd, hS, ne, h0, h1, q⟩ := h
    refine ⟨_, (pss_one (ps_ret (pe_ix ix_list (pv 1) (pe_call O_l_roll (hr.mono (by omega)) (by rfl) T.g_l_roll T.F_l_roll.kp T.b_l_roll .nil pass0 (pa_cons (pv 0) (pa_cons (pe_callB call_len_seq (by rfl) T.n_len PySem.boot_len (pa_cons (pv 1) pa_nil)) pa_nil))) (fun _ _ => rfl)))), ?_⟩
    refine ⟨_, rfl, _, rfl, _, rfl, l, xs, rfl, .inl hS, d, _, rfl, hd, by omega, by omega, fun n x y z n0 n1 => ?_⟩
    have hn : n.toNat < xs.length := by omega
    have en : n = (n.toNat : Int) := by omega
    refine ⟨l, xs, n, xs[n.toNat], rfl, rfl, sq_upd hS ne, at_of en (List.getElem?_eq_getElem hn), q n.toNat _ x y z (List.getElem?_eq_getElem hn)⟩
end
end K00

set_option Elab.async false
set_option linter.all false
set_option maxRecDepth 100000
set_option maxHeartbeats 4000000
namespace K00
open PySem PySem.Spec PyProof.Rows L2 Far
section
variable {P : Program} {w : World} {K : PySem.W.Frag} {mg : Str → Option Value} {base : Heap} {a : Ads}

def bits (i : Nat) : Int := (([1, 2, 4, 8, 16, 32, 64].zip (brow i)).filter (·.2)).foldl (fun s p => s + p.1) 0
def pre (bs : List Bool) (n : Nat) : List Int := ((([1, 2, 4, 8, 16, 32, 64] : List Int).zip bs).take n |>.filter (·.2)).map (·.1)
theorem pre_more {bs : List Bool} {n : Nat} {x : Int} {b : Bool} (h1 : ([1, 2, 4, 8, 16, 32, 64] : List Int)[n]? = some x) (h2 : bs[n]? = some b) : pre bs (n + 1) = pre bs n ++ (if b then [x] else []) := by
  have hz : (([1, 2, 4, 8, 16, 32, 64] : List Int).zip bs)[n]? = some (x, b) := by
    rw [List.getElem?_zip_eq_some]
    exact ⟨h1, h2⟩
  unfold pre
  rw [List.take_add_one, hz, List.filter_append, List.map_append]
  cases b <;> rfl
def spBuiltIn (a : Ads) : Sp := fun vs H Q _ => ∃ (e : Addr) (i : Nat), vs = [.ref e] ∧ i < 16 ∧ ExAt H e (a.C i) ∧ ∀ H', Same H H' → Q (.int (pre (brow i) 7).sum) H'
theorem brow_get (i : Nat) (hi : i < 16) : [V.bl (btab i 0), V.bl (btab i 1), V.bl (btab i 2), V.bl (btab i 3)] ++ [V.bl (btab i 4), V.bl (btab i 5), V.bl (btab i 6)] = (brow i).map V.bl := by
  match i, hi with
  | 0, _ => rfl | 1, _ => rfl | 2, _ => rfl | 3, _ => rfl | 4, _ => rfl | 5, _ => rfl | 6, _ => rfl | 7, _ => rfl
  | 8, _ => rfl | 9, _ => rfl | 10, _ => rfl | 11, _ => rfl | 12, _ => rfl | 13, _ => rfl | 14, _ => rfl | 15, _ => rfl
  | i + 16, h => exact absurd h (by omega)
theorem brow_len (i : Nat) : (brow i).length = 7 := by
  unfold brow
  split <;> rfl
theorem ok_l_built_in {k : Nat} (T : Txt K mg a) : FnOk P w K mg base CX0 (k + 1) a.f_l_built_in a.d_l_built_in ["_law_e"] (spBuiltIn a) := by
  refine T.F_l_built_in.ok sc_l_built_in (fun vs H Q E h => ?_) (fun cdv A outer s H vs Q E hr h => ?_)
  · obtain ⟨_, _, rfl, _⟩ := h
    rfl
  · obtain ⟨e, i, rfl, hi, he, q⟩ := h
    refine ⟨_, (pss_cons (ps_set (i := 1) sc_l_built_in.nd rfl (Or.inl rfl) (pe_lst (pa_cons (pe_callB call_isX (by rfl) T.n_isinstance (by decide +kernel) (pa_cons (pv 0) (pa_cons (pe_bltn (v := .ty "ValueError") (by rfl) T.n_ValueError (by decide +kernel) rfl) pa_nil))) (pa_cons (pe_callB call_isX (by rfl) T.n_isinstance (by decide +kernel) (pa_cons (pv 0) (pa_cons (pe_bltn (v := .ty "IndexError") (by rfl) T.n_IndexError (by decide +kernel) rfl) pa_nil))) (pa_cons (pe_callB call_isX (by rfl) T.n_isinstance (by decide +kernel) (pa_cons (pv 0) (pa_cons (pe_bltn (v := .ty "KeyError") (by rfl) T.n_KeyError (by decide +kernel) rfl) pa_nil))) (pa_cons (pe_callB call_isX (by rfl) T.n_isinstance (by decide +kernel) (pa_cons (pv 0) (pa_cons (pe_bltn (v := .ty "LookupError") (by rfl) T.n_LookupError (by decide +kernel) rfl) pa_nil))) pa_nil))))))
 (pss_cons (ps_set (i := 1) sc_l_built_in.nd rfl (Or.inl rfl) (pe_op op_cat (pv 1) (pe_lst (pa_cons (pe_callB call_isX (by rfl) T.n_isinstance (by decide +kernel) (pa_cons (pv 0) (pa_cons (pe_bltn (v := .ty "RuntimeError") (by rfl) T.n_RuntimeError (by decide +kernel) rfl) pa_nil))) (pa_cons (pe_callB call_isX (by rfl) T.n_isinstance (by decide +kernel) (pa_cons (pv 0) (pa_cons (pe_bltn (v := .ty "ArithmeticError") (by rfl) T.n_ArithmeticError (by decide +kernel) rfl) pa_nil))) (pa_cons (pe_callB call_isX (by rfl) T.n_isinstance (by decide +kernel) (pa_cons (pv 0) (pa_cons (pe_bltn (v := .ty "OverflowError") (by rfl) T.n_OverflowError (by decide +kernel) rfl) pa_nil))) pa_nil))))))
 (pss_one (ps_ret (pe_callB (cr_sum rfl) (by rfl) T.n_sum (by decide +kernel) (pa_cons (pe_lc (own := [("_law_bit", 2), ("_law_one", 3)]) (g := gTup K 2 (gCons (gName 2) (gCons (gName 3) gNil))) (by rfl) sc_l_built_in.nd (pi_zip (by rfl) T.n_zip (pa_cons (pe_lst (pa_cons pe_int (pa_cons pe_int (pa_cons pe_int (pa_cons pe_int (pa_cons pe_int (pa_cons pe_int (pa_cons pe_int pa_nil)))))))) (pa_cons (pv 1) pa_nil))) (blkOk_by (own := [("_law_bit", 2), ("_law_one", 3)]) (N := ["_law_e", "_law_found", "_law_bit", "_law_one"]) (sc := defScope s_l_built_in) (by decide +kernel))
  (fun _ _ _ _ _ => by exact (pg_tup rfl (pgs_cons (pg_name (i := 2) sc_l_built_in.nd rfl (Or.inl rfl)) (pgs_cons (pg_name (i := 3) sc_l_built_in.nd rfl (Or.inl rfl)) pgs_nil)))) (fun _ _ _ _ _ => by exact (pts_one (pt_val (pv 3))))
  (fun _ _ _ _ _ => by exact (pv 2))) pa_nil)))))), ?_⟩
    have xc := T.tab.xc i hi
    have is : ∀ j, j < 7 → PySem.W.kitOne K (.ref (a.C i)) (.type (bname j)) = some (btab i j) := fun j hj => T.tab.bt i j hi hj
    refine ⟨_, rfl, e, _, _, _, _, rfl, he, xc, fun _ r => r, is 0 (by decide), _, rfl, e, _, _, _, _, rfl, he, xc, fun _ r => r, is 1 (by decide), _, rfl, e, _, _, _, _, rfl, he, xc, fun _ r => r, is 2 (by decide), _, rfl, e, _, _, _, _, rfl, he, xc, fun _ r => r, is 3 (by decide), (by show 4 ≤ sizeLine; decide), fun l1 n1 => ?_⟩
    have s1 : Same H (upd H l1 (.lst [.bl (btab i 0), .bl (btab i 1), .bl (btab i 2), .bl (btab i 3)])) := same_new n1
    have he1 := he.mono s1
    refine ⟨_, rfl, _, rfl, e, _, _, _, _, rfl, he1, xc, fun _ r => r, is 4 (by decide), _, rfl, e, _, _, _, _, rfl, he1, xc, fun _ r => r, is 5 (by decide), _, rfl, e, _, _, _, _, rfl, he1, xc, fun _ r => r, is 6 (by decide), (by show 3 ≤ sizeLine; decide), fun l2 n2 => ?_⟩
    have e1 := upd_same (H := H) (a := l1) (o := .lst [.bl (btab i 0), .bl (btab i 1), .bl (btab i 2), .bl (btab i 3)])
    refine ⟨l1, l2, _, _, rfl, rfl, (same_new n2) _ _ e1, upd_same, (by show 7 ≤ sizeLine; decide), fun l3 n3 => ?_⟩
    have s2 := s1.trans ((same_new n2).trans (same_new (o := .lst ((brow i).map V.bl)) n3))
    rw [brow_get i hi]
    generalize hH : upd (upd (upd H l1 (.lst [.bl (btab i 0), .bl (btab i 1), .bl (btab i 2), .bl (btab i 3)])) l2 (.lst [.bl (btab i 4), .bl (btab i 5), .bl (btab i 6)])) l3 (.lst ((brow i).map V.bl)) = H3
    have h3 : H3 l3 = some (.lst ((brow i).map V.bl)) := by
      rw [← hH]
      exact upd_same
    have s3 : Same H H3 := by
      rw [← hH]
      exact s2
    refine ⟨(by show 7 ≤ sizeLine; decide), fun z nz => ⟨_, rfl, z, l3, ([1, 2, 4, 8, 16, 32, 64] : List Int).map V.int, _, rfl, SqL.of upd_same, SqL.of ((same_new nz) _ _ h3), fun D nD => ?_⟩⟩
    have hz := upd_same (H := H3) (a := z) (o := .lst (([1, 2, 4, 8, 16, 32, 64] : List Int).map V.int))
    generalize hH4 : upd H3 z (.lst (([1, 2, 4, 8, 16, 32, 64] : List Int).map V.int)) = H4 at hz
    have s4 : Same H3 H4 := by
      rw [← hH4]
      exact same_new nz
    have nD4 : H4 D = none := by
      rw [← hH4]
      exact nD
    refine lc_it (walk_zip (xs := ([1, 2, 4, 8, 16, 32, 64] : List Int).map V.int) (ys := (brow i).map V.bl) (n := 7) (by rw [List.length_map, List.length_map, brow_len]; rfl)) (fun n H' => Same H4 H' ∧ H' D = some (.lst ((pre (brow i) n).map V.int))) ⟨?_, ?_⟩ ?_ ?_ ?_
    · show Same H4 (upd (upd H3 z _) D _)
      have := same_new (o := .lst []) nD4
      rw [← hH4] at this ⊢
      exact this
    · exact upd_same
    · rintro n H' _ ⟨sm, _⟩
      exact ⟨SqL.of (sm _ _ hz), SqL.of (sm _ _ (s4 _ _ h3))⟩
    · rintro n x H5 H6 hn ⟨sm, eD⟩ ⟨t, x1, x2, rfl, nt, rfl, g1, g2⟩
      have eD2 := (same_new (o := .tup [x1, x2]) nt) _ _ eD
      have sm2 := sm.trans (same_new (o := .tup [x1, x2]) nt)
      dsimp only at g1 g2
      rw [List.getElem?_map] at g1 g2
      cases k1 : ([1, 2, 4, 8, 16, 32, 64] : List Int)[n]? with
      | none =>
        rw [k1] at g1
        cases g1
      | some x =>
        cases k2 : (brow i)[n]? with
        | none =>
          rw [k2] at g2
          cases g2
        | some b =>
          rw [k1] at g1
          rw [k2] at g2
          cases g1
          cases g2
          have pm := pre_more k1 k2
          refine ⟨t, _, rfl, .inl (.inl upd_same), rfl, _, _, rfl, _, _, rfl, rfl, rfl, _, rfl, b, rfl, ?_⟩
          cases b with
          | true =>
            refine iteT ?_
            refine ⟨_, rfl, _, eD2, ?_, ?_, ?_⟩
            · rw [List.length_map]
              refine small1000 ?_
              unfold pre
              rw [List.length_map]
              exact Nat.le_trans (List.length_filter_le _ _) (Nat.le_trans (List.length_take_le _ _) (by omega))
            · intro b o eo
              rw [upd_ne (ne_of_none eo nD4)]
              exact sm2 _ _ eo
            · rw [upd_same, pm, List.map_append]
              rfl
          | false =>
            refine iteF ⟨sm2, ?_⟩
            rw [eD2, pm, List.map_append, if_neg Bool.false_ne_true, List.map_nil, List.append_nil]
    · rintro H5 ⟨sm, eD⟩
      exact ⟨D, _, rfl, SqL.of eD, q _ (s3.trans (s4.trans sm))⟩
end
end K00

set_option Elab.async false
set_option linter.all false
set_option maxRecDepth 100000
set_option maxHeartbeats 4000000
namespace K00
open PySem PySem.Spec PyProof.Rows L2 Far
section
variable {P : Program} {w : World} {K : PySem.W.Frag} {mg : Str → Option Value} {base : Heap} {a : Ads}

def ownB (lo n i : Nat) : List Bool := (List.range n).map fun j => otab i (lo + j)
def spOwn (a : Ads) (lo n : Nat) : Sp := fun vs H Q _ => ∃ (e : Addr) (i : Nat), vs = [.ref e] ∧ i < 16 ∧ ExAt H e (a.C i) ∧ ∀ p H', H p = none → Same H H' → H' p = some (.lst ((ownB lo n i).map V.bl)) → Q (.ref p) H'

theorem ok_l_of_messages {k : Nat} (T : Txt K mg a) : FnOk P w K mg base CX0 (k + 1) a.f_l_of_messages a.d_l_of_messages ["_law_e"] (spOwn a 1 8) := by
  refine T.F_l_of_messages.ok sc_l_of_messages (fun vs H Q E h => ?_) (fun cdv A outer s H vs Q E hr h => ?_)
  · obtain ⟨_, _, rfl, _⟩ := h
    rfl
  · obtain ⟨e, i, rfl, hi, he, q⟩ := h
    refine ⟨_, (pss_cons (ps_set (i := 1) sc_l_of_messages.nd rfl (Or.inl rfl) (pe_lst (pa_cons (pe_callB call_isX (by rfl) T.n_isinstance (by decide +kernel) (pa_cons (pv 0) (pa_cons (pe_glob (v := .ref (a.C 1)) (by rfl) T.g_InvalidName rfl) pa_nil))) (pa_cons (pe_callB call_isX (by rfl) T.n_isinstance (by decide +kernel) (pa_cons (pv 0) (pa_cons (pe_glob (v := .ref (a.C 2)) (by rfl) T.g_InvalidTerm rfl) pa_nil))) (pa_cons (pe_callB call_isX (by rfl) T.n_isinstance (by decide +kernel) (pa_cons (pv 0) (pa_cons (pe_glob (v := .ref (a.C 3)) (by rfl) T.g_InvalidPackage rfl) pa_nil))) pa_nil)))))
 (pss_cons (ps_set (i := 1) sc_l_of_messages.nd rfl (Or.inl rfl) (pe_op op_cat (pv 1) (pe_lst (pa_cons (pe_callB call_isX (by rfl) T.n_isinstance (by decide +kernel) (pa_cons (pv 0) (pa_cons (pe_glob (v := .ref (a.C 4)) (by rfl) T.g_InvalidManner rfl) pa_nil))) (pa_cons (pe_callB call_isX (by rfl) T.n_isinstance (by decide +kernel) (pa_cons (pv 0) (pa_cons (pe_glob (v := .ref (a.C 5)) (by rfl) T.g_InvalidOperation rfl) pa_nil))) (pa_cons (pe_callB call_isX (by rfl) T.n_isinstance (by decide +kernel) (pa_cons (pv 0) (pa_cons (pe_glob (v := .ref (a.C 6)) (by rfl) T.g_InvalidEdit rfl) pa_nil))) pa_nil))))))
 (pss_one (ps_ret (pe_op op_cat (pv 1) (pe_lst (pa_cons (pe_callB call_isX (by rfl) T.n_isinstance (by decide +kernel) (pa_cons (pv 0) (pa_cons (pe_glob (v := .ref (a.C 7)) (by rfl) T.g_ParseError rfl) pa_nil))) (pa_cons (pe_callB call_isX (by rfl) T.n_isinstance (by decide +kernel) (pa_cons (pv 0) (pa_cons (pe_glob (v := .ref (a.C 8)) (by rfl) T.g_InvalidCommand rfl) pa_nil))) pa_nil)))))))), ?_⟩
    have xc := T.tab.xc i hi
    have is : ∀ j, j < 16 → PySem.W.kitOne K (.ref (a.C i)) (.ref (a.C j)) = some (otab i j) := fun j hj => T.tab.ot i j hi hj
    refine ⟨_, rfl, e, _, _, _, _, rfl, he, xc, fun _ r => r, is 1 (by decide), _, rfl, e, _, _, _, _, rfl, he, xc, fun _ r => r, is 2 (by decide), _, rfl, e, _, _, _, _, rfl, he, xc, fun _ r => r, is 3 (by decide), (by show 3 ≤ sizeLine; decide), fun p1 n1 => ?_⟩
    have s1 := same_new (o := .lst [.bl (otab i 1), .bl (otab i 2), .bl (otab i 3)]) n1
    have he1 := he.mono s1
    have e1 := upd_same (H := H) (a := p1) (o := .lst [.bl (otab i 1), .bl (otab i 2), .bl (otab i 3)])
    generalize upd H p1 (.lst [.bl (otab i 1), .bl (otab i 2), .bl (otab i 3)]) = H1 at *
    refine ⟨_, rfl, _, rfl, e, _, _, _, _, rfl, he1, xc, fun _ r => r, is 4 (by decide), _, rfl, e, _, _, _, _, rfl, he1, xc, fun _ r => r, is 5 (by decide), _, rfl, e, _, _, _, _, rfl, he1, xc, fun _ r => r, is 6 (by decide), (by show 3 ≤ sizeLine; decide), fun p2 n2 => ?_⟩
    refine ⟨p1, p2, _, _, rfl, rfl, (same_new n2) _ _ e1, upd_same, (by show 6 ≤ sizeLine; decide), fun p3 n3 => ?_⟩
    have s3 : Same H (upd (upd H1 p2 (.lst [.bl (otab i 4), .bl (otab i 5), .bl (otab i 6)])) p3 (.lst ([.bl (otab i 1), .bl (otab i 2), .bl (otab i 3)] ++ [.bl (otab i 4), .bl (otab i 5), .bl (otab i 6)]))) := s1.trans ((same_new n2).trans (same_new n3))
    have he3 := he.mono s3
    have e3 := upd_same (H := upd H1 p2 (.lst [.bl (otab i 4), .bl (otab i 5), .bl (otab i 6)])) (a := p3) (o := .lst ([.bl (otab i 1), .bl (otab i 2), .bl (otab i 3)] ++ [.bl (otab i 4), .bl (otab i 5), .bl (otab i 6)]))
    generalize upd (upd H1 p2 (.lst [.bl (otab i 4), .bl (otab i 5), .bl (otab i 6)])) p3 (.lst ([.bl (otab i 1), .bl (otab i 2), .bl (otab i 3)] ++ [.bl (otab i 4), .bl (otab i 5), .bl (otab i 6)])) = H3 at *
    refine ⟨_, rfl, _, rfl, e, _, _, _, _, rfl, he3, xc, fun _ r => r, is 7 (by decide), _, rfl, e, _, _, _, _, rfl, he3, xc, fun _ r => r, is 8 (by decide), (by show 2 ≤ sizeLine; decide), fun p4 n4 => ?_⟩
    refine ⟨p3, p4, _, _, rfl, rfl, (same_new n4) _ _ e3, upd_same, (by show 8 ≤ sizeLine; decide), fun p5 n5 => ?_⟩
    have s5 := s3.trans ((same_new (o := .lst [.bl (otab i 7), .bl (otab i 8)]) n4).trans (same_new (o := .lst ([.bl (otab i 1), .bl (otab i 2), .bl (otab i 3)] ++ [.bl (otab i 4), .bl (otab i 5), .bl (otab i 6)] ++ [.bl (otab i 7), .bl (otab i 8)])) n5))
    exact q p5 _ (s3.free ((same_new n4).free n5)) s5 upd_same

theorem ok_l_of_values {k : Nat} (T : Txt K mg a) : FnOk P w K mg base CX0 (k + 1) a.f_l_of_values a.d_l_of_values ["_law_e"] (spOwn a 9 7) := by
  refine T.F_l_of_values.ok sc_l_of_values (fun vs H Q E h => ?_) (fun cdv A outer s H vs Q E hr h => ?_)
  · obtain ⟨_, _, rfl, _⟩ := h
    rfl
  · obtain ⟨e, i, rfl, hi, he, q⟩ := h
    refine ⟨_, (pss_cons (ps_set (i := 1) sc_l_of_values.nd rfl (Or.inl rfl) (pe_lst (pa_cons (pe_callB call_isX (by rfl) T.n_isinstance (by decide +kernel) (pa_cons (pv 0) (pa_cons (pe_glob (v := .ref (a.C 9)) (by rfl) T.g_InvalidNumber rfl) pa_nil))) (pa_cons (pe_callB call_isX (by rfl) T.n_isinstance (by decide +kernel) (pa_cons (pv 0) (pa_cons (pe_glob (v := .ref (a.C 10)) (by rfl) T.g_UnknownName rfl) pa_nil))) (pa_cons (pe_callB call_isX (by rfl) T.n_isinstance (by decide +kernel) (pa_cons (pv 0) (pa_cons (pe_glob (v := .ref (a.C 11)) (by rfl) T.g_InvalidWorld rfl) pa_nil))) pa_nil)))))
 (pss_cons (ps_set (i := 1) sc_l_of_values.nd rfl (Or.inl rfl) (pe_op op_cat (pv 1) (pe_lst (pa_cons (pe_callB call_isX (by rfl) T.n_isinstance (by decide +kernel) (pa_cons (pv 0) (pa_cons (pe_glob (v := .ref (a.C 12)) (by rfl) T.g_Refused rfl) pa_nil))) (pa_cons (pe_callB call_isX (by rfl) T.n_isinstance (by decide +kernel) (pa_cons (pv 0) (pa_cons (pe_glob (v := .ref (a.C 13)) (by rfl) T.g_Harmful rfl) pa_nil))) (pa_cons (pe_callB call_isX (by rfl) T.n_isinstance (by decide +kernel) (pa_cons (pv 0) (pa_cons (pe_glob (v := .ref (a.C 14)) (by rfl) T.g_TooMany rfl) pa_nil))) pa_nil))))))
 (pss_one (ps_ret (pe_op op_cat (pv 1) (pe_lst (pa_cons (pe_callB call_isX (by rfl) T.n_isinstance (by decide +kernel) (pa_cons (pv 0) (pa_cons (pe_glob (v := .ref (a.C 15)) (by rfl) T.g_NothingToUndo rfl) pa_nil))) pa_nil))))))), ?_⟩
    have xc := T.tab.xc i hi
    have is : ∀ j, j < 16 → PySem.W.kitOne K (.ref (a.C i)) (.ref (a.C j)) = some (otab i j) := fun j hj => T.tab.ot i j hi hj
    refine ⟨_, rfl, e, _, _, _, _, rfl, he, xc, fun _ r => r, is 9 (by decide), _, rfl, e, _, _, _, _, rfl, he, xc, fun _ r => r, is 10 (by decide), _, rfl, e, _, _, _, _, rfl, he, xc, fun _ r => r, is 11 (by decide), (by show 3 ≤ sizeLine; decide), fun p1 n1 => ?_⟩
    have s1 := same_new (o := .lst [.bl (otab i 9), .bl (otab i 10), .bl (otab i 11)]) n1
    have he1 := he.mono s1
    have e1 := upd_same (H := H) (a := p1) (o := .lst [.bl (otab i 9), .bl (otab i 10), .bl (otab i 11)])
    generalize upd H p1 (.lst [.bl (otab i 9), .bl (otab i 10), .bl (otab i 11)]) = H1 at *
    refine ⟨_, rfl, _, rfl, e, _, _, _, _, rfl, he1, xc, fun _ r => r, is 12 (by decide), _, rfl, e, _, _, _, _, rfl, he1, xc, fun _ r => r, is 13 (by decide), _, rfl, e, _, _, _, _, rfl, he1, xc, fun _ r => r, is 14 (by decide), (by show 3 ≤ sizeLine; decide), fun p2 n2 => ?_⟩
    refine ⟨p1, p2, _, _, rfl, rfl, (same_new n2) _ _ e1, upd_same, (by show 6 ≤ sizeLine; decide), fun p3 n3 => ?_⟩
    have s3 : Same H (upd (upd H1 p2 (.lst [.bl (otab i 12), .bl (otab i 13), .bl (otab i 14)])) p3 (.lst ([.bl (otab i 9), .bl (otab i 10), .bl (otab i 11)] ++ [.bl (otab i 12), .bl (otab i 13), .bl (otab i 14)]))) := s1.trans ((same_new n2).trans (same_new n3))
    have he3 := he.mono s3
    have e3 := upd_same (H := upd H1 p2 (.lst [.bl (otab i 12), .bl (otab i 13), .bl (otab i 14)])) (a := p3) (o := .lst ([.bl (otab i 9), .bl (otab i 10), .bl (otab i 11)] ++ [.bl (otab i 12), .bl (otab i 13), .bl (otab i 14)]))
    generalize upd (upd H1 p2 (.lst [.bl (otab i 12), .bl (otab i 13), .bl (otab i 14)])) p3 (.lst ([.bl (otab i 9), .bl (otab i 10), .bl (otab i 11)] ++ [.bl (otab i 12), .bl (otab i 13), .bl (otab i 14)])) = H3 at *
    refine ⟨_, rfl, _, rfl, e, _, _, _, _, rfl, he3, xc, fun _ r => r, is 15 (by decide), (by show 1 ≤ sizeLine; decide), fun p4 n4 => ?_⟩
    refine ⟨p3, p4, _, _, rfl, rfl, (same_new n4) _ _ e3, upd_same, (by show 7 ≤ sizeLine; decide), fun p5 n5 => ?_⟩
    have s5 := s3.trans ((same_new (o := .lst [.bl (otab i 15)]) n4).trans (same_new (o := .lst ([.bl (otab i 9), .bl (otab i 10), .bl (otab i 11)] ++ [.bl (otab i 12), .bl (otab i 13), .bl (otab i 14)] ++ [.bl (otab i 15)])) n5))
    exact q p5 _ (s3.free ((same_new n4).free n5)) s5 upd_same

def onlyB (n : Nat) (m : Int) : List Bool := (List.range n).map fun (j : Nat) => decide ((j : Int) = m)
def spOnly : Sp := fun vs H Q _ => ∃ (n : Nat) (m : Int), vs = [.int (n : Int), .int m] ∧ n ≤ 100 ∧ ∀ p H', H p = none → Same H H' → H' p = some (.lst ((onlyB n m).map V.bl)) → Q (.ref p) H'
theorem ok_l_only {k : Nat} (T : Txt K mg a) : FnOk P w K mg base CX0 (k + 1) a.f_l_only a.d_l_only ["_law_many", "_law_at"] spOnly := by
  refine T.F_l_only.ok sc_l_only (fun vs H Q E h => ?_) (fun cdv A outer s H vs Q E hr h => ?_)
  · obtain ⟨_, _, rfl, _⟩ := h
    rfl
  · obtain ⟨n, m, rfl, hn, q⟩ := h
    refine ⟨_, (pss_one (ps_ret (pe_lc (own := [("_law_one", 2)]) (g := gName 2) (by rfl) sc_l_only.nd (pi_range1 (by rfl) T.n_range (pa_cons (pv 0) pa_nil)) (blkOk_by (own := [("_law_one", 2)]) (N := ["_law_many", "_law_at", "_law_one"]) (sc := defScope s_l_only) (by decide +kernel))
  (fun _ _ _ _ _ => by exact (pg_name (i := 2) sc_l_only.nd rfl (Or.inl rfl))) (fun _ _ _ _ _ => by exact pts_nil)
  (fun _ _ _ _ _ => by exact (pe_cmpR op_eq (pv 2) (pv 1) (nomark _)))))), ?_⟩
    refine ⟨_, rfl, _, rfl, by omega, by omega, fun D nD => ?_⟩
    refine lc_range (lo := 0) (n := n) (fun i H' => Same H H' ∧ H' D = some (.lst ((onlyB i m).map V.bl))) ⟨same_new nD, upd_same⟩ ?_ ?_
    · rintro i H' hi ⟨sm, eD⟩
      refine ⟨rfl, ?_⟩
      refine ⟨_, rfl, _, rfl, rfl, _, eD, ?_, ?_, ?_⟩
      · rw [List.length_map]
        unfold onlyB
        rw [List.length_map, List.length_range]
        exact small1000 (by omega)
      · intro b o eo
        rw [upd_ne (ne_of_none eo nD)]
        exact sm _ _ eo
      · rw [upd_same]
        unfold onlyB
        rw [List.range_succ, List.map_append, List.map_append]
        have z : decide (V.int ((0 : Int) + (i : Int)) = V.int m) = decide ((i : Int) = m) := by
          rw [Int.zero_add]
          exact decide_eq_decide.mpr ⟨fun z => V.int.inj z, fun z => by rw [z]⟩
        rw [z]
        rfl
    · rintro H' ⟨sm, eD⟩
      exact q D H' nD sm eD
end
end K00

set_option Elab.async false
set_option linter.all false
set_option maxRecDepth 100000
set_option maxHeartbeats 4000000
namespace K00
open PySem PySem.Spec PyProof.Rows L2 Far
section
variable {P : Program} {w : World} {K : PySem.W.Frag} {mg : Str → Option Value} {base : Heap} {a : Ads}

theorem dp_bools {K : PySem.W.Frag} {H : Hp} : ∀ bs : List Bool, DpAll K H (bs.map V.bl) (bs.map PyData.bool)
  | [] => .nil
  | b :: r => .cons (.bl b) (dp_bools r)
theorem lay_bools : ∀ bs : List Bool, PyData.canLayAll0 (bs.map PyData.bool) = true
  | [] => by simp [PyData.canLayAll0]
  | b :: r => by simp [PyData.canLayAll0, PyData.canLay0, lay_bools r]
theorem depth_bools : ∀ bs : List Bool, PyData.depthAll (bs.map PyData.bool) ≤ 1
  | [] => by simp [PyData.depthAll]
  | b :: r => by
    have := depth_bools r
    simp only [List.map_cons, PyData.depthAll, PyData.depth]
    omega
theorem shaped_bools (bs : List Bool) : SeqAt.shaped (.list (bs.map PyData.bool)) = true := by
  have h := depth_bools bs
  show (PyData.canLay0 (.list (bs.map PyData.bool)) && decide (PyData.depth (.list (bs.map PyData.bool)) ≤ 64)) = true
  rw [Bool.and_eq_true]
  refine ⟨by simp only [PyData.canLay0]; exact lay_bools bs, decide_eq_true ?_⟩
  simp only [PyData.depth]
  omega
theorem flat_bools (bs : List Bool) : (bs.map V.bl).all flatV = true := by
  rw [List.all_map]
  exact List.all_eq_true.mpr fun _ _ => rfl
def hasT (bs : List Bool) : Bool := bs.any id
theorem inT (bs : List Bool) : inV (.bl true) (bs.map V.bl) = hasT bs := by
  unfold inV hasT
  rw [List.any_map]
  congr 1
  funext b
  cases b <;> rfl
theorem bits_msg : ∀ i, i < 9 → (pre (brow i) 7).sum = 1
  | 0, _ => rfl | 1, _ => rfl | 2, _ => rfl | 3, _ => rfl | 4, _ => rfl | 5, _ => rfl | 6, _ => rfl | 7, _ => rfl | 8, _ => rfl
  | i + 9, h => absurd h (by omega)
theorem own_msg : ∀ n, n < 8 → ownB 1 8 (n + 1) = onlyB 8 (n : Int)
  | 0, _ => rfl | 1, _ => rfl | 2, _ => rfl | 3, _ => rfl | 4, _ => rfl | 5, _ => rfl | 6, _ => rfl | 7, _ => rfl
  | i + 8, h => absurd h (by omega)
theorem val_msg : ∀ i, i < 9 → hasT (ownB 9 7 i) = false
  | 0, _ => rfl | 1, _ => rfl | 2, _ => rfl | 3, _ => rfl | 4, _ => rfl | 5, _ => rfl | 6, _ => rfl | 7, _ => rfl | 8, _ => rfl
  | i + 9, h => absurd h (by omega)
theorem far_msg : ∀ i, i < 9 → otab i 0 = true
  | 0, _ => rfl | 1, _ => rfl | 2, _ => rfl | 3, _ => rfl | 4, _ => rfl | 5, _ => rfl | 6, _ => rfl | 7, _ => rfl | 8, _ => rfl
  | i + 9, h => absurd h (by omega)

def spMsg : Sp := fun vs H Q _ => ∃ (z : Str), vs = [.str z] ∧ ∀ H', Same H H' → Q (.bl true) H'
theorem ok_l_messages_right {k : Nat} (T : Txt K mg a) : FnOk P w K mg base CX0 (k + 2) a.f_l_messages_right a.d_l_messages_right ["_law_words"] spMsg := by
  have O_l_built_in : FnOk P w K mg base CX0 (k + 1) a.f_l_built_in a.d_l_built_in _ (spBuiltIn a) := ok_l_built_in T
  have O_l_of_messages : FnOk P w K mg base CX0 (k + 1) a.f_l_of_messages a.d_l_of_messages _ (spOwn a 1 8) := ok_l_of_messages T
  have O_l_of_values : FnOk P w K mg base CX0 (k + 1) a.f_l_of_values a.d_l_of_values _ (spOwn a 9 7) := ok_l_of_values T
  have O_l_only : FnOk P w K mg base CX0 (k + 1) a.f_l_only a.d_l_only _ spOnly := ok_l_only T
  refine T.F_l_messages_right.ok sc_l_messages_right (fun vs H Q E h => ?_) (fun cdv A outer s H vs Q E hr h => ?_)
  · obtain ⟨_, rfl, _⟩ := h
    rfl
  · obtain ⟨z, rfl, q⟩ := h
    refine ⟨_, (pss_cons (ps_set (i := 1) sc_l_messages_right.nd rfl (Or.inl rfl) (pe_lst (pa_cons (pe_exc1 PySem.F.excBase_ValueError (T.ex 1 (by decide)) T.g_InvalidName (T.kp 1 (by decide)) (by rfl) (pv 0)) (pa_cons (pe_exc1 PySem.F.excBase_ValueError (T.ex 2 (by decide)) T.g_InvalidTerm (T.kp 2 (by decide)) (by rfl) (pv 0)) (pa_cons (pe_exc1 PySem.F.excBase_ValueError (T.ex 3 (by decide)) T.g_InvalidPackage (T.kp 3 (by decide)) (by rfl) (pv 0)) (pa_cons (pe_exc1 PySem.F.excBase_ValueError (T.ex 4 (by decide)) T.g_InvalidManner (T.kp 4 (by decide)) (by rfl) (pv 0)) pa_nil))))))
 (pss_cons (ps_set (i := 1) sc_l_messages_right.nd rfl (Or.inl rfl) (pe_op op_cat (pv 1) (pe_lst (pa_cons (pe_exc1 PySem.F.excBase_ValueError (T.ex 5 (by decide)) T.g_InvalidOperation (T.kp 5 (by decide)) (by rfl) (pv 0)) (pa_cons (pe_exc1 PySem.F.excBase_ValueError (T.ex 6 (by decide)) T.g_InvalidEdit (T.kp 6 (by decide)) (by rfl) (pv 0)) (pa_cons (pe_exc1 PySem.F.excBase_ValueError (T.ex 7 (by decide)) T.g_ParseError (T.kp 7 (by decide)) (by rfl) (pv 0)) (pa_cons (pe_exc1 PySem.F.excBase_ValueError (T.ex 8 (by decide)) T.g_InvalidCommand (T.kp 8 (by decide)) (by rfl) (pv 0)) pa_nil)))))))
 (pss_cons (ps_for PassesOwn.never rfl (pi_enum (by rfl) T.n_enumerate (pa_cons (pv 1) pa_nil)) (pg_tup rfl (pgs_cons (pg_name (i := 2) sc_l_messages_right.nd rfl (Or.inl rfl)) (pgs_cons (pg_name (i := 3) sc_l_messages_right.nd rfl (Or.inl rfl)) pgs_nil)))
  (pss_cons (ps_if (PW.pt (pw_or (pt_not (pt_val (pe_callB call_isX (by rfl) T.n_isinstance (by decide +kernel) (pa_cons (pv 3) (pa_cons (pe_glob (v := .ref (a.C 0)) (by rfl) T.g_FarError rfl) pa_nil))))) (pw_or1 (pt_cmpR op_ne (pe_call O_l_built_in (hr.mono (by omega)) (by rfl) T.g_l_built_in T.F_l_built_in.kp T.b_l_built_in .nil pass0 (pa_cons (pv 3) pa_nil)) pe_int (nomark _)))))
  (pss_one (ps_ret pe_bl))
  pss_nil)
 (pss_one (ps_if (PW.pt (pw_or (pt_cmpR (op_neD hr.units) (pe_call O_l_of_messages (hr.mono (by omega)) (by rfl) T.g_l_of_messages T.F_l_of_messages.kp T.b_l_of_messages .nil pass0 (pa_cons (pv 3) pa_nil)) (pe_call O_l_only (hr.mono (by omega)) (by rfl) T.g_l_only T.F_l_only.kp T.b_l_only .nil pass0 (pa_cons pe_int (pa_cons (pv 2) pa_nil))) (nomark _)) (pw_or1 (pt_cmpR op_in_seq pe_bl (pe_call O_l_of_values (hr.mono (by omega)) (by rfl) T.g_l_of_values T.F_l_of_values.kp T.b_l_of_values .nil pass0 (pa_cons (pv 3) pa_nil)) (by rfl)))))
  (pss_one (ps_ret pe_bl))
  pss_nil))))
 (pss_cons (ps_set (i := 4) sc_l_messages_right.nd rfl (Or.inl rfl) (pe_exc1 PySem.F.excBase_ValueError (T.ex 0 (by decide)) T.g_FarError (T.kp 0 (by decide)) (by rfl) (pv 0)))
 (pss_one (ps_ret (pe_and (pe_cmpR op_eq (pe_call O_l_built_in (hr.mono (by omega)) (by rfl) T.g_l_built_in T.F_l_built_in.kp T.b_l_built_in .nil pass0 (pa_cons (pv 4) pa_nil)) pe_int (nomark _)) (pe_and (pe_cmpR op_notIn_seq pe_bl (pe_call O_l_of_messages (hr.mono (by omega)) (by rfl) T.g_l_of_messages T.F_l_of_messages.kp T.b_l_of_messages .nil pass0 (pa_cons (pv 4) pa_nil)) (by rfl)) (pe_one (pe_cmpR op_notIn_seq pe_bl (pe_call O_l_of_values (hr.mono (by omega)) (by rfl) T.g_l_of_values T.F_l_of_values.kp T.b_l_of_values .nil pass0 (pa_cons (pv 4) pa_nil)) (by rfl))))))))))), ?_⟩
    have S : Same H H := Same.refl H
    refine ⟨_, rfl, fun e1 n1 => ?_⟩
    have s1 := same_new (o := ExO (.ref (a.C 1)) e1) n1
    have x1 : ExAt (upd H e1 (ExO (.ref (a.C 1)) e1)) e1 (a.C 1) := .inl upd_same
    have S := S.trans s1
    generalize upd H e1 (ExO (.ref (a.C 1)) e1) = H1 at *
    refine ⟨_, rfl, fun e2 n2 => ?_⟩
    have s2 := same_new (o := ExO (.ref (a.C 2)) e2) n2
    have x2 : ExAt (upd H1 e2 (ExO (.ref (a.C 2)) e2)) e2 (a.C 2) := .inl upd_same
    have S := S.trans s2
    generalize upd H1 e2 (ExO (.ref (a.C 2)) e2) = H2 at *
    have x1 := x1.mono s2
    refine ⟨_, rfl, fun e3 n3 => ?_⟩
    have s3 := same_new (o := ExO (.ref (a.C 3)) e3) n3
    have x3 : ExAt (upd H2 e3 (ExO (.ref (a.C 3)) e3)) e3 (a.C 3) := .inl upd_same
    have S := S.trans s3
    generalize upd H2 e3 (ExO (.ref (a.C 3)) e3) = H3 at *
    have x1 := x1.mono s3
    have x2 := x2.mono s3
    refine ⟨_, rfl, fun e4 n4 => ?_⟩
    have s4 := same_new (o := ExO (.ref (a.C 4)) e4) n4
    have x4 : ExAt (upd H3 e4 (ExO (.ref (a.C 4)) e4)) e4 (a.C 4) := .inl upd_same
    have S := S.trans s4
    generalize upd H3 e4 (ExO (.ref (a.C 4)) e4) = H4 at *
    have x1 := x1.mono s4
    have x2 := x2.mono s4
    have x3 := x3.mono s4
    refine ⟨(by show 4 ≤ sizeLine; decide), fun l1 nl1 => ?_⟩
    have sl := same_new (o := .lst [.ref e1, .ref e2, .ref e3, .ref e4]) nl1
    have el := upd_same (H := H4) (a := l1) (o := .lst [.ref e1, .ref e2, .ref e3, .ref e4])
    have S := S.trans sl
    generalize upd H4 l1 (.lst [.ref e1, .ref e2, .ref e3, .ref e4]) = Hl at *
    have x1 := x1.mono sl
    have x2 := x2.mono sl
    have x3 := x3.mono sl
    have x4 := x4.mono sl
    refine ⟨_, rfl, ?_⟩
    refine ⟨_, rfl, fun e5 n5 => ?_⟩
    have s5 := same_new (o := ExO (.ref (a.C 5)) e5) n5
    have x5 : ExAt (upd Hl e5 (ExO (.ref (a.C 5)) e5)) e5 (a.C 5) := .inl upd_same
    have S := S.trans s5
    generalize upd Hl e5 (ExO (.ref (a.C 5)) e5) = H5 at *
    have x1 := x1.mono s5
    have x2 := x2.mono s5
    have x3 := x3.mono s5
    have x4 := x4.mono s5
    refine ⟨_, rfl, fun e6 n6 => ?_⟩
    have s6 := same_new (o := ExO (.ref (a.C 6)) e6) n6
    have x6 : ExAt (upd H5 e6 (ExO (.ref (a.C 6)) e6)) e6 (a.C 6) := .inl upd_same
    have S := S.trans s6
    generalize upd H5 e6 (ExO (.ref (a.C 6)) e6) = H6 at *
    have x1 := x1.mono s6
    have x2 := x2.mono s6
    have x3 := x3.mono s6
    have x4 := x4.mono s6
    have x5 := x5.mono s6
    refine ⟨_, rfl, fun e7 n7 => ?_⟩
    have s7 := same_new (o := ExO (.ref (a.C 7)) e7) n7
    have x7 : ExAt (upd H6 e7 (ExO (.ref (a.C 7)) e7)) e7 (a.C 7) := .inl upd_same
    have S := S.trans s7
    generalize upd H6 e7 (ExO (.ref (a.C 7)) e7) = H7 at *
    have x1 := x1.mono s7
    have x2 := x2.mono s7
    have x3 := x3.mono s7
    have x4 := x4.mono s7
    have x5 := x5.mono s7
    have x6 := x6.mono s7
    refine ⟨_, rfl, fun e8 n8 => ?_⟩
    have s8 := same_new (o := ExO (.ref (a.C 8)) e8) n8
    have x8 : ExAt (upd H7 e8 (ExO (.ref (a.C 8)) e8)) e8 (a.C 8) := .inl upd_same
    have S := S.trans s8
    generalize upd H7 e8 (ExO (.ref (a.C 8)) e8) = H8 at *
    have x1 := x1.mono s8
    have x2 := x2.mono s8
    have x3 := x3.mono s8
    have x4 := x4.mono s8
    have x5 := x5.mono s8
    have x6 := x6.mono s8
    have x7 := x7.mono s8
    refine ⟨(by show 4 ≤ sizeLine; decide), fun l2 nl2 => ?_⟩
    have el8 : H8 l1 = some (.lst [.ref e1, .ref e2, .ref e3, .ref e4]) := s8 _ _ (s7 _ _ (s6 _ _ (s5 _ _ el)))
    refine ⟨l1, l2, _, _, rfl, rfl, (same_new nl2) _ _ el8, upd_same, (by show 8 ≤ sizeLine; decide), fun l3 nl3 => ?_⟩
    have s9 : Same H8 (upd (upd H8 l2 (.lst [.ref e5, .ref e6, .ref e7, .ref e8])) l3 (.lst ([.ref e1, .ref e2, .ref e3, .ref e4] ++ [.ref e5, .ref e6, .ref e7, .ref e8]))) := (same_new nl2).trans (same_new nl3)
    have e9 := upd_same (H := upd H8 l2 (.lst [.ref e5, .ref e6, .ref e7, .ref e8])) (a := l3) (o := .lst ([.ref e1, .ref e2, .ref e3, .ref e4] ++ [.ref e5, .ref e6, .ref e7, .ref e8]))
    generalize upd (upd H8 l2 (.lst [.ref e5, .ref e6, .ref e7, .ref e8])) l3 (.lst ([.ref e1, .ref e2, .ref e3, .ref e4] ++ [.ref e5, .ref e6, .ref e7, .ref e8])) = H9 at *
    have S := S.trans s9
    have all : ∀ (n : Nat) (x : V), ([V.ref e1, .ref e2, .ref e3, .ref e4] ++ [V.ref e5, .ref e6, .ref e7, .ref e8])[n]? = some x → ∃ e, x = .ref e ∧ n < 8 ∧ ExAt H9 e (a.C (n + 1)) := by
      intro n x hx
      match n, hx with
      | 0, hx => exact ⟨e1, (Option.some.inj hx).symm, by decide, x1.mono s9⟩
      | 1, hx => exact ⟨e2, (Option.some.inj hx).symm, by decide, x2.mono s9⟩
      | 2, hx => exact ⟨e3, (Option.some.inj hx).symm, by decide, x3.mono s9⟩
      | 3, hx => exact ⟨e4, (Option.some.inj hx).symm, by decide, x4.mono s9⟩
      | 4, hx => exact ⟨e5, (Option.some.inj hx).symm, by decide, x5.mono s9⟩
      | 5, hx => exact ⟨e6, (Option.some.inj hx).symm, by decide, x6.mono s9⟩
      | 6, hx => exact ⟨e7, (Option.some.inj hx).symm, by decide, x7.mono s9⟩
      | 7, hx => exact ⟨e8, (Option.some.inj hx).symm, by decide, x8.mono s9⟩
      | n + 8, hx => exact nomatch hx
    refine ⟨_, rfl, l3, _, rfl, SqL.of e9, ?_⟩
    refine for_it (walk_enum (xs := [V.ref e1, .ref e2, .ref e3, .ref e4] ++ [V.ref e5, .ref e6, .ref e7, .ref e8])) (fun n σ H' => ∃ v2 v3, σ = [some (.str z), some (.ref l3), v2, v3, none] ∧ Same H9 H') ⟨none, none, rfl, Same.refl _⟩ ?_ ?_ ?_
    · rintro n σ H' _ ⟨_, _, _, sm⟩
      exact SqL.of (sm _ _ e9)
    · rintro n x σ H5 H6 hn ⟨v2, v3, rfl, sm⟩ ⟨t, y1, y2, rfl, nt, rfl, g1, g2⟩
      cases g1
      obtain ⟨e, rfl, hn8, hx⟩ := all n y2 g2
      have sm2 := sm.trans (same_new (o := .tup [.int (n : Int), .ref e]) nt)
      refine ⟨t, _, rfl, .inl (.inl upd_same), rfl, _, _, rfl, _, _, rfl, rfl, ?_⟩
      generalize upd H5 t (.tup [.int ((n : Nat) : Int), .ref e]) = H7 at *
      have hx7 := hx.mono sm2
      have k0 : PySem.W.kitOne K (.ref (a.C (n + 1))) (.ref (a.C 0)) = some true := by
        rw [T.tab.ot (n + 1) 0 (by omega) (by decide), far_msg (n + 1) (by omega)]
      refine ⟨_, rfl, e, _, _, _, _, rfl, hx7, T.tab.xc (n + 1) (by omega), fun _ r => r, k0, _, rfl, iteF ?_⟩
      refine ⟨_, rfl, e, n + 1, rfl, by omega, hx7, fun H8 s8 => ?_⟩
      refine ⟨rfl, _, rfl, iteNS (by rw [bits_msg (n + 1) (by omega)]) ?_⟩
      have hx8 := hx7.mono s8
      refine ⟨_, rfl, e, n + 1, rfl, by omega, hx8, fun p1 Ha na sa ea => ?_⟩
      refine ⟨_, rfl, 8, _, rfl, by omega, fun p2 Hb nb sb eb => ?_⟩
      have ea2 := sb _ _ ea
      rw [own_msg n hn8] at ea2
      refine ⟨_, _, .lst (SqL.of ea2) (dp_bools _), .lst (SqL.of eb) (dp_bools _), shaped_bools _, shaped_bools _, _, rfl, ?_⟩
      rw [show PyData.eqv (.list ((onlyB 8 (n : Int)).map PyData.bool)) (.list ((onlyB 8 (n : Int)).map PyData.bool)) = true from SeqAt.eqv_refl _ (SeqAt.canLay_of_shaped (shaped_bools _))]
      refine iteF ?_
      have hxb := (hx8.mono sa).mono sb
      refine ⟨_, rfl, e, n + 1, rfl, by omega, hxb, fun p3 Hc nc sc ec => ?_⟩
      refine ⟨p3, _, rfl, .inl (SqL.of ec), rfl, flat_bools _, _, rfl, ?_⟩
      rw [inT, val_msg (n + 1) (by omega)]
      refine iteF ?_
      exact ⟨_, _, rfl, ((((sm2.trans s8).trans sa).trans sb).trans sc)⟩
    · rintro σ H5 ⟨v2, v3, rfl, sm⟩
      refine ⟨_, rfl, fun e0 n0 => ?_⟩
      have s0 := same_new (o := ExO (.ref (a.C 0)) e0) n0
      have x0 : ExAt (upd H5 e0 (ExO (.ref (a.C 0)) e0)) e0 (a.C 0) := .inl upd_same
      generalize upd H5 e0 (ExO (.ref (a.C 0)) e0) = H6 at *
      refine ⟨_, rfl, e0, 0, rfl, by decide, x0, fun H7 s7 => ?_⟩
      refine ⟨rfl, _, rfl, ?_⟩
      rw [bits_msg 0 (by decide)]
      refine iteT ?_
      have x7 := x0.mono s7
      refine ⟨_, rfl, e0, 0, rfl, by decide, x7, fun p1 Ha na sa ea => ?_⟩
      refine ⟨p1, _, rfl, .inl (SqL.of ea), rfl, flat_bools _, _, rfl, ?_⟩
      rw [inT, show hasT (ownB 1 8 0) = false from rfl]
      refine iteT ?_
      refine ⟨_, rfl, e0, 0, rfl, by decide, x7.mono sa, fun p2 Hb nb sb eb => ?_⟩
      refine ⟨p2, _, rfl, .inl (SqL.of eb), rfl, flat_bools _, ?_⟩
      rw [inT, val_msg 0 (by decide)]
      exact q _ (S.trans (sm.trans (s0.trans (s7.trans (sa.trans sb)))))
end
end K00

set_option Elab.async false
set_option linter.all false
set_option maxRecDepth 100000
set_option maxHeartbeats 4000000
namespace K00
open PySem PySem.Spec PyProof.Rows L2 Far
section
variable {P : Program} {w : World} {K : PySem.W.Frag} {mg : Str → Option Value} {base : Heap} {a : Ads}

theorem ok_InvalidNumber_init {k : Nat} (T : Txt K mg a) : FnOk P w K mg base CX0 (k + 1) a.fi_InvalidNumber a.di_InvalidNumber ["self", "value"] (spXI (a.C 9) "value") := by
  refine T.I_InvalidNumber.ok sc_InvalidNumber_init (fun vs H Q E h => ?_) (fun cdv A outer s H vs Q E hr h => ?_)
  · obtain ⟨_, _, rfl, _⟩ := h
    rfl
  · obtain ⟨x, v, rfl, hx, q⟩ := h
    refine ⟨_, pss_one (ps_xst T.xi_InvalidNumber T.nf_InvalidNumber (pv 0) (pv 1)), ?_⟩
    exact ⟨_, rfl, _, rfl, x, rfl, hx, fun dx nd ne => q dx nd ne⟩

theorem ok_UnknownName_init {k : Nat} (T : Txt K mg a) : FnOk P w K mg base CX0 (k + 1) a.fi_UnknownName a.di_UnknownName ["self", "name"] (spXI (a.C 10) "name") := by
  refine T.I_UnknownName.ok sc_UnknownName_init (fun vs H Q E h => ?_) (fun cdv A outer s H vs Q E hr h => ?_)
  · obtain ⟨_, _, rfl, _⟩ := h
    rfl
  · obtain ⟨x, v, rfl, hx, q⟩ := h
    refine ⟨_, pss_one (ps_xst T.xi_UnknownName T.nf_UnknownName (pv 0) (pv 1)), ?_⟩
    exact ⟨_, rfl, _, rfl, x, rfl, hx, fun dx nd ne => q dx nd ne⟩

theorem ok_InvalidWorld_init {k : Nat} (T : Txt K mg a) : FnOk P w K mg base CX0 (k + 1) a.fi_InvalidWorld a.di_InvalidWorld ["self", "fault"] (spXI (a.C 11) "fault") := by
  refine T.I_InvalidWorld.ok sc_InvalidWorld_init (fun vs H Q E h => ?_) (fun cdv A outer s H vs Q E hr h => ?_)
  · obtain ⟨_, _, rfl, _⟩ := h
    rfl
  · obtain ⟨x, v, rfl, hx, q⟩ := h
    refine ⟨_, pss_one (ps_xst T.xi_InvalidWorld T.nf_InvalidWorld (pv 0) (pv 1)), ?_⟩
    exact ⟨_, rfl, _, rfl, x, rfl, hx, fun dx nd ne => q dx nd ne⟩

theorem ok_Refused_init {k : Nat} (T : Txt K mg a) : FnOk P w K mg base CX0 (k + 1) a.fi_Refused a.di_Refused ["self", "refusal"] (spXI (a.C 12) "refusal") := by
  refine T.I_Refused.ok sc_Refused_init (fun vs H Q E h => ?_) (fun cdv A outer s H vs Q E hr h => ?_)
  · obtain ⟨_, _, rfl, _⟩ := h
    rfl
  · obtain ⟨x, v, rfl, hx, q⟩ := h
    refine ⟨_, pss_one (ps_xst T.xi_Refused T.nf_Refused (pv 0) (pv 1)), ?_⟩
    exact ⟨_, rfl, _, rfl, x, rfl, hx, fun dx nd ne => q dx nd ne⟩

theorem ok_Harmful_init {k : Nat} (T : Txt K mg a) : FnOk P w K mg base CX0 (k + 1) a.fi_Harmful a.di_Harmful ["self", "harm"] (spXI (a.C 13) "harm") := by
  refine T.I_Harmful.ok sc_Harmful_init (fun vs H Q E h => ?_) (fun cdv A outer s H vs Q E hr h => ?_)
  · obtain ⟨_, _, rfl, _⟩ := h
    rfl
  · obtain ⟨x, v, rfl, hx, q⟩ := h
    refine ⟨_, pss_one (ps_xst T.xi_Harmful T.nf_Harmful (pv 0) (pv 1)), ?_⟩
    exact ⟨_, rfl, _, rfl, x, rfl, hx, fun dx nd ne => q dx nd ne⟩

theorem ok_TooMany_init {k : Nat} (T : Txt K mg a) : FnOk P w K mg base CX0 (k + 1) a.fi_TooMany a.di_TooMany ["self", "limit"] (spXI (a.C 14) "limit") := by
  refine T.I_TooMany.ok sc_TooMany_init (fun vs H Q E h => ?_) (fun cdv A outer s H vs Q E hr h => ?_)
  · obtain ⟨_, _, rfl, _⟩ := h
    rfl
  · obtain ⟨x, v, rfl, hx, q⟩ := h
    refine ⟨_, pss_one (ps_xst T.xi_TooMany T.nf_TooMany (pv 0) (pv 1)), ?_⟩
    exact ⟨_, rfl, _, rfl, x, rfl, hx, fun dx nd ne => q dx nd ne⟩

theorem ok_NothingToUndo_init {k : Nat} (T : Txt K mg a) : FnOk P w K mg base CX0 (k + 1) a.fi_NothingToUndo a.di_NothingToUndo ["self", "many"] (spXI (a.C 15) "many") := by
  refine T.I_NothingToUndo.ok sc_NothingToUndo_init (fun vs H Q E h => ?_) (fun cdv A outer s H vs Q E hr h => ?_)
  · obtain ⟨_, _, rfl, _⟩ := h
    rfl
  · obtain ⟨x, v, rfl, hx, q⟩ := h
    refine ⟨_, pss_one (ps_xst T.xi_NothingToUndo T.nf_NothingToUndo (pv 0) (pv 1)), ?_⟩
    exact ⟨_, rfl, _, rfl, x, rfl, hx, fun dx nd ne => q dx nd ne⟩

theorem num1 (n : Int) (h0 : 0 ≤ n) (h1 : n < 1000) : ((10 : Int) ^ Int.toNat 59 + n).natAbs < 2 ^ 200 := by
  have e : (10 : Int) ^ Int.toNat 59 = 100000000000000000000000000000000000000000000000000000000000 := by decide +kernel
  rw [e]
  omega
theorem num2 : ((3 : Int) - (10 : Int) ^ Int.toNat 59).natAbs < 2 ^ 200 := by decide +kernel
theorem num3 (n : Int) (h0 : 0 ≤ n) (h1 : n < (10 : Int) ^ Int.toNat 9) : n.natAbs < 2 ^ 200 := by
  have e : (10 : Int) ^ Int.toNat 9 = 1000000000 := by decide +kernel
  rw [e] at h1
  omega
def spNum : Sp := fun vs H Q _ => ∃ (d : Addr), vs = [.ref d] ∧ DiceAt H d ∧ ∀ (n : Int) (H' : Hp), n.natAbs < 2 ^ 200 → DiceAt H' d → TP H H' → Q (.int n) H'
theorem ok_l_number {k : Nat} (T : Txt K mg a) : FnOk P w K mg base CX0 (k + 3) a.f_l_number a.d_l_number ["_law_dice_here"] spNum := by
  have O_l_roll : FnOk P w K mg base CX0 (k + 1) a.f_l_roll a.d_l_roll _ spRoll := ok_l_roll T
  have O_l_one_of : FnOk P w K mg base CX0 (k + 2) a.f_l_one_of a.d_l_one_of _ (spOne K) := ok_l_one_of T
  refine T.F_l_number.ok sc_l_number (fun vs H Q E h => ?_) (fun cdv A outer s H vs Q E hr h => ?_)
  · obtain ⟨_, rfl, _⟩ := h
    rfl
  · obtain ⟨d, rfl, hd, q⟩ := h
    refine ⟨_, (pss_cons (ps_set (i := 1) sc_l_number.nd rfl (Or.inl rfl) (pe_lst (pa_cons (pe_op op_add (pe_op op_pow pe_int pe_int) (pe_call O_l_roll (hr.mono (by omega)) (by rfl) T.g_l_roll T.F_l_roll.kp T.b_l_roll .nil pass0 (pa_cons (pv 0) (pa_cons pe_int pa_nil)))) (pa_cons (pe_op op_sub pe_int (pe_op op_pow pe_int pe_int)) (pa_cons (pe_call O_l_roll (hr.mono (by omega)) (by rfl) T.g_l_roll T.F_l_roll.kp T.b_l_roll .nil pass0 (pa_cons (pv 0) (pa_cons (pe_op op_pow pe_int pe_int) pa_nil))) pa_nil)))))
 (pss_one (ps_ret (pe_call O_l_one_of (hr.mono (by omega)) (by rfl) T.g_l_one_of T.F_l_one_of.kp T.b_l_one_of .nil pass0 (pa_cons (pv 0) (pa_cons (pe_op op_cat (pe_lst (pa_cons pe_int (pa_cons pe_int (pa_cons (pe_un un_neg pe_int) (pa_cons pe_int (pa_cons pe_int pa_nil)))))) (pv 1)) pa_nil)))))), ?_⟩
    refine ⟨_, _, rfl, rfl, ⟨by decide, by decide, by decide⟩, _, rfl, d, 1000, rfl, hd, by decide, by decide, fun n x y z n0 n1 => ?_⟩
    obtain ⟨x0, y0, z0, hd0⟩ := hd
    have t1 : TP H (upd H d (.lst [.int x, .int y, .int z])) := TP.lst hd0
    have hd1 : (upd H d (.lst [.int x, .int y, .int z])) d = some (.lst [.int x, .int y, .int z]) := upd_same
    generalize upd H d (.lst [.int x, .int y, .int z]) = H1 at *
    refine ⟨_, _, rfl, rfl, _, _, rfl, rfl, ⟨by decide, by decide, by decide⟩, _, _, rfl, rfl, _, rfl, _, _, rfl, rfl, ⟨by decide, by decide, by decide⟩, d, _, rfl, ⟨_, _, _, hd1⟩, (by decide +kernel), (by decide +kernel), fun n2 x2 y2 z2 m0 m1 => ?_⟩
    have t2 : TP H1 (upd H1 d (.lst [.int x2, .int y2, .int z2])) := TP.lst hd1
    have hd2 : (upd H1 d (.lst [.int x2, .int y2, .int z2])) d = some (.lst [.int x2, .int y2, .int z2]) := upd_same
    generalize upd H1 d (.lst [.int x2, .int y2, .int z2]) = H2 at *
    refine ⟨(by show 3 ≤ sizeLine; decide), fun l nl => ?_⟩
    refine ⟨_, rfl, _, rfl, (by show 5 ≤ sizeLine; decide), fun l2 nl2 => ?_⟩
    refine ⟨_, rfl, l2, l, _, _, rfl, rfl, upd_same, (by rw [upd_ne (ne_of_none upd_same nl2)]; exact upd_same), (by show 8 ≤ sizeLine; decide), fun l3 nl3 => ?_⟩
    have ne3 : ∀ o, (upd (upd H2 l (.lst [.int ((10 : Int) ^ Int.toNat 59 + n), .int (3 - (10 : Int) ^ Int.toNat 59), .int n2])) l2 o) d = some (.lst [.int x2, .int y2, .int z2]) := by
      intro o
      have e1 : (upd H2 l (.lst [.int ((10 : Int) ^ Int.toNat 59 + n), .int (3 - (10 : Int) ^ Int.toNat 59), .int n2])) d = some (.lst [.int x2, .int y2, .int z2]) := by
        rw [upd_ne (ne_of_none hd2 nl)]
        exact hd2
      rw [upd_ne (ne_of_none e1 nl2)]
      exact e1
    have nd3 : d ≠ l3 := ne_of_none (ne3 _) nl3
    refine ⟨d, l3, _, rfl, ⟨_, _, _, by rw [upd_ne nd3]; exact ne3 _⟩, SqL.of upd_same, nd3.symm, (by show 0 < 8; decide), (by show 8 ≤ 1000000; decide), fun i v x3 y3 z3 hv => ?_⟩
    have fin : ∃ m : Int, v = .int m ∧ m.natAbs < 2 ^ 200 := by
      match i, hv with
      | 0, hv => exact ⟨0, (Option.some.inj hv).symm, by decide +kernel⟩
      | 1, hv => exact ⟨1, (Option.some.inj hv).symm, by decide +kernel⟩
      | 2, hv => exact ⟨-1, (Option.some.inj hv).symm, by decide +kernel⟩
      | 3, hv => exact ⟨30, (Option.some.inj hv).symm, by decide +kernel⟩
      | 4, hv => exact ⟨200, (Option.some.inj hv).symm, by decide +kernel⟩
      | 5, hv => exact ⟨_, (Option.some.inj hv).symm, num1 n n0 n1⟩
      | 6, hv => exact ⟨_, (Option.some.inj hv).symm, num2⟩
      | 7, hv => exact ⟨_, (Option.some.inj hv).symm, num3 n2 m0 m1⟩
      | i + 8, hv => exact nomatch hv
    obtain ⟨m, rfl, hm⟩ := fin
    refine q m _ hm ⟨_, _, _, upd_same⟩ (t1.trans (t2.trans ((TP.new nl).trans ((TP.new nl2).trans ((TP.new nl3).trans (TP.lst (xs := [.int x2, .int y2, .int z2]) ?_))))))
    rw [upd_ne nd3]
    exact ne3 _
end
end K00

set_option Elab.async false
set_option linter.all false
set_option maxRecDepth 100000
set_option maxHeartbeats 4000000
namespace K00
open PySem PySem.Spec PyProof.Rows L2 Far
section
variable {P : Program} {w : World} {K : PySem.W.Frag} {mg : Str → Option Value} {base : Heap} {a : Ads}

def Good (K : PySem.W.Frag) (H : Hp) (v : V) : Prop := ∃ d, Dp K H v d ∧ Small 300 d
theorem Good.mono {K : PySem.W.Frag} {H H' : Hp} {v : V} (g : Good K H v) (t : TP H H') : Good K H' v := by
  obtain ⟨d, h1, h2⟩ := g
  exact ⟨d, dpT t d v h2.nl h1, h2⟩
theorem DiceAt.new {H : Hp} {d p : Addr} {o : HO} (h : DiceAt H d) (n : H p = none) : DiceAt (upd H p o) d := by
  obtain ⟨x, y, z, e⟩ := h
  exact ⟨x, y, z, (same_new n) _ _ e⟩
theorem pick {K : PySem.W.Frag} {H : Hp} {d l : Addr} {xs : List V} {Q : VK} (hd : DiceAt H d) (nl : H l = none) (h0 : 0 < xs.length) (h1 : xs.length ≤ 1000000)
    (k : ∀ (i : Nat) (v : V) (H' : Hp), xs[i]? = some v → DiceAt H' d → TP H H' → Q v H') : spOne K [.ref d, .ref l] (upd H l (.lst xs)) Q E0 := by
  have hd' := hd.new (o := .lst xs) nl
  obtain ⟨x, y, z, e⟩ := id hd
  refine ⟨d, l, xs, rfl, hd', SqL.of upd_same, (ne_of_none e nl).symm, h0, h1, fun i v x1 y1 z1 hv => k i v _ hv ⟨_, _, _, upd_same⟩ ((TP.new (o := .lst xs) nl).trans ?_)⟩
  obtain ⟨x2, y2, z2, e2⟩ := hd'
  exact TP.lst e2
theorem same_two {H : Hp} {e d : Addr} {o1 o2 : HO} (nd : H d = none) (ne : H e = none) (nn : d ≠ e) : Same H (upd (upd H d o1) e o2) := fun b o z => by
  rw [upd_ne (ne_of_none z ne), upd_ne (ne_of_none z nd)]
  exact z
/-- an error with its field stands at e -/
def XF (H : Hp) (e C : Addr) (f : Str) (v : V) : Prop := ∃ d, H e = some (exo e C (some d)) ∧ H d = some (exd d [(f, v)])
theorem XF.made {H : Hp} {e d C : Addr} {f : Str} {v : V} (nn : d ≠ e) : XF (upd (upd H d (exd d [(f, v)])) e (exo e C (some d))) e C f v := ⟨d, upd_same, by rw [upd_ne nn, upd_same]⟩
theorem XF.mono {H H' : Hp} {e C : Addr} {f : Str} {v : V} (x : XF H e C f v) (s : Same H H') : XF H' e C f v := by
  obtain ⟨d, h1, h2⟩ := x
  exact ⟨d, s _ _ h1, s _ _ h2⟩
theorem exo_lst {e C : Addr} {d : Option Addr} {xs : List V} : exo e C d ≠ .lst xs := fun z => by
  have z' : HO.ext _ = HO.lst xs := z
  cases z'
theorem exd_lst {e : Addr} {fs : List (Str × V)} {xs : List V} : exd e fs ≠ .lst xs := fun z => by
  have z' : HO.ext _ = HO.lst xs := z
  cases z'
theorem XF.but {H : Hp} {e C l : Addr} {f : Str} {v : V} {xs : List V} {o : HO} (x : XF H e C f v) (hl : H l = some (.lst xs)) : XF (upd H l o) e C f v := by
  obtain ⟨d, h1, h2⟩ := x
  exact ⟨d, by rw [upd_ne (ne_of h1 hl exo_lst)]; exact h1, by rw [upd_ne (ne_of h2 hl exd_lst)]; exact h2⟩
theorem XF.at {H : Hp} {e C : Addr} {f : Str} {v : V} (x : XF H e C f v) : ExAt H e C := by
  obtain ⟨d, h1, h2⟩ := x
  exact .inr ⟨d, _, h1, h2⟩
def vbits : List Int := [10, 12, 16, 32, 0, 96, 8]
theorem bits_val : ∀ n, n < 7 → ∃ b, vbits[n]? = some b ∧ (pre (brow (n + 9)) 7).sum = b
  | 0, _ => ⟨10, rfl, rfl⟩ | 1, _ => ⟨12, rfl, rfl⟩ | 2, _ => ⟨16, rfl, rfl⟩ | 3, _ => ⟨32, rfl, rfl⟩ | 4, _ => ⟨0, rfl, rfl⟩ | 5, _ => ⟨96, rfl, rfl⟩ | 6, _ => ⟨8, rfl, rfl⟩
  | i + 7, h => absurd h (by omega)
theorem own_val : ∀ n, n < 7 → ownB 9 7 (n + 9) = onlyB 7 (n : Int)
  | 0, _ => rfl | 1, _ => rfl | 2, _ => rfl | 3, _ => rfl | 4, _ => rfl | 5, _ => rfl | 6, _ => rfl
  | i + 7, h => absurd h (by omega)
theorem msg_val : ∀ n, n < 7 → hasT (ownB 1 8 (n + 9)) = false ∧ otab (n + 9) 0 = false
  | 0, _ => ⟨rfl, rfl⟩ | 1, _ => ⟨rfl, rfl⟩ | 2, _ => ⟨rfl, rfl⟩ | 3, _ => ⟨rfl, rfl⟩ | 4, _ => ⟨rfl, rfl⟩ | 5, _ => ⟨rfl, rfl⟩ | 6, _ => ⟨rfl, rfl⟩
  | i + 7, h => absurd h (by omega)
def spVal : Sp := fun vs H Q _ => ∃ (d : Addr), vs = [.ref d] ∧ DiceAt H d ∧ ∀ H', DiceAt H' d → TP H H' → Q (.bl true) H'
theorem ok_l_values_right {k : Nat} (T : Txt K mg a) : FnG P w K mg base CX0 (k + 4) a.f_l_values_right a.d_l_values_right ["_law_dice_here"] spVal := by
  have O_l_built_in : FnOk P w K mg base CX0 (k + 1) a.f_l_built_in a.d_l_built_in _ (spBuiltIn a) := ok_l_built_in T
  have O_l_of_messages : FnOk P w K mg base CX0 (k + 1) a.f_l_of_messages a.d_l_of_messages _ (spOwn a 1 8) := ok_l_of_messages T
  have O_l_of_values : FnOk P w K mg base CX0 (k + 1) a.f_l_of_values a.d_l_of_values _ (spOwn a 9 7) := ok_l_of_values T
  have O_l_only : FnOk P w K mg base CX0 (k + 1) a.f_l_only a.d_l_only _ spOnly := ok_l_only T
  have O_l_roll : FnOk P w K mg base CX0 (k + 1) a.f_l_roll a.d_l_roll _ spRoll := ok_l_roll T
  have O_l_one_of : FnOk P w K mg base CX0 (k + 2) a.f_l_one_of a.d_l_one_of _ (spOne K) := ok_l_one_of T
  have O_l_number : FnOk P w K mg base CX0 (k + 3) a.f_l_number a.d_l_number _ spNum := ok_l_number T
  have J_InvalidNumber : FnOk P w K mg base CX0 1 a.fi_InvalidNumber a.di_InvalidNumber ["self", "value"] (spXI (a.C 9) "value") := ok_InvalidNumber_init T
  have J_UnknownName : FnOk P w K mg base CX0 1 a.fi_UnknownName a.di_UnknownName ["self", "name"] (spXI (a.C 10) "name") := ok_UnknownName_init T
  have J_InvalidWorld : FnOk P w K mg base CX0 1 a.fi_InvalidWorld a.di_InvalidWorld ["self", "fault"] (spXI (a.C 11) "fault") := ok_InvalidWorld_init T
  have J_Refused : FnOk P w K mg base CX0 1 a.fi_Refused a.di_Refused ["self", "refusal"] (spXI (a.C 12) "refusal") := ok_Refused_init T
  have J_Harmful : FnOk P w K mg base CX0 1 a.fi_Harmful a.di_Harmful ["self", "harm"] (spXI (a.C 13) "harm") := ok_Harmful_init T
  have J_TooMany : FnOk P w K mg base CX0 1 a.fi_TooMany a.di_TooMany ["self", "limit"] (spXI (a.C 14) "limit") := ok_TooMany_init T
  have J_NothingToUndo : FnOk P w K mg base CX0 1 a.fi_NothingToUndo a.di_NothingToUndo ["self", "many"] (spXI (a.C 15) "many") := ok_NothingToUndo_init T
  refine okG T.F_l_values_right sc_l_values_right (fun vs H Q E h => ?_) (fun cdv A outer s H vs Q E gd hr h => ?_)
  · obtain ⟨_, rfl, _⟩ := h
    rfl
  · obtain ⟨d, rfl, hd, q⟩ := h
    refine ⟨_, (pss_cons (ps_par (i := 1) (j := 2) (by rfl) sc_l_values_right.nd rfl rfl (by decide) rfl rfl (pa_cons (pe_call O_l_number (hr.mono (by omega)) (by rfl) T.g_l_number T.F_l_number.kp T.b_l_number .nil pass0 (pa_cons (pv 0) pa_nil)) (pa_cons (pe_call O_l_one_of (hr.mono (by omega)) (by rfl) T.g_l_one_of T.F_l_one_of.kp T.b_l_one_of .nil pass0 (pa_cons (pv 0) (pa_cons (pe_lst (pa_cons pe_str (pa_cons pe_str (pa_cons pe_str (pa_cons pe_str (pa_cons pe_str pa_nil)))))) pa_nil))) pa_nil)) (by rfl))
 (pss_cons (ps_set (i := 3) sc_l_values_right.nd rfl (Or.inl rfl) (pe_lst (pa_cons pe_non (pa_cons (pe_tup (pa_cons pe_str (pa_cons pe_int pa_nil))) (pa_cons (pe_tup (pa_cons pe_str (pa_cons pe_str pa_nil))) (pa_cons (pe_tup (pa_cons pe_str (pa_cons pe_str (pa_cons pe_str pa_nil)))) (pa_cons (pe_tup (pa_cons pe_str (pa_cons pe_str pa_nil))) pa_nil)))))))
 (pss_cons (ps_set (i := 4) sc_l_values_right.nd rfl (Or.inl rfl) (pe_call O_l_one_of (hr.mono (by omega)) (by rfl) T.g_l_one_of T.F_l_one_of.kp T.b_l_one_of .nil pass0 (pa_cons (pv 0) (pa_cons (pe_op op_cat (pv 3) (pe_lst (pa_cons (pe_tup (pa_cons pe_str (pa_cons pe_str (pa_cons pe_str pa_nil)))) (pa_cons (pe_tup (pa_cons pe_str (pa_cons pe_str (pa_cons pe_str pa_nil)))) (pa_cons (pe_tup (pa_cons pe_str (pa_cons pe_int pa_nil))) pa_nil))))) pa_nil))))
 (pss_cons (ps_set (i := 5) sc_l_values_right.nd rfl (Or.inl rfl) (pe_lst (pa_cons (pe_tup (pa_cons pe_str (pa_cons pe_str pa_nil))) (pa_cons (pe_tup (pa_cons pe_str (pa_cons pe_str (pa_cons pe_str (pa_cons pe_str pa_nil))))) (pa_cons (pe_tup (pa_cons pe_str (pa_cons pe_str pa_nil))) (pa_cons (pe_tup (pa_cons pe_str (pa_cons pe_str (pa_cons pe_str pa_nil)))) pa_nil))))))
 (pss_cons (ps_set (i := 6) sc_l_values_right.nd rfl (Or.inl rfl) (pe_call O_l_one_of (hr.mono (by omega)) (by rfl) T.g_l_one_of T.F_l_one_of.kp T.b_l_one_of .nil pass0 (pa_cons (pv 0) (pa_cons (pv 5) pa_nil))))
 (pss_cons (ps_set (i := 7) sc_l_values_right.nd rfl (Or.inl rfl) (pe_call O_l_one_of (hr.mono (by omega)) (by rfl) T.g_l_one_of T.F_l_one_of.kp T.b_l_one_of .nil pass0 (pa_cons (pv 0) (pa_cons (pe_lst (pa_cons (pe_tup (pa_cons pe_str (pa_cons pe_str pa_nil))) (pa_cons (pe_tup (pa_cons pe_str (pa_cons (pe_tup pa_nil) pa_nil))) pa_nil))) pa_nil))))
 (pss_cons (ps_par (i := 8) (j := 9) (by rfl) sc_l_values_right.nd rfl rfl (by decide) rfl rfl (pa_cons (pe_call O_l_one_of (hr.mono (by omega)) (by rfl) T.g_l_one_of T.F_l_one_of.kp T.b_l_one_of .nil pass0 (pa_cons (pv 0) (pa_cons (pe_lst (pa_cons pe_int (pa_cons pe_int (pa_cons pe_int (pa_cons pe_int (pa_cons pe_int (pa_cons pe_int pa_nil))))))) pa_nil))) (pa_cons (pe_call O_l_roll (hr.mono (by omega)) (by rfl) T.g_l_roll T.F_l_roll.kp T.b_l_roll .nil pass0 (pa_cons (pv 0) (pa_cons pe_int pa_nil))) pa_nil)) (by rfl))
 (pss_cons (ps_set (i := 10) sc_l_values_right.nd rfl (Or.inl rfl) (pe_lst (pa_cons (pe_excI T.xi_InvalidNumber T.ii_InvalidNumber T.ti_InvalidNumber J_InvalidNumber (hr.mono (by omega)) T.bi_InvalidNumber (by rfl) T.g_InvalidNumber (pv 1)) (pa_cons (pe_excI T.xi_UnknownName T.ii_UnknownName T.ti_UnknownName J_UnknownName (hr.mono (by omega)) T.bi_UnknownName (by rfl) T.g_UnknownName (pv 2)) (pa_cons (pe_excI T.xi_InvalidWorld T.ii_InvalidWorld T.ti_InvalidWorld J_InvalidWorld (hr.mono (by omega)) T.bi_InvalidWorld (by rfl) T.g_InvalidWorld (pv 4)) (pa_cons (pe_excI T.xi_Refused T.ii_Refused T.ti_Refused J_Refused (hr.mono (by omega)) T.bi_Refused (by rfl) T.g_Refused (pv 6)) (pa_cons (pe_excI T.xi_Harmful T.ii_Harmful T.ti_Harmful J_Harmful (hr.mono (by omega)) T.bi_Harmful (by rfl) T.g_Harmful (pv 7)) (pa_cons (pe_excI T.xi_TooMany T.ii_TooMany T.ti_TooMany J_TooMany (hr.mono (by omega)) T.bi_TooMany (by rfl) T.g_TooMany (pv 8)) pa_nil))))))))
 (pss_cons (ps_expr (pe_bm PySem.F.plainAttrs_list PySem.F.slot_list_append PySem.F.type_list_append mt_append (pv 10) (pa_cons (pe_excI T.xi_NothingToUndo T.ii_NothingToUndo T.ti_NothingToUndo J_NothingToUndo (hr.mono (by omega)) T.bi_NothingToUndo (by rfl) T.g_NothingToUndo (pv 9)) pa_nil)))
 (pss_cons (ps_set (i := 11) sc_l_values_right.nd rfl (Or.inl rfl) (pe_lst (pa_cons (pe_op op_add pe_int pe_int) (pa_cons (pe_op op_add pe_int pe_int) (pa_cons pe_int (pa_cons pe_int (pa_cons pe_int (pa_cons (pe_op op_add pe_int pe_int) (pa_cons pe_int pa_nil)))))))))
 (pss_cons (ps_for PassesOwn.never rfl (pi_enum (by rfl) T.n_enumerate (pa_cons (pv 10) pa_nil)) (pg_tup rfl (pgs_cons (pg_name (i := 12) sc_l_values_right.nd rfl (Or.inl rfl)) (pgs_cons (pg_name (i := 13) sc_l_values_right.nd rfl (Or.inl rfl)) pgs_nil)))
  (pss_cons (ps_if (PW.pt (pw_or (pt_val (pe_callB call_isX (by rfl) T.n_isinstance (by decide +kernel) (pa_cons (pv 13) (pa_cons (pe_glob (v := .ref (a.C 0)) (by rfl) T.g_FarError rfl) pa_nil)))) (pw_or (pt_cmpR op_ne (pe_call O_l_built_in (hr.mono (by omega)) (by rfl) T.g_l_built_in T.F_l_built_in.kp T.b_l_built_in .nil pass0 (pa_cons (pv 13) pa_nil)) (pe_ix ix_list (pv 11) (pv 12) (fun _ _ => rfl)) (nomark _)) (pw_or1 (pt_cmpR (op_neD hr.units) (pe_call O_l_of_values (hr.mono (by omega)) (by rfl) T.g_l_of_values T.F_l_of_values.kp T.b_l_of_values .nil pass0 (pa_cons (pv 13) pa_nil)) (pe_call O_l_only (hr.mono (by omega)) (by rfl) T.g_l_only T.F_l_only.kp T.b_l_only .nil pass0 (pa_cons pe_int (pa_cons (pv 12) pa_nil))) (nomark _))))))
  (pss_one (ps_ret pe_bl))
  pss_nil)
 (pss_one (ps_if (pt_cmpR op_in_seq pe_bl (pe_call O_l_of_messages (hr.mono (by omega)) (by rfl) T.g_l_of_messages T.F_l_of_messages.kp T.b_l_of_messages .nil pass0 (pa_cons (pv 13) pa_nil)) (by rfl))
  (pss_one (ps_ret pe_bl))
  pss_nil))))
 (pss_cons (ps_set (i := 14) sc_l_values_right.nd rfl (Or.inl rfl) (pe_lst (pa_cons (pe_xfld (T.tab.xc 9 (by decide)) T.hd_InvalidNumber T.nf_InvalidNumber (pe_ix ix_list (pv 10) pe_int (fun _ _ => rfl))) (pa_cons (pe_xfld (T.tab.xc 10 (by decide)) T.hd_UnknownName T.nf_UnknownName (pe_ix ix_list (pv 10) pe_int (fun _ _ => rfl))) (pa_cons (pe_xfld (T.tab.xc 11 (by decide)) T.hd_InvalidWorld T.nf_InvalidWorld (pe_ix ix_list (pv 10) pe_int (fun _ _ => rfl))) (pa_cons (pe_xfld (T.tab.xc 12 (by decide)) T.hd_Refused T.nf_Refused (pe_ix ix_list (pv 10) pe_int (fun _ _ => rfl))) (pa_cons (pe_xfld (T.tab.xc 13 (by decide)) T.hd_Harmful T.nf_Harmful (pe_ix ix_list (pv 10) pe_int (fun _ _ => rfl))) (pa_cons (pe_xfld (T.tab.xc 14 (by decide)) T.hd_TooMany T.nf_TooMany (pe_ix ix_list (pv 10) pe_int (fun _ _ => rfl))) (pa_cons (pe_xfld (T.tab.xc 15 (by decide)) T.hd_NothingToUndo T.nf_NothingToUndo (pe_ix ix_list (pv 10) pe_int (fun _ _ => rfl))) pa_nil)))))))))
 (pss_one (ps_ret (pe_cmpR op_eq (pe_callB (call_repr gd hr.units) (by rfl) T.n_repr (by decide +kernel) (pa_cons (pv 14) pa_nil)) (pe_callB (call_repr gd hr.units) (by rfl) T.n_repr (by decide +kernel) (pa_cons (pe_lst (pa_cons (pv 1) (pa_cons (pv 2) (pa_cons (pv 4) (pa_cons (pv 6) (pa_cons (pv 7) (pa_cons (pv 8) (pa_cons (pv 9) pa_nil)))))))) pa_nil)) (nomark _)))))))))))))))), ?_⟩
    refine ⟨_, rfl, d, rfl, hd, fun n1 H1 hn1 hd1 t1 => ?_⟩
    refine ⟨_, rfl, (by show 5 ≤ sizeLine; decide), fun l2 nl2 => pick hd1 nl2 (by show 0 < 5; decide) (by show 5 ≤ 1000000; decide) fun i2 v2 H2 hv2 hd2 t2 => ?_⟩
    have g2 : Good K H2 v2 := by
      match i2, hv2 with
      | 0, h => cases h; exact ⟨.str "core", .str _, ⟨by decide +kernel, by decide +kernel, by decide +kernel, by decide +kernel, by decide +kernel⟩⟩
      | 1, h => cases h; exact ⟨.str "core.show", .str _, ⟨by decide +kernel, by decide +kernel, by decide +kernel, by decide +kernel, by decide +kernel⟩⟩
      | 2, h => cases h; exact ⟨.str "", .str _, ⟨by decide +kernel, by decide +kernel, by decide +kernel, by decide +kernel, by decide +kernel⟩⟩
      | 3, h => cases h; exact ⟨.str "a.b.c", .str _, ⟨by decide +kernel, by decide +kernel, by decide +kernel, by decide +kernel, by decide +kernel⟩⟩
      | 4, h => cases h; exact ⟨.str "zzzzzzzz", .str _, ⟨by decide +kernel, by decide +kernel, by decide +kernel, by decide +kernel, by decide +kernel⟩⟩
      | i + 5, h => exact nomatch h
    have tt := t1.trans t2
    have hd := hd2
    refine ⟨_, _, rfl, ?_⟩
    refine ⟨(by show 2 ≤ sizeLine; decide), fun ta0 nta0 => ?_⟩
    have gta0 : Good K (upd H2 ta0 (.tup [.str "limit", .int 30])) (.ref ta0) := ⟨.tuple [.str "limit", .int 30], .tup (SqT.of upd_same) (.cons (.str _) (.cons (.int _) .nil)), ⟨by decide +kernel, by decide +kernel, by decide +kernel, by decide +kernel, by decide +kernel⟩⟩
    have sta0 := TP.new (o := .tup [.str "limit", .int 30]) nta0
    have hd := DiceAt.new (o := .tup [.str "limit", .int 30]) hd nta0
    have tt := tt.trans sta0
    have g2 := g2.mono sta0
    generalize upd H2 ta0 (.tup [.str "limit", .int 30]) = Gta0 at *
    refine ⟨(by show 2 ≤ sizeLine; decide), fun ta1 nta1 => ?_⟩
    have gta1 : Good K (upd Gta0 ta1 (.tup [.str "twice", .str "core"])) (.ref ta1) := ⟨.tuple [.str "twice", .str "core"], .tup (SqT.of upd_same) (.cons (.str _) (.cons (.str _) .nil)), ⟨by decide +kernel, by decide +kernel, by decide +kernel, by decide +kernel, by decide +kernel⟩⟩
    have sta1 := TP.new (o := .tup [.str "twice", .str "core"]) nta1
    have hd := DiceAt.new (o := .tup [.str "twice", .str "core"]) hd nta1
    have tt := tt.trans sta1
    have g2 := g2.mono sta1
    have gta0 := gta0.mono sta1
    generalize upd Gta0 ta1 (.tup [.str "twice", .str "core"]) = Gta1 at *
    refine ⟨(by show 3 ≤ sizeLine; decide), fun ta2 nta2 => ?_⟩
    have gta2 : Good K (upd Gta1 ta2 (.tup [.str "missing", .str "text", .str "core"])) (.ref ta2) := ⟨.tuple [.str "missing", .str "text", .str "core"], .tup (SqT.of upd_same) (.cons (.str _) (.cons (.str _) (.cons (.str _) .nil))), ⟨by decide +kernel, by decide +kernel, by decide +kernel, by decide +kernel, by decide +kernel⟩⟩
    have sta2 := TP.new (o := .tup [.str "missing", .str "text", .str "core"]) nta2
    have hd := DiceAt.new (o := .tup [.str "missing", .str "text", .str "core"]) hd nta2
    have tt := tt.trans sta2
    have g2 := g2.mono sta2
    have gta0 := gta0.mono sta2
    have gta1 := gta1.mono sta2
    generalize upd Gta1 ta2 (.tup [.str "missing", .str "text", .str "core"]) = Gta2 at *
    refine ⟨(by show 2 ≤ sizeLine; decide), fun ta3 nta3 => ?_⟩
    have gta3 : Good K (upd Gta2 ta3 (.tup [.str "ring", .str "a"])) (.ref ta3) := ⟨.tuple [.str "ring", .str "a"], .tup (SqT.of upd_same) (.cons (.str _) (.cons (.str _) .nil)), ⟨by decide +kernel, by decide +kernel, by decide +kernel, by decide +kernel, by decide +kernel⟩⟩
    have sta3 := TP.new (o := .tup [.str "ring", .str "a"]) nta3
    have hd := DiceAt.new (o := .tup [.str "ring", .str "a"]) hd nta3
    have tt := tt.trans sta3
    have g2 := g2.mono sta3
    have gta0 := gta0.mono sta3
    have gta1 := gta1.mono sta3
    have gta2 := gta2.mono sta3
    generalize upd Gta2 ta3 (.tup [.str "ring", .str "a"]) = Gta3 at *
    refine ⟨(by show 5 ≤ sizeLine; decide), fun la nla => ?_⟩
    have sla := TP.new (o := .lst [.non, .ref ta0, .ref ta1, .ref ta2, .ref ta3]) nla
    have hd := DiceAt.new (o := .lst [.non, .ref ta0, .ref ta1, .ref ta2, .ref ta3]) hd nla
    have tt := tt.trans sla
    have ela := upd_same (H := Gta3) (a := la) (o := .lst [.non, .ref ta0, .ref ta1, .ref ta2, .ref ta3])
    have g2 := g2.mono sla
    have gta0 := gta0.mono sla
    have gta1 := gta1.mono sla
    have gta2 := gta2.mono sla
    have gta3 := gta3.mono sla
    generalize upd Gta3 la (.lst [.non, .ref ta0, .ref ta1, .ref ta2, .ref ta3]) = Hla at *
    refine ⟨_, rfl, _, rfl, ?_⟩
    refine ⟨(by show 3 ≤ sizeLine; decide), fun tb0 ntb0 => ?_⟩
    have gtb0 : Good K (upd Hla tb0 (.tup [.str "unseen", .str "a.r", .str "b.t"])) (.ref tb0) := ⟨.tuple [.str "unseen", .str "a.r", .str "b.t"], .tup (SqT.of upd_same) (.cons (.str _) (.cons (.str _) (.cons (.str _) .nil))), ⟨by decide +kernel, by decide +kernel, by decide +kernel, by decide +kernel, by decide +kernel⟩⟩
    have stb0 := TP.new (o := .tup [.str "unseen", .str "a.r", .str "b.t"]) ntb0
    have hd := DiceAt.new (o := .tup [.str "unseen", .str "a.r", .str "b.t"]) hd ntb0
    have tt := tt.trans stb0
    have g2 := g2.mono stb0
    have gta0 := gta0.mono stb0
    have gta1 := gta1.mono stb0
    have gta2 := gta2.mono stb0
    have gta3 := gta3.mono stb0
    have ela := (same_new (o := .tup [.str "unseen", .str "a.r", .str "b.t"]) ntb0) _ _ ela
    generalize upd Hla tb0 (.tup [.str "unseen", .str "a.r", .str "b.t"]) = Gtb0 at *
    refine ⟨(by show 3 ≤ sizeLine; decide), fun tb1 ntb1 => ?_⟩
    have gtb1 : Good K (upd Gtb0 tb1 (.tup [.str "misused", .str "a.r", .str "b.show"])) (.ref tb1) := ⟨.tuple [.str "misused", .str "a.r", .str "b.show"], .tup (SqT.of upd_same) (.cons (.str _) (.cons (.str _) (.cons (.str _) .nil))), ⟨by decide +kernel, by decide +kernel, by decide +kernel, by decide +kernel, by decide +kernel⟩⟩
    have stb1 := TP.new (o := .tup [.str "misused", .str "a.r", .str "b.show"]) ntb1
    have hd := DiceAt.new (o := .tup [.str "misused", .str "a.r", .str "b.show"]) hd ntb1
    have tt := tt.trans stb1
    have g2 := g2.mono stb1
    have gta0 := gta0.mono stb1
    have gta1 := gta1.mono stb1
    have gta2 := gta2.mono stb1
    have gta3 := gta3.mono stb1
    have gtb0 := gtb0.mono stb1
    have ela := (same_new (o := .tup [.str "misused", .str "a.r", .str "b.show"]) ntb1) _ _ ela
    generalize upd Gtb0 tb1 (.tup [.str "misused", .str "a.r", .str "b.show"]) = Gtb1 at *
    refine ⟨(by show 2 ≤ sizeLine; decide), fun tb2 ntb2 => ?_⟩
    have gtb2 : Good K (upd Gtb1 tb2 (.tup [.str "rules", .int 700])) (.ref tb2) := ⟨.tuple [.str "rules", .int 700], .tup (SqT.of upd_same) (.cons (.str _) (.cons (.int _) .nil)), ⟨by decide +kernel, by decide +kernel, by decide +kernel, by decide +kernel, by decide +kernel⟩⟩
    have stb2 := TP.new (o := .tup [.str "rules", .int 700]) ntb2
    have hd := DiceAt.new (o := .tup [.str "rules", .int 700]) hd ntb2
    have tt := tt.trans stb2
    have g2 := g2.mono stb2
    have gta0 := gta0.mono stb2
    have gta1 := gta1.mono stb2
    have gta2 := gta2.mono stb2
    have gta3 := gta3.mono stb2
    have gtb0 := gtb0.mono stb2
    have gtb1 := gtb1.mono stb2
    have ela := (same_new (o := .tup [.str "rules", .int 700]) ntb2) _ _ ela
    generalize upd Gtb1 tb2 (.tup [.str "rules", .int 700]) = Gtb2 at *
    refine ⟨(by show 3 ≤ sizeLine; decide), fun lb nlb => ?_⟩
    refine ⟨la, lb, _, _, rfl, rfl, (same_new nlb) _ _ ela, upd_same, (by show 8 ≤ sizeLine; decide), fun lc nlc => ?_⟩
    refine pick (hd.new nlb) nlc (by show 0 < 8; decide) (by show 8 ≤ 1000000; decide) fun i4 v4 H4 hv4 hd4 t4 => ?_
    have g4 : Good K Gtb2 v4 := by
      match i4, hv4 with
      | 0, h => cases h; exact ⟨.none, .non, ⟨by decide +kernel, by decide +kernel, by decide +kernel, by decide +kernel, by decide +kernel⟩⟩
      | 1, h => cases h; exact gta0
      | 2, h => cases h; exact gta1
      | 3, h => cases h; exact gta2
      | 4, h => cases h; exact gta3
      | 5, h => cases h; exact gtb0
      | 6, h => cases h; exact gtb1
      | 7, h => cases h; exact gtb2
      | i + 8, h => exact nomatch h
    have tt4 := (TP.new (o := .lst [.ref tb0, .ref tb1, .ref tb2]) nlb).trans t4
    have g4 := g4.mono tt4
    have g2 := g2.mono tt4
    have tt := tt.trans tt4
    have hd := hd4
    refine ⟨(by show 2 ≤ sizeLine; decide), fun tc0 ntc0 => ?_⟩
    have gtc0 : Good K (upd H4 tc0 (.tup [.str "shape", .str "bad.a"])) (.ref tc0) := ⟨.tuple [.str "shape", .str "bad.a"], .tup (SqT.of upd_same) (.cons (.str _) (.cons (.str _) .nil)), ⟨by decide +kernel, by decide +kernel, by decide +kernel, by decide +kernel, by decide +kernel⟩⟩
    have stc0 := TP.new (o := .tup [.str "shape", .str "bad.a"]) ntc0
    have hd := DiceAt.new (o := .tup [.str "shape", .str "bad.a"]) hd ntc0
    have tt := tt.trans stc0
    have g2 := g2.mono stc0
    have g4 := g4.mono stc0
    generalize upd H4 tc0 (.tup [.str "shape", .str "bad.a"]) = Gtc0 at *
    refine ⟨(by show 4 ≤ sizeLine; decide), fun tc1 ntc1 => ?_⟩
    have gtc1 : Good K (upd Gtc0 tc1 (.tup [.str "manner", .str "loose.mix", .str "ov", .str "vo"])) (.ref tc1) := ⟨.tuple [.str "manner", .str "loose.mix", .str "ov", .str "vo"], .tup (SqT.of upd_same) (.cons (.str _) (.cons (.str _) (.cons (.str _) (.cons (.str _) .nil)))), ⟨by decide +kernel, by decide +kernel, by decide +kernel, by decide +kernel, by decide +kernel⟩⟩
    have stc1 := TP.new (o := .tup [.str "manner", .str "loose.mix", .str "ov", .str "vo"]) ntc1
    have hd := DiceAt.new (o := .tup [.str "manner", .str "loose.mix", .str "ov", .str "vo"]) hd ntc1
    have tt := tt.trans stc1
    have g2 := g2.mono stc1
    have g4 := g4.mono stc1
    have gtc0 := gtc0.mono stc1
    generalize upd Gtc0 tc1 (.tup [.str "manner", .str "loose.mix", .str "ov", .str "vo"]) = Gtc1 at *
    refine ⟨(by show 2 ≤ sizeLine; decide), fun tc2 ntc2 => ?_⟩
    have gtc2 : Good K (upd Gtc1 tc2 (.tup [.str "ring", .str "a.show"])) (.ref tc2) := ⟨.tuple [.str "ring", .str "a.show"], .tup (SqT.of upd_same) (.cons (.str _) (.cons (.str _) .nil)), ⟨by decide +kernel, by decide +kernel, by decide +kernel, by decide +kernel, by decide +kernel⟩⟩
    have stc2 := TP.new (o := .tup [.str "ring", .str "a.show"]) ntc2
    have hd := DiceAt.new (o := .tup [.str "ring", .str "a.show"]) hd ntc2
    have tt := tt.trans stc2
    have g2 := g2.mono stc2
    have g4 := g4.mono stc2
    have gtc0 := gtc0.mono stc2
    have gtc1 := gtc1.mono stc2
    generalize upd Gtc1 tc2 (.tup [.str "ring", .str "a.show"]) = Gtc2 at *
    refine ⟨(by show 3 ≤ sizeLine; decide), fun tc3 ntc3 => ?_⟩
    have gtc3 : Good K (upd Gtc2 tc3 (.tup [.str "pair", .str "a.r", .str "b.r"])) (.ref tc3) := ⟨.tuple [.str "pair", .str "a.r", .str "b.r"], .tup (SqT.of upd_same) (.cons (.str _) (.cons (.str _) (.cons (.str _) .nil))), ⟨by decide +kernel, by decide +kernel, by decide +kernel, by decide +kernel, by decide +kernel⟩⟩
    have stc3 := TP.new (o := .tup [.str "pair", .str "a.r", .str "b.r"]) ntc3
    have hd := DiceAt.new (o := .tup [.str "pair", .str "a.r", .str "b.r"]) hd ntc3
    have tt := tt.trans stc3
    have g2 := g2.mono stc3
    have g4 := g4.mono stc3
    have gtc0 := gtc0.mono stc3
    have gtc1 := gtc1.mono stc3
    have gtc2 := gtc2.mono stc3
    generalize upd Gtc2 tc3 (.tup [.str "pair", .str "a.r", .str "b.r"]) = Gtc3 at *
    refine ⟨(by show 4 ≤ sizeLine; decide), fun ls nls => ?_⟩
    refine ⟨_, rfl, _, rfl, pick hd nls (by show 0 < 4; decide) (by show 4 ≤ 1000000; decide) fun i6 v6 H6 hv6 hd6 t6 => ?_⟩
    have g6 : Good K Gtc3 v6 := by
      match i6, hv6 with
      | 0, h => cases h; exact gtc0
      | 1, h => cases h; exact gtc1
      | 2, h => cases h; exact gtc2
      | 3, h => cases h; exact gtc3
      | i + 4, h => exact nomatch h
    have g6 := g6.mono t6
    have g4 := g4.mono t6
    have g2 := g2.mono t6
    have tt := tt.trans t6
    have hd := hd6
    refine ⟨_, rfl, ?_⟩
    refine ⟨(by show 2 ≤ sizeLine; decide), fun td0 ntd0 => ?_⟩
    have gtd0 : Good K (upd H6 td0 (.tup [.str "seen", .str "rely"])) (.ref td0) := ⟨.tuple [.str "seen", .str "rely"], .tup (SqT.of upd_same) (.cons (.str _) (.cons (.str _) .nil)), ⟨by decide +kernel, by decide +kernel, by decide +kernel, by decide +kernel, by decide +kernel⟩⟩
    have std0 := TP.new (o := .tup [.str "seen", .str "rely"]) ntd0
    have hd := DiceAt.new (o := .tup [.str "seen", .str "rely"]) hd ntd0
    have tt := tt.trans std0
    have g2 := g2.mono std0
    have g4 := g4.mono std0
    have g6 := g6.mono std0
    generalize upd H6 td0 (.tup [.str "seen", .str "rely"]) = Gtd0 at *
    refine ⟨(by show 0 ≤ sizeLine; decide), fun td1 ntd1 => ?_⟩
    refine ⟨(by show 2 ≤ sizeLine; decide), fun td2 ntd2 => ?_⟩
    have e1 : (upd (upd Gtd0 td1 (.tup [])) td2 (.tup [.str "unseen", .ref td1])) td1 = some (.tup []) := (same_new ntd2) _ _ upd_same
    have gtd2 : Good K (upd (upd Gtd0 td1 (.tup [])) td2 (.tup [.str "unseen", .ref td1])) (.ref td2) := ⟨.tuple [.str "unseen", .tuple []], .tup (SqT.of upd_same) (.cons (.str _) (.cons (.tup (SqT.of e1) .nil) .nil)), ⟨by decide +kernel, by decide +kernel, by decide +kernel, by decide +kernel, by decide +kernel⟩⟩
    have std := (TP.new (o := .tup []) ntd1).trans (TP.new (o := .tup [.str "unseen", .ref td1]) ntd2)
    have hd := (hd.new (o := .tup []) ntd1).new (o := .tup [.str "unseen", .ref td1]) ntd2
    have tt := tt.trans std
    have g2 := g2.mono std
    have g4 := g4.mono std
    have g6 := g6.mono std
    have gtd0 := gtd0.mono std
    generalize upd (upd Gtd0 td1 (.tup [])) td2 (.tup [.str "unseen", .ref td1]) = Hd at *
    refine ⟨(by show 2 ≤ sizeLine; decide), fun ld nld => pick hd nld (by show 0 < 2; decide) (by show 2 ≤ 1000000; decide) fun i7 v7 H7 hv7 hd7 t7 => ?_⟩
    have g7 : Good K Hd v7 := by
      match i7, hv7 with
      | 0, h => cases h; exact gtd0
      | 1, h => cases h; exact gtd2
      | i + 2, h => exact nomatch h
    have g7 := g7.mono t7
    have g6 := g6.mono t7
    have g4 := g4.mono t7
    have g2 := g2.mono t7
    have tt := tt.trans t7
    have hd := hd7
    refine ⟨_, rfl, (by show 6 ≤ sizeLine; decide), fun le nle => ?_⟩
    dsimp only [tNil]
    refine pick (K := K) (xs := [.int 12, .int 20, .int 30, .int 200, .int 300, .int 1000]) hd nle (by decide) (by decide) ?_
    intro i8 v8 H8 hv8 hd8 t8
    have g8 : ∃ n : Int, v8 = .int n ∧ n.natAbs < 2 ^ 200 := by
      match i8, hv8 with
      | 0, h => cases h; exact ⟨12, rfl, by decide +kernel⟩
      | 1, h => cases h; exact ⟨20, rfl, by decide +kernel⟩
      | 2, h => cases h; exact ⟨30, rfl, by decide +kernel⟩
      | 3, h => cases h; exact ⟨200, rfl, by decide +kernel⟩
      | 4, h => cases h; exact ⟨300, rfl, by decide +kernel⟩
      | 5, h => cases h; exact ⟨1000, rfl, by decide +kernel⟩
      | i + 6, h => exact nomatch h
    refine ⟨_, rfl, d, 1000, rfl, hd8, by decide, by decide, fun n9 x9 y9 z9 m0 m1 => ?_⟩
    obtain ⟨x8, y8, z8, hd8'⟩ := hd8
    have t9 := TP.lst (o := .lst [.int x9, .int y9, .int z9]) hd8'
    have hd9 := upd_same (H := H8) (a := d) (o := .lst [.int x9, .int y9, .int z9])
    generalize upd H8 d (.lst [.int x9, .int y9, .int z9]) = H9 at *
    have t89 := t8.trans t9
    have g7 := g7.mono t89
    have g6 := g6.mono t89
    have g4 := g4.mono t89
    have g2 := g2.mono t89
    have tt := tt.trans t89
    refine ⟨_, _, rfl, ?_⟩
    have S : Same H9 H9 := Same.refl H9
    refine ⟨_, rfl, fun e9 d9 ne9 nd9 nn9 => ?_⟩
    have s9 := same_two (o1 := exd d9 [("value", .int n1)]) (o2 := exo e9 (a.C 9) (some d9)) nd9 ne9 nn9
    have x9 : XF (upd (upd H9 d9 (exd d9 [("value", .int n1)])) e9 (exo e9 (a.C 9) (some d9))) e9 (a.C 9) "value" (.int n1) := XF.made nn9
    have S := S.trans s9
    generalize upd (upd H9 d9 (exd d9 [("value", .int n1)])) e9 (exo e9 (a.C 9) (some d9)) = M9 at *
    refine ⟨_, rfl, fun e10 d10 ne10 nd10 nn10 => ?_⟩
    have s10 := same_two (o1 := exd d10 [("name", v2)]) (o2 := exo e10 (a.C 10) (some d10)) nd10 ne10 nn10
    have x10 : XF (upd (upd M9 d10 (exd d10 [("name", v2)])) e10 (exo e10 (a.C 10) (some d10))) e10 (a.C 10) "name" (v2) := XF.made nn10
    have S := S.trans s10
    have x9 := x9.mono s10
    generalize upd (upd M9 d10 (exd d10 [("name", v2)])) e10 (exo e10 (a.C 10) (some d10)) = M10 at *
    refine ⟨_, rfl, fun e11 d11 ne11 nd11 nn11 => ?_⟩
    have s11 := same_two (o1 := exd d11 [("fault", v4)]) (o2 := exo e11 (a.C 11) (some d11)) nd11 ne11 nn11
    have x11 : XF (upd (upd M10 d11 (exd d11 [("fault", v4)])) e11 (exo e11 (a.C 11) (some d11))) e11 (a.C 11) "fault" (v4) := XF.made nn11
    have S := S.trans s11
    have x9 := x9.mono s11
    have x10 := x10.mono s11
    generalize upd (upd M10 d11 (exd d11 [("fault", v4)])) e11 (exo e11 (a.C 11) (some d11)) = M11 at *
    refine ⟨_, rfl, fun e12 d12 ne12 nd12 nn12 => ?_⟩
    have s12 := same_two (o1 := exd d12 [("refusal", v6)]) (o2 := exo e12 (a.C 12) (some d12)) nd12 ne12 nn12
    have x12 : XF (upd (upd M11 d12 (exd d12 [("refusal", v6)])) e12 (exo e12 (a.C 12) (some d12))) e12 (a.C 12) "refusal" (v6) := XF.made nn12
    have S := S.trans s12
    have x9 := x9.mono s12
    have x10 := x10.mono s12
    have x11 := x11.mono s12
    generalize upd (upd M11 d12 (exd d12 [("refusal", v6)])) e12 (exo e12 (a.C 12) (some d12)) = M12 at *
    refine ⟨_, rfl, fun e13 d13 ne13 nd13 nn13 => ?_⟩
    have s13 := same_two (o1 := exd d13 [("harm", v7)]) (o2 := exo e13 (a.C 13) (some d13)) nd13 ne13 nn13
    have x13 : XF (upd (upd M12 d13 (exd d13 [("harm", v7)])) e13 (exo e13 (a.C 13) (some d13))) e13 (a.C 13) "harm" (v7) := XF.made nn13
    have S := S.trans s13
    have x9 := x9.mono s13
    have x10 := x10.mono s13
    have x11 := x11.mono s13
    have x12 := x12.mono s13
    generalize upd (upd M12 d13 (exd d13 [("harm", v7)])) e13 (exo e13 (a.C 13) (some d13)) = M13 at *
    refine ⟨_, rfl, fun e14 d14 ne14 nd14 nn14 => ?_⟩
    have s14 := same_two (o1 := exd d14 [("limit", v8)]) (o2 := exo e14 (a.C 14) (some d14)) nd14 ne14 nn14
    have x14 : XF (upd (upd M13 d14 (exd d14 [("limit", v8)])) e14 (exo e14 (a.C 14) (some d14))) e14 (a.C 14) "limit" (v8) := XF.made nn14
    have S := S.trans s14
    have x9 := x9.mono s14
    have x10 := x10.mono s14
    have x11 := x11.mono s14
    have x12 := x12.mono s14
    have x13 := x13.mono s14
    generalize upd (upd M13 d14 (exd d14 [("limit", v8)])) e14 (exo e14 (a.C 14) (some d14)) = M14 at *
    refine ⟨(by show 6 ≤ sizeLine; decide), fun lm nlm => ?_⟩
    have nolm : ∀ o, H9 lm = some o → False := fun o e => by
      have z := S _ _ e
      rw [nlm] at z
      cases z
    have elm := upd_same (H := M14) (a := lm) (o := .lst [.ref e9, .ref e10, .ref e11, .ref e12, .ref e13, .ref e14])
    have slm := same_new (o := .lst [.ref e9, .ref e10, .ref e11, .ref e12, .ref e13, .ref e14]) nlm
    have x9 := x9.mono slm
    have x10 := x10.mono slm
    have x11 := x11.mono slm
    have x12 := x12.mono slm
    have x13 := x13.mono slm
    have x14 := x14.mono slm
    have S := S.trans slm
    generalize upd M14 lm (.lst [.ref e9, .ref e10, .ref e11, .ref e12, .ref e13, .ref e14]) = Hm at *
    refine ⟨_, rfl, .inl ⟨rfl, _, SqL.of elm⟩, ?_⟩
    refine ⟨_, rfl, fun e15 d15 ne15 nd15 nn15 => ?_⟩
    have s15 := same_two (o1 := exd d15 [("many", .int n9)]) (o2 := exo e15 (a.C 15) (some d15)) nd15 ne15 nn15
    have x15 : XF (upd (upd Hm d15 (exd d15 [("many", .int n9)])) e15 (exo e15 (a.C 15) (some d15))) e15 (a.C 15) "many" (.int n9) := XF.made nn15
    have S := S.trans s15
    have x9 := x9.mono s15
    have x10 := x10.mono s15
    have x11 := x11.mono s15
    have x12 := x12.mono s15
    have x13 := x13.mono s15
    have x14 := x14.mono s15
    have elm := s15 _ _ elm
    generalize upd (upd Hm d15 (exd d15 [("many", .int n9)])) e15 (exo e15 (a.C 15) (some d15)) = M15 at *
    refine ⟨lm, _, _, rfl, rfl, elm, (by show 6 < sizeLine; decide), ?_⟩
    have elm2 := upd_same (H := M15) (a := lm) (o := .lst ([.ref e9, .ref e10, .ref e11, .ref e12, .ref e13, .ref e14] ++ [.ref e15]))
    have x9 := x9.but elm (o := .lst ([.ref e9, .ref e10, .ref e11, .ref e12, .ref e13, .ref e14] ++ [.ref e15]))
    have x10 := x10.but elm (o := .lst ([.ref e9, .ref e10, .ref e11, .ref e12, .ref e13, .ref e14] ++ [.ref e15]))
    have x11 := x11.but elm (o := .lst ([.ref e9, .ref e10, .ref e11, .ref e12, .ref e13, .ref e14] ++ [.ref e15]))
    have x12 := x12.but elm (o := .lst ([.ref e9, .ref e10, .ref e11, .ref e12, .ref e13, .ref e14] ++ [.ref e15]))
    have x13 := x13.but elm (o := .lst ([.ref e9, .ref e10, .ref e11, .ref e12, .ref e13, .ref e14] ++ [.ref e15]))
    have x14 := x14.but elm (o := .lst ([.ref e9, .ref e10, .ref e11, .ref e12, .ref e13, .ref e14] ++ [.ref e15]))
    have x15 := x15.but elm (o := .lst ([.ref e9, .ref e10, .ref e11, .ref e12, .ref e13, .ref e14] ++ [.ref e15]))
    have slm2 : ∀ b o, H9 b = some o → (upd M15 lm (.lst ([.ref e9, .ref e10, .ref e11, .ref e12, .ref e13, .ref e14] ++ [.ref e15]))) b = some o := by
      intro b o e
      have z := S _ _ e
      by_cases hb : b = lm
      · exfalso
        rw [hb] at e
        exact nolm _ e
      · rw [upd_ne hb]
        exact z
    generalize upd M15 lm (.lst ([.ref e9, .ref e10, .ref e11, .ref e12, .ref e13, .ref e14] ++ [.ref e15])) = N0 at *
    -- the bits
    refine ⟨_, _, rfl, rfl, _, _, rfl, rfl, _, _, rfl, rfl, (by show 7 ≤ sizeLine; decide), fun lv nlv => ?_⟩
    have slv := same_new (o := .lst [.int (2 + 8), .int (4 + 8), .int 16, .int 32, .int 0, .int (32 + 64), .int 8]) nlv
    have elv : (upd N0 lv (.lst [.int (2 + 8), .int (4 + 8), .int 16, .int 32, .int 0, .int (32 + 64), .int 8])) lv = some (.lst (vbits.map V.int)) := upd_same
    have elm3 := slv _ _ elm2
    have x9 := x9.mono slv
    have x10 := x10.mono slv
    have x11 := x11.mono slv
    have x12 := x12.mono slv
    have x13 := x13.mono slv
    have x14 := x14.mono slv
    have x15 := x15.mono slv
    have S9 : Same H9 (upd N0 lv (.lst [.int (2 + 8), .int (4 + 8), .int 16, .int 32, .int 0, .int (32 + 64), .int 8])) := fun b o e => slv _ _ (slm2 b o e)
    refine ⟨_, rfl, lm, _, rfl, SqL.of elm3, ?_⟩
    have all : ∀ (n : Nat) (x : V), ([.ref e9, .ref e10, .ref e11, .ref e12, .ref e13, .ref e14, .ref e15] : List V)[n]? = some x → ∃ e, x = .ref e ∧ n < 7 ∧ ExAt (upd N0 lv (.lst [.int (2 + 8), .int (4 + 8), .int 16, .int 32, .int 0, .int (32 + 64), .int 8])) e (a.C (n + 9)) := by
      intro n x hx
      match n, hx with
      | 0, hx => exact ⟨e9, (Option.some.inj hx).symm, by decide, x9.at⟩
      | 1, hx => exact ⟨e10, (Option.some.inj hx).symm, by decide, x10.at⟩
      | 2, hx => exact ⟨e11, (Option.some.inj hx).symm, by decide, x11.at⟩
      | 3, hx => exact ⟨e12, (Option.some.inj hx).symm, by decide, x12.at⟩
      | 4, hx => exact ⟨e13, (Option.some.inj hx).symm, by decide, x13.at⟩
      | 5, hx => exact ⟨e14, (Option.some.inj hx).symm, by decide, x14.at⟩
      | 6, hx => exact ⟨e15, (Option.some.inj hx).symm, by decide, x15.at⟩
      | n + 7, hx => exact nomatch hx
    generalize upd N0 lv (.lst [.int (2 + 8), .int (4 + 8), .int 16, .int 32, .int 0, .int (32 + 64), .int 8]) = N1 at *
    refine for_it (walk_enum (xs := [.ref e9, .ref e10, .ref e11, .ref e12, .ref e13, .ref e14, .ref e15])) (fun n σ H' => ∃ v12 v13, σ = [some (.ref d), some (.int n1), some v2, some (.ref la), some v4, some (.ref ls), some v6, some v7, some v8, some (.int n9), some (.ref lm), some (.ref lv), v12, v13, none] ∧ Same N1 H') ⟨none, none, rfl, Same.refl _⟩ ?_ ?_ ?_
    · rintro n σ H' _ ⟨_, _, _, sm⟩
      exact SqL.of (sm _ _ elm3)
    · rintro n x σ H5 H6' hn ⟨v12, v13, rfl, sm⟩ ⟨t, y1, y2, rfl, nt, rfl, gg1, gg2⟩
      cases gg1
      obtain ⟨e, rfl, hn7, hx⟩ := all n y2 gg2
      have sm2 := sm.trans (same_new (o := .tup [.int (n : Int), .ref e]) nt)
      refine ⟨t, _, rfl, .inl (.inl upd_same), rfl, _, _, rfl, _, _, rfl, rfl, ?_⟩
      generalize upd H5 t (.tup [.int ((n : Nat) : Int), .ref e]) = B7 at *
      have hx7 := hx.mono sm2
      have k0 : PySem.W.kitOne K (.ref (a.C (n + 9))) (.ref (a.C 0)) = some false := by
        rw [T.tab.ot (n + 9) 0 (by omega) (by decide), (msg_val n hn7).2]
      refine ⟨_, rfl, e, _, _, _, _, rfl, hx7, T.tab.xc (n + 9) (by omega), fun _ r => r, k0, _, rfl, iteF ?_⟩
      refine ⟨_, rfl, e, n + 9, rfl, by omega, hx7, fun B8 b8 => ?_⟩
      obtain ⟨bb, hbb, ebb⟩ := bits_val n hn7
      have elv8 := b8 _ _ (sm2 _ _ elv)
      have hvb : (vbits.map V.int)[n]? = some (.int bb) := by
        rw [List.getElem?_map, hbb]
        rfl
      refine ⟨_, rfl, _, rfl, lv, _, _, _, rfl, rfl, SqL.of elv8, atI_nat hvb, rfl, _, rfl, ?_⟩
      rw [ebb]
      refine iteNS rfl ?_
      have hx8 := hx7.mono b8
      refine ⟨_, rfl, e, n + 9, rfl, by omega, hx8, fun p1 Ha na sa ea => ?_⟩
      refine ⟨_, rfl, 7, _, rfl, by omega, fun p2 Hb nb sb eb => ?_⟩
      have ea2 := sb _ _ ea
      rw [own_val n hn7] at ea2
      refine ⟨_, _, .lst (SqL.of ea2) (dp_bools _), .lst (SqL.of eb) (dp_bools _), shaped_bools _, shaped_bools _, _, rfl, ?_⟩
      rw [show PyData.eqv (.list ((onlyB 7 (n : Int)).map PyData.bool)) (.list ((onlyB 7 (n : Int)).map PyData.bool)) = true from SeqAt.eqv_refl _ (SeqAt.canLay_of_shaped (shaped_bools _))]
      refine iteF ?_
      have hxb := (hx8.mono sa).mono sb
      refine ⟨_, rfl, e, n + 9, rfl, by omega, hxb, fun p3 Hc nc sc ec => ?_⟩
      refine ⟨p3, _, rfl, .inl (SqL.of ec), rfl, flat_bools _, _, rfl, ?_⟩
      rw [inT, (msg_val n hn7).1]
      refine iteF ?_
      exact ⟨_, _, rfl, ((((sm2.trans b8).trans sa).trans sb).trans sc)⟩
    · rintro σ H5 ⟨v12, v13, rfl, sm⟩
      have elm5 := sm _ _ elm3
      obtain ⟨c9, y9, w9⟩ := x9.mono sm
      obtain ⟨c10, y10, w10⟩ := x10.mono sm
      obtain ⟨c11, y11, w11⟩ := x11.mono sm
      obtain ⟨c12, y12, w12⟩ := x12.mono sm
      obtain ⟨c13, y13, w13⟩ := x13.mono sm
      obtain ⟨c14, y14, w14⟩ := x14.mono sm
      obtain ⟨c15, y15, w15⟩ := x15.mono sm
      refine ⟨_, rfl, lm, _, _, _, rfl, rfl, SqL.of elm5, atI_nat (j := 0) rfl, e9, c9, _, _, rfl, y9, w9, rfl, _, rfl, lm, _, _, _, rfl, rfl, SqL.of elm5, atI_nat (j := 1) rfl, e10, c10, _, _, rfl, y10, w10, rfl, _, rfl, lm, _, _, _, rfl, rfl, SqL.of elm5, atI_nat (j := 2) rfl, e11, c11, _, _, rfl, y11, w11, rfl, _, rfl, lm, _, _, _, rfl, rfl, SqL.of elm5, atI_nat (j := 3) rfl, e12, c12, _, _, rfl, y12, w12, rfl, _, rfl, lm, _, _, _, rfl, rfl, SqL.of elm5, atI_nat (j := 4) rfl, e13, c13, _, _, rfl, y13, w13, rfl, _, rfl, lm, _, _, _, rfl, rfl, SqL.of elm5, atI_nat (j := 5) rfl, e14, c14, _, _, rfl, y14, w14, rfl, _, rfl, lm, _, _, _, rfl, rfl, SqL.of elm5, atI_nat (j := 6) rfl, e15, c15, _, _, rfl, y15, w15, rfl, (by show 7 ≤ sizeLine; decide), fun lk nlk => ?_⟩
      have slk := same_new (o := .lst [.int n1, v2, v4, v6, v7, v8, .int n9]) nlk
      have elk := upd_same (H := H5) (a := lk) (o := .lst [.int n1, v2, v4, v6, v7, v8, .int n9])
      have s95 : Same H9 H5 := S9.trans sm
      obtain ⟨D2, p2, m2⟩ := g2.mono (TP.same s95)
      obtain ⟨D4, p4, m4⟩ := g4.mono (TP.same s95)
      obtain ⟨D6, p6, m6⟩ := g6.mono (TP.same s95)
      obtain ⟨D7, p7, m7⟩ := g7.mono (TP.same s95)
      obtain ⟨n8, rfl, hn8⟩ := g8
      have mi : ∀ n : Int, n.natAbs < 2 ^ 200 → Small 300 (.int n) := fun n hn => by
        have z := small_int hn (by decide) (by decide)
        exact ⟨z.nl, z.sh, z.hd, z.dp, Nat.le_trans z.sz (by decide)⟩
      have hn9 : n9.natAbs < 2 ^ 200 := by omega
      have sml := small_list (m := 300) [.int n1, D2, D4, D6, D7, .int n8, .int n9] (by
        intro x hx
        simp only [List.mem_cons, List.not_mem_nil, or_false] at hx
        rcases hx with rfl | rfl | rfl | rfl | rfl | rfl | rfl
        · exact mi _ hn1
        · exact m2
        · exact m4
        · exact m6
        · exact m7
        · exact mi _ hn8
        · exact mi _ hn9)
      obtain ⟨w1, w2, w3, w4⟩ := sml
      have dpl : ∀ {H' : Hp}, TP H5 H' → DpAll K H' [.int n1, v2, v4, v6, v7, .int n8, .int n9] [.int n1, D2, D4, D6, D7, .int n8, .int n9] := fun t => .cons (.int _) (.cons (dpT t _ _ m2.nl p2) (.cons (dpT t _ _ m4.nl p4) (.cons (dpT t _ _ m6.nl p6) (.cons (dpT t _ _ m7.nl p7) (.cons (.int _) (.cons (.int _) .nil))))))
      have q1 : PyData.showable (.list [.int n1, D2, D4, D6, D7, .int n8, .int n9]) = true := by simp only [PyData.showable]; exact w1
      have q2 : PyData.hasDict (.list [.int n1, D2, D4, D6, D7, .int n8, .int n9]) = false := by simp only [PyData.hasDict]; exact w2
      have q3 : PyData.depth (.list [.int n1, D2, D4, D6, D7, .int n8, .int n9]) ≤ 40 := by simp only [PyData.depth]; omega
      have q4 : (PyData.shown (.list [.int n1, D2, D4, D6, D7, .int n8, .int n9])).length ≤ sizeLine := by
        simp only [PyData.shown]
        have z := listText_le (PyData.shownAll [.int n1, D2, D4, D6, D7, .int n8, .int n9])
        have y : [PyData.int n1, D2, D4, D6, D7, .int n8, .int n9].length * (300 + 2) = 2114 := rfl
        rw [y] at w4
        rw [sizeLine_eq]
        omega
      refine ⟨_, rfl, lk, _, rfl, .lst (SqL.of elk) (dpl (TP.same slk)), q1, q2, q3, q4, ?_⟩
      refine ⟨_, rfl, _, rfl, _, rfl, _, rfl, _, rfl, _, rfl, _, rfl, (by show 7 ≤ sizeLine; decide), fun lz nlz => ?_⟩
      refine ⟨lz, _, rfl, .lst (SqL.of upd_same) (dpl ((TP.same slk).trans (TP.new nlz))), q1, q2, q3, q4, rfl, ?_⟩
      rw [decide_eq_true rfl]
      refine q _ ?_ (tt.trans ((TP.same (s95.trans slk)).trans (TP.new nlz)))
      exact ⟨_, _, _, (same_new nlz) _ _ (slk _ _ (s95 _ _ hd9))⟩
end
end K00

set_option Elab.async false
set_option linter.all false
set_option maxRecDepth 100000
set_option maxHeartbeats 4000000
namespace K00
open PySem PySem.Spec PyProof.Rows L2 Far
section
variable {P : Program} {w : World} {K : PySem.W.Frag} {mg : Str → Option Value} {base : Heap} {a : Ads}

theorem only_tp {K : PySem.W.Frag} {H H' : Hp} {p : Addr} {xs : List V} (o : Only H) (h : SqL K H p xs) (t : TP H H') : SqL K H' p xs := by
  rcases h with (h | ⟨u, h⟩) | h
  · rcases o p with z | ⟨_, _, z⟩
    · rw [h] at z
      cases z
    · rw [h] at z
      cases z
  · exact .inl (.inr ⟨u, t.frz _ _ _ h⟩)
  · exact .inr h
def spLaw (K : PySem.W.Frag) : Sp := fun vs H Q _ => ∃ (p : Addr) (ns : List Int), vs = [.ref p] ∧ ns.length ≤ 63 ∧ (∀ H', TP H H' → SqL K H' p (ns.map V.int)) ∧ ∀ H', Q (.bl true) H'
theorem ok_law {k : Nat} (T : Txt K mg a) : FnG P w K mg base CX0 (k + 5) a.f_law a.d_law ["_law_script"] (spLaw K) := by
  have O_l_dice : FnOk P w K mg base CX0 (k + 1) a.f_l_dice a.d_l_dice _ (spDice K) := ok_l_dice T
  have O_l_roll : FnOk P w K mg base CX0 (k + 1) a.f_l_roll a.d_l_roll _ spRoll := ok_l_roll T
  have O_l_one_of : FnOk P w K mg base CX0 (k + 2) a.f_l_one_of a.d_l_one_of _ (spOne K) := ok_l_one_of T
  have O_l_messages_right : FnOk P w K mg base CX0 (k + 2) a.f_l_messages_right a.d_l_messages_right _ spMsg := ok_l_messages_right T
  have O_l_values_right : FnG P w K mg base CX0 (k + 4) a.f_l_values_right a.d_l_values_right _ spVal := ok_l_values_right T
  refine okG T.F_law sc_law (fun vs H Q E h => ?_) (fun cdv A outer s H vs Q E gd hr h => ?_)
  · obtain ⟨_, _, rfl, _⟩ := h
    rfl
  · obtain ⟨p, ns, rfl, hlen, hS, q⟩ := h
    refine ⟨_, (pss_cons (ps_for PassesOwn.never rfl (pi_range1 (by rfl) T.n_range (pa_cons (pe_callB (call_max2 rfl) (by rfl) T.n_max (by decide +kernel) (pa_cons pe_int (pa_cons (pe_callB (call_min2 rfl) (by rfl) T.n_min (by decide +kernel) (pa_cons pe_int (pa_cons (pe_callB call_len_seq (by rfl) T.n_len PySem.boot_len (pa_cons (pv 0) pa_nil)) pa_nil))) pa_nil))) pa_nil)) (pg_name (i := 1) sc_law.nd rfl (Or.inl rfl))
  (pss_cons (ps_set (i := 2) sc_law.nd rfl (Or.inr rfl) (pe_call O_l_dice (hr.mono (by omega)) (by rfl) T.g_l_dice T.F_l_dice.kp T.b_l_dice .nil pass0 (pa_cons (pv 0) (pa_cons (pv 1) pa_nil))))
 (pss_cons (ps_set (i := 3) sc_law.nd rfl (Or.inr rfl) (pe_lst (pa_cons pe_str (pa_cons pe_str (pa_cons pe_str (pa_cons pe_str (pa_cons pe_str (pa_cons pe_str (pa_cons pe_str (pa_cons pe_str pa_nil))))))))))
 (pss_cons (ps_set (i := 4) sc_law.nd rfl (Or.inl rfl) (pe_join pe_str (pe_lc (own := [("_law_turn", 5)]) (g := gName 5) (by rfl) sc_law.nd (pi_range1 (by rfl) T.n_range (pa_cons (pe_call O_l_roll (hr.mono (by omega)) (by rfl) T.g_l_roll T.F_l_roll.kp T.b_l_roll .nil pass0 (pa_cons (pv 2) (pa_cons pe_int pa_nil))) pa_nil)) (blkOk_by (own := [("_law_turn", 5)]) (N := ["_law_script", "_law_at", "_law_dice_here", "_law_signs", "_law_words", "_law_turn"]) (sc := defScope s_law) (by decide +kernel))
  (fun _ _ _ _ _ => by exact (pg_name (i := 5) sc_law.nd rfl (Or.inl rfl))) (fun _ _ _ _ _ => by exact pts_nil)
  (fun _ _ _ _ _ => by exact (pe_call O_l_one_of (hr.mono (by omega)) (by rfl) T.g_l_one_of T.F_l_one_of.kp T.b_l_one_of .nil pass0 (pa_cons (pv 2) (pa_cons (pv 3) pa_nil)))))))
 (pss_one (ps_if (PW.pt (pw_or (pt_not (pt_val (pe_call O_l_messages_right (hr.mono (by omega)) (by rfl) T.g_l_messages_right T.F_l_messages_right.kp T.b_l_messages_right .nil pass0 (pa_cons (pv 4) pa_nil)))) (pw_or1 (pt_not (pt_val (pe_callG O_l_values_right gd (hr.mono (by omega)) (by rfl) T.g_l_values_right T.F_l_values_right.kp T.b_l_values_right .nil pass0 (pa_cons (pv 2) pa_nil)))))))
  (pss_one (ps_ret pe_bl))
  pss_nil))))))
 (pss_one (ps_ret pe_bl))), ?_⟩
    refine ⟨_, rfl, p, _, rfl, .inl (hS H (TP.refl H)), _, _, rfl, _, _, rfl, ?_⟩
    generalize hN : (if (if ((ns.map V.int).length : Int) < 8 then ((ns.map V.int).length : Int) else 8) > 1 then (if ((ns.map V.int).length : Int) < 8 then ((ns.map V.int).length : Int) else 8) else 1) = N
    have hN2 : 0 ≤ N ∧ N ≤ 8 := by
      rw [← hN]
      split
      · split <;> omega
      · omega
    refine ⟨N, rfl, by omega, by omega, ?_⟩
    refine for_range (lo := 0) (n := N.toNat) (fun i σ H' => ∃ v1 v2 v3 v4 v5, σ = [some (.ref p), v1, v2, v3, v4, v5] ∧ TP H H') ⟨none, none, none, none, none, rfl, TP.refl H⟩ ?_ ?_
    · rintro i σ H1 hi ⟨v1, v2, v3, v4, v5, rfl, t1⟩
      refine ⟨_, rfl, _, rfl, p, ns, i, (by show [V.ref p, V.int (0 + (i : Int))] = [V.ref p, V.int (i : Int)]; rw [Int.zero_add]), hS _ t1, by omega, fun d x y z nd => ?_⟩
      have t2 := TP.new (o := .lst [.int x, .int y, .int z]) nd
      have hd2 := upd_same (H := H1) (a := d) (o := .lst [.int x, .int y, .int z])
      generalize upd H1 d (.lst [.int x, .int y, .int z]) = H2 at *
      refine ⟨(by show 8 ≤ sizeLine; decide), fun l nl => ?_⟩
      have t3 := TP.new (o := .lst [.str "a", .str "z", .str " ", .str "\n", .str "'", .str "-", .str "{", .str "0"]) nl
      have hl3 := upd_same (H := H2) (a := l) (o := .lst [.str "a", .str "z", .str " ", .str "\n", .str "'", .str "-", .str "{", .str "0"])
      have hd3 := (same_new (o := .lst [.str "a", .str "z", .str " ", .str "\n", .str "'", .str "-", .str "{", .str "0"]) nl) _ _ hd2
      have ndl : l ≠ d := (ne_of_none hd2 nl).symm
      generalize upd H2 l (.lst [.str "a", .str "z", .str " ", .str "\n", .str "'", .str "-", .str "{", .str "0"]) = H3 at *
      refine ⟨⟨_, rfl⟩, _, rfl, d, 11, rfl, ⟨_, _, _, hd3⟩, by decide, by decide, fun n x1 y1 z1 n0 n1 => ?_⟩
      have t4 := TP.lst (o := .lst [.int x1, .int y1, .int z1]) hd3
      have hd4 := upd_same (H := H3) (a := d) (o := .lst [.int x1, .int y1, .int z1])
      have hl4 : (upd H3 d (.lst [.int x1, .int y1, .int z1])) l = some (.lst [.str "a", .str "z", .str " ", .str "\n", .str "'", .str "-", .str "{", .str "0"]) := by
        rw [upd_ne ndl]
        exact hl3
      generalize upd H3 d (.lst [.int x1, .int y1, .int z1]) = H4 at *
      refine ⟨n, rfl, by omega, by omega, fun D nD => ?_⟩
      have nDd : d ≠ D := ne_of_none hd4 nD
      have nDl : l ≠ D := ne_of_none hl4 nD
      refine lc_range (lo := 0) (n := n.toNat) (fun i H' => DiceAt H' d ∧ H' l = some (.lst [.str "a", .str "z", .str " ", .str "\n", .str "'", .str "-", .str "{", .str "0"]) ∧ TP H4 H' ∧ ∃ ys : List Str, H' D = some (.lst (ys.map V.str)) ∧ ys.length = i ∧ ∀ y ∈ ys, y.length = 1) ⟨⟨_, _, _, (same_new nD) _ _ hd4⟩, (same_new nD) _ _ hl4, TP.new nD, [], upd_same, rfl, by simp⟩ ?_ ?_
      · rintro j H5 hj ⟨⟨x5, y5, z5, hd5⟩, hl5, t5, ys, eD, ely, e1⟩
        refine ⟨rfl, ?_⟩
        refine ⟨_, rfl, _, rfl, d, l, _, rfl, ⟨_, _, _, hd5⟩, SqL.of hl5, ndl, (by decide), (by decide), fun m v x6 y6 z6 hv => ?_⟩
        have hv1 : ∃ c : Str, v = .str c ∧ c.length = 1 := by
          match m, hv with
          | 0, h => cases h; exact ⟨_, rfl, by decide⟩
          | 1, h => cases h; exact ⟨_, rfl, by decide⟩
          | 2, h => cases h; exact ⟨_, rfl, by decide⟩
          | 3, h => cases h; exact ⟨_, rfl, by decide⟩
          | 4, h => cases h; exact ⟨_, rfl, by decide⟩
          | 5, h => cases h; exact ⟨_, rfl, by decide⟩
          | 6, h => cases h; exact ⟨_, rfl, by decide⟩
          | 7, h => cases h; exact ⟨_, rfl, by decide⟩
          | m + 8, h => exact nomatch h
        obtain ⟨c, rfl, hc⟩ := hv1
        have eD6 : (upd H5 d (.lst [.int x6, .int y6, .int z6])) D = some (.lst (ys.map V.str)) := by
          rw [upd_ne nDd.symm]
          exact eD
        refine ⟨_, eD6, by rw [List.length_map]; exact small1000 (by omega), ⟨x6, y6, z6, ?_⟩, ?_, (t5.trans (TP.lst hd5)).trans (TP.lst eD6), ys ++ [c], ?_, ?_, ?_⟩
        · rw [upd_ne nDd, upd_same]
        · rw [upd_ne nDl, upd_ne ndl]
          exact hl5
        · rw [upd_same, List.map_append]
          rfl
        · rw [List.length_append, ely]
          rfl
        · intro y hy
          rcases List.mem_append.mp hy with h | h
          · exact e1 y h
          · rw [List.mem_singleton.mp h]
            exact hc
      · rintro H5 ⟨⟨x5, y5, z5, hd5⟩, hl5, t5, ys, eD, ely, e1⟩
        have esum : (ys.map (·.length)).sum = ys.length := by
          clear ely eD
          induction ys with
          | nil => rfl
          | cons y r ih =>
            rw [List.map_cons, List.sum_cons, ih fun z hz => e1 z (List.mem_cons_of_mem _ hz), e1 y (List.mem_cons_self ..), List.length_cons]
            omega
        have e0 : (Str.ofString "").length = 0 := by decide
        refine ⟨_, D, ys, rfl, rfl, .inl (SqL.of eD), (by rw [esum, e0]; omega), ?_⟩
        refine ⟨_, rfl, _, rfl, fun H6 s6 => ⟨_, rfl, iteF ?_⟩⟩
        refine ⟨_, rfl, d, rfl, ⟨_, _, _, s6 _ _ hd5⟩, fun H7 hd7 t7 => ⟨_, rfl, iteF ?_⟩⟩
        exact ⟨_, _, _, _, _, rfl, t1.trans (t2.trans (t3.trans (t4.trans (t5.trans ((TP.same s6).trans t7)))))⟩
    · rintro σ H1 ⟨v1, v2, v3, v4, v5, rfl, t1⟩
      exact q H1
end
end K00

set_option Elab.async false
set_option linter.all false
set_option maxRecDepth 100000
set_option maxHeartbeats 4000000
namespace K00
open PySem PySem.Spec PyProof.Rows L2 Far

theorem key_pass (self : Value) : refuseLoop self "__setattr__" [.type "KeyError", .type "LookupError", .type "Exception", .type "BaseException", .type "object"] = pure () := by kernel_rfl
theorem exc_pass (self : Value) : refuseLoop self "__setattr__" [.type "Exception", .type "BaseException", .type "object"] = pure () := by kernel_rfl
theorem all_mk {l : PySem.W.OpenLaw} {w : World} {K : PySem.W.Frag} {h : Heap} {mg : Str → Option Value} {fa : Addr} (X : K.In h) (G : h.Ns mainGlobals mg) (hfa : mg "law" = some (.ref fa))
    {f0 : Addr} {od0 an0 : Option Addr} {sl0 : Array (Option Value)} {oc0 kV0 dc0 pm0 cd0 ct0 : Value}
    (a0 : PySem.W.nsIn K mainGlobals "_law_dice" = some (some (.ref f0))) (l0 : K.lookup f0 = some ⟨oc0, od0, .func (PySem.W.fnOf "_law_dice" "_law_dice" (defArgs s_l_dice) (defBody s_l_dice) (defScope s_l_dice) .none kV0 dc0 pm0 an0 cd0 ct0), sl0⟩) (c0 : PySem.W.codeIn K cd0 "_law_dice" = true) (k0 : PySem.W.keepIn K (.ref f0) = true)
    {f1 : Addr} {od1 an1 : Option Addr} {sl1 : Array (Option Value)} {oc1 kV1 dc1 pm1 cd1 ct1 : Value}
    (a1 : PySem.W.nsIn K mainGlobals "_law_roll" = some (some (.ref f1))) (l1 : K.lookup f1 = some ⟨oc1, od1, .func (PySem.W.fnOf "_law_roll" "_law_roll" (defArgs s_l_roll) (defBody s_l_roll) (defScope s_l_roll) .none kV1 dc1 pm1 an1 cd1 ct1), sl1⟩) (c1 : PySem.W.codeIn K cd1 "_law_roll" = true) (k1 : PySem.W.keepIn K (.ref f1) = true)
    {f2 : Addr} {od2 an2 : Option Addr} {sl2 : Array (Option Value)} {oc2 kV2 dc2 pm2 cd2 ct2 : Value}
    (a2 : PySem.W.nsIn K mainGlobals "_law_one_of" = some (some (.ref f2))) (l2 : K.lookup f2 = some ⟨oc2, od2, .func (PySem.W.fnOf "_law_one_of" "_law_one_of" (defArgs s_l_one_of) (defBody s_l_one_of) (defScope s_l_one_of) .none kV2 dc2 pm2 an2 cd2 ct2), sl2⟩) (c2 : PySem.W.codeIn K cd2 "_law_one_of" = true) (k2 : PySem.W.keepIn K (.ref f2) = true)
    {f3 : Addr} {od3 an3 : Option Addr} {sl3 : Array (Option Value)} {oc3 kV3 dc3 pm3 cd3 ct3 : Value}
    (a3 : PySem.W.nsIn K mainGlobals "_law_number" = some (some (.ref f3))) (l3 : K.lookup f3 = some ⟨oc3, od3, .func (PySem.W.fnOf "_law_number" "_law_number" (defArgs s_l_number) (defBody s_l_number) (defScope s_l_number) .none kV3 dc3 pm3 an3 cd3 ct3), sl3⟩) (c3 : PySem.W.codeIn K cd3 "_law_number" = true) (k3 : PySem.W.keepIn K (.ref f3) = true)
    {f4 : Addr} {od4 an4 : Option Addr} {sl4 : Array (Option Value)} {oc4 kV4 dc4 pm4 cd4 ct4 : Value}
    (a4 : PySem.W.nsIn K mainGlobals "_law_built_in" = some (some (.ref f4))) (l4 : K.lookup f4 = some ⟨oc4, od4, .func (PySem.W.fnOf "_law_built_in" "_law_built_in" (defArgs s_l_built_in) (defBody s_l_built_in) (defScope s_l_built_in) .none kV4 dc4 pm4 an4 cd4 ct4), sl4⟩) (c4 : PySem.W.codeIn K cd4 "_law_built_in" = true) (k4 : PySem.W.keepIn K (.ref f4) = true)
    {f5 : Addr} {od5 an5 : Option Addr} {sl5 : Array (Option Value)} {oc5 kV5 dc5 pm5 cd5 ct5 : Value}
    (a5 : PySem.W.nsIn K mainGlobals "_law_of_messages" = some (some (.ref f5))) (l5 : K.lookup f5 = some ⟨oc5, od5, .func (PySem.W.fnOf "_law_of_messages" "_law_of_messages" (defArgs s_l_of_messages) (defBody s_l_of_messages) (defScope s_l_of_messages) .none kV5 dc5 pm5 an5 cd5 ct5), sl5⟩) (c5 : PySem.W.codeIn K cd5 "_law_of_messages" = true) (k5 : PySem.W.keepIn K (.ref f5) = true)
    {f6 : Addr} {od6 an6 : Option Addr} {sl6 : Array (Option Value)} {oc6 kV6 dc6 pm6 cd6 ct6 : Value}
    (a6 : PySem.W.nsIn K mainGlobals "_law_of_values" = some (some (.ref f6))) (l6 : K.lookup f6 = some ⟨oc6, od6, .func (PySem.W.fnOf "_law_of_values" "_law_of_values" (defArgs s_l_of_values) (defBody s_l_of_values) (defScope s_l_of_values) .none kV6 dc6 pm6 an6 cd6 ct6), sl6⟩) (c6 : PySem.W.codeIn K cd6 "_law_of_values" = true) (k6 : PySem.W.keepIn K (.ref f6) = true)
    {f7 : Addr} {od7 an7 : Option Addr} {sl7 : Array (Option Value)} {oc7 kV7 dc7 pm7 cd7 ct7 : Value}
    (a7 : PySem.W.nsIn K mainGlobals "_law_only" = some (some (.ref f7))) (l7 : K.lookup f7 = some ⟨oc7, od7, .func (PySem.W.fnOf "_law_only" "_law_only" (defArgs s_l_only) (defBody s_l_only) (defScope s_l_only) .none kV7 dc7 pm7 an7 cd7 ct7), sl7⟩) (c7 : PySem.W.codeIn K cd7 "_law_only" = true) (k7 : PySem.W.keepIn K (.ref f7) = true)
    {f8 : Addr} {od8 an8 : Option Addr} {sl8 : Array (Option Value)} {oc8 kV8 dc8 pm8 cd8 ct8 : Value}
    (a8 : PySem.W.nsIn K mainGlobals "_law_messages_right" = some (some (.ref f8))) (l8 : K.lookup f8 = some ⟨oc8, od8, .func (PySem.W.fnOf "_law_messages_right" "_law_messages_right" (defArgs s_l_messages_right) (defBody s_l_messages_right) (defScope s_l_messages_right) .none kV8 dc8 pm8 an8 cd8 ct8), sl8⟩) (c8 : PySem.W.codeIn K cd8 "_law_messages_right" = true) (k8 : PySem.W.keepIn K (.ref f8) = true)
    {f9 : Addr} {od9 an9 : Option Addr} {sl9 : Array (Option Value)} {oc9 kV9 dc9 pm9 cd9 ct9 : Value}
    (a9 : PySem.W.nsIn K mainGlobals "_law_values_right" = some (some (.ref f9))) (l9 : K.lookup f9 = some ⟨oc9, od9, .func (PySem.W.fnOf "_law_values_right" "_law_values_right" (defArgs s_l_values_right) (defBody s_l_values_right) (defScope s_l_values_right) .none kV9 dc9 pm9 an9 cd9 ct9), sl9⟩) (c9 : PySem.W.codeIn K cd9 "_law_values_right" = true) (k9 : PySem.W.keepIn K (.ref f9) = true)
    {f10 : Addr} {od10 an10 : Option Addr} {sl10 : Array (Option Value)} {oc10 kV10 dc10 pm10 cd10 ct10 : Value}
    (a10 : PySem.W.nsIn K mainGlobals "law" = some (some (.ref f10))) (l10 : K.lookup f10 = some ⟨oc10, od10, .func (PySem.W.fnOf "law" "law" (defArgs s_law) (defBody s_law) (defScope s_law) .none kV10 dc10 pm10 an10 cd10 ct10), sl10⟩) (c10 : PySem.W.codeIn K cd10 "law" = true) (k10 : PySem.W.keepIn K (.ref f10) = true)
    (z_len : PySem.W.nsIn K mainGlobals "len" = some none)
    (z_int : PySem.W.nsIn K mainGlobals "int" = some none)
    (z_abs : PySem.W.nsIn K mainGlobals "abs" = some none)
    (z_range : PySem.W.nsIn K mainGlobals "range" = some none)
    (z_isinstance : PySem.W.nsIn K mainGlobals "isinstance" = some none)
    (z_sum : PySem.W.nsIn K mainGlobals "sum" = some none)
    (z_zip : PySem.W.nsIn K mainGlobals "zip" = some none)
    (z_enumerate : PySem.W.nsIn K mainGlobals "enumerate" = some none)
    (z_repr : PySem.W.nsIn K mainGlobals "repr" = some none)
    (z_max : PySem.W.nsIn K mainGlobals "max" = some none)
    (z_min : PySem.W.nsIn K mainGlobals "min" = some none)
    (z_ValueError : PySem.W.nsIn K mainGlobals "ValueError" = some none)
    (z_IndexError : PySem.W.nsIn K mainGlobals "IndexError" = some none)
    (z_KeyError : PySem.W.nsIn K mainGlobals "KeyError" = some none)
    (z_LookupError : PySem.W.nsIn K mainGlobals "LookupError" = some none)
    (z_RuntimeError : PySem.W.nsIn K mainGlobals "RuntimeError" = some none)
    (z_ArithmeticError : PySem.W.nsIn K mainGlobals "ArithmeticError" = some none)
    (z_OverflowError : PySem.W.nsIn K mainGlobals "OverflowError" = some none)
    {C0 : Addr} (aC0 : PySem.W.nsIn K mainGlobals "FarError" = some (some (.ref C0)))
    {C1 : Addr} (aC1 : PySem.W.nsIn K mainGlobals "InvalidName" = some (some (.ref C1)))
    {C2 : Addr} (aC2 : PySem.W.nsIn K mainGlobals "InvalidTerm" = some (some (.ref C2)))
    {C3 : Addr} (aC3 : PySem.W.nsIn K mainGlobals "InvalidPackage" = some (some (.ref C3)))
    {C4 : Addr} (aC4 : PySem.W.nsIn K mainGlobals "InvalidManner" = some (some (.ref C4)))
    {C5 : Addr} (aC5 : PySem.W.nsIn K mainGlobals "InvalidOperation" = some (some (.ref C5)))
    {C6 : Addr} (aC6 : PySem.W.nsIn K mainGlobals "InvalidEdit" = some (some (.ref C6)))
    {C7 : Addr} (aC7 : PySem.W.nsIn K mainGlobals "ParseError" = some (some (.ref C7)))
    {C8 : Addr} (aC8 : PySem.W.nsIn K mainGlobals "InvalidCommand" = some (some (.ref C8)))
    {C9 : Addr} (aC9 : PySem.W.nsIn K mainGlobals "InvalidNumber" = some (some (.ref C9)))
    {C10 : Addr} (aC10 : PySem.W.nsIn K mainGlobals "UnknownName" = some (some (.ref C10)))
    {C11 : Addr} (aC11 : PySem.W.nsIn K mainGlobals "InvalidWorld" = some (some (.ref C11)))
    {C12 : Addr} (aC12 : PySem.W.nsIn K mainGlobals "Refused" = some (some (.ref C12)))
    {C13 : Addr} (aC13 : PySem.W.nsIn K mainGlobals "Harmful" = some (some (.ref C13)))
    {C14 : Addr} (aC14 : PySem.W.nsIn K mainGlobals "TooMany" = some (some (.ref C14)))
    {C15 : Addr} (aC15 : PySem.W.nsIn K mainGlobals "NothingToUndo" = some (some (.ref C15)))
    (tb : tabB K [C0, C1, C2, C3, C4, C5, C6, C7, C8, C9, C10, C11, C12, C13, C14, C15] = true) (exb : ((List.range 9).all fun i => PySem.W.excIn K ([C0, C1, C2, C3, C4, C5, C6, C7, C8, C9, C10, C11, C12, C13, C14, C15].getD i 0) [.type "ValueError", .type "Exception", .type "BaseException", .type "object"] "ValueError.__new__") = true) (kpb : ((List.range 16).all fun i => PySem.W.keepIn K (.ref ([C0, C1, C2, C3, C4, C5, C6, C7, C8, C9, C10, C11, C12, C13, C14, C15].getD i 0))) = true)
    {g9 : Addr} {gd9 gn9 : Option Addr} {gs9 : Array (Option Value)} {gc9 gk9 go9 gp9 ge9 gt9 : Value}
    (i9 : PySem.W.findIn K (.ref C9) "__init__" = some (some (.ref g9))) (li9 : K.lookup g9 = some ⟨gc9, gd9, .func (PySem.W.fnOf "__init__" "InvalidNumber.__init__" (defArgs s_InvalidNumber_init) (defBody s_InvalidNumber_init) (defScope s_InvalidNumber_init) .none gk9 go9 gp9 gn9 ge9 gt9), gs9⟩) (ci9 : PySem.W.codeIn K ge9 "InvalidNumber.__init__" = true) (ki9 : PySem.W.keepIn K (.ref g9) = true) (ti9 : PySem.W.typeIn K (.ref g9) = some (.type "function"))
    {nm9 q9 : Str} {N9 : Addr} {bs9 : List Value} {sn9 : List Str} {sub9 : List Value} {ab9 : Bool} {col9 : Option Bool} {dd9 : Option Addr} {m09 m19 m29 m39 m59 : Option Value}
    (xL9 : K.lookup C9 = some (excClassObj nm9 q9 C9 N9 bs9 [.type "IndexError", .type "LookupError", .type "Exception", .type "BaseException", .type "object"] true sn9 sub9 ab9 col9 dd9 m09 m19 m29 m39 m59 "IndexError.__new__")) (sa9 : PySem.W.findIn K (.ref C9) "__setattr__" = some (some (.builtin "object.__setattr__"))) (nf9 : PySem.W.findIn K (.ref C9) "value" = some none) (hd9 : PySem.W.hasDictIn K C9 = true)
    {g10 : Addr} {gd10 gn10 : Option Addr} {gs10 : Array (Option Value)} {gc10 gk10 go10 gp10 ge10 gt10 : Value}
    (i10 : PySem.W.findIn K (.ref C10) "__init__" = some (some (.ref g10))) (li10 : K.lookup g10 = some ⟨gc10, gd10, .func (PySem.W.fnOf "__init__" "UnknownName.__init__" (defArgs s_UnknownName_init) (defBody s_UnknownName_init) (defScope s_UnknownName_init) .none gk10 go10 gp10 gn10 ge10 gt10), gs10⟩) (ci10 : PySem.W.codeIn K ge10 "UnknownName.__init__" = true) (ki10 : PySem.W.keepIn K (.ref g10) = true) (ti10 : PySem.W.typeIn K (.ref g10) = some (.type "function"))
    {nm10 q10 : Str} {N10 : Addr} {bs10 : List Value} {sn10 : List Str} {sub10 : List Value} {ab10 : Bool} {col10 : Option Bool} {dd10 : Option Addr} {m010 m110 m210 m310 m510 : Option Value}
    (xL10 : K.lookup C10 = some (excClassObj nm10 q10 C10 N10 bs10 [.type "KeyError", .type "LookupError", .type "Exception", .type "BaseException", .type "object"] true sn10 sub10 ab10 col10 dd10 m010 m110 m210 m310 m510 "LookupError.__new__")) (sa10 : PySem.W.findIn K (.ref C10) "__setattr__" = some (some (.builtin "object.__setattr__"))) (nf10 : PySem.W.findIn K (.ref C10) "name" = some none) (hd10 : PySem.W.hasDictIn K C10 = true)
    {g11 : Addr} {gd11 gn11 : Option Addr} {gs11 : Array (Option Value)} {gc11 gk11 go11 gp11 ge11 gt11 : Value}
    (i11 : PySem.W.findIn K (.ref C11) "__init__" = some (some (.ref g11))) (li11 : K.lookup g11 = some ⟨gc11, gd11, .func (PySem.W.fnOf "__init__" "InvalidWorld.__init__" (defArgs s_InvalidWorld_init) (defBody s_InvalidWorld_init) (defScope s_InvalidWorld_init) .none gk11 go11 gp11 gn11 ge11 gt11), gs11⟩) (ci11 : PySem.W.codeIn K ge11 "InvalidWorld.__init__" = true) (ki11 : PySem.W.keepIn K (.ref g11) = true) (ti11 : PySem.W.typeIn K (.ref g11) = some (.type "function"))
    {nm11 q11 : Str} {N11 : Addr} {bs11 : List Value} {sn11 : List Str} {sub11 : List Value} {ab11 : Bool} {col11 : Option Bool} {dd11 : Option Addr} {m011 m111 m211 m311 m511 : Option Value}
    (xL11 : K.lookup C11 = some (excClassObj nm11 q11 C11 N11 bs11 [.type "RuntimeError", .type "Exception", .type "BaseException", .type "object"] true sn11 sub11 ab11 col11 dd11 m011 m111 m211 m311 m511 "RuntimeError.__new__")) (sa11 : PySem.W.findIn K (.ref C11) "__setattr__" = some (some (.builtin "object.__setattr__"))) (nf11 : PySem.W.findIn K (.ref C11) "fault" = some none) (hd11 : PySem.W.hasDictIn K C11 = true)
    {g12 : Addr} {gd12 gn12 : Option Addr} {gs12 : Array (Option Value)} {gc12 gk12 go12 gp12 ge12 gt12 : Value}
    (i12 : PySem.W.findIn K (.ref C12) "__init__" = some (some (.ref g12))) (li12 : K.lookup g12 = some ⟨gc12, gd12, .func (PySem.W.fnOf "__init__" "Refused.__init__" (defArgs s_Refused_init) (defBody s_Refused_init) (defScope s_Refused_init) .none gk12 go12 gp12 gn12 ge12 gt12), gs12⟩) (ci12 : PySem.W.codeIn K ge12 "Refused.__init__" = true) (ki12 : PySem.W.keepIn K (.ref g12) = true) (ti12 : PySem.W.typeIn K (.ref g12) = some (.type "function"))
    {nm12 q12 : Str} {N12 : Addr} {bs12 : List Value} {sn12 : List Str} {sub12 : List Value} {ab12 : Bool} {col12 : Option Bool} {dd12 : Option Addr} {m012 m112 m212 m312 m512 : Option Value}
    (xL12 : K.lookup C12 = some (excClassObj nm12 q12 C12 N12 bs12 [.type "ArithmeticError", .type "Exception", .type "BaseException", .type "object"] true sn12 sub12 ab12 col12 dd12 m012 m112 m212 m312 m512 "ArithmeticError.__new__")) (sa12 : PySem.W.findIn K (.ref C12) "__setattr__" = some (some (.builtin "object.__setattr__"))) (nf12 : PySem.W.findIn K (.ref C12) "refusal" = some none) (hd12 : PySem.W.hasDictIn K C12 = true)
    {g13 : Addr} {gd13 gn13 : Option Addr} {gs13 : Array (Option Value)} {gc13 gk13 go13 gp13 ge13 gt13 : Value}
    (i13 : PySem.W.findIn K (.ref C13) "__init__" = some (some (.ref g13))) (li13 : K.lookup g13 = some ⟨gc13, gd13, .func (PySem.W.fnOf "__init__" "Harmful.__init__" (defArgs s_Harmful_init) (defBody s_Harmful_init) (defScope s_Harmful_init) .none gk13 go13 gp13 gn13 ge13 gt13), gs13⟩) (ci13 : PySem.W.codeIn K ge13 "Harmful.__init__" = true) (ki13 : PySem.W.keepIn K (.ref g13) = true) (ti13 : PySem.W.typeIn K (.ref g13) = some (.type "function"))
    {nm13 q13 : Str} {N13 : Addr} {bs13 : List Value} {sn13 : List Str} {sub13 : List Value} {ab13 : Bool} {col13 : Option Bool} {dd13 : Option Addr} {m013 m113 m213 m313 m513 : Option Value}
    (xL13 : K.lookup C13 = some (excClassObj nm13 q13 C13 N13 bs13 [.type "Exception", .type "BaseException", .type "object"] true sn13 sub13 ab13 col13 dd13 m013 m113 m213 m313 m513 "Exception.__new__")) (sa13 : PySem.W.findIn K (.ref C13) "__setattr__" = some (some (.builtin "object.__setattr__"))) (nf13 : PySem.W.findIn K (.ref C13) "harm" = some none) (hd13 : PySem.W.hasDictIn K C13 = true)
    {g14 : Addr} {gd14 gn14 : Option Addr} {gs14 : Array (Option Value)} {gc14 gk14 go14 gp14 ge14 gt14 : Value}
    (i14 : PySem.W.findIn K (.ref C14) "__init__" = some (some (.ref g14))) (li14 : K.lookup g14 = some ⟨gc14, gd14, .func (PySem.W.fnOf "__init__" "TooMany.__init__" (defArgs s_TooMany_init) (defBody s_TooMany_init) (defScope s_TooMany_init) .none gk14 go14 gp14 gn14 ge14 gt14), gs14⟩) (ci14 : PySem.W.codeIn K ge14 "TooMany.__init__" = true) (ki14 : PySem.W.keepIn K (.ref g14) = true) (ti14 : PySem.W.typeIn K (.ref g14) = some (.type "function"))
    {nm14 q14 : Str} {N14 : Addr} {bs14 : List Value} {sn14 : List Str} {sub14 : List Value} {ab14 : Bool} {col14 : Option Bool} {dd14 : Option Addr} {m014 m114 m214 m314 m514 : Option Value}
    (xL14 : K.lookup C14 = some (excClassObj nm14 q14 C14 N14 bs14 [.type "OverflowError", .type "ArithmeticError", .type "Exception", .type "BaseException", .type "object"] true sn14 sub14 ab14 col14 dd14 m014 m114 m214 m314 m514 "OverflowError.__new__")) (sa14 : PySem.W.findIn K (.ref C14) "__setattr__" = some (some (.builtin "object.__setattr__"))) (nf14 : PySem.W.findIn K (.ref C14) "limit" = some none) (hd14 : PySem.W.hasDictIn K C14 = true)
    {g15 : Addr} {gd15 gn15 : Option Addr} {gs15 : Array (Option Value)} {gc15 gk15 go15 gp15 ge15 gt15 : Value}
    (i15 : PySem.W.findIn K (.ref C15) "__init__" = some (some (.ref g15))) (li15 : K.lookup g15 = some ⟨gc15, gd15, .func (PySem.W.fnOf "__init__" "NothingToUndo.__init__" (defArgs s_NothingToUndo_init) (defBody s_NothingToUndo_init) (defScope s_NothingToUndo_init) .none gk15 go15 gp15 gn15 ge15 gt15), gs15⟩) (ci15 : PySem.W.codeIn K ge15 "NothingToUndo.__init__" = true) (ki15 : PySem.W.keepIn K (.ref g15) = true) (ti15 : PySem.W.typeIn K (.ref g15) = some (.type "function"))
    {nm15 q15 : Str} {N15 : Addr} {bs15 : List Value} {sn15 : List Str} {sub15 : List Value} {ab15 : Bool} {col15 : Option Bool} {dd15 : Option Addr} {m015 m115 m215 m315 m515 : Option Value}
    (xL15 : K.lookup C15 = some (excClassObj nm15 q15 C15 N15 bs15 [.type "LookupError", .type "Exception", .type "BaseException", .type "object"] true sn15 sub15 ab15 col15 dd15 m015 m115 m215 m315 m515 "LookupError.__new__")) (sa15 : PySem.W.findIn K (.ref C15) "__setattr__" = some (some (.builtin "object.__setattr__"))) (nf15 : PySem.W.findIn K (.ref C15) "many" = some none) (hd15 : PySem.W.hasDictIn K C15 = true)
    : ∃ fd : FuncData, (∀ (s : Shared) (v : Value), BindsTo s fd ⟨[v], []⟩ [("_law_script", v)]) ∧ ∀ base : Heap, K.In base → base.Ns mainGlobals mg → FnG l.prog w K mg base CX0 5 fa fd ["_law_script"] (spLaw K) := by
  have e := hfa.symm.trans (PySem.W.mg_of X G a10)
  cases e
  have exs : ∀ i, i < 9 → PySem.W.excIn K ([C0, C1, C2, C3, C4, C5, C6, C7, C8, C9, C10, C11, C12, C13, C14, C15].getD i 0) [.type "ValueError", .type "Exception", .type "BaseException", .type "object"] "ValueError.__new__" = true := fun i hi => List.all_eq_true.mp exb i (List.mem_range.mpr hi)
  have kps : ∀ i, i < 16 → PySem.W.keepIn K (.ref ([C0, C1, C2, C3, C4, C5, C6, C7, C8, C9, C10, C11, C12, C13, C14, C15].getD i 0)) = true := fun i hi => List.all_eq_true.mp kpb i (List.mem_range.mpr hi)
  have F0 := fun_mk (st := s_l_dice) l0 c0 k0
  have F1 := fun_mk (st := s_l_roll) l1 c1 k1
  have F2 := fun_mk (st := s_l_one_of) l2 c2 k2
  have F3 := fun_mk (st := s_l_number) l3 c3 k3
  have F4 := fun_mk (st := s_l_built_in) l4 c4 k4
  have F5 := fun_mk (st := s_l_of_messages) l5 c5 k5
  have F6 := fun_mk (st := s_l_of_values) l6 c6 k6
  have F7 := fun_mk (st := s_l_only) l7 c7 k7
  have F8 := fun_mk (st := s_l_messages_right) l8 c8 k8
  have F9 := fun_mk (st := s_l_values_right) l9 c9 k9
  have F10 := fun_mk (st := s_law) l10 c10 k10
  have I9 := fun_mk (st := s_InvalidNumber_init) li9 ci9 ki9
  have I10 := fun_mk (st := s_UnknownName_init) li10 ci10 ki10
  have I11 := fun_mk (st := s_InvalidWorld_init) li11 ci11 ki11
  have I12 := fun_mk (st := s_Refused_init) li12 ci12 ki12
  have I13 := fun_mk (st := s_Harmful_init) li13 ci13 ki13
  have I14 := fun_mk (st := s_TooMany_init) li14 ci14 ki14
  have I15 := fun_mk (st := s_NothingToUndo_init) li15 ci15 ki15
  let ads : Ads := { C := fun i => [C0, C1, C2, C3, C4, C5, C6, C7, C8, C9, C10, C11, C12, C13, C14, C15].getD i 0, f_l_dice := f0, d_l_dice := PySem.W.fnOf "_law_dice" "_law_dice" (defArgs s_l_dice) (defBody s_l_dice) (defScope s_l_dice) .none kV0 dc0 pm0 an0 cd0 ct0, f_l_roll := f1, d_l_roll := PySem.W.fnOf "_law_roll" "_law_roll" (defArgs s_l_roll) (defBody s_l_roll) (defScope s_l_roll) .none kV1 dc1 pm1 an1 cd1 ct1, f_l_one_of := f2, d_l_one_of := PySem.W.fnOf "_law_one_of" "_law_one_of" (defArgs s_l_one_of) (defBody s_l_one_of) (defScope s_l_one_of) .none kV2 dc2 pm2 an2 cd2 ct2, f_l_number := f3, d_l_number := PySem.W.fnOf "_law_number" "_law_number" (defArgs s_l_number) (defBody s_l_number) (defScope s_l_number) .none kV3 dc3 pm3 an3 cd3 ct3, f_l_built_in := f4, d_l_built_in := PySem.W.fnOf "_law_built_in" "_law_built_in" (defArgs s_l_built_in) (defBody s_l_built_in) (defScope s_l_built_in) .none kV4 dc4 pm4 an4 cd4 ct4, f_l_of_messages := f5, d_l_of_messages := PySem.W.fnOf "_law_of_messages" "_law_of_messages" (defArgs s_l_of_messages) (defBody s_l_of_messages) (defScope s_l_of_messages) .none kV5 dc5 pm5 an5 cd5 ct5, f_l_of_values := f6, d_l_of_values := PySem.W.fnOf "_law_of_values" "_law_of_values" (defArgs s_l_of_values) (defBody s_l_of_values) (defScope s_l_of_values) .none kV6 dc6 pm6 an6 cd6 ct6, f_l_only := f7, d_l_only := PySem.W.fnOf "_law_only" "_law_only" (defArgs s_l_only) (defBody s_l_only) (defScope s_l_only) .none kV7 dc7 pm7 an7 cd7 ct7, f_l_messages_right := f8, d_l_messages_right := PySem.W.fnOf "_law_messages_right" "_law_messages_right" (defArgs s_l_messages_right) (defBody s_l_messages_right) (defScope s_l_messages_right) .none kV8 dc8 pm8 an8 cd8 ct8, f_l_values_right := f9, d_l_values_right := PySem.W.fnOf "_law_values_right" "_law_values_right" (defArgs s_l_values_right) (defBody s_l_values_right) (defScope s_l_values_right) .none kV9 dc9 pm9 an9 cd9 ct9, f_law := fa, d_law := PySem.W.fnOf "law" "law" (defArgs s_law) (defBody s_law) (defScope s_law) .none kV10 dc10 pm10 an10 cd10 ct10, fi_InvalidNumber := g9, di_InvalidNumber := PySem.W.fnOf "__init__" "InvalidNumber.__init__" (defArgs s_InvalidNumber_init) (defBody s_InvalidNumber_init) (defScope s_InvalidNumber_init) .none gk9 go9 gp9 gn9 ge9 gt9, fi_UnknownName := g10, di_UnknownName := PySem.W.fnOf "__init__" "UnknownName.__init__" (defArgs s_UnknownName_init) (defBody s_UnknownName_init) (defScope s_UnknownName_init) .none gk10 go10 gp10 gn10 ge10 gt10, fi_InvalidWorld := g11, di_InvalidWorld := PySem.W.fnOf "__init__" "InvalidWorld.__init__" (defArgs s_InvalidWorld_init) (defBody s_InvalidWorld_init) (defScope s_InvalidWorld_init) .none gk11 go11 gp11 gn11 ge11 gt11, fi_Refused := g12, di_Refused := PySem.W.fnOf "__init__" "Refused.__init__" (defArgs s_Refused_init) (defBody s_Refused_init) (defScope s_Refused_init) .none gk12 go12 gp12 gn12 ge12 gt12, fi_Harmful := g13, di_Harmful := PySem.W.fnOf "__init__" "Harmful.__init__" (defArgs s_Harmful_init) (defBody s_Harmful_init) (defScope s_Harmful_init) .none gk13 go13 gp13 gn13 ge13 gt13, fi_TooMany := g14, di_TooMany := PySem.W.fnOf "__init__" "TooMany.__init__" (defArgs s_TooMany_init) (defBody s_TooMany_init) (defScope s_TooMany_init) .none gk14 go14 gp14 gn14 ge14 gt14, fi_NothingToUndo := g15, di_NothingToUndo := PySem.W.fnOf "__init__" "NothingToUndo.__init__" (defArgs s_NothingToUndo_init) (defBody s_NothingToUndo_init) (defScope s_NothingToUndo_init) .none gk15 go15 gp15 gn15 ge15 gt15 }
  have T : Txt K mg ads := {
    tab := tabB_ok tb, ex := exs, kp := kps,
    F_l_dice := F0, g_l_dice := PySem.W.mg_of X G a0, b_l_dice := F0.binds (ps := ["_law_script", "_law_at"]) fun _ _ _ _ _ _ us hl => match us, hl with | [_, _], _ => rfl,
    F_l_roll := F1, g_l_roll := PySem.W.mg_of X G a1, b_l_roll := F1.binds (ps := ["_law_dice_here", "_law_upto"]) fun _ _ _ _ _ _ us hl => match us, hl with | [_, _], _ => rfl,
    F_l_one_of := F2, g_l_one_of := PySem.W.mg_of X G a2, b_l_one_of := F2.binds (ps := ["_law_dice_here", "_law_items"]) fun _ _ _ _ _ _ us hl => match us, hl with | [_, _], _ => rfl,
    F_l_number := F3, g_l_number := PySem.W.mg_of X G a3, b_l_number := F3.binds (ps := ["_law_dice_here"]) fun _ _ _ _ _ _ us hl => match us, hl with | [_], _ => rfl,
    F_l_built_in := F4, g_l_built_in := PySem.W.mg_of X G a4, b_l_built_in := F4.binds (ps := ["_law_e"]) fun _ _ _ _ _ _ us hl => match us, hl with | [_], _ => rfl,
    F_l_of_messages := F5, g_l_of_messages := PySem.W.mg_of X G a5, b_l_of_messages := F5.binds (ps := ["_law_e"]) fun _ _ _ _ _ _ us hl => match us, hl with | [_], _ => rfl,
    F_l_of_values := F6, g_l_of_values := PySem.W.mg_of X G a6, b_l_of_values := F6.binds (ps := ["_law_e"]) fun _ _ _ _ _ _ us hl => match us, hl with | [_], _ => rfl,
    F_l_only := F7, g_l_only := PySem.W.mg_of X G a7, b_l_only := F7.binds (ps := ["_law_many", "_law_at"]) fun _ _ _ _ _ _ us hl => match us, hl with | [_, _], _ => rfl,
    F_l_messages_right := F8, g_l_messages_right := PySem.W.mg_of X G a8, b_l_messages_right := F8.binds (ps := ["_law_words"]) fun _ _ _ _ _ _ us hl => match us, hl with | [_], _ => rfl,
    F_l_values_right := F9, g_l_values_right := PySem.W.mg_of X G a9, b_l_values_right := F9.binds (ps := ["_law_dice_here"]) fun _ _ _ _ _ _ us hl => match us, hl with | [_], _ => rfl,
    F_law := F10, g_law := PySem.W.mg_of X G a10, b_law := F10.binds (ps := ["_law_script"]) fun _ _ _ _ _ _ us hl => match us, hl with | [_], _ => rfl,
    n_len := PySem.W.mg_none_of X G z_len,
    n_int := PySem.W.mg_none_of X G z_int,
    n_abs := PySem.W.mg_none_of X G z_abs,
    n_range := PySem.W.mg_none_of X G z_range,
    n_isinstance := PySem.W.mg_none_of X G z_isinstance,
    n_sum := PySem.W.mg_none_of X G z_sum,
    n_zip := PySem.W.mg_none_of X G z_zip,
    n_enumerate := PySem.W.mg_none_of X G z_enumerate,
    n_repr := PySem.W.mg_none_of X G z_repr,
    n_max := PySem.W.mg_none_of X G z_max,
    n_min := PySem.W.mg_none_of X G z_min,
    n_ValueError := PySem.W.mg_none_of X G z_ValueError,
    n_IndexError := PySem.W.mg_none_of X G z_IndexError,
    n_KeyError := PySem.W.mg_none_of X G z_KeyError,
    n_LookupError := PySem.W.mg_none_of X G z_LookupError,
    n_RuntimeError := PySem.W.mg_none_of X G z_RuntimeError,
    n_ArithmeticError := PySem.W.mg_none_of X G z_ArithmeticError,
    n_OverflowError := PySem.W.mg_none_of X G z_OverflowError,
    g_FarError := PySem.W.mg_of X G aC0,
    g_InvalidName := PySem.W.mg_of X G aC1,
    g_InvalidTerm := PySem.W.mg_of X G aC2,
    g_InvalidPackage := PySem.W.mg_of X G aC3,
    g_InvalidManner := PySem.W.mg_of X G aC4,
    g_InvalidOperation := PySem.W.mg_of X G aC5,
    g_InvalidEdit := PySem.W.mg_of X G aC6,
    g_ParseError := PySem.W.mg_of X G aC7,
    g_InvalidCommand := PySem.W.mg_of X G aC8,
    g_InvalidNumber := PySem.W.mg_of X G aC9,
    g_UnknownName := PySem.W.mg_of X G aC10,
    g_InvalidWorld := PySem.W.mg_of X G aC11,
    g_Refused := PySem.W.mg_of X G aC12,
    g_Harmful := PySem.W.mg_of X G aC13,
    g_TooMany := PySem.W.mg_of X G aC14,
    g_NothingToUndo := PySem.W.mg_of X G aC15,
    I_InvalidNumber := I9, bi_InvalidNumber := I9.binds (ps := ["self", "value"]) fun _ _ _ _ _ _ us hl => match us, hl with | [_, _], _ => rfl,
    xi_InvalidNumber := ⟨PySem.F.excBase_IndexError, ⟨by decide +kernel, by decide +kernel, by decide +kernel⟩, PySem.F.store_IndexError.passes, by decide +kernel, ⟨_, _, _, _, _, _, _, _, _, _, _, _, _, _, xL9⟩, sa9, kps 9 (by decide)⟩,
    ii_InvalidNumber := i9, ti_InvalidNumber := ti9, nf_InvalidNumber := nf9, hd_InvalidNumber := hd9,
    I_UnknownName := I10, bi_UnknownName := I10.binds (ps := ["self", "name"]) fun _ _ _ _ _ _ us hl => match us, hl with | [_, _], _ => rfl,
    xi_UnknownName := ⟨PySem.F.excBase_LookupError, ⟨by decide +kernel, by decide +kernel, by decide +kernel⟩, key_pass, by decide +kernel, ⟨_, _, _, _, _, _, _, _, _, _, _, _, _, _, xL10⟩, sa10, kps 10 (by decide)⟩,
    ii_UnknownName := i10, ti_UnknownName := ti10, nf_UnknownName := nf10, hd_UnknownName := hd10,
    I_InvalidWorld := I11, bi_InvalidWorld := I11.binds (ps := ["self", "fault"]) fun _ _ _ _ _ _ us hl => match us, hl with | [_, _], _ => rfl,
    xi_InvalidWorld := ⟨PySem.F.excBase_RuntimeError, ⟨by decide +kernel, by decide +kernel, by decide +kernel⟩, PySem.F.store_RuntimeError.passes, by decide +kernel, ⟨_, _, _, _, _, _, _, _, _, _, _, _, _, _, xL11⟩, sa11, kps 11 (by decide)⟩,
    ii_InvalidWorld := i11, ti_InvalidWorld := ti11, nf_InvalidWorld := nf11, hd_InvalidWorld := hd11,
    I_Refused := I12, bi_Refused := I12.binds (ps := ["self", "refusal"]) fun _ _ _ _ _ _ us hl => match us, hl with | [_, _], _ => rfl,
    xi_Refused := ⟨PySem.F.excBase_ArithmeticError, ⟨by decide +kernel, by decide +kernel, by decide +kernel⟩, PySem.F.store_ArithmeticError.passes, by decide +kernel, ⟨_, _, _, _, _, _, _, _, _, _, _, _, _, _, xL12⟩, sa12, kps 12 (by decide)⟩,
    ii_Refused := i12, ti_Refused := ti12, nf_Refused := nf12, hd_Refused := hd12,
    I_Harmful := I13, bi_Harmful := I13.binds (ps := ["self", "harm"]) fun _ _ _ _ _ _ us hl => match us, hl with | [_, _], _ => rfl,
    xi_Harmful := ⟨PySem.F.excBase_Exception, ⟨by decide +kernel, by decide +kernel, by decide +kernel⟩, exc_pass, by decide +kernel, ⟨_, _, _, _, _, _, _, _, _, _, _, _, _, _, xL13⟩, sa13, kps 13 (by decide)⟩,
    ii_Harmful := i13, ti_Harmful := ti13, nf_Harmful := nf13, hd_Harmful := hd13,
    I_TooMany := I14, bi_TooMany := I14.binds (ps := ["self", "limit"]) fun _ _ _ _ _ _ us hl => match us, hl with | [_, _], _ => rfl,
    xi_TooMany := ⟨PySem.F.excBase_OverflowError, ⟨by decide +kernel, by decide +kernel, by decide +kernel⟩, PySem.F.store_OverflowError.passes, by decide +kernel, ⟨_, _, _, _, _, _, _, _, _, _, _, _, _, _, xL14⟩, sa14, kps 14 (by decide)⟩,
    ii_TooMany := i14, ti_TooMany := ti14, nf_TooMany := nf14, hd_TooMany := hd14,
    I_NothingToUndo := I15, bi_NothingToUndo := I15.binds (ps := ["self", "many"]) fun _ _ _ _ _ _ us hl => match us, hl with | [_, _], _ => rfl,
    xi_NothingToUndo := ⟨PySem.F.excBase_LookupError, ⟨by decide +kernel, by decide +kernel, by decide +kernel⟩, PySem.F.store_LookupError.passes, by decide +kernel, ⟨_, _, _, _, _, _, _, _, _, _, _, _, _, _, xL15⟩, sa15, kps 15 (by decide)⟩,
    ii_NothingToUndo := i15, ti_NothingToUndo := ti15, nf_NothingToUndo := nf15, hd_NothingToUndo := hd15 }
  exact ⟨ads.d_law, fun s v => .of_eq rfl, fun base _ _ => ok_law (k := 0) T⟩
end K00
open PySem PySem.W PyProof.Rows
set_option maxRecDepth 100000 in
set_option maxHeartbeats 0 in
theorem PySem.Challenge.cw_farrules_k00_errors_holds : PySem.Challenge.rw_farrules_k00_errors.Holds := by
  w_on; o_law; k_head; (case hw => w_witness2)
  k_fill
  refine Far.walk_ofG (l := PySem.Challenge.rw_farrules_k00_errors) (n := 63) (k := 5) (x := "_law_script") (sp := K00.spLaw) rfl (by decide) rfl ⟨rfl, by decide, by decide⟩ (fun w h Y => PySem.W.kIn_of Y) ?F (fun K H p ns hl hO hS => ⟨p, ns, rfl, hl, fun H' t => K00.only_tp hO hS t, fun _ => rfl⟩)
  case F =>
    intro w mg fa h KX G hmg
    refine' K00.all_mk KX G hmg ?a0 ?l0 ?c0 ?k0 ?a1 ?l1 ?c1 ?k1 ?a2 ?l2 ?c2 ?k2 ?a3 ?l3 ?c3 ?k3 ?a4 ?l4 ?c4 ?k4 ?a5 ?l5 ?c5 ?k5 ?a6 ?l6 ?c6 ?k6 ?a7 ?l7 ?c7 ?k7 ?a8 ?l8 ?c8 ?k8 ?a9 ?l9 ?c9 ?k9 ?a10 ?l10 ?c10 ?k10 ?z_len ?z_int ?z_abs ?z_range ?z_isinstance ?z_sum ?z_zip ?z_enumerate ?z_repr ?z_max ?z_min ?z_ValueError ?z_IndexError ?z_KeyError ?z_LookupError ?z_RuntimeError ?z_ArithmeticError ?z_OverflowError ?aC0 ?aC1 ?aC2 ?aC3 ?aC4 ?aC5 ?aC6 ?aC7 ?aC8 ?aC9 ?aC10 ?aC11 ?aC12 ?aC13 ?aC14 ?aC15 ?tb ?exb ?kpb ?i9 ?li9 ?ci9 ?ki9 ?ti9 ?xL9 ?sa9 ?nf9 ?hd9 ?i10 ?li10 ?ci10 ?ki10 ?ti10 ?xL10 ?sa10 ?nf10 ?hd10 ?i11 ?li11 ?ci11 ?ki11 ?ti11 ?xL11 ?sa11 ?nf11 ?hd11 ?i12 ?li12 ?ci12 ?ki12 ?ti12 ?xL12 ?sa12 ?nf12 ?hd12 ?i13 ?li13 ?ci13 ?ki13 ?ti13 ?xL13 ?sa13 ?nf13 ?hd13 ?i14 ?li14 ?ci14 ?ki14 ?ti14 ?xL14 ?sa14 ?nf14 ?hd14 ?i15 ?li15 ?ci15 ?ki15 ?ti15 ?xL15 ?sa15 ?nf15 ?hd15
    (case aC0 => k_is)
    (case aC1 => k_is)
    (case aC2 => k_is)
    (case aC3 => k_is)
    (case aC4 => k_is)
    (case aC5 => k_is)
    (case aC6 => k_is)
    (case aC7 => k_is)
    (case aC8 => k_is)
    (case aC9 => k_is)
    (case aC10 => k_is)
    (case aC11 => k_is)
    (case aC12 => k_is)
    (case aC13 => k_is)
    (case aC14 => k_is)
    (case aC15 => k_is)
    (case a0 => k_is)
    (case l0 => k_is)
    (case c0 => k_is)
    (case k0 => k_is)
    (case a1 => k_is)
    (case l1 => k_is)
    (case c1 => k_is)
    (case k1 => k_is)
    (case a2 => k_is)
    (case l2 => k_is)
    (case c2 => k_is)
    (case k2 => k_is)
    (case a3 => k_is)
    (case l3 => k_is)
    (case c3 => k_is)
    (case k3 => k_is)
    (case a4 => k_is)
    (case l4 => k_is)
    (case c4 => k_is)
    (case k4 => k_is)
    (case a5 => k_is)
    (case l5 => k_is)
    (case c5 => k_is)
    (case k5 => k_is)
    (case a6 => k_is)
    (case l6 => k_is)
    (case c6 => k_is)
    (case k6 => k_is)
    (case a7 => k_is)
    (case l7 => k_is)
    (case c7 => k_is)
    (case k7 => k_is)
    (case a8 => k_is)
    (case l8 => k_is)
    (case c8 => k_is)
    (case k8 => k_is)
    (case a9 => k_is)
    (case l9 => k_is)
    (case c9 => k_is)
    (case k9 => k_is)
    (case a10 => k_is)
    (case l10 => k_is)
    (case c10 => k_is)
    (case k10 => k_is)
    (case z_len => k_is)
    (case z_int => k_is)
    (case z_abs => k_is)
    (case z_range => k_is)
    (case z_isinstance => k_is)
    (case z_sum => k_is)
    (case z_zip => k_is)
    (case z_enumerate => k_is)
    (case z_repr => k_is)
    (case z_max => k_is)
    (case z_min => k_is)
    (case z_ValueError => k_is)
    (case z_IndexError => k_is)
    (case z_KeyError => k_is)
    (case z_LookupError => k_is)
    (case z_RuntimeError => k_is)
    (case z_ArithmeticError => k_is)
    (case z_OverflowError => k_is)
    (case i9 => k_is)
    (case li9 => k_is)
    (case ci9 => k_is)
    (case ki9 => k_is)
    (case ti9 => k_is)
    (case xL9 => k_is)
    (case sa9 => k_is)
    (case nf9 => k_is)
    (case hd9 => k_is)
    (case i10 => k_is)
    (case li10 => k_is)
    (case ci10 => k_is)
    (case ki10 => k_is)
    (case ti10 => k_is)
    (case xL10 => k_is)
    (case sa10 => k_is)
    (case nf10 => k_is)
    (case hd10 => k_is)
    (case i11 => k_is)
    (case li11 => k_is)
    (case ci11 => k_is)
    (case ki11 => k_is)
    (case ti11 => k_is)
    (case xL11 => k_is)
    (case sa11 => k_is)
    (case nf11 => k_is)
    (case hd11 => k_is)
    (case i12 => k_is)
    (case li12 => k_is)
    (case ci12 => k_is)
    (case ki12 => k_is)
    (case ti12 => k_is)
    (case xL12 => k_is)
    (case sa12 => k_is)
    (case nf12 => k_is)
    (case hd12 => k_is)
    (case i13 => k_is)
    (case li13 => k_is)
    (case ci13 => k_is)
    (case ki13 => k_is)
    (case ti13 => k_is)
    (case xL13 => k_is)
    (case sa13 => k_is)
    (case nf13 => k_is)
    (case hd13 => k_is)
    (case i14 => k_is)
    (case li14 => k_is)
    (case ci14 => k_is)
    (case ki14 => k_is)
    (case ti14 => k_is)
    (case xL14 => k_is)
    (case sa14 => k_is)
    (case nf14 => k_is)
    (case hd14 => k_is)
    (case i15 => k_is)
    (case li15 => k_is)
    (case ci15 => k_is)
    (case ki15 => k_is)
    (case ti15 => k_is)
    (case xL15 => k_is)
    (case sa15 => k_is)
    (case nf15 => k_is)
    (case hd15 => k_is)
    (case tb => kernel_rfl)
    (case exb => kernel_rfl)
    (case kpb => kernel_rfl)
#print axioms PySem.Challenge.cw_farrules_k00_errors_holds

