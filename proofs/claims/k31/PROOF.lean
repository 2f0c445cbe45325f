import PyProof.Rows.All
import Wide.All
import OpenK.AllK
import Wide.FinOn
import KE.KStateDown
import HandS.ForMost
import HandS.Evl
import HandS.Star
import HandS.IsInst
import HandS.Defaults
import HandS.Flow
import HandS.TupAny
import HandS.Style
import HandS.FStr
import HandS.More
import HandS.Small
import HandS.Head0
import HandS.Head1
import HandS.Head2
import HandS.HeadEnd
import HandS.HeadHook1
import HandS.HeadHook2
import PyProof.ReprRoads
import KE.GoesEnum
import HandS.Walk
import HandS.Iter
import PyProof.TupleOfSeq
import PyProof.Rows.StrMeet
import HandS.MakeKwOnly
import HandS.MakeKw
import PyProof.ReprNest
import PyProof.ReprDict
import PyProof.ReprUnder
import HandS.OwnEq
import KE.KEqDict
import HandS.HeadNt
import HandS.Property
import PySem.Challenge.RW_lateledger_k31_orders_and_rounds_told
import HandS.DictComp
import HandS.SetFor
import HandS.SetTxt0
import PyProof.StrLawsRepr
import HandS.ListItems
import HandS.Finally
import HandS.Sort
import PyProof.EqKinds
import PyProof.FactsAll.dict
import PyProof.FactsAll.dict_2
set_option Elab.async false
set_option linter.all false
set_option maxRecDepth 100000
set_option maxHeartbeats 4000000
/-! G0: defs that run where no repr is under way (guards known): promise, body, call, the law's end. -/
namespace Gd
open PySem PySem.Spec PyProof.Rows L2

/-- a promise kept wherever no guard of a repr is up -/
structure FnG (P : Program) (w : World) (K : PySem.W.Frag) (mg : Str → Option Value) (base : Heap) (k : Nat) (f : Addr) (fd : FuncData) (ps : List Str) (sp : Sp) : Prop where
  arity : ∀ vs H Q E, sp vs H Q E → vs.length = ps.length
  go : ∀ (A : Around) (out : List Env) (s : Shared) (H : Hp) (ar : Args) (us : List Value) (vs : List V) (Q : VK) (E : XK),
    A.guards = some [] → Room k A → Env0 P w K mg base A out s H → BindsTo s fd ar (ps.zip us) → Vals vs us → sp vs H Q E →
    codeAny (model P w) A (.call (.ref f) ar) (CR CX0 out P w H s Q E) s

theorem FnG.of {P : Program} {w : World} {K : PySem.W.Frag} {mg : Str → Option Value} {base : Heap} {k : Nat} {f : Addr} {fd : FuncData} {ps : List Str} {sp : Sp}
    (F : FnOk P w K mg base CX0 k f fd ps sp) : FnG P w K mg base k f fd ps sp :=
  ⟨F.len, fun A out s H ar us vs Q E _ => F.run A out s H ar us vs Q E⟩

/-- a def's body, around one A -/
theorem FnG.mk_core {P : Program} {w : World} {K : PySem.W.Frag} {mg : Str → Option Value} {base : Heap} {k : Nat} {f : Addr} {nm q : Str} {pr : Arguments} {bd : List Stmt} {sc : Scope}
    {dvs : List V} {kws : List (Str × V)} {fd : FuncData} {N ps : List Str} {sp : Sp} {A : Around}
    (D : FunD K nm q pr bd sc dvs kws f fd) (S : FnScope N ps sc) (ar : ∀ vs H Q E, sp vs H Q E → vs.length = ps.length) (out : List Env)
    (hb : ∀ (cdv : Value) (s : Shared) (H : Hp) (vs : List V) (Q : VK) (E : XK), Room k (A.deeper (envOfC q sc s.heap.objs.size f cdv)) → sp vs H Q E →
      ∃ t, PSs (cxOf CX0 P w K mg base N q sc f cdv A out s H E) bd t ∧ t { nx := fun _ H' => Q .non H', rt := Q } (start N vs) H) :
    ∀ (s : Shared) (H : Hp) (args : Args) (us : List Value) (vs : List V) (Q : VK) (E : XK), Room (k + 1) A → Env0 P w K mg base A out s H → BindsTo s fd args (ps.zip us) → Vals vs us → sp vs H Q E →
      codeAny (model P w) A (.call (.ref f) args) (CR CX0 out P w H s Q E) s := by
  obtain ⟨oc, od, dV, kV, doc, pm, an, cdv, ct, osl, rfl, lk, hcd, _, _⟩ := D.ex
  intro s H args us vs Q E hr e0 bt rv hs
  have old : ∀ b o, base.get? b = some o → s.heap.get? b = some o := fun b o z => (e0.bs b o z).1
  have KI := e0.mod.kin.keeps old
  have par : ∀ y ∈ ps.zip us, sc.names.lookup y.1 = some .local ∨
      (sc.names.lookup y.1 = some .cell ∧ ((cellsFrom (s.heap.objs.size + 1) sc.names []).lookup y.1).isSome = true) := by
    rintro ⟨n, v⟩ hy
    have hm := S.par n (List.of_mem_zip hy).1
    exact hm.imp id fun c => ⟨c, PySem.W.cellsFrom_some _ _ _ (.inl c)⟩
  refine codeAny_call_function hr.depth (KI _ _ lk) rfl S.co S.gen rfl (PySem.W.codeRec_of KI hcd) (bt _ _ _ _ ?_)
  refine wpAny_newFunctionEnv_cells S.kind par fun env he s1 st => ?_
  subst he
  refine ⟨(e0.mod.nolimit.keeps old).keeps st.toInCall.keep, codeAny_func ?_⟩
  obtain ⟨t, ht, hq⟩ := hb cdv s H vs Q E (hr.deeper _) hs
  have J0 := inv_start (CX := CX0) (E := E) S hr.hd e0 (ar _ _ _ _ hs) rv st
  refine wpAny_mono (ht.run [] s1 _ H _ J0 hq) (fun fl s' z => ?_) (fun _ _ z => z)
  match fl, z with
  | .ret u, ⟨v, _, H', J, r, y⟩ => exact ⟨v, H', J.os, J.bare, J.base, J.hok, r, y⟩
  | .next, ⟨_, H', J, y⟩ => exact ⟨.non, H', J.os, J.bare, J.base, J.hok, rfl, y⟩
  | .brk, ⟨_, _, _, y⟩ => exact y.elim
  | .cont, ⟨_, _, _, y⟩ => exact y.elim

/-- the rule for a def's body under known guards -/
theorem FnG.mk_of {P : Program} {w : World} {K : PySem.W.Frag} {mg : Str → Option Value} {base : Heap} {k : Nat} {f : Addr} {nm q : Str} {pr : Arguments} {bd : List Stmt} {sc : Scope}
    {dvs : List V} {kws : List (Str × V)} {fd : FuncData} {N ps : List Str} {sp : Sp}
    (D : FunD K nm q pr bd sc dvs kws f fd) (S : FnScope N ps sc) (ar : ∀ vs H Q E, sp vs H Q E → vs.length = ps.length)
    (hb : ∀ (cdv : Value) (A : Around) (out : List Env) (s : Shared) (H : Hp) (vs : List V) (Q : VK) (E : XK),
      A.guards = some [] → Room k (A.deeper (envOfC q sc s.heap.objs.size f cdv)) → sp vs H Q E →
      ∃ t, PSs (cxOf CX0 P w K mg base N q sc f cdv A out s H E) bd t ∧ t { nx := fun _ H' => Q .non H', rt := Q } (start N vs) H) :
    FnG P w K mg base (k + 1) f fd ps sp :=
  ⟨ar, fun A out s H args us vs Q E gu => FnG.mk_core D S ar out (fun cdv s' H' vs' Q' E' => hb cdv A out s' H' vs' Q' E' gu) s H args us vs Q E⟩

section
variable {X : Cx} {k : Nat} {f : Addr} {fd : FuncData} {ps : List Str} {sp : Sp} {dvs : List V} {ds : List Value}
/-- a call of such a def, around another A -/
theorem FnG.callAt {A : Around} (F : FnG X.prog X.w X.K X.mg X.base k f fd ps sp) (fr : A.frames = X.A.frames) (gu : A.guards = some []) (hr : Room k A) (bi : Binds X.K fd ps ds) (hd : Vals dvs ds)
    {pins : List (Addr × Obj)} {σ : L2.St} {H : Hp} {s : Shared} {Q : VK} {us : List Value} {vs : List V} (I : Inv X pins σ H s) (r : Vals vs us) (h : sp (vs ++ dvs) H Q E0) :
    wpAny (model X.prog X.w) A (call (.ref f) us) (EP X pins σ Q) X.xe s := by
  have r2 := r.append hd
  have hl := F.arity _ _ _ _ h
  rw [r2.length] at hl
  have e := I.env0
  have e0 : Env0 X.prog X.w X.K X.mg X.base A X.stack s H := ⟨fr.trans e.frames, e.mod, e.bs, e.bsz, e.funs, e.frf, e.hok, e.bare⟩
  refine wpAny_call (codeAny_mono (F.go A X.stack s H ⟨us, []⟩ _ _ Q E0 gu hr e0 (bi s us I.kIn hl) r2 h) ?_)
  intro res s' z
  match res, z with
  | .ok (.ret u), z => exact I.after z
  | .ok .next, z => exact False.elim z
  | .ok .brk, z => exact False.elim z
  | .ok .cont, z => exact False.elim z
  | .error e, z => exact False.elim z
/-- f(e, ..) where no guard is up -/
theorem pe_callG {x : Str} {p pos : Pos} {e : Expr} {es : List Expr} {t : TA} (F : FnG X.prog X.w X.K X.mg X.base k f fd ps sp) (gu : X.A.guards = some []) (hr : Room k X.A) (hg : Gl X x) (hm : X.mg x = some (.ref f)) (hk : PySem.W.keepIn X.K (.ref f) = true)
    (bi : Binds X.K fd ps ds) (hd : Vals dvs ds) (ha : PA X (e :: es) t) (hdb : (x == ("__debug__" : Str)) = false := by decide)
    (he : starEach (e :: es) X.env = (false, eval e X.env) :: starEach es X.env := by rfl) (hpl : (backTo pos (starEach es X.env)).any (·.1) = false := by rfl) :
    PE X (.Call (.Name x p) (e :: es) [] pos) (tCall sp dvs E0 t) := by
  constructor
  intro pins s σ H Q I h
  refine wpAny_Call_Name_kw (ld_glob I hg hm (PySem.W.callWith_K (h₀ := X.base) I.ok.mod.kin hk ?_ he hpl) hdb)
  refine thn (ha.run pos pins s σ H _ I h) ?_
  rintro us s1 ⟨vs, H1, I1, r, z⟩
  exact ⟨I1.kIn, F.callAt rfl gu hr bi hd I1 r z⟩
end

/-! ### a head by facts, with one Bool of one's own -/
abbrev AlE : Type := He.AlD × Bool
def obsE (n : Nat) (fa : List He.Fa) (fn : List He.DefD) (ex : PySem.W.Frag → Bool) (g : Addr → Option Obj) : AlE :=
  (He.obsD fa fn (He.frG g (He.asD g n)), ex (He.frG g (He.asD g n)))
def SaysE (fa : List He.Fa) (fn : List He.DefD) (ex : PySem.W.Frag → Bool) (K : PySem.W.Frag) : Prop := He.SaysD fa fn K ∧ ex K = true
def hookE (n : Nat) (fa : List He.Fa) (fn : List He.DefD) (ex : PySem.W.Frag → Bool) : PySem.W.Hook where
  α := AlE
  obs := fun s => obsE n fa fn ex s.heap.get?
  val := fun _ => (He.valD fn, true)
  says := fun _ h => ∃ K : PySem.W.Frag, K.In h ∧ SaysE fa fn ex K
  of := fun _ _ e => ⟨_, He.frG_in, congrArg (fun z : AlE => z.1) e, congrArg (fun z : AlE => z.2) e⟩
  keeps := fun _ _ _ ⟨K, hK, c⟩ k => ⟨K, hK.keeps k, c⟩
theorem obsE_eq {n : Nat} {fa : List He.Fa} {fn : List He.DefD} {ex : PySem.W.Frag → Bool} {g : Addr → Option Obj} {s : Shared} (h : ∀ a, g a = s.heap.get? a) :
    obsE n fa fn ex g = (hookE n fa fn ex).obs s := by
  have e : g = s.heap.get? := funext h
  rw [e]; rfl
/-- at a stands a tuple of these -/
def tupAt (K : PySem.W.Frag) (a : Addr) (vs : List He.Dv) : Bool := match K.lookup a with
  | some ⟨.type c, _, .seq its _, _⟩ => decide (c = "tuple") && (decide (its.size ≤ sizeLine) && He.relAll (vs.map (He.Dv.v K)) its.toList)
  | _ => false
theorem tupAt_ok {K : PySem.W.Frag} {a : Addr} {vs : List He.Dv} (h : tupAt K a vs = true) (H : Hp) : SqT K H a (vs.map (He.Dv.v K)) := by
  unfold tupAt at h
  split at h
  · rename_i c d its n sl q
    simp only [Bool.and_eq_true, decide_eq_true_eq] at h
    exact .inr ⟨_, its, n, q, congrArg Value.type h.1, rfl, h.2.1, He.relAll_ok h.2.2⟩
  · cases h
end Gd

set_option Elab.async false
set_option linter.all false
set_option maxRecDepth 100000
set_option maxHeartbeats 4000000
/-! G2: repr of data and of own instances, ==, !=, +, len by own methods. -/
namespace Gd
open PySem PySem.Spec PyProof.Rows L2
open PySem.W (findIn isFn notFirst subIn selfFirst)

/-! ### data hold no dicts -/
mutual
theorem dp_noDict {K : PySem.W.Frag} {H : Hp} : ∀ (d : PyData) (v : V), Dp K H v d → d.hasDict = false
  | .none, _, _ => by simp [PyData.hasDict]
  | .bool _, _, _ => by simp [PyData.hasDict]
  | .int _, _, _ => by simp [PyData.hasDict]
  | .str _, _, _ => by simp [PyData.hasDict]
  | .list ds, _, h => by
    cases h with
    | lst _ a => simp only [PyData.hasDict]; exact dp_noDictAll ds _ a
  | .tuple ds, _, h => by
    cases h with
    | tup _ a => simp only [PyData.hasDict]; exact dp_noDictAll ds _ a
  | .dict _, _, h => by cases h
theorem dp_noDictAll {K : PySem.W.Frag} {H : Hp} : ∀ (ds : List PyData) (vs : List V), DpAll K H vs ds → PyData.hasDictAll ds = false
  | [], _, _ => by simp [PyData.hasDictAll]
  | d :: ds, _, h => by
    cases h with
    | cons h1 h2 => simp only [PyData.hasDictAll, dp_noDict d _ h1, dp_noDictAll ds _ h2, Bool.or_false]
end

/-- what may be shown: its text fits, its depth is small -/
structure Shows (d : PyData) : Prop where
  sh : d.showable = true
  dep : d.depth ≤ 50
  len : d.shown.length ≤ 1000000

section
variable {X : Cx}
theorem line_big : (1000000 : Nat) ≤ sizeLine := by rw [sizeLine_eq]; decide
/-- repr(x), x a list or a tuple of data -/
def rReprD (K : PySem.W.Frag) : List V → Hp → VK → Prop := fun xs H Q => ∃ a d, xs = [.ref a] ∧ Dp K H (.ref a) d ∧ Shows d ∧ Q (.str d.shown) H
theorem call_repr_d (gu : X.A.guards = some []) (hu : X.A.units + 64 < cLine) : CallR X (.builtin "repr") (rReprD X.K) := by
  intro pins s σ H xs us Q I r h
  obtain ⟨a, d, rfl, hd, hs, q⟩ := h
  rw [Vals.ref1 r]
  obtain ⟨as, rd⟩ := Dp.reads I d _ (.ref a) hd rfl
  refine repr_of_reads' rd hs.sh (fun z => by rw [dp_noDict d _ hd] at z; cases z) gu (by have := hs.dep; omega) (fun _ _ e => e) (fun h' u tk k => ?_) (Nat.le_trans hs.len line_big)
  exact ⟨.str d.shown, H, I.kept k, ⟨_, rfl⟩, q⟩
/-- {x!r}, x a list or a tuple of data -/
def tFmtD (K : PySem.W.Frag) (te : TE) : TE := fun σ H Q => te σ H fun x H1 => ∃ a d, x = .ref a ∧ Dp K H1 (.ref a) d ∧ Shows d ∧ Q (.str d.shown) H1
theorem pe_fmtD {e : Expr} {te : TE} {pos : Pos} (gu : X.A.guards = some []) (hu : X.A.units + 64 < cLine) (he : PE X e te) : PE X (.FormattedValue e 114 none pos) (tFmtD X.K te) := by
  constructor
  intro pins s σ H Q I h
  refine wpAny_FormattedValue_repr (thn (he.run pins s σ H _ I h) ?_)
  rintro v s1 ⟨x, H1, I1, r1, a, d, rfl, hd, hs, q⟩
  have e1 : v = Value.ref a := r1
  subst e1
  obtain ⟨as, rd⟩ := Dp.reads I1 d _ (.ref a) hd rfl
  have hz := Nat.le_trans hs.len line_big
  refine pyReprObj_of_reads rd hs.sh (fun z => by rw [dp_noDict d _ hd] at z; cases z) gu (by have := hs.dep; omega) (fun _ _ e => e) (fun h' u tk k => ?_) hz
  have I2 := I1.kept (t' := tk) k
  exact wpAny_formatField_str ⟨.str d.shown, H1, I2.tok _, ⟨_, rfl⟩, q⟩ ⟨.str d.shown, H1, I2.tok _, ⟨_, rfl⟩, q⟩ hz

section
variable {C f : Addr} {fd : FuncData} {ps : List Str} {sp : Sp} {k : Nat}
/-- repr(x), x an instance whose class has a __repr__ -/
def rReprO (C : Addr) (sp : Sp) : List V → Hp → VK → Prop := fun xs H Q => ∃ a dx fs, xs = [.ref a] ∧ H a = some (.ins C dx fs) ∧ sp [.ref a] H (fun v H' => ∃ t, v = .str t ∧ Q (.str t) H') E0
theorem call_repr_o (gu : X.A.guards = some []) (F : FnG X.prog X.w X.K X.mg X.base k f fd ps sp) (hr : Room (k + 1) X.A) (bi : Binds X.K fd ps [])
    (hs : findIn X.K (.ref C) "__repr__" = some (some (.ref f))) (hf : isFn X.K (.ref f) = true) : CallR X (.builtin "repr") (rReprO C sp) := by
  intro pins s σ H xs us Q I r h
  obtain ⟨a, dx, fs, rfl, ha, q⟩ := h
  rw [Vals.ref1 r]
  obtain ⟨mA, J, _⟩ := ins_get I.hok ha
  obtain ⟨od, J, _⟩ := J.look
  obtain ⟨m, hF⟩ := I.fr
  refine PySem.W.repr_K (Room.in1 hr).units0 hF I.ok.mod.kin J hs hf ?_
  refine thn (F.callAt (A := X.A.in1) (ds := []) rfl gu (Room.in1 hr) bi .nil I (show Vals [V.ref a] [Value.ref a] from .cons rfl .nil) (by rw [List.append_nil]; exact q)) ?_
  rintro u s' ⟨v, H', I', rv, t, rfl, q'⟩
  obtain ⟨tk, rfl⟩ := rv
  exact ⟨.str t, H', I', ⟨tk, rfl⟩, q'⟩

/-- x == y by x's own __eq__ (which gives a truth value) -/
def rEqO (K : PySem.W.Frag) (C : Addr) (sp : Sp) : R2 := fun x y H Q => ∃ a dx fs tb, x = .ref a ∧ H a = some (.ins C dx fs) ∧ TyX K H y tb ∧ notFirst K C tb = true ∧ sp [x, y] H (fun v H' => ∃ b, v = .bl b ∧ Q (.bl b) H') E0
theorem op_eqO (gu : X.A.guards = some []) (F : FnG X.prog X.w X.K X.mg X.base k f fd ps sp) (hr : Room k X.A) (bi : Binds X.K fd ps [])
    (hs : findIn X.K (.ref C) "__eq__" = some (some (.ref f))) (hf : isFn X.K (.ref f) = true) : OpR X (compareOp .Eq) (rEqO X.K C sp) := by
  intro pins s σ H x y v u Q I rx ry h
  obtain ⟨a, dx, fs, tb, rfl, ha, ty, nf, q⟩ := h
  have e1 : v = Value.ref a := rx
  subst e1
  obtain ⟨mA, J, _⟩ := ins_get I.hok ha
  obtain ⟨od, J, _⟩ := J.look
  obtain ⟨m, hF⟩ := I.fr
  obtain ⟨Pk, kk, pk, _⟩ := kit_of I ry ty
  show wpAny (model X.prog X.w) X.A (richCompare .Eq (Value.ref a) u) (EP X pins σ Q) X.xe s
  refine PySem.W.cmp_K (op := .Eq) hr.units0 hF I.ok.mod.kin J (kk.ty _ _ I.kIn pk) nf hs hf ?_
  refine thn (F.callAt (ds := []) rfl gu hr bi .nil I (show Vals [V.ref a, y] [Value.ref a, u] from .cons rfl (.cons ry .nil)) (by rw [List.append_nil]; exact q)) ?_
  rintro u' s' ⟨v', H', I', rv, b, rfl, q'⟩
  have e2 : u' = Value.bool b := rv
  subst e2
  exact ⟨.bl b, H', I', rfl, q'⟩

theorem ifBound_B {M : Model} {A : Around} {E : Value → Shared → Prop} {s : Shared} {x C : Addr} {ox : Obj} {od : Option Obj} {name : Str} {id : String} {args : List Value} {Q : Option Value → Shared → Prop}
    (XK : X.K.In s.heap) (J : PySem.W.InstAt s.heap x ox C od) (hs : findIn X.K (.ref C) name = some (some (.builtin id))) (S : Slot "object" name id)
    (h : wpAny M A (call (.builtin id) (.ref x :: args)) (fun v => Q (some v)) E s) : wpAny M A (callSpecialIfBound? (.ref x) name args) Q E s := by
  have fin : wpAny M A (call (.builtin id) ([.ref x] ++ args) >>= fun v => pure (some v)) Q E s := wpAny_bind (wpAny_mono h (fun _ _ z => wpAny_pure z) fun _ _ z => z)
  simp only [callSpecialIfBound?, bindSpecialIfBound?]
  refine wpAny_holding (wpAny_bind (wpAny_bind (wpAny_bind (J.type.here ((PySem.W.looks_findIn XK hs).here ?_)))))
  simp only [S.bind]
  refine wpAny_bind (wpAny_askSetting (wpAny_ite ?_))
  split
  · exact wpAny_bind (wpAny_pure (wpAny_pure fin))
  · exact wpAny_tryCatch (wpAny_bind (wpAny_pure (wpAny_pure fin)))

theorem ne_body {A : Around} {E : Value → Shared → Prop} {s : Shared} {x C : Addr} {ox : Obj} {od : Option Obj} {y : Value} {Q : Fin → Shared → Prop}
    (XK : X.K.In s.heap) (J : PySem.W.InstAt s.heap x ox C od) (hs : findIn X.K (.ref C) "__eq__" = some (some (.ref f))) (hf : isFn X.K (.ref f) = true) (hu : A.units < cLine)
    (h : wpAny (model X.prog X.w) A (call (.ref f) [.ref x, y]) (fun v s' => ∃ b, v = .bool b ∧ Q (.done (.ret (.bool (!b)))) s') E s) :
    wpAny (model X.prog X.w) A (Builtin.«object.__ne__» ⟨[.ref x, y], []⟩) Q E s := by
  have one : wpAny (model X.prog X.w) A (callSpecialIfBound? (.ref x) (Str.ofString "__eq__") [y]) (fun r s' => ∃ b, r = some (.bool b) ∧ Q (.done (.ret (.bool (!b)))) s') E s := by
    refine PySem.W.ifBound_K XK J hs hf (wpAny_mono h (fun v s' z => ?_) fun _ _ z => z)
    obtain ⟨b, rfl, q⟩ := z
    exact ⟨b, rfl, q⟩
  obtain ⟨hh, g, d, t, os⟩ := s
  unfold Builtin.«object.__ne__»
  repeat (first
    | with_reducible refine wpAny_cRoomFor hu ?_
    | (refine wpAny_bind (m := callSpecialIfBound? (.ref x) (Str.ofString "__eq__") [y]) (wpAny_mono one (fun r s' z => ?_) fun _ _ z => z))
    | wp_step)
  obtain ⟨b, rfl, q⟩ := z
  obtain ⟨hh', g', d', t', os'⟩ := s'
  repeat (first | exact q | exact wpAny_pure q | exact wpAny_truthy_bool q | (refine wpAny_bind (m := truthy (.bool _)) (wpAny_truthy_bool ?_)) | wp_step)
end
end
end Gd

set_option Elab.async false
set_option linter.all false
set_option maxRecDepth 100000
set_option maxHeartbeats 4000000
/-! G3: !=, +, len by own methods. -/
namespace Gd
open PySem PySem.Spec PyProof.Rows L2
open PySem.W (findIn isFn notFirst subIn selfFirst Looks InstAt looks_subIn looks_findIn)

section
variable {X : Cx} {C f : Addr} {fd : FuncData} {ps : List Str} {sp : Sp} {k : Nat}
/-- an instance's comparison, from what its own method says (not a subclass's on the right) -/
theorem rc_core {A : Around} {E : Value → Shared → Prop} {s : Shared} {x : Addr} {b tb : Value} {ox : Obj} {od : Option Obj} {op : CmpOp} {Q : Value → Shared → Prop} (XK : X.K.In s.heap) (J : InstAt s.heap x ox C od) (hu : A.units < cLine)
    (hb : Looks (model X.prog X.w) s.heap (typeOf b) tb) (nf : notFirst X.K C tb = true)
    (one : wpAny (model X.prog X.w) A (tryCompare (.ref x) (cmpInfo op).2.1 b) (fun r s' => ∃ v, r = some v ∧ Q v s') E s) : wpAny (model X.prog X.w) A (richCompare op (.ref x) b) Q E s := by
  have rest : wpAny (model X.prog X.w) A (do
      if let some v ← tryCompare (.ref x) (cmpInfo op).2.1 b then return v
      if let some v ← tryCompare b (cmpInfo op).2.2 (.ref x) then return v
      match op with
      | .Eq => rule "compare.eq-identity"; return .bool (← isSame (.ref x) b)
      | .NotEq => rule "compare.ne-identity"; return .bool (!(← isSame (.ref x) b))
      | _ =>
        rule "compare.unsupported"
        raiseError "TypeError" s!"'{(cmpInfo op).1}' not supported between instances of '{← typeNameOf (.ref x)}' and '{← typeNameOf b}'") Q E s := by
    refine wpAny_bind (wpAny_mono one ?_ fun _ _ z => z)
    rintro r s' ⟨v, rfl, q⟩
    exact wpAny_pure q
  unfold richCompare
  simp only [oneThing_ref]
  refine wpAny_holding (wpAny_bind (wpAny_cRoomFor hu ?_))
  refine wpAny_bind (J.type.here (wpAny_bind (hb.here ?_)))
  by_cases e : tb = .ref C
  · have e1 : (Value.ref C != tb) = false := by rw [e]; simp
    simp only [e1, Bool.false_eq_true, if_false]
    exact wpAny_bind (wpAny_pure rest)
  · have e1 : (Value.ref C != tb) = true := by
      rw [bne_iff_ne]
      exact fun z => e z.symm
    have sub : subIn X.K tb (.ref C) = some false := by
      unfold notFirst at nf
      rw [beq_eq_false_iff_ne.mpr e, Bool.false_or] at nf
      exact beq_iff_eq.mp nf
    simp only [e1, if_true]
    refine wpAny_bind ((looks_subIn XK sub).here ?_)
    simp only [Bool.false_eq_true, if_false]
    exact rest

/-- a call of object.__ne__ of an instance -/
theorem ne_call {A : Around} {E : Value → Shared → Prop} {s : Shared} {x : Addr} {ox : Obj} {od : Option Obj} {y : Value} {Q : Value → Shared → Prop}
    (XK : X.K.In s.heap) (J : InstAt s.heap x ox C od) (hob : subIn X.K (.ref C) (.type "object") = some true) (hs : findIn X.K (.ref C) "__eq__" = some (some (.ref f))) (hf : isFn X.K (.ref f) = true) (hu : A.units + 1 < cLine)
    (h : wpAny (model X.prog X.w) A.in1 (call (.ref f) [.ref x, y]) (fun v s' => ∃ b, v = .bool b ∧ Q (.bool (!b)) s') E s) :
    wpAny (model X.prog X.w) A (call (.builtin "object.__ne__") [.ref x, y]) Q E s := by
  refine wpAny_call (codeAny_call_builtin PySem.F.cmp_object.ne.plain PySem.F.cmpEntry_ne ?_)
  have body := ne_body (A := A.in1) (Q := fun fin s' => match fin with | .done f => wants Q E (.ok f) s' | .again c' => c'.quiet = true ∧ codeAny (model X.prog X.w) A c' (wants Q E) s') XK J hs hf hu (wpAny_mono h (fun v s' z => by
    obtain ⟨b, rfl, q⟩ := z
    exact ⟨b, rfl, q⟩) fun _ _ z => z)
  simp only [checkBuiltinCall, PySem.F.cmpKind_ne, PySem.F.cmpSplit_ne]
  refine wpAny_bind (wpAny_bind ?_)
  refine J.type.here ((looks_subIn XK hob).here ?_)
  simp only [Bool.not_true, Bool.false_eq_true, if_false]
  refine wpAny_pure ?_
  exact body

/-- x != y by x's own __eq__ -/
def rNeO (K : PySem.W.Frag) (C : Addr) (sp : Sp) : R2 := fun x y H Q => ∃ a dx fs tb, x = .ref a ∧ H a = some (.ins C dx fs) ∧ TyX K H y tb ∧ notFirst K C tb = true ∧ sp [x, y] H (fun v H' => ∃ b, v = .bl b ∧ Q (.bl (!b)) H') E0
theorem op_neO (gu : X.A.guards = some []) (F : FnG X.prog X.w X.K X.mg X.base k f fd ps sp) (hr : Room (k + 1) X.A) (bi : Binds X.K fd ps [])
    (hob : subIn X.K (.ref C) (.type "object") = some true) (hne : findIn X.K (.ref C) "__ne__" = some (some (.builtin "object.__ne__")))
    (hs : findIn X.K (.ref C) "__eq__" = some (some (.ref f))) (hf : isFn X.K (.ref f) = true) : OpR X (compareOp .NotEq) (rNeO X.K C sp) := by
  intro pins s σ H x y v u Q I rx ry h
  obtain ⟨a, dx, fs, tb, rfl, ha, ty, nf, q⟩ := h
  have e1 : v = Value.ref a := rx
  subst e1
  obtain ⟨mA, J, _⟩ := ins_get I.hok ha
  obtain ⟨od, J, _⟩ := J.look
  obtain ⟨Pk, kk, pk, _⟩ := kit_of I ry ty
  show wpAny (model X.prog X.w) X.A (richCompare .NotEq (Value.ref a) u) (EP X pins σ Q) X.xe s
  refine rc_core I.kIn J hr.units0 (kk.ty _ _ I.kIn pk) nf ?_
  unfold tryCompare
  refine wpAny_bind (ifBound_B I.kIn J hne PySem.F.cmp_object.ne (wpAny_mono (ne_call (Q := EP X pins σ Q) I.kIn J hob hs hf (by have := hr.un; omega) ?_) ?_ fun _ _ z => z))
  · refine thn (F.callAt (A := X.A.in1) (ds := []) rfl gu (Room.in1 hr) bi .nil I (show Vals [V.ref a, y] [Value.ref a, u] from .cons rfl (.cons ry .nil)) (by rw [List.append_nil]; exact q)) ?_
    rintro u' s' ⟨v', H', I', rv, b, rfl, q'⟩
    have e2 : u' = Value.bool b := rv
    subst e2
    exact ⟨b, rfl, .bl (!b), H', I', rfl, q'⟩
  · rintro r s' ⟨v', H', I', rv, q'⟩
    cases r with
    | notImplemented => cases v' <;> first | (obtain ⟨t, e⟩ := rv; cases e) | cases rv
    | _ => exact wpAny_pure ⟨_, rfl, v', H', I', rv, q'⟩

/-- x + y by x's own __add__, y of another, built-in type T -/
def rAddO (K : PySem.W.Frag) (C : Addr) (T : String) (sp : Sp) : R2 := fun x y H Q => ∃ a dx fs, x = .ref a ∧ H a = some (.ins C dx fs) ∧ TyX K H y (.type T) ∧ sp [x, y] H Q E0
theorem op_addO {T : String} {fo ro rc : Option Value} (gu : X.A.guards = some []) (F : FnG X.prog X.w X.K X.mg X.base k f fd ps sp) (hr : Room k X.A) (bi : Binds X.K fd ps []) (hc : selfFirst X.K C = true)
    (hs : findIn X.K (.ref C) "__add__" = some (some (.ref f))) (hf : isFn X.K (.ref f) = true) (hrr : findIn X.K (.ref C) "__radd__" = some rc) (hp : rc = none ∨ ∃ g : Addr, rc = some (.ref g))
    (h1 : findIn X.K (.type T) "__add__" = some fo) (h2 : findIn X.K (.type T) "__radd__" = some ro) (hsub : subIn X.K (.type T) (.ref C) = some false) : OpR X (binaryOp .Add) (rAddO X.K C T sp) := by
  intro pins s σ H x y v u Q I rx ry h
  obtain ⟨a, dx, fs, rfl, ha, ty, q⟩ := h
  have e1 : v = Value.ref a := rx
  subst e1
  obtain ⟨mA, J, _⟩ := ins_get I.hok ha
  obtain ⟨od, J, _⟩ := J.look
  obtain ⟨Pk, kk, pk, _⟩ := kit_of I ry ty
  have XK := I.kIn
  have hb := kk.ty (model X.prog X.w) _ XK pk
  have run : wpAny (model X.prog X.w) X.A (call (.ref f) [.ref a, u]) (PySem.W.CmpBack (EP X pins σ Q)) X.xe s := by
    refine thn (F.callAt (ds := []) rfl gu hr bi .nil I (show Vals [V.ref a, y] [Value.ref a, u] from .cons rfl (.cons ry .nil)) (by rw [List.append_nil]; exact q)) ?_
    rintro r s' ⟨v', H', I', rv, q'⟩
    cases r with
    | notImplemented => cases v' <;> first | (obtain ⟨t, e⟩ := rv; cases e) | cases rv
    | _ => exact ⟨v', H', I', rv, q'⟩
  have one := PySem.W.ksp_try XK J hs hf run
  obtain ⟨cd, rest, hcd, hm⟩ := PySem.W.ksp_first hc
  have f1 : Looks (model X.prog X.w) s.heap (fillsNumberSlot (.ref C) "add") true := PySem.W.fills_K XK hcd hm hs
  have f2 : Looks (model X.prog X.w) s.heap (fillsNumberSlot (.type T) "add") ((fo.isSome && !isSeqSlot fo) || (ro.isSome && !isSeqSlot ro)) := PySem.W.ksp_fillsT XK h1 h2
  have f3 := looks_subIn (M := model X.prog X.w) XK hsub
  have f4 : Looks (model X.prog X.w) s.heap (numberSlotInPython (.ref C) "add") true := PySem.W.ksp_inPy XK hs hrr hp
  have f5 : Looks (model X.prog X.w) s.heap (numberSlotInPython (.type T) "add") false := Looks.of_pure rfl
  have f6 : Looks (model X.prog X.w) s.heap (typeLookup (.type T) (dunderR "add")) ro := looks_findIn XK h2
  generalize ((fo.isSome && !isSeqSlot fo) || (ro.isSome && !isSeqSlot ro)) = rt at f2
  have jt := J.type (M := model X.prog X.w)
  obtain ⟨hh, g, d, tt, os⟩ := s
  have ne : (Value.ref C == Value.type T) = false := Bool.eq_false_iff.mpr fun z => by cases beq_iff_eq.mp z
  show wpAny _ _ (binaryOp .Add (.ref a) u) _ _ _
  simp only [binaryOp, Operator.info]
  refine wpAny_holding (wpAny_bind ?_)
  unfold binaryOp1
  refine wpAny_bind (jt.at (wpAny_bind (hb.at (wpAny_bind (f1.at ?_)))))
  simp only [ne, Bool.false_eq_true, if_false]
  cases rt <;>
  · ksp_lk
    refine wpAny_mono one ?_ fun _ _ z => z
    rintro r s' ⟨v', rfl, q'⟩
    ksp_lk
    exact q'

/-- len(x) by x's own __len__ -/
def rLenO (C : Addr) (sp : Sp) : List V → Hp → VK → Prop := fun xs H Q => ∃ a dx fs, xs = [.ref a] ∧ H a = some (.ins C dx fs) ∧ sp [.ref a] H (fun v H' => ∃ n : Int, v = .int n ∧ 0 ≤ n ∧ n < 2 ^ 62 ∧ Q (.int n) H') E0
theorem call_len_o (gu : X.A.guards = some []) (F : FnG X.prog X.w X.K X.mg X.base k f fd ps sp) (hr : Room (k + 1) X.A) (bi : Binds X.K fd ps [])
    (hs : findIn X.K (.ref C) "__len__" = some (some (.ref f))) (hf : isFn X.K (.ref f) = true) : CallR X (.builtin "len") (rLenO C sp) := by
  intro pins s σ H xs us Q I r h
  obtain ⟨a, dx, fs, rfl, ha, q⟩ := h
  rw [Vals.ref1 r]
  obtain ⟨mA, J, _⟩ := ins_get I.hok ha
  obtain ⟨od, J, _⟩ := J.look
  obtain ⟨m, hF⟩ := I.fr
  refine PySem.W.len_K hF I.ok.mod.kin J hs hf ?_
  refine thn (F.callAt (A := X.A.in1) (ds := []) rfl gu (Room.in1 hr) bi .nil I (show Vals [V.ref a] [Value.ref a] from .cons rfl .nil) (by rw [List.append_nil]; exact q)) ?_
  rintro u s' ⟨v, H', I', rv, n, rfl, h0, h1, q'⟩
  obtain ⟨tk, rfl⟩ := rv
  exact ⟨⟨h0, by omega⟩, .int n, H', I'.tok _, ⟨_, rfl⟩, q'⟩
end
end Gd

set_option Elab.async false
set_option linter.all false
set_option maxRecDepth 100000
set_option maxHeartbeats 4000000
/-! G4: sorted of a tuple of texts; enumerate of a tuple. -/
namespace Gd
open PySem PySem.Spec PyProof.Rows L2

section
variable {X : Cx}
/-- sorted(t), t a tuple of texts -/
def rSortST (K : PySem.W.Frag) : List V → Hp → VK → Prop := fun vs H Q => ∃ (a : Addr) (ss : List Str), vs = [V.ref a] ∧ SqT K H a (ss.map V.str) ∧ ss.length < 64 ∧
  ∀ (ys : List Str) (p : Addr), ys.Perm ss → sortedS ys = true → H p = none → Q (.ref p) (upd H p (.lst (ys.map V.str)))
theorem cr_sortST : CallR X (.builtin "sorted") (rSortST X.K) := by
  intro pins s σ H vs us Q I r h
  obtain ⟨a, ss, rfl, ht, h64, q⟩ := h
  obtain ⟨its, rv, ⟨o, ho, hc, n, hd⟩, _⟩ := I.tuple ht
  rw [Vals.ref1 r]
  have hS := rv.strs
  have hl : its.length = ss.length := by
    have := rv.length
    rw [List.length_map] at this
    exact this.symm
  refine Calls.call_function_entry PyProof.Rows.kind_sorted PyProof.Rows.plain_sorted PyProof.Rows.entry_sorted (PyProof.Rows.args_sorted1 _) ?_
  unfold Builtin.«sorted»
  refine wpAny_bind (m := checkCount "sorted" 1 1 _) (wpAny_pure (wpAny_bind ?_))
  refine wpAny_collect_seq a (.inr rfl) ho hc hd (fun h' keep => ?_) (by rw [List.size_toArray, hl, sizeLine_eq]; omega)
  have I1 : Inv X pins σ H { s with heap := h' } := I.kept (t' := s.toks) keep
  refine wpAny_bind (wpAny_newList ?_ (by rw [hl, sizeLine_eq]; omega))
  have new : (h'.push (seqObj "list" its.toArray 0)).get? h'.objs.size = some (seqObj "list" its.toArray 0) := Heap.get?_push_size _ rfl
  show wpAny _ _ _ _ _ { s with heap := h'.push (seqObj "list" its.toArray 0) }
  refine wpAny_bind (wpAny_holding (wpAny_call_entry PyProof.Rows.slot_list_sort ⟨_, new, rfl⟩ PyProof.Rows.entry_list_sort ?srt (PyProof.Rows.args_list_sort _)))
  refine list_sort_treeK (s := { s with heap := h'.push (seqObj "list" its.toArray 0) }) strKind_oneLt new hS.keysOf (fun v1 v2 more e => keyKind_strs (e ▸ hS)) (hl ▸ h64) ?_
  intro st' hp hs
  refine ⟨_, rfl, ?_⟩
  obtain ⟨ys, g1, g2, g3⟩ := sorted_out_str hS hp hs
  obtain ⟨e', at'⟩ := PyProof.Rows.sortedHeap_at (vs := its) (out := (arrOf st').map (·.2)) new
  have fits : (ys.map V.str).length ≤ sizeLine := by rw [List.length_map, g2.length_eq]; exact small64 h64
  have ok : ObjOk X.prog X.w (upd H h'.objs.size (.lst (ys.map V.str))) (PyProof.Rows.sortedHeap (h'.push (seqObj "list" its.toArray 0)) h'.objs.size its ((arrOf st').map (·.2))) h'.objs.size (.lst (ys.map V.str)) :=
    ⟨fits, ((arrOf st').map (·.2)).toList, e', vals_of_strs g1, by rw [Array.toArray_toList]; exact at'⟩
  refine wpAny_pure ⟨_, rfl, .ref h'.objs.size, _, I1.laid (t' := s.toks) (fun b u z => ?_) (Nat.le_refl _) ok, rfl, q ys _ g2 g3 (I1.hok.fresh (Nat.le_refl _))⟩
  have lt : b < h'.objs.size := Heap.lt_size z
  rw [PyProof.Rows.sortedHeap_old (Nat.ne_of_lt lt) (by rw [size_push']; exact Nat.lt_succ_of_lt lt)]
  exact Heap.get?_push_of_some _ z
end

/-! ### enumerate(t) -/
set_option maxHeartbeats 4000000 in
theorem meets_enum1 {v : Value} {o : Obj} {H : Heap → Prop} (B : Begins v o H) :
    Meets (Builtin.«enumerate.__new__» ⟨[.type "enumerate", v], []⟩) (fun _ R s => H s.heap ∧
      R (.ok (.ret (.ref (s.heap.push o).objs.size))) { s with heap := (s.heap.push o).push { cls := .type "enumerate", data := .fields #[.none, .bool false, .ref s.heap.objs.size, rawInt 0, .none, .none] } }) := by
  refine .of_wp fun prog w A R s h => ?_
  obtain ⟨hp, g, d, tk, os⟩ := s
  obtain ⟨h1, h⟩ := h
  have hsub := sub_enumerate
  have it : ∀ {A' : Around} {E : Value → Shared → Prop} {Q : Value → Shared → Prop}, Q (.ref hp.objs.size) ⟨hp.push o, g, d, tk, os⟩ → wpAny (model prog w) A' (pyIter v) Q E ⟨hp, g, d, tk, os⟩ :=
    fun q => B.iter prog w _ _ ⟨hp, g, d, tk, os⟩ _ h1 q
  wp_walk using it
  refine wpAny_stack_any fun st => wpAny_pure ?_
  split
  · rename_i c _ _ _ _ _
    cases (c == Value.type "enumerate") <;>
    · wp_walk using it
      exact ⟨_, rfl, h⟩
  · wp_walk using it
    exact ⟨_, rfl, h⟩
theorem enum_begins1 {prog : Program} {w : World} {A : Around} {E : Value → Shared → Prop} {s : Shared} {v : Value} {o : Obj} {H : Heap → Prop} {Q : Value → Shared → Prop} (B : Begins v o H) (h1 : H s.heap)
    (h : ∀ h', IsEnum h' (s.heap.objs.size + 1) s.heap.objs.size 0 .none → h'.get? s.heap.objs.size = some o → (∀ b o, s.heap.get? b = some o → h'.get? b = some o) → Q (.ref (s.heap.objs.size + 1)) { s with heap := h' }) :
    wpAny (model prog w) A (call (.type "enumerate") [v]) Q E s := by
  let eo : Obj := { cls := .type "enumerate", data := .fields #[.none, .bool false, .ref s.heap.objs.size, rawInt 0, .none, .none] }
  have z : (s.heap.push o).objs.size = s.heap.objs.size + 1 := Heap.size_push ..
  have he : IsEnum ((s.heap.push o).push eo) (s.heap.objs.size + 1) s.heap.objs.size 0 .none := z ▸ Heap.get?_push_size (s.heap.push o) (o := eo) rfl
  refine callType_new F.called_enumerate (by decide) (F.typeCall_enumerate_1 _) (F.newCall_enumerate_1 _) (fun obj => F.args_object_init_2 obj _) F.entry_enumerate_new (meets_enum1 B) ⟨h1, ?_⟩
  show _ ∧ _
  rw [z]
  exact ⟨⟨_, he, rfl⟩, h _ he (Heap.get?_push_of_some _ (Heap.get?_push_size _ B.free)) fun b u q => Heap.get?_push_of_some _ (Heap.get?_push_of_some _ q)⟩

/-- the places and items of the tuple at a -/
def IteT (K : PySem.W.Frag) (a : Addr) : It where
  go := fun i H => ∃ (xs : List V) (x : V), SqT K H a xs ∧ xs[i]? = some x
  yld := fun i H v H' => ∃ T x, v = .ref T ∧ H T = none ∧ H' = upd H T (.tup [.int (i : Nat), x]) ∧ ∀ xs, SqT K H a xs → xs[i]? = some x
  stop := fun i H => ∃ xs : List V, SqT K H a xs ∧ xs.length = i
theorem turn_enumT {P : Program} {w : World} {K : PySem.W.Frag} {elts : List Expr} {kk : Nat} {tpos : Pos} (a e it : Addr) :
    Turn P w K (.Tuple elts kk tpos) (IteT K a) [e, it] e (fun i h => (∃ old, IsEnum h e it ((i : Nat) : Int) old) ∧ h.IsTupleIter it a i ∧ e ≠ it) where
  mem := by simp
  obj := by
    intro i h st b hb
    obtain ⟨⟨old, he⟩, ⟨o, ho, hc, hd⟩, _⟩ := st
    rcases (show b = e ∨ b = it by simpa using hb) with rfl | rfl
    · exact ⟨_, he, fun v q => nomatch q⟩
    · exact ⟨o, ho, fun v q => by rw [hd] at q; cases q⟩
  keep := by
    rintro i h h' ⟨⟨old, he⟩, hi, ne⟩ k
    exact ⟨⟨old, k e (by simp) _ he⟩, hi.at (fun o q => k it (by simp) o q), ne⟩
  item := by
    intro X hP hw hK hc i pins s σ H E I hf st hg
    subst hP hw hK
    obtain ⟨⟨old, he⟩, hit, hne⟩ := st
    obtain ⟨xs, x, hq, hx⟩ := hg
    obtain ⟨its, rv, p, _⟩ := I.tuple hq
    have il : i < its.toArray.size := by
      rw [List.size_toArray, ← rv.length]
      exact (List.getElem?_eq_some_iff.mp hx).1
    have nit : it ≠ a := by
      intro z
      obtain ⟨o1, q1, c1, _⟩ := hit
      obtain ⟨o2, q2, c2, _⟩ := p
      rw [z, q2] at q1
      cases q1
      rw [c2] at c1
      exact absurd c1 (by decide)
    have nea : e ≠ a := by
      intro z
      obtain ⟨o2, q2, c2, _⟩ := p
      have q1 : s.heap.get? e = some _ := he
      rw [z, q2] at q1
      cases q1
      have c3 : Value.type "enumerate" = Value.type "tuple" := c2
      exact absurd (Value.type.inj c3) (by decide)
    have lt : ∀ b ∈ [e, it], b < s.heap.objs.size := by
      intro b hb
      rcases (show b = e ∨ b = it by simpa using hb) with rfl | rfl
      · exact Heap.lt_size he
      · obtain ⟨_, q, _⟩ := hit
        exact Heap.lt_size q
    refine wpAny_pyNext_enum_itemD (Draws.tuple (A := X.A.in1) (I.ok.hd hc) it a nit.symm its.toArray) he ⟨hit, p⟩ il hne (by simp [hne, nea]) ?_
    intro u h' tk hu ho hst hT hsz hk
    refine ⟨_, rfl, wpAny_letOwnedTupleGo_enum (s := { s with heap := h', toks := tk + 1 }) ho fun h2 he' sb => ?_⟩
    obtain ⟨u', hu', ru⟩ := rv.get hx
    have euu : u = u' := by
      have : its[i]? = some u := by simpa using hu
      rw [hu'] at this
      exact (Option.some.inj this).symm
    subst euu
    have hT2 : h2.get? s.heap.objs.size = some { cls := .type "tuple", data := .seq #[.int i tk, u] } := (sb.2 _ (Nat.ne_of_gt (lt e (by simp)))).trans hT
    have new : ObjOk X.prog X.w (upd H s.heap.objs.size (.tup [.int (i : Nat), x])) h2 s.heap.objs.size (.tup [.int (i : Nat), x]) :=
      ⟨by show 2 ≤ sizeLine; decide, [.int i tk, u], .cons ⟨_, rfl⟩ (.cons ru .nil), ⟨_, hT2, rfl, _, rfl⟩⟩
    have I1 : Inv X pins σ (upd H s.heap.objs.size (.tup [.int (i : Nat), x])) { s with heap := h2, toks := tk + 1 } := by
      refine I.turnedNew (ch := [e, it]) (fun b ob hb q => ?_) hf (Nat.le_refl _) new
      have b1 : b ≠ e := fun z => hb (by simp [z])
      have b2 : b ≠ it := fun z => hb (by simp [z])
      exact (sb.2 b b1).trans (hk b ob b1 b2 q)
    refine ⟨.ref s.heap.objs.size, _, I1, rfl, ⟨_, x, rfl, I.hok.fresh (Nat.le_refl _), rfl, fun ys hy => I.tuple_inj hy hq ▸ hx⟩, ⟨⟨u, ?_⟩, hst.1.at (fun o q => (sb.2 it hne.symm).trans q), hne⟩, ?_⟩
    · rw [show ((i + 1 : Nat) : Int) = (i : Int) + 1 by omega]
      exact he'
    · intro b hb
      rw [upd_ne (Nat.ne_of_lt (lt b hb))]
      exact (hf b hb).1
  done := by
    intro X hP hw hK hc i pins s σ H E I hf st hg
    subst hP hw hK
    obtain ⟨⟨old, he⟩, hit, hne⟩ := st
    obtain ⟨xs, hq, hx⟩ := hg
    obtain ⟨its, rv, p, _⟩ := I.tuple hq
    obtain ⟨f0, f1, f2, f3, f4, f5⟩ := hf it (by simp)
    have nit : it ≠ a := by
      intro z
      obtain ⟨o1, q1, c1, _⟩ := hit
      obtain ⟨o2, q2, c2, _⟩ := p
      rw [z, q2] at q1
      cases q1
      rw [c2] at c1
      exact absurd c1 (by decide)
    have en : i = its.toArray.size := by rw [List.size_toArray, ← rv.length, hx]
    rw [en] at hit
    exact wpAny_pyNext_enum_endD (Draws.tuple (A := X.A.in1) (I.ok.hd hc) it a nit.symm its.toArray) he ⟨hit, p⟩ fun h' eb => ⟨rfl, I.turned (t' := s.toks) (fun b o hb q => eb b o hb q) f0 f1 f3 f4 f5⟩
  self := fun A i s Q E st h => let ⟨⟨_, he⟩, _⟩ := st; wpAny_pyIter_enum he h
/-- for i, x in enumerate(xs), xs a list or a tuple -/
def iEnumQ (K : PySem.W.Frag) (ta : TA) : TI := fun σ H R => ta σ H fun vs H1 => ∃ a xs, vs = [.ref a] ∧ ((SqL K H1 a xs ∧ R (Ite K a) H1) ∨ (SqT K H1 a xs ∧ R (IteT K a) H1))
theorem pi_enumQ {X : Cx} {e : Expr} {ta : TA} {p pos tpos : Pos} {elts : List Expr} {kk : Nat} (hg : Gl X "enumerate") (hm : X.mg "enumerate" = none) (ha : PA X [e] ta)
    (hs : starEach [e] X.env = [(false, eval e X.env)] := by rfl) : PI X (.Tuple elts kk tpos) (.Call (.Name "enumerate" p) [e] [] pos) (iEnumQ X.K ta) := by
  constructor
  intro pins s σ H R I h
  refine Call_ (ld_blt I hg hm boot_enumerate (PyProof.Rows.callWith_type1 (thn (ha.run pos pins s σ H _ I h) ?_) hs rfl))
  rintro us s1 ⟨vs, H1, I1, r1, a, xs, rfl, q⟩
  rw [Vals.ref1 r1]
  have two : ∀ b ∈ [s1.heap.objs.size + 1, s1.heap.objs.size], FpOk X pins H1 b := by
    intro b hb
    have le : s1.heap.objs.size ≤ b := by
      rcases (show b = s1.heap.objs.size + 1 ∨ b = s1.heap.objs.size by simpa using hb) with z | z <;> rw [z]
      · exact Nat.le_succ _
      · exact Nat.le_refl _
    exact I1.fpOk le (I1.hok.fresh le)
  rcases q with ⟨hq, q⟩ | ⟨hq, q⟩
  · obtain ⟨its, rv, pl, _⟩ := I1.list hq
    refine call_enumerate_list pl.isList fun h' he hit _ hk => wpAny_pyIter_enum he ?_
    exact ⟨s1.heap.objs.size + 1, _, _, Ite X.K a, H1, rfl, I1.kept (t' := s1.toks) hk, turn_enum a (s1.heap.objs.size + 1) s1.heap.objs.size, ⟨⟨.none, he⟩, hit, Nat.succ_ne_self _⟩, two, q⟩
  · obtain ⟨its, rv, pl, _⟩ := I1.tuple hq
    refine enum_begins1 (begins_tuple a its.toArray) pl fun h' he hit hk => wpAny_pyIter_enum he ?_
    exact ⟨s1.heap.objs.size + 1, _, _, IteT X.K a, H1, rfl, I1.kept (t' := s1.toks) hk, turn_enumT a (s1.heap.objs.size + 1) s1.heap.objs.size, ⟨⟨.none, he⟩, ⟨_, hit, rfl, rfl⟩, Nat.succ_ne_self _⟩, two, q⟩
theorem walk_enumT {K : PySem.W.Frag} {a : Addr} {xs : List V} : Walk (IteT K a) xs.length (fun H => SqT K H a xs) (YPair (fun i => some (.int (i : Nat))) (fun i => xs[i]?)) := by
  constructor
  · exact fun i H hi q => ⟨xs, xs[i], q, by simp [hi]⟩
  · exact fun H q => ⟨xs, q, rfl⟩
  · rintro i H v H' _ q ⟨T, x, h1, h2, h3, h4⟩
    exact ⟨T, _, x, h1, h2, h3, rfl, h4 xs q⟩
end Gd

set_option Elab.async false
set_option linter.all false
set_option maxRecDepth 100000
set_option maxHeartbeats 4000000
/-! G5: deep data over a frozen part of the heap; how a step leaves both. -/
namespace Gd
open PySem PySem.Spec PyProof.Rows L2
open Evl (Ex Ex.refl Ex.trans Ex.new Ex.mut ex_t ex_l sq_of st_of fresh_back)

/-- deep data -/
inductive Dt where
  | non | bl (b : Bool) | int (i : Int) | str (x : Str)
  | lst (xs : List Dt) | tup (xs : List Dt)
  | ins (C : Addr) (fs : List (Str × Dt))
  | dK (kvs : List (Key × Dt)) | dT (kvs : List (List Key × Dt))

/-- a tuple of the heap, or an empty one of the written part -/
def TupD (K : PySem.W.Frag) (H : Hp) (a : Addr) (xs : List V) : Prop := (H a = some (.tup xs) ∨ ∃ o, H a = some (.frz o (.tup xs))) ∨ (xs = [] ∧ SqT K (fun _ => none) a [])
theorem TupD.sq {K : PySem.W.Frag} {H : Hp} {a : Addr} {xs : List V} (h : TupD K H a xs) : SqT K H a xs := by
  rcases h with h | ⟨rfl, h⟩
  · exact .inl h
  · exact ex_t (fun _ _ z => by cases z) h
theorem TupD.mono {K : PySem.W.Frag} {H H' : Hp} {a : Addr} {xs : List V} (h : TupD K H a xs) (e : Ex H H') : TupD K H' a xs := by
  rcases h with (h | ⟨o, h⟩) | h
  · exact .inl (.inl (e _ _ h))
  · exact .inl (.inr ⟨o, e _ _ h⟩)
  · exact .inr h
mutual
/-- in H (a frozen heap) the value v is the data d; its parts stand in a part of H without v itself -/
inductive Dv (K : PySem.W.Frag) : Hp → V → Dt → Prop
  | non {H : Hp} : Dv K H .non .non
  | bl {H : Hp} (b : Bool) : Dv K H (.bl b) (.bl b)
  | int {H : Hp} (i : Int) : Dv K H (.int i) (.int i)
  | str {H : Hp} (x : Str) : Dv K H (.str x) (.str x)
  | lst {H H0 : Hp} {a : Addr} {xs : List V} {ds : List Dt} : H a = some (.lst xs) → H0 a = none → Ex H0 H → DvAll K H0 xs ds → Dv K H (.ref a) (.lst ds)
  | tup {H H0 : Hp} {a : Addr} {xs : List V} {ds : List Dt} : TupD K H a xs → H0 a = none → Ex H0 H → DvAll K H0 xs ds → Dv K H (.ref a) (.tup ds)
  | ins {H H0 : Hp} {a C dx : Addr} {fs : List (Str × V)} {gs : List (Str × Dt)} : H a = some (.ins C dx fs) → H0 a = none → Ex H0 H → fs.map (·.1) = gs.map (·.1) → DvAll K H0 (fs.map (·.2)) (gs.map (·.2)) → Dv K H (.ref a) (.ins C gs)
  | dK {H H0 : Hp} {a : Addr} {kvs : List (Key × V)} {gs : List (Key × Dt)} : H a = some (.dK kvs) → H0 a = none → Ex H0 H → kvs.map (·.1) = gs.map (·.1) → DvAll K H0 (kvs.map (·.2)) (gs.map (·.2)) → Dv K H (.ref a) (.dK gs)
  | dT {H H0 : Hp} {a : Addr} {kvs : List (List Key × V)} {gs : List (List Key × Dt)} : H a = some (.dT kvs) → H0 a = none → Ex H0 H → kvs.map (·.1) = gs.map (·.1) → DvAll K H0 (kvs.map (·.2)) (gs.map (·.2)) → Dv K H (.ref a) (.dT gs)
inductive DvAll (K : PySem.W.Frag) : Hp → List V → List Dt → Prop
  | nil {H : Hp} : DvAll K H [] []
  | cons {H : Hp} {v : V} {vs : List V} {d : Dt} {ds : List Dt} : Dv K H v d → DvAll K H vs ds → DvAll K H (v :: vs) (d :: ds)
end

section
variable {K : PySem.W.Frag} {H H' S S' S1 S2 H1 H2 : Hp} {L L2 : List Addr}
theorem sqT_mono (e : Ex H H') {a : Addr} {xs : List V} (h : SqT K H a xs) : SqT K H' a xs := ex_t e h
mutual
theorem Dv.mono : ∀ {H H' : Hp} {v : V} {d : Dt}, Ex H H' → Dv K H v d → Dv K H' v d
  | _, _, _, _, _, .non => .non
  | _, _, _, _, _, .bl b => .bl b
  | _, _, _, _, _, .int i => .int i
  | _, _, _, _, _, .str x => .str x
  | _, _, _, _, e, .lst h1 h0 e0 h2 => .lst (e _ _ h1) h0 (e0.trans e) h2
  | _, _, _, _, e, .tup h1 h0 e0 h2 => .tup (h1.mono e) h0 (e0.trans e) h2
  | _, _, _, _, e, .ins h1 h0 e0 h2 h3 => .ins (e _ _ h1) h0 (e0.trans e) h2 h3
  | _, _, _, _, e, .dK h1 h0 e0 h2 h3 => .dK (e _ _ h1) h0 (e0.trans e) h2 h3
  | _, _, _, _, e, .dT h1 h0 e0 h2 h3 => .dT (e _ _ h1) h0 (e0.trans e) h2 h3
theorem DvAll.mono : ∀ {H H' : Hp} {vs : List V} {ds : List Dt}, Ex H H' → DvAll K H vs ds → DvAll K H' vs ds
  | _, _, _, _, _, .nil => .nil
  | _, _, _, _, e, .cons h1 h2 => .cons (Dv.mono e h1) (DvAll.mono e h2)
end
theorem DvAll.length : ∀ {vs : List V} {ds : List Dt}, DvAll K H vs ds → vs.length = ds.length
  | _, _, .nil => rfl
  | _, _, .cons _ t => congrArg (· + 1) (DvAll.length t)
theorem DvAll.get : ∀ {vs : List V} {ds : List Dt} {i : Nat} {d : Dt}, DvAll K H vs ds → ds[i]? = some d → ∃ v, vs[i]? = some v ∧ Dv K H v d
  | _, _, _, _, .nil, e => by simp at e
  | _, _, 0, _, .cons h _, e => by
    simp at e
    subst e
    exact ⟨_, rfl, h⟩
  | _, _, i + 1, d, .cons _ t, e => by
    obtain ⟨v, h1, h2⟩ := DvAll.get (i := i) (d := d) t (by simpa using e)
    exact ⟨v, by simpa using h1, h2⟩
theorem DvAll.get' : ∀ {vs : List V} {ds : List Dt} {i : Nat} {v : V}, DvAll K H vs ds → vs[i]? = some v → ∃ d, ds[i]? = some d ∧ Dv K H v d
  | _, _, _, _, .nil, e => by simp at e
  | _, _, 0, _, .cons h _, e => by
    simp at e
    subst e
    exact ⟨_, rfl, h⟩
  | _, _, i + 1, v, .cons _ t, e => by
    obtain ⟨d, h1, h2⟩ := DvAll.get' (i := i) (v := v) t (by simpa using e)
    exact ⟨d, by simpa using h1, h2⟩
theorem DvAll.append : ∀ {vs ws : List V} {ds es : List Dt}, DvAll K H vs ds → DvAll K H ws es → DvAll K H (vs ++ ws) (ds ++ es)
  | _, _, _, _, .nil, h => h
  | _, _, _, _, .cons a t, h => .cons a (DvAll.append t h)
theorem DvAll.take : ∀ {vs : List V} {ds : List Dt} (n : Nat), DvAll K H vs ds → DvAll K H (vs.take n) (ds.take n)
  | _, _, 0, _ => by simpa using DvAll.nil
  | _, _, n + 1, .nil => by simpa using DvAll.nil
  | _, _, n + 1, .cons a t => .cons a (DvAll.take n t)
theorem DvAll.drop : ∀ {vs : List V} {ds : List Dt} (n : Nat), DvAll K H vs ds → DvAll K H (vs.drop n) (ds.drop n)
  | _, _, 0, h => by simpa using h
  | _, _, n + 1, .nil => by simpa using DvAll.nil
  | _, _, n + 1, .cons _ t => DvAll.drop n t
theorem DvAll.reverse {vs : List V} {ds : List Dt} (h : DvAll K H vs ds) : DvAll K H vs.reverse ds.reverse := by
  induction vs generalizing ds with
  | nil => cases h; exact .nil
  | cons v vs ih =>
    cases h with
    | cons h1 h2 =>
      rw [List.reverse_cons, List.reverse_cons]
      exact (ih h2).append (.cons h1 .nil)
theorem DvAll.eraseIdx : ∀ {vs : List V} {ds : List Dt} (n : Nat), DvAll K H vs ds → DvAll K H (vs.eraseIdx n) (ds.eraseIdx n)
  | _, _, _, .nil => .nil
  | _, _, 0, .cons _ t => t
  | _, _, n + 1, .cons a t => .cons a (DvAll.eraseIdx n t)
theorem dvAll_strs : ∀ (ss : List Str), DvAll K H (ss.map V.str) (ss.map Dt.str)
  | [] => .nil
  | s :: r => .cons (.str s) (dvAll_strs r)
theorem dvAll_strs_inv : ∀ {vs : List V} {ss : List Str}, DvAll K H vs (ss.map Dt.str) → vs = ss.map V.str
  | _, [], h => by cases h; rfl
  | _, s :: r, h => by
    cases h with
    | cons h1 h2 =>
      cases h1
      rw [dvAll_strs_inv h2]
      rfl
theorem dvAll_bls : ∀ (bs : List Bool), DvAll K H (bs.map V.bl) (bs.map Dt.bl)
  | [] => .nil
  | b :: r => .cons (.bl b) (dvAll_bls r)
theorem Dv.int_inv {v : V} {i : Int} (h : Dv K H v (.int i)) : v = .int i := by cases h; rfl
theorem Dv.str_inv {v : V} {i : Str} (h : Dv K H v (.str i)) : v = .str i := by cases h; rfl
theorem Dv.bl_inv {v : V} {i : Bool} (h : Dv K H v (.bl i)) : v = .bl i := by cases h; rfl
theorem Dv.non_inv {v : V} (h : Dv K H v .non) : v = .non := by cases h; rfl
theorem Dv.lst_inv {v : V} {ds : List Dt} (h : Dv K H v (.lst ds)) : ∃ a xs, v = .ref a ∧ H a = some (.lst xs) ∧ DvAll K H xs ds := by
  cases h with
  | lst h1 h0 e0 h2 => exact ⟨_, _, rfl, h1, h2.mono e0⟩
theorem Dv.tup_inv {v : V} {ds : List Dt} (h : Dv K H v (.tup ds)) : ∃ a xs, v = .ref a ∧ SqT K H a xs ∧ DvAll K H xs ds := by
  cases h with
  | tup h1 h0 e0 h2 => exact ⟨_, _, rfl, h1.sq, h2.mono e0⟩
theorem Dv.ins_inv {v : V} {C : Addr} {gs : List (Str × Dt)} (h : Dv K H v (.ins C gs)) : ∃ a dx fs, v = .ref a ∧ H a = some (.ins C dx fs) ∧ fs.map (·.1) = gs.map (·.1) ∧ DvAll K H (fs.map (·.2)) (gs.map (·.2)) := by
  cases h with
  | ins h1 h0 e0 h2 h3 => exact ⟨_, _, _, rfl, h1, h2, h3.mono e0⟩

/-! ### plain data as the library's -/
mutual
def pyD : Dt → PyData
  | .non => .none
  | .bl b => .bool b
  | .int i => .int i
  | .str x => .str x
  | .lst ds => .list (pyAll ds)
  | .tup ds => .tuple (pyAll ds)
  | _ => .none
def pyAll : List Dt → List PyData
  | [] => []
  | d :: ds => pyD d :: pyAll ds
end
mutual
def plainD : Dt → Bool
  | .non => true
  | .bl _ => true
  | .int _ => true
  | .str _ => true
  | .lst ds => plainAll ds
  | .tup ds => plainAll ds
  | _ => false
def plainAll : List Dt → Bool
  | [] => true
  | d :: ds => plainD d && plainAll ds
end
theorem pyAll_eq : ∀ ds : List Dt, pyAll ds = ds.map pyD
  | [] => by simp [pyAll]
  | d :: ds => by simp [pyAll, pyAll_eq ds]
theorem plainAll_eq : ∀ ds : List Dt, plainAll ds = ds.all plainD
  | [] => by simp [plainAll]
  | d :: ds => by simp [plainAll, plainAll_eq ds]
mutual
theorem Dv.dpX : ∀ {H H' : Hp} {v : V} {d : Dt}, Dv K H v d → Ex H H' → plainD d = true → Dp K H' v (pyD d)
  | _, _, _, _, .non, _, _ => by rw [pyD]; exact .non
  | _, _, _, _, .bl b, _, _ => by rw [pyD]; exact .bl b
  | _, _, _, _, .int i, _, _ => by rw [pyD]; exact .int i
  | _, _, _, _, .str x, _, _ => by rw [pyD]; exact .str x
  | _, _, _, _, .lst h1 h0 e0 h2, e, p => by
    rw [plainD] at p
    rw [pyD]
    exact .lst (sq_of (e _ _ h1)) (DvAll.dpX h2 (e0.trans e) p)
  | _, _, _, _, .tup h1 h0 e0 h2, e, p => by
    rw [plainD] at p
    rw [pyD]
    exact .tup (sqT_mono e h1.sq) (DvAll.dpX h2 (e0.trans e) p)
  | _, _, _, _, .ins _ _ _ _ _, _, p => by simp [plainD] at p
  | _, _, _, _, .dK _ _ _ _ _, _, p => by simp [plainD] at p
  | _, _, _, _, .dT _ _ _ _ _, _, p => by simp [plainD] at p
theorem DvAll.dpX : ∀ {H H' : Hp} {vs : List V} {ds : List Dt}, DvAll K H vs ds → Ex H H' → plainAll ds = true → DpAll K H' vs (pyAll ds)
  | _, _, _, _, .nil, _, _ => by rw [pyAll]; exact .nil
  | _, _, _, _, .cons h1 h2, e, p => by
    rw [plainAll, Bool.and_eq_true] at p
    rw [pyAll]
    exact .cons (Dv.dpX h1 e p.1) (DvAll.dpX h2 e p.2)
end
theorem Dv.dp {v : V} {d : Dt} (h : Dv K H v d) (p : plainD d = true) : Dp K H v (pyD d) := h.dpX (Ex.refl H) p

/-! ### how a step leaves the frozen part and the heap: L: what it may change -/
structure Gr (L : List Addr) (S H S' H' : Hp) : Prop where
  s : Ex S S'
  i : Ex S' H'
  h : ∀ a o, a ∉ L → H a = some o → H' a = some o
  n : ∀ a o, a ∉ L → H a = some o → S a = none → S' a = none
theorem Gr.refl (f : Ex S H) : Gr L S H S H := ⟨Ex.refl S, f, fun _ _ _ e => e, fun _ _ _ _ e => e⟩
theorem Gr.trans (a : Gr L S H S1 H1) (b : Gr L2 S1 H1 S2 H2) (c : ∀ x ∈ L2, x ∈ L ∨ H x = none) : Gr L S H S2 H2 where
  s := a.s.trans b.s
  i := b.i
  h := by
    intro x o nx e
    refine b.h x o (fun m => ?_) (a.h x o nx e)
    rcases c x m with z | z
    · exact nx z
    · rw [z] at e; cases e
  n := by
    intro x o nx e z
    refine b.n x o (fun m => ?_) (a.h x o nx e) (a.n x o nx e z)
    rcases c x m with y | y
    · exact nx y
    · rw [y] at e; cases e
/-- a step that changes nothing that stood -/
theorem Gr.then (a : Gr L S H S1 H1) (b : Gr [] S1 H1 S2 H2) : Gr L S H S2 H2 := a.trans b fun _ m => nomatch m
theorem Gr.more (a : Gr L S H S1 H1) (c : ∀ x ∈ L, x ∈ L2) : Gr L2 S H S1 H1 :=
  ⟨a.s, a.i, fun x o nx => a.h x o fun m => nx (c x m), fun x o nx => a.n x o fun m => nx (c x m)⟩
theorem Gr.same (f : Ex S H) (e : Ex H H') : Gr L S H S H' := ⟨Ex.refl S, f.trans e, fun a o _ z => e a o z, fun _ _ _ _ z => z⟩
theorem Gr.newF (f : Ex S H) {p : Addr} {o : HO} (hp : H p = none) : Gr L S H (upd S p o) (upd H p o) := by
  have sp : S p = none := fresh_back f hp
  refine ⟨Ex.new sp, fun a u e => ?_, fun a u _ e => Ex.new hp a u e, fun a u _ e z => ?_⟩
  · by_cases h : a = p
    · subst h
      rw [upd_same] at e ⊢
      exact e
    · rw [upd_ne h] at e ⊢
      exact f a u e
  · rw [upd_ne (ne_of_none e hp)]
    exact z
theorem Gr.newO (f : Ex S H) {p : Addr} {o : HO} (hp : H p = none) : Gr L S H S (upd H p o) := Gr.same f (Ex.new hp)
theorem Gr.mut (f : Ex S H) {p : Addr} {o : HO} (sp : S p = none) (m : p ∈ L) : Gr L S H S (upd H p o) := by
  refine ⟨Ex.refl S, Ex.mut f sp, fun a u na e => ?_, fun _ _ _ _ z => z⟩
  rw [upd_ne (show a ≠ p from fun z => na (by rw [z]; exact m))]
  exact e
theorem Gr.frz (f : Ex S H) {p : Addr} {o : HO} (sp : S p = none) (hp : H p = some o) (m : p ∈ L) : Gr L S H (upd S p o) H := by
  refine ⟨Ex.new sp, fun a u e => ?_, fun _ _ _ e => e, fun a u na _ z => ?_⟩
  · by_cases h : a = p
    · subst h
      rw [upd_same] at e
      rw [hp]
      exact e
    · rw [upd_ne h] at e
      exact f a u e
  · rw [upd_ne (show a ≠ p from fun q => na (by rw [q]; exact m))]
    exact z
/-- what is owned stays -/
theorem Gr.own (g : Gr L S H S' H') {a : Addr} {o : HO} (na : a ∉ L) (h : H a = some o) (z : S a = none) : H' a = some o ∧ S' a = none := ⟨g.h a o na h, g.n a o na h z⟩
theorem Gr.nil_h (g : Gr [] S H S' H') : Ex H H' := fun a o e => g.h a o (fun m => nomatch m) e

/-- the data d come back -/
def RetD (K : PySem.W.Frag) (L : List Addr) (S H : Hp) (Q : VK) (d : Dt) : Prop := ∀ S' H' v, Gr L S H S' H' → Dv K S' v d → Q v H'
theorem RetD.int {Q : VK} {i : Int} (k : RetD K L S H Q (.int i)) (g : Gr L S H S' H') : Q (.int i) H' := k S' H' _ g (.int i)
theorem RetD.bl {Q : VK} {i : Bool} (k : RetD K L S H Q (.bl i)) (g : Gr L S H S' H') : Q (.bl i) H' := k S' H' _ g (.bl i)
theorem RetD.str {Q : VK} {i : Str} (k : RetD K L S H Q (.str i)) (g : Gr L S H S' H') : Q (.str i) H' := k S' H' _ g (.str i)
theorem RetD.non {Q : VK} (k : RetD K L S H Q .non) (g : Gr L S H S' H') : Q .non H' := k S' H' _ g .non
/-- a fresh list, not yet frozen, as data -/
theorem dv_lst_new {p : Addr} {xs : List V} {ds : List Dt} (sp : S p = none) (h : DvAll K S xs ds) : Dv K (upd S p (.lst xs)) (.ref p) (.lst ds) := .lst upd_same sp (Ex.new sp) h
theorem dv_tup_new {p : Addr} {xs : List V} {ds : List Dt} (sp : S p = none) (h : DvAll K S xs ds) : Dv K (upd S p (.tup xs)) (.ref p) (.tup ds) := .tup (.inl (.inl upd_same)) sp (Ex.new sp) h
theorem dv_tup0 {p : Addr} (h : ∀ H : Hp, SqT K H p []) : Dv K S (.ref p) (.tup []) := .tup (H0 := fun _ => none) (.inr ⟨rfl, h _⟩) rfl (fun _ _ z => by cases z) .nil
theorem dv_ins_new {p C dx : Addr} {fs : List (Str × V)} {gs : List (Str × Dt)} (sp : S p = none) (hk : fs.map (·.1) = gs.map (·.1)) (h : DvAll K S (fs.map (·.2)) (gs.map (·.2))) : Dv K (upd S p (.ins C dx fs)) (.ref p) (.ins C gs) := .ins upd_same sp (Ex.new sp) hk h
theorem dv_dK_new {p : Addr} {kvs : List (Key × V)} {gs : List (Key × Dt)} (sp : S p = none) (hk : kvs.map (·.1) = gs.map (·.1)) (h : DvAll K S (kvs.map (·.2)) (gs.map (·.2))) : Dv K (upd S p (.dK kvs)) (.ref p) (.dK gs) := .dK upd_same sp (Ex.new sp) hk h
theorem dv_dT_new {p : Addr} {kvs : List (List Key × V)} {gs : List (List Key × Dt)} (sp : S p = none) (hk : kvs.map (·.1) = gs.map (·.1)) (h : DvAll K S (kvs.map (·.2)) (gs.map (·.2))) : Dv K (upd S p (.dT kvs)) (.ref p) (.dT gs) := .dT upd_same sp (Ex.new sp) hk h
end
end Gd

set_option Elab.async false
set_option linter.all false
set_option maxRecDepth 100000
set_option maxHeartbeats 4000000
/-! G6: operators whatever the kinds of their values are; what to show at each. -/
namespace Gd
open PySem PySem.Spec PyProof.Rows L2
open Evl (Ex Ex.refl Ex.trans Ex.new Ex.mut ex_t ex_l sq_of st_of fresh_back)

section
variable {X : Cx}
def rAddX (K : PySem.W.Frag) : R2 := fun x y H Q => rI0 (fun i j => .int (i + j)) x y H Q ∨ ((∃ i j, x = .str i ∧ y = .str j ∧ i.length + j.length ≤ sizeLine ∧ Q (.str (i ++ j)) H) ∨ (rCat x y H Q ∨ rCatA K x y H Q))
theorem op_addX : OpR X (binaryOp .Add) (rAddX X.K) := op_add.or (op_add_str.or (op_cat.or op_catA))
def rLenX (K : PySem.W.Frag) : List V → Hp → VK → Prop := fun xs H Q => (∃ p ys, xs = [.ref p] ∧ (SqL K H p ys ∨ SqT K H p ys) ∧ Q (.int ys.length) H) ∨ (∃ z, xs = [.str z] ∧ z.length ≤ sizeLine ∧ Q (.int z.length) H)
theorem call_lenX : CallR X (.builtin "len") (rLenX X.K) := call_len_seq.or call_len_str
def rSortX (K : PySem.W.Frag) : List V → Hp → VK → Prop := fun xs H Q => rSortedS K xs H Q ∨ rSortST K xs H Q
theorem call_sortX : CallR X (.builtin "sorted") (rSortX X.K) := cr_sortedS.or cr_sortST
def rSlX (K : PySem.W.Frag) : V → Option Int → Option Int → Hp → VK → Prop := fun x lo hi H Q => rSlL K x lo hi H Q ∨ rSlA K x lo hi H Q
theorem sl_X : SlR X (rSlX X.K) := sl_list.or sl_tupA
theorem ix_X : IxR X (fun x y H Q => rIxL X.K x y H Q ∨ rIxT X.K x y H Q) := ix_list.or ix_tup
end

/-! ### what to show -/
section
variable {K : PySem.W.Frag} {H S : Hp} {Q : VK}
theorem i_add {i j : Int} (q : Q (.int (i + j)) H) : rAddX K (.int i) (.int j) H Q := .inl ⟨_, _, rfl, rfl, q⟩
theorem i_addS {i j : Str} (z : i.length + j.length ≤ 2000000) (q : Q (.str (i ++ j)) H) : rAddX K (.str i) (.str j) H Q := .inr (.inl ⟨_, _, rfl, rfl, Nat.le_trans z (by rw [sizeLine_eq]; decide), q⟩)
theorem i_cat {a b : Addr} {xs ys : List V} (h1 : H a = some (.lst xs)) (h2 : H b = some (.lst ys)) (z : xs.length + ys.length ≤ 1000000) (q : ∀ p, H p = none → Q (.ref p) (upd H p (.lst (xs ++ ys)))) : rAddX K (.ref a) (.ref b) H Q :=
  .inr (.inr (.inl ⟨a, b, xs, ys, rfl, rfl, h1, h2, Nat.le_trans z line_big, q⟩))
/-- tuples: the sum, as data -/
theorem i_catT {a b : Addr} {xs ys : List V} {ds es : List Dt} {L : List Addr} (f : Ex S H) (h1 : SqT K H a xs) (h2 : SqT K H b ys) (d1 : DvAll K S xs ds) (d2 : DvAll K S ys es) (e1 : Dv K S (.ref a) (.tup ds)) (e2 : Dv K S (.ref b) (.tup es))
    (z : xs.length + ys.length ≤ 1000000) (q : RetD K L S H Q (.tup (ds ++ es))) : rAddX K (.ref a) (.ref b) H Q := by
  refine .inr (.inr (.inr ⟨a, b, xs, ys, rfl, rfl, h1, h2, Nat.le_trans z line_big, ?_, ?_, ?_⟩))
  · rintro rfl
    cases d1
    exact q S H _ (Gr.refl f) e2
  · rintro _ rfl
    cases d2
    rw [List.append_nil] at q
    exact q S H _ (Gr.refl f) e1
  · intro _ _ p hp
    exact q _ _ _ (Gr.newF f hp) (dv_tup_new (fresh_back f hp) (d1.append d2))
theorem i_lenL {p : Addr} {ys : List V} (h : H p = some (.lst ys)) (q : Q (.int ys.length) H) : rLenX K [.ref p] H Q := .inl ⟨p, ys, rfl, .inl (sq_of h), q⟩
theorem i_lenQ {p : Addr} {ys : List V} (h : SqL K H p ys ∨ SqT K H p ys) (q : Q (.int ys.length) H) : rLenX K [.ref p] H Q := .inl ⟨p, ys, rfl, h, q⟩
theorem i_lenS {z : Str} (h : z.length ≤ 1000000) (q : Q (.int z.length) H) : rLenX K [.str z] H Q := .inr ⟨z, rfl, Nat.le_trans h line_big, q⟩

/-- a list or a tuple -/
inductive SqD (K : PySem.W.Frag) (S : Hp) (v : V) (ds : List Dt) : Prop where
  | l (h : Dv K S v (.lst ds))
  | t (h : Dv K S v (.tup ds))
theorem SqD.mono {S' : Hp} {v : V} {ds : List Dt} (e : Ex S S') : SqD K S v ds → SqD K S' v ds
  | .l h => .l (h.mono e)
  | .t h => .t (h.mono e)
theorem SqD.inv {v : V} {ds : List Dt} (f : Ex S H) (h : SqD K S v ds) : ∃ a xs, v = .ref a ∧ (SqL K H a xs ∨ SqT K H a xs) ∧ DvAll K S xs ds := by
  cases h with
  | l h =>
    obtain ⟨a, xs, e, h1, h2⟩ := h.lst_inv
    exact ⟨a, xs, e, .inl (sq_of (f _ _ h1)), h2⟩
  | t h =>
    obtain ⟨a, xs, e, h1, h2⟩ := h.tup_inv
    exact ⟨a, xs, e, .inr (sqT_mono f h1), h2⟩
theorem i_lenD {v : V} {ds : List Dt} (f : Ex S H) (h : SqD K S v ds) (q : Q (.int ds.length) H) : rLenX K [v] H Q := by
  obtain ⟨a, xs, rfl, h1, h2⟩ := h.inv f
  rw [← h2.length] at q
  exact i_lenQ h1 q
/-- an item -/
theorem i_ixD {v : V} {ds : List Dt} {d : Dt} {i : Int} {j : Nat} (f : Ex S H) (h : SqD K S v ds) (e : i = (j : Int)) (hd : ds[j]? = some d) (q : ∀ u, Dv K S u d → Q u H) : (rIxL K v (.int i) H Q ∨ rIxT K v (.int i) H Q) := by
  obtain ⟨a, xs, rfl, h1, h2⟩ := h.inv f
  obtain ⟨u, hu, du⟩ := h2.get hd
  subst e
  rcases h1 with h1 | h1
  · exact .inl ⟨a, xs, _, u, rfl, rfl, h1, atI_nat hu, q u du⟩
  · exact .inr ⟨a, xs, _, u, rfl, rfl, h1, atI_nat hu, q u du⟩
theorem i_ixL {a : Addr} {xs : List V} {x : V} {i : Int} {j : Nat} (h : H a = some (.lst xs)) (e : i = (j : Int)) (hx : xs[j]? = some x) (q : Q x H) : (rIxL K (.ref a) (.int i) H Q ∨ rIxT K (.ref a) (.int i) H Q) := by
  subst e
  exact .inl ⟨a, xs, _, x, rfl, rfl, sq_of h, atI_nat hx, q⟩
/-- sorted(xs): the texts in order -/
theorem i_sort {v : V} {ss : List Str} {L : List Addr} (f : Ex S H) (h : SqD K S v (ss.map Dt.str)) (z : ss.length < 64) (q : ∀ ys p, ys.Perm ss → sortedS ys = true → H p = none → Q (.ref p) (upd H p (.lst (ys.map V.str)))) : rSortX K [v] H Q := by
  obtain ⟨a, xs, rfl, h1, h2⟩ := h.inv f
  have e := dvAll_strs_inv h2
  subst e
  rcases h1 with h1 | h1
  · exact .inl ⟨a, ss, rfl, h1, z, q⟩
  · exact .inr ⟨a, ss, rfl, h1, z, q⟩
/-- tuple(x): as data -/
theorem i_tuple {v : V} {ds : List Dt} {L : List Addr} (f : Ex S H) (h : SqD K S v ds) (q : RetD K L S H Q (.tup ds)) :
    ∃ p ys, [v] = [V.ref p] ∧ ((SqL K H p ys ∧ ∀ l, H l = none → Q (.ref l) (upd H l (.tup ys))) ∨ (SqT K H p ys ∧ Q (.ref p) H)) := by
  cases h with
  | l h =>
    obtain ⟨a, xs, rfl, h1, h2⟩ := h.lst_inv
    exact ⟨a, xs, rfl, .inl ⟨sq_of (f _ _ h1), fun l hl => q _ _ _ (Gr.newF f hl) (dv_tup_new (fresh_back f hl) h2)⟩⟩
  | t h =>
    obtain ⟨a, xs, rfl, h1, h2⟩ := id h.tup_inv
    exact ⟨a, xs, rfl, .inr ⟨sqT_mono f h1, q _ _ _ (Gr.refl f) h⟩⟩
/-- list(x): a new list -/
theorem i_list {v : V} {ds : List Dt} (f : Ex S H) (h : SqD K S v ds) (q : ∀ l xs, H l = none → DvAll K S xs ds → Q (.ref l) (upd H l (.lst xs))) :
    ∃ p ys, [v] = [V.ref p] ∧ (SqL K H p ys ∨ SqT K H p ys) ∧ ∀ l, H l = none → Q (.ref l) (upd H l (.lst ys)) := by
  obtain ⟨a, xs, rfl, h1, h2⟩ := h.inv f
  exact ⟨a, xs, rfl, h1, fun l hl => q l xs hl h2⟩
/-- == of plain data -/
theorem i_eq {x y : V} {d e : Dt} (f : Ex S H) (h1 : Dv K S x d) (h2 : Dv K S y e) (p1 : plainD d = true) (p2 : plainD e = true) (s1 : SeqAt.shaped (pyD d) = true) (s2 : SeqAt.shaped (pyD e) = true)
    (q : Q (.bl (PyData.eqv (pyD d) (pyD e))) H) : rEqD K x y H Q := ⟨_, _, (h1.mono f).dp p1, (h2.mono f).dp p2, s1, s2, q⟩
theorem i_ne {x y : V} {d e : Dt} (f : Ex S H) (h1 : Dv K S x d) (h2 : Dv K S y e) (p1 : plainD d = true) (p2 : plainD e = true) (s1 : SeqAt.shaped (pyD d) = true) (s2 : SeqAt.shaped (pyD e) = true)
    (q : Q (.bl (!PyData.eqv (pyD d) (pyD e))) H) : rNeD K x y H Q := ⟨_, _, (h1.mono f).dp p1, (h2.mono f).dp p2, s1, s2, q⟩
end
end Gd

set_option Elab.async false
set_option linter.all false
set_option maxRecDepth 100000
set_option maxHeartbeats 4000000
/-! G7: comprehensions of truth values, isinstance, small words. -/
namespace Gd
open PySem PySem.Spec PyProof.Rows L2
open Evl (Ex Ex.refl Ex.trans Ex.new Ex.mut ex_t ex_l sq_of st_of fresh_back)

section
variable {K : PySem.W.Frag} {J : It} {n : Nat} {G : Hp → Prop} {Y : Nat → Hp → V → Hp → Prop} {g : TG} {tt : TT} {te : TE} {vs : List Nat} {σ : L2.St} {S H1 : Hp} {D : Addr}
/-- a comprehension of data: its i-th element is e i, each step leaves the frozen part and the heap by Gr -/
theorem lc_data (w : Walk J n G Y) (e : Nat → V) (P : Nat → Hp → Prop) (mono : ∀ i S S', Ex S S' → P i S → P i S') (f : Ex S H1) (hD : H1 D = none) (hz : n < sizeLine) (hG : ∀ S1 Hc, Gr [] S H1 S1 Hc → G Hc)
    (turn : ∀ i x S1 Hc Hc' (Qe : VK) (Nx : Hp → Prop), i < n → Gr [] S H1 S1 Hc → (∀ j, j < i → P j S1) → Y i Hc x Hc' → (∀ S' H4, Gr [] S1 Hc S' H4 → P i S' → Qe (e i) H4) →
      g x (wipe σ vs) Hc' fun σ2 H2 => wipe σ2 vs = wipe σ vs ∧ tt σ2 H2 fun b H3 => if b = true then te σ2 H3 Qe else Nx H3)
    {Qd : Hp → Prop} (done : ∀ S' H', Gr [] S H1 S' H' → S' D = none → H' D = some (.lst ((List.range n).map e)) → (∀ j, j < n → P j S') → Qd H') :
    ∃ W : Nat → Nat → Hp → Prop, (∃ m, W 0 m (upd H1 D (.lst []))) ∧ ∀ i m H, W i m H →
      (J.stop i H ∧ Qd H) ∨ (J.go i H ∧ ∃ Nx : Hp → Prop, (∀ H', Nx H' → ∃ m', m' < m ∧ W (i + 1) m' H') ∧ ∀ x H', J.yld i H x H' → g x (wipe σ vs) H' fun σ2 H2 => wipe σ2 vs = wipe σ vs ∧ tt σ2 H2 fun b H3 =>
        if b = true then te σ2 H3 fun y H4 => ∃ acc, H4 D = some (.lst acc) ∧ acc.length < sizeLine ∧ Nx (upd H4 D (.lst (acc ++ [y]))) else Nx H3) := by
  have sD : S D = none := fresh_back f hD
  refine lc_it w (fun i H => ∃ S1, Gr [] S H1 S1 H ∧ S1 D = none ∧ H D = some (.lst ((List.range i).map e)) ∧ ∀ j, j < i → P j S1) ?_ ?_ ?_ ?_
  · exact ⟨S, Gr.newO f hD, sD, upd_same, fun j h => absurd h (Nat.not_lt_zero j)⟩
  · rintro i H _ ⟨S1, g1, _⟩
    exact hG S1 H g1
  · rintro i x H H' hi ⟨S1, g1, s1, hl, hp⟩ y
    refine turn i x S1 H H' _ _ hi g1 hp y ?_
    intro S' H4 g2 p'
    obtain ⟨h4, s4⟩ := g2.own (fun m => nomatch m) hl s1
    refine ⟨_, h4, ?_, S', ?_, s4, ?_, ?_⟩
    · rw [List.length_map, List.length_range]
      exact Nat.lt_trans hi hz
    · refine (g1.then g2).trans (Gr.mut (L := [D]) g2.i s4 (by simp)) ?_
      intro z hz
      have e1 : z = D := by simpa using hz
      subst e1
      exact .inr hD
    · rw [upd_same, List.range_succ, List.map_append]
      rfl
    · intro j hj
      rcases Nat.lt_or_eq_of_le (Nat.le_of_lt_succ hj) with h | h
      · exact mono _ _ _ g2.s (hp j h)
      · rw [h]
        exact p'
  · rintro H ⟨S1, g1, s1, hl, hp⟩
    exact done S1 H g1 s1 hl hp
end
/-! ### isinstance -/
section
variable {K : PySem.W.Frag} {H : Hp} {Q : VK}
theorem i_isi {x : V} {a n : String} {b : Bool} (ty : TyX K H x (.type a)) (h : kitB a n = some b) (q : Q (.bl b) H) : rIsi K [x, .ty n] H Q := ⟨x, _, _, _, b, rfl, .ty n, ty, kit_ty h, q⟩
theorem ty_int {i : Int} : TyX K H (.int i) (.type "int") := .base (.int i)
theorem ty_str {z : Str} : TyX K H (.str z) (.type "str") := .base (.str z)
theorem ty_bl {z : Bool} : TyX K H (.bl z) (.type "bool") := .base (.bl z)
theorem ty_non : TyX K H .non (.type "NoneType") := .base .non
theorem ty_tup {a : Addr} {xs : List V} (h : SqT K H a xs) : TyX K H (.ref a) (.type "tuple") := by
  rcases h with (h | ⟨o, h⟩) | ⟨o, its, n, h, c, _⟩
  · exact .base (.tup h)
  · exact .fTuple h
  · exact .kTuple h c
theorem ty_lst {a : Addr} {xs : List V} (h : SqL K H a xs) : TyX K H (.ref a) (.type "list") := by
  rcases h with (h | ⟨o, h⟩) | ⟨o, its, n, h, c, _⟩
  · exact .base (.lst h)
  · exact .base (.frz h)
  · exact .kList h c
end
end Gd

set_option Elab.async false
set_option linter.all false
set_option maxRecDepth 100000
set_option maxHeartbeats 4000000
/-! G8: readings opened from their head. -/
namespace Gd
open PySem PySem.Spec PyProof.Rows L2
open Evl (Ex Ex.refl Ex.trans Ex.new Ex.mut ex_t ex_l sq_of st_of fresh_back)
section
variable {K : PySem.W.Frag} {σ : L2.St} {H : Hp} {Q : VK} {D : Ends} {t u : TS} {te ta tb tc : TE} {tt tA tB' : TT} {ar : TA} {r r' : R2} {g : TG} {gs : TGs} {v x : V}
theorem x_seq (h : t { D with nx := u D } σ H) : tSeq t u D σ H := h
theorem x_ret (h : te σ H D.rt) : tRet te D σ H := h
theorem x_retN (h : D.rt .non H) : tRetN D σ H := h
theorem x_next (h : D.nx σ H) : tNext D σ H := h
theorem x_drop (h : te σ H fun _ H1 => D.nx σ H1) : tDrop te D σ H := h
theorem x_if {c : TT} (h : c σ H fun b H1 => if b = true then t D σ H1 else u D σ H1) : tIfS c t u D σ H := h
theorem x_asg (h : te σ H fun x H1 => g x σ H1 D.nx) : tAsg te g D σ H := h
theorem x_par {i j : Nat} (h : ar σ H fun vs H1 => ∃ v w, vs = [v, w] ∧ D.nx ((σ.set i (some v)).set j (some w)) H1) : tPar i j ar D σ H := h
theorem x_par3 {i j l : Nat} (h : ar σ H fun vs H1 => ∃ u v w, vs = [u, v, w] ∧ D.nx (((σ.set i (some u)).set j (some v)).set l (some w)) H1) : tPar3 i j l ar D σ H := h
theorem x_sfld {f : Str} (h : tb σ H fun y H1 => ta σ H1 fun x H2 => ∃ a C dx fs, x = .ref a ∧ H2 a = some (.ins C dx fs) ∧ Cls K C ∧ NoAttr K C f ∧ fs.length < 1000 ∧ D.nx σ (upd H2 a (.ins C dx (putF f y fs)))) : sFld K ta tb f D σ H := h
theorem x_var {i : Nat} (h : σ[i]? = some (some v)) (q : Q v H) : tVar i σ H Q := ⟨v, h, q⟩
theorem x_c (q : Q v H) : tC v σ H Q := q
theorem x_op (h : ta σ H fun x H1 => tb σ H1 fun y H2 => r x y H2 Q) : tOp r ta tb σ H Q := h
theorem x_un {r : V → Hp → VK → Prop} (h : ta σ H fun x H1 => r x H1 Q) : tUn r ta σ H Q := h
theorem x_chain (h : ta σ H fun x H1 => tb σ H1 fun y H2 => r x y H2 fun z H3 => ∃ k, z = .bl k ∧ (if k = true then tc σ H3 fun w' H4 => r' y w' H4 Q else Q (.bl false) H3)) : tChain r r' ta tb tc σ H Q := h
theorem x_andV (h : ta σ H fun x H1 => ∃ c, x = .bl c ∧ if c = true then tb σ H1 Q else Q (.bl false) H1) : tAndV ta tb σ H Q := h
theorem x_orV (h : ta σ H fun x H1 => ∃ c, x = .bl c ∧ if c = true then Q (.bl true) H1 else tb σ H1 Q) : tOrV ta tb σ H Q := h
theorem x_notV (h : ta σ H fun x H1 => ∃ c, x = .bl c ∧ Q (.bl (!c)) H1) : tNotV ta σ H Q := h
theorem x_ifE (h : tt σ H fun c H1 => if c = true then ta σ H1 Q else tb σ H1 Q) : tIf tt ta tb σ H Q := h
theorem x_nil {Q : List V → Hp → Prop} (h : Q [] H) : tNil σ H Q := h
theorem x_cons {Q : List V → Hp → Prop} (h : te σ H fun x H1 => ar σ H1 fun xs H2 => Q (x :: xs) H2) : tCons te ar σ H Q := h
theorem x_star {Q : List V → Hp → Prop} (h : te σ H fun x H1 => ∃ p xs, x = V.ref p ∧ (SqT K H1 p xs ∨ SqL K H1 p xs) ∧ ar σ H1 fun ys H2 => Q (xs ++ ys) H2) : StX.tStar K te ar σ H Q := h
theorem x_tup (h : ar σ H fun xs H1 => xs.length ≤ sizeLine ∧ ∀ p, H1 p = none → Q (.ref p) (upd H1 p (.tup xs))) : tTup ar σ H Q := h
theorem x_lst (h : ar σ H fun xs H1 => xs.length ≤ sizeLine ∧ ∀ p, H1 p = none → Q (.ref p) (upd H1 p (.lst xs))) : tLst ar σ H Q := h
theorem x_cb {r : List V → Hp → VK → Prop} (h : ar σ H fun vs H1 => r vs H1 Q) : tCB r ar σ H Q := h
theorem x_call {sp : Sp} {dvs : List V} {E : XK} (h : ar σ H fun vs H1 => sp (vs ++ dvs) H1 Q E) : tCall sp dvs E ar σ H Q := h
theorem x_meth {C : Addr} {m : Str} {sp : Sp} {dvs : List V} {E : XK} (h : ta σ H fun x H1 => ∃ a dx fs, x = .ref a ∧ H1 a = some (.ins C dx fs) ∧ fs.lookup m = none ∧ ar σ H1 fun vs H2 => sp (x :: (vs ++ dvs)) H2 Q E) : tMeth C m sp dvs E ta ar σ H Q := h
theorem x_make {C : Addr} {sp : Sp} {dvs : List V} {E : XK} (h : ar σ H fun vs H1 => ∀ x dx, H1 x = none → H1 dx = none → dx ≠ x → sp (.ref x :: (vs ++ dvs)) (upd (upd H1 dx (.own x)) x (.ins C dx [])) (fun v H2 => v = .non ∧ Q (.ref x) H2) E) : tMake C sp dvs E ar σ H Q := h
theorem x_fld {f : Str} (h : ta σ H fun x H1 => ∃ a C dx fs v, x = .ref a ∧ H1 a = some (.ins C dx fs) ∧ Cls K C ∧ NoAttr K C f ∧ fs.lookup f = some v ∧ Q v H1) : tFld K ta f σ H Q := h
theorem x_bm0 {T : String} {r : V → List V → Hp → VK → Prop} (h : ta σ H fun x H1 => tyV K T x H1 ∧ r x [] H1 Q) : tBM0 K T r ta σ H Q := h
theorem x_bm {T : String} {r : V → List V → Hp → VK → Prop} (h : ta σ H fun x H1 => tyV K T x H1 ∧ ar σ H1 fun xs H2 => r x xs H2 Q) : tBM K T r ta ar σ H Q := h
theorem x_sl {r : V → Option Int → Option Int → Hp → VK → Prop} {tl th : TO} (h : te σ H fun x H1 => tl σ H1 fun l H2 => th σ H2 fun u H3 => r x l u H3 Q) : tSl r te tl th σ H Q := h
theorem x_no {Q : Option Int → Hp → Prop} (h : Q none H) : tNoPart σ H Q := h
theorem x_part {Q : Option Int → Hp → Prop} (h : te σ H fun x H1 => ∃ i, x = .int i ∧ Q (some i) H1) : tPart te σ H Q := h
theorem x_rev (h : te σ H fun x H1 => ∃ a xs, x = .ref a ∧ SqL K H1 a xs ∧ ∀ p, H1 p = none → Q (.ref p) (upd H1 p (.lst xs.reverse))) : tRevL K te σ H Q := h
theorem x_fmtD (h : te σ H fun x H1 => ∃ a d, x = .ref a ∧ Dp K H1 (.ref a) d ∧ Shows d ∧ Q (.str d.shown) H1) : tFmtD K te σ H Q := h
-- tests
theorem x_test {Q : Bool → Hp → Prop} (h : te σ H fun x H' => ∃ k, x = .bl k ∧ Q k H') : tTest te σ H Q := h
theorem x_tB {Q : Bool → Hp → Prop} (h : te σ H fun x H1 => ∃ c, x = .bl c ∧ Q c H1) : tB te σ H Q := h
theorem x_and {Q : Bool → Hp → Prop} (h : tA σ H fun c H1 => if c = true then tB' σ H1 Q else Q false H1) : tAnd tA tB' σ H Q := h
theorem x_or {Q : Bool → Hp → Prop} (h : tA σ H fun c H1 => if c = true then Q true H1 else tB' σ H1 Q) : tOr tA tB' σ H Q := h
theorem x_not {Q : Bool → Hp → Prop} (h : tA σ H fun c H1 => Q (!c) H1) : tNot tA σ H Q := h
theorem x_yes {Q : Bool → Hp → Prop} (h : Q true H) : tYes σ H Q := h
-- targets
theorem x_gname {i : Nat} {Q : L2.St → Hp → Prop} (h : Q (σ.set i (some v)) H) : gName i v σ H Q := h
theorem x_gtup {n : Nat} {Q : L2.St → Hp → Prop} (h : ∃ a xs, v = .ref a ∧ SqT K H a xs ∧ xs.length = n ∧ gs xs σ H Q) : gTup K n gs v σ H Q := h
theorem x_gnil {Q : L2.St → Hp → Prop} (h : Q σ H) : gNil [] σ H Q := ⟨rfl, h⟩
theorem x_gcons {vs : List V} {Q : L2.St → Hp → Prop} (h : g v σ H fun σ' H' => gs vs σ' H' Q) : gCons g gs (v :: vs) σ H Q := ⟨v, vs, rfl, h⟩
theorem x_gsub {ts : TSet} {Q : L2.St → Hp → Prop} (h : ta σ H fun o H1 => tb σ H1 fun i H2 => ts o i v H2 fun H3 => Q σ H3) : gSub ta tb ts v σ H Q := h
-- what is walked
theorem x_iList {R : It → Hp → Prop} (h : te σ H fun x H1 => ∃ a, x = .ref a ∧ (∃ xs, SqL K H1 a xs) ∧ R (Itl K a) H1) : iList K te σ H R := h
theorem x_iStr {R : It → Hp → Prop} (h : te σ H fun v H1 => ∃ x, v = .str x ∧ R (Its x) H1) : iStr te σ H R := h
theorem x_iRng1 {R : It → Hp → Prop} (h : ar σ H fun vs H1 => ∃ j : Int, vs = [.int j] ∧ -(2 ^ 62) ≤ j ∧ j < 2 ^ 62 ∧ R (Itr 0 j.toNat) H1) : iRng1 ar σ H R := h
theorem x_iEnumQ {R : It → Hp → Prop} (h : ar σ H fun vs H1 => ∃ a xs, vs = [.ref a] ∧ ((SqL K H1 a xs ∧ R (Ite K a) H1) ∨ (SqT K H1 a xs ∧ R (IteT K a) H1))) : iEnumQ K ar σ H R := h
theorem iteNT {A B : Prop} (h : B) : if (!true) = true then A else B := h
theorem iteNF {A B : Prop} (h : A) : if (!false) = true then A else B := h
-- operators on ints
theorem i_I0 {f : Int → Int → V} {i j : Int} (h : Q (f i j) H) : rI0 f (.int i) (.int j) H Q := ⟨i, j, rfl, rfl, h⟩
theorem i_I {C : Int → Int → Prop} {f : Int → Int → V} {i j : Int} (c : C i j) (h : Q (f i j) H) : rI C f (.int i) (.int j) H Q := ⟨i, j, rfl, rfl, c, h⟩
theorem i_U {f : Int → V} {i : Int} (h : Q (f i) H) : rU f (.int i) H Q := ⟨i, rfl, h⟩
-- an ite whose test is known
theorem x_bl {b : Bool} {P : Bool → Prop} (h : P b) : ∃ c, V.bl b = .bl c ∧ P c := ⟨b, rfl, h⟩
end
end Gd

set_option Elab.async false
set_option linter.all false
set_option maxRecDepth 100000
set_option maxHeartbeats 4000000
/-! G9: lists of texts in order are one; == of data by parts; texts of data. -/
namespace Gd
open PySem PySem.Spec PyProof.Rows L2
open Evl (Ex Ex.refl Ex.trans Ex.new Ex.mut ex_t ex_l sq_of st_of fresh_back)

def leS (a b : Str) : Prop := a.cps.toList ≤ b.cps.toList
theorem leS_trans {a b c : Str} (h1 : leS a b) (h2 : leS b c) : leS a c := List.le_trans h1 h2
theorem leS_anti {a b : Str} (h1 : leS a b) (h2 : leS b a) : a = b := by
  have e : a.cps.toList = b.cps.toList := List.le_antisymm h1 h2
  cases a with
  | mk ca =>
    cases b with
    | mk cb =>
      have e2 : ca = cb := by
        have := congrArg List.toArray e
        simpa using this
      rw [e2]
theorem rising_all : ∀ (r : List Str) (p : Str), risingS p r = true → (∀ x ∈ r, leS p x) ∧ r.Pairwise leS
  | [], _, _ => ⟨(fun _ h => nomatch h), List.Pairwise.nil⟩
  | x :: r, p, h => by
    have h' : (!ltCps x.cps.toList p.cps.toList && risingS x r) = true := h
    rw [Bool.and_eq_true, Bool.not_eq_true', ltCps_eq, decide_eq_false_iff_not] at h'
    have le : leS p x := List.not_lt.mp h'.1
    obtain ⟨a, b⟩ := rising_all r x h'.2
    refine ⟨fun y hy => ?_, List.Pairwise.cons a b⟩
    rcases List.mem_cons.mp hy with rfl | hy
    · exact le
    · exact leS_trans le (a y hy)
theorem sortedS_pw : ∀ {l : List Str}, sortedS l = true → l.Pairwise leS
  | [], _ => List.Pairwise.nil
  | x :: r, h => let ⟨a, b⟩ := rising_all r x h; List.Pairwise.cons a b
theorem sortedS_one {l1 l2 : List Str} (p : l1.Perm l2) (h1 : sortedS l1 = true) (h2 : sortedS l2 = true) : l1 = l2 :=
  List.Perm.eq_of_pairwise (fun _ _ _ _ a b => leS_anti a b) (sortedS_pw h1) (sortedS_pw h2) p

/-! ### == -/
theorem eqvAll_map {α : Type} {f : α → PyData} [DecidableEq α] (h : ∀ a b, PyData.eqv (f a) (f b) = decide (a = b)) : ∀ xs ys : List α, PyData.eqvAll (xs.map f) (ys.map f) = decide (xs = ys)
  | [], [] => by simp [PyData.eqvAll]
  | [], _ :: _ => by simp [PyData.eqvAll]
  | _ :: _, [] => by simp [PyData.eqvAll]
  | x :: xs, y :: ys => by
    simp only [List.map_cons, PyData.eqvAll, h, eqvAll_map h xs ys, List.cons.injEq, Bool.decide_and]
theorem eqv_str (a b : Str) : PyData.eqv (.str a) (.str b) = decide (a = b) := by
  rw [PyData.eqv]
  by_cases h : a = b
  · subst h; simp
  · rw [decide_eq_false h, beq_eq_false_iff_ne.mpr h]
theorem eqv_bool (a b : Bool) : PyData.eqv (.bool a) (.bool b) = decide (a = b) := by
  rw [PyData.eqv]
  cases a <;> cases b <;> rfl
theorem eqv_int (a b : Int) : PyData.eqv (.int a) (.int b) = decide (a = b) := by
  rw [PyData.eqv]
  by_cases h : a = b
  · subst h; simp
  · rw [decide_eq_false h, beq_eq_false_iff_ne.mpr h]

/-! ### data's measures over lists -/
theorem canLayAll_map {α : Type} {f : α → PyData} {l : List α} (h : ∀ a ∈ l, (f a).canLay0 = true) : PyData.canLayAll0 (l.map f) = true := by
  induction l with
  | nil => simp [PyData.canLayAll0]
  | cons a l ih =>
    simp only [List.map_cons, PyData.canLayAll0, Bool.and_eq_true]
    exact ⟨h a (.head _), ih fun b hb => h b (.tail _ hb)⟩
theorem depthAll_map {α : Type} {f : α → PyData} {l : List α} {n : Nat} (h : ∀ a ∈ l, (f a).depth ≤ n) : PyData.depthAll (l.map f) ≤ n := by
  induction l with
  | nil => simp [PyData.depthAll]
  | cons a l ih =>
    simp only [List.map_cons, PyData.depthAll]
    exact Nat.max_le.mpr ⟨h a (.head _), ih fun b hb => h b (.tail _ hb)⟩
theorem showableAll_map {α : Type} {f : α → PyData} {l : List α} (h : ∀ a ∈ l, (f a).showable = true) : PyData.showableAll (l.map f) = true := by
  induction l with
  | nil => simp [PyData.showableAll]
  | cons a l ih =>
    simp only [List.map_cons, PyData.showableAll, Bool.and_eq_true]
    exact ⟨h a (.head _), ih fun b hb => h b (.tail _ hb)⟩
theorem shownAll_map {α : Type} (f : α → PyData) : ∀ l : List α, PyData.shownAll (l.map f) = l.map fun a => (f a).shown
  | [] => by simp [PyData.shownAll]
  | a :: l => by simp only [List.map_cons, PyData.shownAll, shownAll_map f l]
theorem sum_le {α : Type} {g : α → Nat} {l : List α} {B : Nat} (h : ∀ a ∈ l, g a ≤ B) : (l.map g).sum ≤ l.length * B := by
  induction l with
  | nil => simp
  | cons a l ih =>
    simp only [List.map_cons, List.sum_cons, List.length_cons]
    have h1 := h a (.head _)
    have h2 := ih fun b hb => h b (.tail _ hb)
    rw [Nat.add_mul]
    omega
/-- the length of a list's text -/
theorem listLen {α : Type} {f : α → PyData} {l : List α} {B : Nat} (h : ∀ a ∈ l, (f a).shown.length ≤ B) : (PyData.list (l.map f)).shown.length ≤ l.length * (B + 2) + 3 := by
  rw [PyData.shown, shownAll_map]
  refine Nat.le_trans (listText_len_le _) ?_
  have := sum_le (g := fun a => (f a).shown.length) h
  simp only [List.map_map, List.length_map]
  have e : (l.map ((fun x : Str => x.length) ∘ fun a => (f a).shown)).sum = (l.map fun a => (f a).shown.length).sum := rfl
  rw [e, Nat.mul_add]
  omega
theorem tupLen {α : Type} {f : α → PyData} {l : List α} {B : Nat} (h : ∀ a ∈ l, (f a).shown.length ≤ B) : (PyData.tuple (l.map f)).shown.length ≤ l.length * (B + 2) + 3 := by
  rw [PyData.shown, shownAll_map]
  refine Nat.le_trans (tupleText_len_le _) ?_
  have := sum_le (g := fun a => (f a).shown.length) h
  simp only [List.map_map, List.length_map]
  have e : (l.map ((fun x : Str => x.length) ∘ fun a => (f a).shown)).sum = (l.map fun a => (f a).shown.length).sum := rfl
  rw [e, Nat.mul_add]
  omega
end Gd

set_option Elab.async false
set_option linter.all false
set_option maxRecDepth 100000
set_option maxHeartbeats 4000000
/-! G10: loops over data. -/
namespace Gd
open PySem PySem.Spec PyProof.Rows L2
open Evl (Ex Ex.refl Ex.trans Ex.new Ex.mut ex_t ex_l sq_of st_of fresh_back)
section
variable {K : PySem.W.Frag} {σ : L2.St} {H S : Hp} {Q : VK} {D : Ends} {g : TG} {tb : TS} {te : TE} {tt : TT} {wi : TI} {v : V} {ds : List Dt}
theorem x_for (h : wi σ H fun J H1 => ∃ W : Nat → Nat → L2.St → Hp → Prop, (∃ m, W 0 m σ H1) ∧ ∀ i m σ H, W i m σ H →
  (J.stop i H ∧ D.nx σ H) ∨ (J.go i H ∧ ∃ N : L2.St → Hp → Prop, (∀ σ' H', N σ' H' → ∃ m', m' < m ∧ W (i + 1) m' σ' H') ∧ ∀ x H', J.yld i H x H' → g x σ H' fun σ2 H2 => tb { D with nx := N, ct := N, bk := D.nx } σ2 H2)) : tFor wi g tb D σ H := h
theorem x_int {j : Int} {P : Int → Prop} (h : P j) : ∃ i, V.int j = .int i ∧ P i := ⟨j, rfl, h⟩
/-- isinstance(x, (T, ..)) -/
theorem i_isT {x : V} {a n1 n2 : String} {p : Addr} {b : Bool} (hp : H p = some (.tup [.ty n1, .ty n2])) (ty : TyX K H x (.type a)) (b1 b2 : Bool) (h1 : kitB a n1 = some b1) (h2 : kitB a n2 = some b2) (e : (b1 || b2) = b) (q : Q (.bl b) H) : rIsiT K [x, .ref p] H Q := by
  refine ⟨x, p, _, _, [.type n1, .type n2], b, rfl, hp, .cons (.ty n1) (.cons (.ty n2) .nil), ty, ?_, q⟩
  subst e
  refine kitAny_cons (b := b1) (kit_ty h1) (fun z => ?_) (fun z => by rw [z]; rfl)
  subst z
  refine kitAny_cons (b := b2) (kit_ty h2) (fun z => ?_) (fun z => by rw [z]; rfl)
  subst z
  exact kitAny_nil
theorem ty_seq (f : Ex S H) (h : SqD K S v ds) : ∃ a : String, TyX K H v (.type a) ∧ (a = "list" ∨ a = "tuple") := by
  obtain ⟨a, xs, rfl, h1, h2⟩ := h.inv f
  rcases h1 with h1 | h1
  · exact ⟨_, ty_lst h1, .inl rfl⟩
  · exact ⟨_, ty_tup h1, .inr rfl⟩
/-- for i, x in enumerate(xs), at the arguments' values -/
def FE (K : PySem.W.Frag) (g : TG) (tb : TS) (D : Ends) (σ : L2.St) : List V → Hp → Prop := fun vs H => ∃ a xs, vs = [V.ref a] ∧ ((SqL K H a xs ∧ ∃ W : Nat → Nat → L2.St → Hp → Prop, (∃ m, W 0 m σ H) ∧ ∀ i m σ H, W i m σ H →
      ((Ite K a).stop i H ∧ D.nx σ H) ∨ ((Ite K a).go i H ∧ ∃ N : L2.St → Hp → Prop, (∀ σ' H', N σ' H' → ∃ m', m' < m ∧ W (i + 1) m' σ' H') ∧ ∀ x H', (Ite K a).yld i H x H' → g x σ H' fun σ2 H2 => tb { D with nx := N, ct := N, bk := D.nx } σ2 H2)) ∨
      (SqT K H a xs ∧ ∃ W : Nat → Nat → L2.St → Hp → Prop, (∃ m, W 0 m σ H) ∧ ∀ i m σ H, W i m σ H →
      ((IteT K a).stop i H ∧ D.nx σ H) ∨ ((IteT K a).go i H ∧ ∃ N : L2.St → Hp → Prop, (∀ σ' H', N σ' H' → ∃ m', m' < m ∧ W (i + 1) m' σ' H') ∧ ∀ x H', (IteT K a).yld i H x H' → g x σ H' fun σ2 H2 => tb { D with nx := N, ct := N, bk := D.nx } σ2 H2)))
theorem x_forEnum {ta : TA} (h : ta σ H fun vs H1 => FE K g tb D σ vs H1) : tFor (iEnumQ K ta) g tb D σ H := h
theorem i_forEnum (f : Ex S H) (h : SqD K S v ds) (Pv : Nat → L2.St → Hp → Prop) (h0 : Pv 0 σ H) (hG : ∀ i σ H, i ≤ ds.length → Pv i σ H → Ex S H)
    (hs : ∀ i σ H x d T, ds[i]? = some d → Dv K S x d → Pv i σ H → H T = none → g (.ref T) σ (upd H T (.tup [.int (i : Nat), x])) fun σ2 H2 => tb { D with nx := Pv (i + 1), ct := Pv (i + 1), bk := D.nx } σ2 H2) (hd : ∀ σ H, Pv ds.length σ H → D.nx σ H) :
    FE K g tb D σ [v] H := by
  have fin : ∀ {J : It} {xs : List V}, DvAll K S xs ds → Walk J ds.length (fun H => Ex S H) (YPair (fun i => some (.int (i : Nat))) (fun i => xs[i]?)) → ∃ W : Nat → Nat → L2.St → Hp → Prop, (∃ m, W 0 m σ H) ∧ ∀ i m σ H, W i m σ H →
      (J.stop i H ∧ D.nx σ H) ∨ (J.go i H ∧ ∃ N : L2.St → Hp → Prop, (∀ σ' H', N σ' H' → ∃ m', m' < m ∧ W (i + 1) m' σ' H') ∧ ∀ x H', J.yld i H x H' → g x σ H' fun σ2 H2 => tb { D with nx := N, ct := N, bk := D.nx } σ2 H2) := by
    intro J xs hx w
    refine for_it w Pv h0 hG ?_ hd
    rintro i x σ H H' hi pv ⟨T, u, y, rfl, hT, rfl, e1, e2⟩
    cases e1
    obtain ⟨d, hd', dv⟩ := hx.get' e2
    exact hs i σ H y d T hd' dv pv hT
  cases h with
  | l h =>
    obtain ⟨a, xs, rfl, h1, h2⟩ := h.lst_inv
    refine ⟨a, xs, rfl, .inl ⟨sq_of (f _ _ h1), fin h2 ?_⟩⟩
    rw [← h2.length]
    exact walk_enum.mono (fun H f' => sq_of (f' _ _ h1)) fun _ _ _ _ _ _ y => y
  | t h =>
    obtain ⟨a, xs, rfl, h1, h2⟩ := h.tup_inv
    refine ⟨a, xs, rfl, .inr ⟨sqT_mono f h1, fin h2 ?_⟩⟩
    rw [← h2.length]
    exact walk_enumT.mono (fun H f' => sqT_mono f' h1) fun _ _ _ _ _ _ y => y
/-- a pair taken apart -/
theorem i_pair {T : Addr} {a b : V} {gs : TGs} {Q : L2.St → Hp → Prop} (h : gs [a, b] σ (upd H T (.tup [a, b])) Q) : gTup K 2 gs (.ref T) σ (upd H T (.tup [a, b])) Q := ⟨T, _, rfl, st_of upd_same, rfl, h⟩
/-- data taken apart -/
theorem i_gtup {n : Nat} {gs : TGs} {Q : L2.St → Hp → Prop} (f : Ex S H) (h : Dv K S v (.tup ds)) (hn : ds.length = n) (q : ∀ xs, DvAll K S xs ds → gs xs σ H Q) : gTup K n gs v σ H Q := by
  obtain ⟨a, xs, rfl, h1, h2⟩ := h.tup_inv
  exact ⟨a, xs, rfl, sqT_mono f h1, h2.length.trans hn, q xs h2⟩
theorem walk_listD {a : Addr} {xs : List V} (h : S a = some (.lst xs)) (hx : DvAll K S xs ds) : Walk (Itl K a) ds.length (fun H => Ex S H) (fun i H x H' => H' = H ∧ ∃ d, ds[i]? = some d ∧ Dv K S x d) := by
  rw [← hx.length]
  exact walk_list.mono (fun H f => sq_of (f _ _ h)) fun i H x H' _ _ y => ⟨y.1, hx.get' y.2⟩
theorem dvAll_map {α : Type} {f : α → Dt} {as : List α} {xs : List V} (h : DvAll K S xs (as.map f)) {i : Nat} {x : V} (e : xs[i]? = some x) : ∃ a, as[i]? = some a ∧ Dv K S x (f a) := by
  obtain ⟨d, h1, h2⟩ := h.get' e
  rw [List.getElem?_map] at h1
  cases q : as[i]? with
  | none => rw [q] at h1; cases h1
  | some a => rw [q] at h1; cases h1; exact ⟨a, rfl, h2⟩
theorem map_at {α : Type} {f : α → Dt} {as : List α} {i : Nat} {d : Dt} (h : (as.map f)[i]? = some d) : ∃ a, as[i]? = some a ∧ d = f a := by
  rw [List.getElem?_map] at h
  cases q : as[i]? with
  | none => rw [q] at h; cases h
  | some a => rw [q] at h; cases h; exact ⟨a, rfl, rfl⟩
/-- the part of a list between two places -/
def cut {α : Type} (xs : List α) (lo hi : Option Int) : List α := (xs.drop (HT.sIx xs.length 0 lo)).take (HT.sIx xs.length xs.length hi - HT.sIx xs.length 0 lo)
theorem cut_take {α : Type} (xs : List α) (n : Nat) : cut xs none (some (n : Int)) = xs.take n := by
  unfold cut
  rw [HT.sIx_none, HT.sIx_nat, List.drop_zero, Nat.sub_zero]
  by_cases h : n ≤ xs.length
  · rw [Nat.min_eq_left h]
  · rw [Nat.min_eq_right (by omega), List.take_of_length_le (Nat.le_refl _), List.take_of_length_le (by omega)]
theorem cut_drop {α : Type} (xs : List α) (n : Nat) : cut xs (some (n : Int)) none = xs.drop n := by
  unfold cut
  rw [HT.sIx_none, HT.sIx_nat]
  by_cases h : n ≤ xs.length
  · rw [Nat.min_eq_left h, List.take_of_length_le (by rw [List.length_drop]; omega)]
  · rw [Nat.min_eq_right (by omega), Nat.sub_self, List.take_zero, List.drop_of_length_le (by omega)]
theorem cut_map {α β : Type} (f : α → β) (xs : List α) (lo hi : Option Int) : cut (xs.map f) lo hi = (cut xs lo hi).map f := by
  unfold cut
  rw [List.length_map, List.map_take, List.map_drop]
theorem DvAll.cut {vs : List V} (lo hi : Option Int) (h : DvAll K S vs ds) : DvAll K S (cutV vs lo hi) (cut ds lo hi) := by
  show DvAll K S ((vs.drop _).take _) ((ds.drop _).take _)
  rw [h.length]
  exact (h.drop _).take _
theorem i_slL {L : List Addr} {lo hi : Option Int} (f : Ex S H) (h : Dv K S v (.lst ds)) (q : RetD K L S H Q (.lst (cut ds lo hi))) : rSlX K v lo hi H Q := by
  obtain ⟨a, xs, rfl, h1, h2⟩ := h.lst_inv
  exact .inl ⟨a, xs, rfl, sq_of (f _ _ h1), fun p hp => q _ _ _ (Gr.newF f hp) (dv_lst_new (fresh_back f hp) (h2.cut lo hi))⟩
theorem i_slT {L : List Addr} {lo hi : Option Int} (f : Ex S H) (h : Dv K S v (.tup ds)) (q : RetD K L S H Q (.tup (cut ds lo hi))) : rSlX K v lo hi H Q := by
  obtain ⟨a, xs, rfl, h1, h2⟩ := id h.tup_inv
  refine .inr ⟨a, xs, rfl, sqT_mono f h1, fun w => ?_, fun _ p hp => q _ _ _ (Gr.newF f hp) (dv_tup_new (fresh_back f hp) (h2.cut lo hi))⟩
  have e : Gd.cut ds lo hi = ds := by
    unfold Gd.cut
    rw [← h2.length, w.1, w.2, List.drop_zero, Nat.sub_zero, h2.length, List.take_length]
  rw [e] at q
  exact q _ _ _ (Gr.refl f) h
theorem i_sl {L : List Addr} {lo hi : Option Int} (f : Ex S H) (h : SqD K S v ds) (q : ∀ S' H' w, Gr L S H S' H' → SqD K S' w (cut ds lo hi) → Q w H') : rSlX K v lo hi H Q := by
  cases h with
  | l h => exact i_slL (L := L) f h fun S' H' w g d => q S' H' w g (.l d)
  | t h => exact i_slT (L := L) f h fun S' H' w g d => q S' H' w g (.t d)
/-- a text in a list or a tuple of texts -/
theorem inV_str (s : Str) (gs : List Str) : inV (.str s) (gs.map V.str) = gs.contains s := by
  unfold inV
  induction gs with
  | nil => rfl
  | cons g r ih =>
    rw [List.map_cons, List.any_cons, ih, List.contains_cons]
    congr 1
    show eqV (.str g) (.str s) = (s == g)
    have : eqV (.str g) (.str s) = decide (g = s) := rfl
    rw [this, Bool.eq_iff_iff, decide_eq_true_eq, beq_iff_eq]
    exact ⟨Eq.symm, Eq.symm⟩
theorem i_inS {neg : Bool} {s : Str} {gs : List Str} (f : Ex S H) (h : SqD K S v (gs.map Dt.str)) (q : Q (.bl (if neg then !gs.contains s else gs.contains s)) H) : rIn K neg (.str s) v H Q := by
  obtain ⟨a, xs, rfl, h1, h2⟩ := h.inv f
  have e := dvAll_strs_inv h2
  subst e
  refine ⟨a, _, rfl, h1, rfl, ?_, ?_⟩
  · rw [List.all_map, List.all_eq_true]
    exact fun _ _ => rfl
  · rw [inV_str]
    exact q
/-! ### tuple(x), list(x) -/
def rTupX (K : PySem.W.Frag) : List V → Hp → VK → Prop := fun xs H Q => ∃ p ys, xs = [.ref p] ∧ ((SqL K H p ys ∧ ∀ l, H l = none → Q (.ref l) (upd H l (.tup ys))) ∨ (SqT K H p ys ∧ Q (.ref p) H))
def rListX (K : PySem.W.Frag) : List V → Hp → VK → Prop := fun xs H Q => ∃ p ys, xs = [.ref p] ∧ (SqL K H p ys ∨ SqT K H p ys) ∧ ∀ l, H l = none → Q (.ref l) (upd H l (.lst ys))
theorem call_tupX {X : Cx} : CallR X (.type "tuple") (rTupX X.K) := call_tuple_of
theorem call_listX {X : Cx} : CallR X (.type "list") (rListX X.K) := call_list_of
theorem i_tupX {L : List Addr} (f : Ex S H) (h : SqD K S v ds) (q : RetD K L S H Q (.tup ds)) : rTupX K [v] H Q := i_tuple f h q
theorem i_listX (f : Ex S H) (h : SqD K S v ds) (q : ∀ l xs, H l = none → DvAll K S xs ds → Q (.ref l) (upd H l (.lst xs))) : rListX K [v] H Q := i_list f h q
theorem i_listO {a : Addr} {xs : List V} (h : H a = some (.lst xs)) (q : ∀ l, H l = none → Q (.ref l) (upd H l (.lst xs))) : rListX K [.ref a] H Q := ⟨a, xs, rfl, .inl (sq_of h), q⟩
/-- the sum of tuples, as data -/
theorem i_catTD {L : List Addr} {x y : V} {es : List Dt} (f : Ex S H) (h1 : Dv K S x (.tup ds)) (h2 : Dv K S y (.tup es)) (z : ds.length + es.length ≤ 1000000) (q : RetD K L S H Q (.tup (ds ++ es))) : rAddX K x y H Q := by
  obtain ⟨a, xs, rfl, a1, a2⟩ := id h1.tup_inv
  obtain ⟨b, ys, rfl, b1, b2⟩ := id h2.tup_inv
  exact i_catT (L := L) f (sqT_mono f a1) (sqT_mono f b1) a2 b2 h1 h2 (by rw [a2.length, b2.length]; exact z) q
/-- the sum of lists, as data -/
theorem i_catLD {L : List Addr} {x y : V} {es : List Dt} (f : Ex S H) (h1 : Dv K S x (.lst ds)) (h2 : Dv K S y (.lst es)) (z : ds.length + es.length ≤ 1000000) (q : RetD K L S H Q (.lst (ds ++ es))) : rAddX K x y H Q := by
  obtain ⟨a, xs, rfl, a1, a2⟩ := h1.lst_inv
  obtain ⟨b, ys, rfl, b1, b2⟩ := h2.lst_inv
  exact i_cat (f _ _ a1) (f _ _ b1) (by rw [a2.length, b2.length]; exact z) fun p hp => q _ _ _ (Gr.newF f hp) (dv_lst_new (fresh_back f hp) (a2.append b2))
/-! ### a list as it stands, or a tuple of data -/
inductive SqH (K : PySem.W.Frag) (S H : Hp) (v : V) (ds : List Dt) : Prop where
  | l {a : Addr} {xs : List V} (e : v = .ref a) (s : S a = none) (h : H a = some (.lst xs)) (d : DvAll K S xs ds)
  | d (h : SqD K S v ds)
theorem SqD.toH (f : Ex S H) (h : SqD K S v ds) : SqH K S H v ds := .d h
theorem SqH.fz (f : Ex S H) (h : SqH K S H v ds) : ∃ S', Ex S S' ∧ Ex S' H ∧ SqD K S' v ds := by
  cases h with
  | @l a xs e s h d =>
    subst e
    refine ⟨upd S a (.lst xs), Ex.new s, fun b o z => ?_, .l (dv_lst_new s d)⟩
    by_cases q : b = a
    · subst q
      rw [upd_same] at z
      rw [← z]
      exact h
    · rw [upd_ne q] at z
      exact f _ _ z
  | d h => exact ⟨S, Ex.refl S, f, h⟩
theorem SqH.gr {L : List Addr} {S' H' : Hp} (s : SqH K S H v ds) (g : Gr L S H S' H') (n : ∀ a ∈ L, ∀ xs, H a ≠ some (.lst xs)) : SqH K S' H' v ds := by
  cases s with
  | @l a xs e s h d => exact .l e (g.n a _ (fun m => n a m xs h) h s) (g.h a _ (fun m => n a m xs h) h) (d.mono g.s)
  | d h => exact .d (h.mono g.s)
theorem i_tupH {L : List Addr} (f : Ex S H) (s : SqH K S H v ds) (q : RetD K L S H Q (.tup ds)) : rTupX K [v] H Q := by
  cases s with
  | @l a xs e s h d =>
    subst e
    exact ⟨a, xs, rfl, .inl ⟨sq_of h, fun l hl => q _ _ _ (Gr.newF f hl) (dv_tup_new (fresh_back f hl) d)⟩⟩
  | d h => exact i_tupX f h q
end
end Gd

set_option Elab.async false
set_option linter.all false
set_option maxRecDepth 100000
set_option maxHeartbeats 4000000
/-! G11: small calls; the pot of digits. -/
namespace Gd
open PySem PySem.Spec PyProof.Rows L2
open Evl (Ex Ex.refl Ex.trans Ex.new Ex.mut ex_t ex_l sq_of st_of fresh_back)
section
variable {K : PySem.W.Frag} {σ : L2.St} {H H1 S S1 : Hp} {Q : VK} {D : Ends} {L : List Addr}
def rInt1 : List V → Hp → VK → Prop := fun xs H Q => (∃ i, xs = [.int i] ∧ Q (.int i) H) ∨ ∃ k, xs = [.bl k] ∧ Q (.int (if k then 1 else 0)) H
def rAbs : List V → Hp → VK → Prop := fun xs H Q => ∃ i, xs = [.int i] ∧ Q (.int (if i < 0 then -i else i)) H
def rMax2 : List V → Hp → VK → Prop := fun xs H Q => ∃ i j, xs = [.int i, .int j] ∧ Q (.int (if j > i then j else i)) H
def rMin2 : List V → Hp → VK → Prop := fun xs H Q => ∃ i j, xs = [.int i, .int j] ∧ Q (.int (if j < i then j else i)) H
def rDivmod : List V → Hp → VK → Prop := fun xs H Q => ∃ i j, xs = [.int i, .int j] ∧ CDiv i j ∧ ∀ p, H p = none → Q (.ref p) (upd H p (.tup [.int (i / j), .int (i % j)]))
theorem call_intX {X : Cx} : CallR X (.type "int") rInt1 := call_int1
theorem call_absX {X : Cx} : CallR X (.builtin "abs") rAbs := call_abs
theorem call_maxX {X : Cx} (hc : X.calm = true) : CallR X (.builtin "max") rMax2 := call_max2 hc
theorem call_minX {X : Cx} (hc : X.calm = true) : CallR X (.builtin "min") rMin2 := call_min2 hc
theorem call_divmodX {X : Cx} : CallR X (.builtin "divmod") rDivmod := call_divmod
theorem i_int1 {i : Int} (q : Q (.int i) H) : rInt1 [.int i] H Q := .inl ⟨i, rfl, q⟩
theorem i_abs {i : Int} (q : Q (.int (if i < 0 then -i else i)) H) : rAbs [.int i] H Q := ⟨i, rfl, q⟩
theorem i_max {i j : Int} (q : Q (.int (if j > i then j else i)) H) : rMax2 [.int i, .int j] H Q := ⟨i, j, rfl, q⟩
theorem i_min {i j : Int} (q : Q (.int (if j < i then j else i)) H) : rMin2 [.int i, .int j] H Q := ⟨i, j, rfl, q⟩
theorem i_divmod {i j : Int} (h0 : 0 < j) (h1 : j < 1073741824) (q : ∀ p, H p = none → Q (.ref p) (upd H p (.tup [.int (i / j), .int (i % j)]))) : rDivmod [.int i, .int j] H Q := ⟨i, j, rfl, ⟨h0, h1⟩, q⟩
theorem x_sameI {i j : Int} {b : Bool} (e : decide (i = j) = b) (h : Q (.bl b) H) : rEq (.int i) (.int j) H Q := ⟨rfl, by rw [show decide (V.int i = V.int j) = decide (i = j) by rw [dec_int, Bool.eq_iff_iff]; simp, e]; exact h⟩
theorem i_tyL {a : Addr} {xs : List V} (h : H a = some (.lst xs)) : tyV K "list" (.ref a) H := .inl ⟨rfl, xs, sq_of h⟩
theorem i_append {a : Addr} {xs : List V} {y : V} (h : H a = some (.lst xs)) (z : xs.length ≤ 1000000) (q : Q .non (upd H a (.lst (xs ++ [y])))) : rAppend (.ref a) [y] H Q := ⟨a, xs, y, rfl, rfl, h, Nat.lt_of_le_of_lt z (by rw [sizeLine_eq]; decide), q⟩
theorem i_popAt {a : Addr} {xs : List V} {n : Nat} {y : V} (h : H a = some (.lst xs)) (z : xs.length ≤ 1000000) (e : xs[n]? = some y) (q : Q y (upd H a (.lst (xs.eraseIdx n)))) : rPopAt (.ref a) [.int (n : Nat)] H Q := by
  have hn := (List.getElem?_eq_some_iff.mp e).1
  have e2 : ixN xs.length ((n : Nat) : Int) = some n := by
    unfold ixN
    rw [if_pos (by omega), if_pos (by omega), Int.toNat_natCast]
  have c : (2 : Int) ^ 63 = 9223372036854775808 := rfl
  exact ⟨a, xs, _, n, y, rfl, rfl, h, by omega, by omega, (ixN_seq e2).1, e, q⟩
theorem Gr.mutN (g : Gr L S H S1 H1) {l : Addr} {o : HO} (hl : H l = none) (sl : S1 l = none) : Gr L S H S1 (upd H1 l o) :=
  g.trans (Gr.mut (L := [l]) g.i sl (by simp)) fun x hx => .inr (by rw [List.mem_singleton.mp hx]; exact hl)
theorem Gr.frzN (g : Gr L S H S1 H1) {l : Addr} {o : HO} (hl : H l = none) (sl : S1 l = none) (e : H1 l = some o) : Gr L S H (upd S1 l o) H1 :=
  g.trans (Gr.frz (L := [l]) g.i sl e (by simp)) fun x hx => .inr (by rw [List.mem_singleton.mp hx]; exact hl)
/-- a step that changed what is fresh since -/
theorem Gr.thenN {L2 : List Addr} {S2 H2 : Hp} (a : Gr L S H S1 H1) (b : Gr L2 S1 H1 S2 H2) (c : ∀ x ∈ L2, x ∈ L ∨ H x = none) : Gr L S H S2 H2 := a.trans b c

/-! ### the pot -/
structure PotOk (S H : Hp) (p : Addr) : Prop where
  s : S p = none
  h : ∃ a b : Int, 0 ≤ a ∧ 0 ≤ b ∧ b < 4294967296 ∧ H p = some (.lst [.int a, .int b])
theorem PotOk.gr {p : Addr} (k : PotOk S H p) (g : Gr L S H S1 H1) (n : p ∉ L) : PotOk S1 H1 p := by
  obtain ⟨a, b, h0, h1, h2, e⟩ := k.h
  obtain ⟨x, y⟩ := g.own n e k.s
  exact ⟨y, a, b, h0, h1, h2, x⟩
theorem PotOk.new {p l : Addr} {o : HO} (k : PotOk S H p) (hl : H l = none) : PotOk S (upd H l o) p := by
  obtain ⟨a, b, h0, h1, h2, e⟩ := k.h
  exact ⟨k.s, a, b, h0, h1, h2, by rw [upd_ne (ne_of_none e hl)]; exact e⟩
theorem PotOk.mut {p l : Addr} {o : HO} (k : PotOk S H p) (ne : p ≠ l) : PotOk S (upd H l o) p := by
  obtain ⟨a, b, h0, h1, h2, e⟩ := k.h
  exact ⟨k.s, a, b, h0, h1, h2, by rw [upd_ne ne]; exact e⟩
theorem PotOk.frz {p l : Addr} {o : HO} (k : PotOk S H p) (ne : p ≠ l) : PotOk (upd S l o) H p := ⟨by rw [upd_ne ne]; exact k.s, k.h⟩
def spPot (K : PySem.W.Frag) : Sp := fun vs H Q _ => ∃ (a : Addr) (ns : List Int) (k : Nat), vs = [.ref a, .int k] ∧ SqL K H a (ns.map V.int) ∧ k < 1000 ∧ ∀ (p : Addr) (x y : Int), H p = none → 0 ≤ x → 0 ≤ y → y < 4294967296 → Q (.ref p) (upd H p (.lst [.int x, .int y]))
def spDraw : Sp := fun vs H Q _ => ∃ S p, ∃ m : Int, vs = [.ref p, .int m] ∧ Ex S H ∧ PotOk S H p ∧ 0 < m ∧ m < 1000000 ∧ ∀ H' (n : Nat), (n : Int) < m → Gr [p] S H S H' → PotOk S H' p → Q (.int n) H'
def spPick (K : PySem.W.Frag) : Sp := fun vs H Q _ => ∃ (S : Hp) (p : Addr) (v : V) (ds : List Dt), vs = [.ref p, v] ∧ Ex S H ∧ PotOk S H p ∧ SqD K S v ds ∧ ds ≠ [] ∧ ds.length < 1000000 ∧ ∀ (H' : Hp) (i : Nat) (d : Dt) (u : V), ds[i]? = some d → Dv K S u d → Gr [p] S H S H' → PotOk S H' p → Q u H'
/-- the pot is written -/
theorem pot_set {p : Addr} {a b : Int} (f : Ex S H) (k : PotOk S H p) (h0 : 0 ≤ a) (h1 : 0 ≤ b) (h2 : b < 4294967296) : Gr [p] S H S (upd H p (.lst [.int a, .int b])) ∧ PotOk S (upd H p (.lst [.int a, .int b])) p :=
  ⟨Gr.mut f k.s (by simp), k.s, a, b, h0, h1, h2, upd_same⟩
theorem i_setL {p : Addr} {xs : List V} {i : Int} {j : Nat} {v : V} {Q : Hp → Prop} (h : H p = some (.lst xs)) (e : i = (j : Int)) (hj : j < xs.length) (q : Q (upd H p (.lst (xs.set j v)))) : rSetL (.ref p) (.int i) v H Q := by
  refine ⟨p, xs, i, j, rfl, rfl, h, ?_, q⟩
  subst e
  unfold ixN
  rw [if_pos (by omega), if_pos (by omega), Int.toNat_natCast]
end
end Gd

set_option Elab.async false
set_option linter.all false
set_option maxRecDepth 100000
set_option maxHeartbeats 4000000
/-! G12: new data; what is fresh since. -/
namespace Gd
open PySem PySem.Spec PyProof.Rows L2
open Evl (Ex Ex.refl Ex.trans Ex.new Ex.mut ex_t ex_l sq_of st_of fresh_back)
section
variable {K : PySem.W.Frag} {σ : L2.St} {H H0 H1 S S0 S1 : Hp} {Q : VK} {D : Ends} {L : List Addr}
theorem newLD {p : Addr} {xs : List V} {ds : List Dt} (g : Gr L S0 H0 S H) (hp : H p = none) (d : DvAll K S xs ds) : Gr L S0 H0 (upd S p (.lst xs)) (upd H p (.lst xs)) ∧ Dv K (upd S p (.lst xs)) (.ref p) (.lst ds) ∧ Ex S (upd S p (.lst xs)) :=
  ⟨g.then (Gr.newF g.i hp), dv_lst_new (fresh_back g.i hp) d, Ex.new (fresh_back g.i hp)⟩
theorem newTD {p : Addr} {xs : List V} {ds : List Dt} (g : Gr L S0 H0 S H) (hp : H p = none) (d : DvAll K S xs ds) : Gr L S0 H0 (upd S p (.tup xs)) (upd H p (.tup xs)) ∧ Dv K (upd S p (.tup xs)) (.ref p) (.tup ds) ∧ Ex S (upd S p (.tup xs)) :=
  ⟨g.then (Gr.newF g.i hp), dv_tup_new (fresh_back g.i hp) d, Ex.new (fresh_back g.i hp)⟩
theorem Gr.back (g : Gr L S H S1 H1) {l : Addr} (h : H1 l = none) (n : l ∉ L) : H l = none := by
  cases q : H l with
  | none => rfl
  | some o =>
    have := g.h l o n q
    rw [h] at this
    cases this
theorem PotOk.neq {p l : Addr} (k : PotOk S H p) (h : H l = none) : p ≠ l := by
  rintro rfl
  obtain ⟨a, b, _, _, _, e⟩ := k.h
  rw [h] at e
  cases e
theorem PotOk.of_new {p l : Addr} {o : HO} (g : Gr L S0 H0 (upd S l o) (upd H l o)) (k : PotOk S H p) (hl : H l = none) : PotOk (upd S l o) (upd H l o) p := (k.new hl).frz (k.neq hl)
theorem nmem1 {p l : Addr} (h : p ≠ l) : l ∉ [p] := by
  simp
  exact Ne.symm h
theorem i_rng {σ : L2.St} {n : Nat} {R : It → Hp → Prop} (hn : n ≤ 1000000) (h : R (Itr 0 n) H) : ∃ j : Int, [V.int (n : Nat)] = [V.int j] ∧ -(2 ^ 62) ≤ j ∧ j < 2 ^ 62 ∧ R (Itr 0 j.toNat) H := by
  have c : (2 : Int) ^ 62 = 4611686018427387904 := rfl
  exact ⟨n, rfl, by omega, by omega, by rw [Int.toNat_natCast]; exact h⟩
/-- for i in range(n) -/
def FR (g : TG) (tb : TS) (D : Ends) (σ : L2.St) : List V → Hp → Prop := fun vs H => ∃ j : Int, vs = [.int j] ∧ -(2 ^ 62) ≤ j ∧ j < 2 ^ 62 ∧ ∃ W : Nat → Nat → L2.St → Hp → Prop, (∃ m, W 0 m σ H) ∧ ∀ i m σ H, W i m σ H →
  ((Itr 0 j.toNat).stop i H ∧ D.nx σ H) ∨ ((Itr 0 j.toNat).go i H ∧ ∃ N : L2.St → Hp → Prop, (∀ σ' H', N σ' H' → ∃ m', m' < m ∧ W (i + 1) m' σ' H') ∧ ∀ x H', (Itr 0 j.toNat).yld i H x H' → g x σ H' fun σ2 H2 => tb { D with nx := N, ct := N, bk := D.nx } σ2 H2)
theorem x_forRng {ta : TA} {g : TG} {tb : TS} (h : ta σ H fun vs H1 => FR g tb D σ vs H1) : tFor (iRng1 ta) g tb D σ H := h
theorem i_forRng {g : TG} {tb : TS} {n : Nat} (hn : n ≤ 1000000) (Pv : Nat → L2.St → Hp → Prop) (h0 : Pv 0 σ H)
    (hs : ∀ i σ H, i < n → Pv i σ H → g (.int (i : Nat)) σ H fun σ2 H2 => tb { D with nx := Pv (i + 1), ct := Pv (i + 1), bk := D.nx } σ2 H2) (hd : ∀ σ H, Pv n σ H → D.nx σ H) : FR g tb D σ [.int (n : Nat)] H := by
  have c : (2 : Int) ^ 62 = 4611686018427387904 := rfl
  refine ⟨n, rfl, by omega, by omega, ?_⟩
  rw [Int.toNat_natCast]
  refine for_it walk_range Pv h0 (fun _ _ _ _ _ => trivial) ?_ hd
  rintro i x σ H H' hi pv ⟨e, rfl⟩
  subst e
  simp only [Int.zero_add]
  exact hs i σ _ hi pv
theorem x_js {t : TE} {ts : List TE} {acc : Str} {Q : Str → Hp → Prop} (h : t σ H fun x H1 => ∃ y : Str, x = .str y ∧ (acc ++ y).length ≤ sizeLine ∧ tJs ts (acc ++ y) σ H1 Q) : tJs (t :: ts) acc σ H Q := h
theorem x_jsN {acc : Str} {Q : Str → Hp → Prop} (h : Q acc H) : tJs [] acc σ H Q := h
/-- a text of a joined string -/
theorem i_js {acc y : Str} {ts : List TE} {Q : Str → Hp → Prop} (z : (acc ++ y).length ≤ 1000000) (h : tJs ts (acc ++ y) σ H Q) : ∃ y' : Str, V.str y = .str y' ∧ (acc ++ y').length ≤ sizeLine ∧ tJs ts (acc ++ y') σ H Q :=
  ⟨y, rfl, Nat.le_trans z (by rw [sizeLine_eq]; decide), h⟩
theorem str_app_len (a b : Str) : (a ++ b).length = a.length + b.length := by
  show (a.cps ++ b.cps).size = _
  rw [Array.size_append]
  rfl
theorem str_empty_app (a : Str) : Str.empty ++ a = a := by
  cases a
  show Str.mk (#[] ++ _) = _
  rw [Array.empty_append]
/-- {x!r} of data -/
theorem i_fmtD {p : Addr} {d : Dt} {acc : Str} {ts : List TE} {Q : Str → Hp → Prop} (f : Ex S H) (h : Dv K S (.ref p) d) (pl : plainD d = true) (sh : Shows (pyD d)) (z : (acc ++ (pyD d).shown).length ≤ 1000000) (q : tJs ts (acc ++ (pyD d).shown) σ H Q) :
    ∃ a e, V.ref p = .ref a ∧ Dp K H (.ref a) e ∧ Shows e ∧ ∃ y' : Str, V.str e.shown = .str y' ∧ (acc ++ y').length ≤ sizeLine ∧ tJs ts (acc ++ y') σ H Q :=
  ⟨p, pyD d, rfl, (h.mono f).dp pl, sh, i_js z q⟩
/-- repr(x) of data -/
theorem i_reprD {p : Addr} {d : Dt} (f : Ex S H) (h : Dv K S (.ref p) d) (pl : plainD d = true) (sh : Shows (pyD d)) (q : Q (.str (pyD d).shown) H) : rReprD K [.ref p] H Q := ⟨p, pyD d, rfl, (h.mono f).dp pl, sh, q⟩
theorem erase_map {α β : Type} (f : α → β) : ∀ (l : List α) (n : Nat), (l.map f).eraseIdx n = (l.eraseIdx n).map f
  | [], _ => rfl
  | a :: r, 0 => rfl
  | a :: r, n + 1 => by
    show f a :: (r.map f).eraseIdx n = f a :: (r.eraseIdx n).map f
    rw [erase_map f r n]
theorem erase_perm {α : Type} : ∀ {l : List α} {n : Nat} (h : n < l.length), (l[n] :: l.eraseIdx n).Perm l
  | a :: r, 0, _ => List.Perm.refl _
  | a :: r, n + 1, h => by
    have hr : n < r.length := Nat.lt_of_succ_lt_succ h
    show (r[n] :: a :: r.eraseIdx n).Perm (a :: r)
    exact (List.Perm.swap _ _ _).trans (List.Perm.cons a (erase_perm (Nat.lt_of_succ_lt_succ h)))
end
end Gd

set_option Elab.async false
set_option linter.all false
set_option maxRecDepth 100000
set_option maxHeartbeats 4000000
/-! G13: keyword calls of methods; comprehensions over a list of data. -/
namespace Gd
open PySem PySem.Spec PyProof.Rows L2
open Evl (Ex Ex.refl Ex.trans Ex.new Ex.mut ex_t ex_l sq_of st_of fresh_back)
/-- o.m(k = v, ..) -/
def tMethN (C : Addr) (m : Str) (n : Nat) (sp : Sp) (gV : List V → List V → List V) (E : XK) (ta : TE) (tk : TA) : TE := fun σ H Q => ta σ H fun x H1 => ∃ a dx fs, x = .ref a ∧ H1 a = some (.ins C dx fs) ∧ fs.lookup m = none ∧ tk σ H1 fun zs H2 => zs.length = n ∧ sp (gV [x] zs) H2 Q E
theorem x_methN {C : Addr} {m : Str} {n : Nat} {sp : Sp} {gV : List V → List V → List V} {E : XK} {ta : TE} {tk : TA} {σ : L2.St} {H : Hp} {Q : VK} (h : ta σ H fun x H1 => ∃ a dx fs, x = .ref a ∧ H1 a = some (.ins C dx fs) ∧ fs.lookup m = none ∧ tk σ H1 fun zs H2 => zs.length = n ∧ sp (gV [x] zs) H2 Q E) : tMethN C m n sp gV E ta tk σ H Q := h
section
variable {X : Cx} {CX : CXT} {k n : Nat} {f C : Addr} {fd : FuncData} {ps ks : List Str} {sp : Sp} {E : XK} {m : Str} {apos pos : Pos} {o : Expr} {kws : List Keyword} {ta : TE} {tk : TA} {g : List Value → List Value → List Value} {gV : List V → List V → List V}
theorem pe_methK0 {pl : Sem Bool} (he : PE X o ta) (c : Cls X.K C) (hm : Meth X.K C m f) (F : FnOk X.prog X.w X.K X.mg X.base CX k f fd ps sp) (hr : Room k X.A) (hb : KBn X.K fd ps 1 ks g gV) (hx : Passes CX X E) (hkw : PK X kws tk)
    (hall : (backToKw pos (keywordEach kws X.env)).all (·.1.isSome) = true := by rfl) (hks : (backToKw pos (keywordEach kws X.env)).filterMap (·.1) = ks := by rfl)
    (hpl : ((backTo pos (starEach [] X.env)).any (·.1) || (backToKw pos (keywordEach kws X.env)).any (·.1.isNone)) = false := by rfl)
    (ht : eval (.Call (.Attribute o m apos) [] kws pos) X.env = (do
      let ov ← eval o X.env
      standAt apos.atName
      let (f, first) ← holding [ov] (getMethod ov m pl)
      callWith pos f first (backTo pos (starEach [] X.env)) (backToKw pos (keywordEach kws X.env))) := by rfl) :
    PE X (.Call (.Attribute o m apos) [] kws pos) (tMethN C m ks.length sp gV E ta tk) := by
  constructor
  intro pins s σ H Q I h
  refine PySem.W.methodCall_KW (pl := pl) (thn (he.run pins s σ H _ I h) ?_) ht
  rintro u s1 ⟨x, H1, I1, rx, a, dx, fs, rfl, ea, l, q⟩
  obtain rfl : u = Value.ref a := rx
  refine getmeth_ok I1 ea c hm l ?_
  refine PySem.W.callWith_KW0 (first := [.ref a]) (h₀ := X.base) I.ok.mod.kin hm.kp hall ?_ hpl
  refine thn (hkw.run pos pins s1 σ H1 _ I1 q) ?_
  rintro ws s2 ⟨zs, H2, I2, rz, l2, q2⟩
  refine ⟨I2.kIn, ?_⟩
  rw [hks]
  exact run_fnN (us := [.ref a]) (vs := [.ref a]) F hr hb hx I2 (.cons rfl .nil) rz rfl l2 q2
end
/-- keywords, no defaults -/
theorem kbn_app {K : PySem.W.Frag} {x qual : Str} {params : Arguments} {body : List Stmt} {scope : Scope} {kws : List (Str × V)} {f : Addr} {fd : FuncData} {ps : List Str} (F : FunD K x qual params body scope [] kws f fd) (n : Nat) (ks : List Str)
    (h : ∀ (kV doc pm : Value) (an : Option Addr) (cdv ct : Value) (us ws : List Value), us.length = n → ws.length = ks.length → bindArgs (PySem.W.fnOf x qual params body scope .none kV doc pm an cdv ct) ⟨us, ks.zip ws⟩ = pure (ps.zip (us ++ ws))) : KBn K fd ps n ks (fun us ws => us ++ ws) (fun vs zs => vs ++ zs) := by
  obtain ⟨oc, od, dV, kV, doc, pm, an, cdv, ct, osl, rfl, lk, hcd, hD, hK⟩ := F.ex
  rcases hD with ⟨_, rfl⟩ | ⟨e, _⟩
  · exact ⟨fun s us ws _ l1 l2 => .of_eq (h kV doc pm an cdv ct us ws l1 l2), fun r1 r2 => r1.append r2⟩
  · exact absurd rfl e
section
variable {K : PySem.W.Frag} {σ : L2.St} {H1 S : Hp} {g : TG} {tt : TT} {te : TE} {vs : List Nat} {D : Addr}
theorem range_get {α β : Type} (h : Nat → β) (h' : α → β) : ∀ (as : List α), (∀ i a, as[i]? = some a → h i = h' a) → (List.range as.length).map h = as.map h' := by
  intro as e
  apply List.ext_getElem?
  intro i
  by_cases hi : i < as.length
  · simp [hi]
    exact e i _ (List.getElem?_eq_getElem hi)
  · simp [hi]
theorem lc_list {α : Type} {a : Addr} {as : List α} {fD : α → Dt} {xs : List V} (ha : S a = some (.lst xs)) (hx : DvAll K S xs (as.map fD)) (h : α → V) (f : Ex S H1) (hD : H1 D = none) (hz : as.length ≤ 1000)
    (turn : ∀ c x S1 Hc (Qe : VK) (Nx : Hp → Prop), c ∈ as → Gr [] S H1 S1 Hc → Dv K S1 x (fD c) → (∀ S' H4, Gr [] S1 Hc S' H4 → Qe (h c) H4) →
      g x (wipe σ vs) Hc fun σ2 H2 => wipe σ2 vs = wipe σ vs ∧ tt σ2 H2 fun b H3 => if b = true then te σ2 H3 Qe else Nx H3)
    {Qd : Hp → Prop} (done : ∀ S' H', Gr [] S H1 S' H' → S' D = none → H' D = some (.lst (as.map h)) → Qd H') :
    ∃ W : Nat → Nat → Hp → Prop, (∃ m, W 0 m (upd H1 D (.lst []))) ∧ ∀ i m H, W i m H →
      ((Itl K a).stop i H ∧ Qd H) ∨ ((Itl K a).go i H ∧ ∃ Nx : Hp → Prop, (∀ H', Nx H' → ∃ m', m' < m ∧ W (i + 1) m' H') ∧ ∀ x H', (Itl K a).yld i H x H' → g x (wipe σ vs) H' fun σ2 H2 => wipe σ2 vs = wipe σ vs ∧ tt σ2 H2 fun b H3 =>
        if b = true then te σ2 H3 fun y H4 => ∃ acc, H4 D = some (.lst acc) ∧ acc.length < sizeLine ∧ Nx (upd H4 D (.lst (acc ++ [y]))) else Nx H3) := by
  let e : Nat → V := fun i => match as[i]? with
    | some c => h c
    | none => .non
  have he : (List.range as.length).map e = as.map h := range_get e h as fun i c hc => by
    show (match as[i]? with | some c => h c | none => V.non) = h c
    rw [hc]
  have w : Walk (Itl K a) as.length (fun H => Ex S H) (fun i H x H' => H' = H ∧ ∃ d, (as.map fD)[i]? = some d ∧ Dv K S x d) := by
    have := walk_listD ha hx
    rw [List.length_map] at this
    exact this
  refine lc_data w e (fun _ _ => True) (fun _ _ _ _ h => h) f hD (Nat.lt_of_le_of_lt hz (by rw [sizeLine_eq]; decide)) (fun S1 Hc g1 => g1.s.trans g1.i) ?_ ?_
  · rintro i x S1 Hc Hc' Qe Nx hi g1 _ ⟨e1, d, hd, dx⟩ qe
    subst e1
    obtain ⟨c, hc, rfl⟩ := map_at hd
    have ei : e i = h c := by
      show (match as[i]? with | some c => h c | none => V.non) = h c
      rw [hc]
    exact turn c x S1 _ Qe Nx (List.mem_of_getElem? hc) g1 (dx.mono g1.s) fun S' H4 g2 => by
      rw [← ei]
      exact qe S' H4 g2 trivial
  · intro S' H' g1 s1 hl _
    rw [he] at hl
    exact done S' H' g1 s1 hl
/-- a comprehension over a list, at the list's value -/
def LCL (K : PySem.W.Frag) (g : TG) (tt : TT) (te : TE) (vs : List Nat) (σ : L2.St) (Q : VK) : V → Hp → Prop := fun x H1 => ∃ a, x = .ref a ∧ (∃ xs, SqL K H1 a xs) ∧ ∀ D, H1 D = none → ∃ W : Nat → Nat → Hp → Prop, (∃ m, W 0 m (upd H1 D (.lst []))) ∧ ∀ i m H, W i m H →
  ((Itl K a).stop i H ∧ Q (.ref D) H) ∨ ((Itl K a).go i H ∧ ∃ Nx : Hp → Prop, (∀ H', Nx H' → ∃ m', m' < m ∧ W (i + 1) m' H') ∧ ∀ x H', (Itl K a).yld i H x H' → g x (wipe σ vs) H' fun σ2 H2 => wipe σ2 vs = wipe σ vs ∧ tt σ2 H2 fun b H3 =>
    if b = true then te σ2 H3 fun y H4 => ∃ acc, H4 D = some (.lst acc) ∧ acc.length < sizeLine ∧ Nx (upd H4 D (.lst (acc ++ [y]))) else Nx H3)
theorem x_lcL {te0 : TE} {H : Hp} {Q : VK} (h : te0 σ H fun x H1 => LCL K g tt te vs σ Q x H1) : tLc (iList K te0) g tt te vs σ H Q := h
theorem i_lcL {α : Type} {v : V} {as : List α} {fD : α → Dt} {Q : VK} (dv : Dv K S v (.lst (as.map fD))) (h : α → V) (f : Ex S H1) (hz : as.length ≤ 1000)
    (turn : ∀ c x S1 Hc (Qe : VK) (Nx : Hp → Prop), c ∈ as → Gr [] S H1 S1 Hc → Dv K S1 x (fD c) → (∀ S' H4, Gr [] S1 Hc S' H4 → Qe (h c) H4) →
      g x (wipe σ vs) Hc fun σ2 H2 => wipe σ2 vs = wipe σ vs ∧ tt σ2 H2 fun b H3 => if b = true then te σ2 H3 Qe else Nx H3)
    (done : ∀ D S' H', H1 D = none → Gr [] S H1 S' H' → S' D = none → H' D = some (.lst (as.map h)) → Q (.ref D) H') : LCL K g tt te vs σ Q v H1 := by
  obtain ⟨a, xs, rfl, ha, hx⟩ := dv.lst_inv
  refine ⟨a, rfl, ⟨xs, sq_of (f _ _ ha)⟩, fun D hD => ?_⟩
  exact lc_list ha hx h f hD hz turn fun S' H' g1 s1 l1 => done D S' H' hD g1 s1 l1
/-- a comprehension over range(n), at the argument's value -/
def LCR (g : TG) (tt : TT) (te : TE) (vs : List Nat) (σ : L2.St) (Q : VK) : List V → Hp → Prop := fun xs H1 => ∃ j : Int, xs = [.int j] ∧ -(2 ^ 62) ≤ j ∧ j < 2 ^ 62 ∧ ∀ D, H1 D = none → ∃ W : Nat → Nat → Hp → Prop, (∃ m, W 0 m (upd H1 D (.lst []))) ∧ ∀ i m H, W i m H →
  ((Itr 0 j.toNat).stop i H ∧ Q (.ref D) H) ∨ ((Itr 0 j.toNat).go i H ∧ ∃ Nx : Hp → Prop, (∀ H', Nx H' → ∃ m', m' < m ∧ W (i + 1) m' H') ∧ ∀ x H', (Itr 0 j.toNat).yld i H x H' → g x (wipe σ vs) H' fun σ2 H2 => wipe σ2 vs = wipe σ vs ∧ tt σ2 H2 fun b H3 =>
    if b = true then te σ2 H3 fun y H4 => ∃ acc, H4 D = some (.lst acc) ∧ acc.length < sizeLine ∧ Nx (upd H4 D (.lst (acc ++ [y]))) else Nx H3)
theorem x_lcR {ta : TA} {H : Hp} {Q : VK} (h : ta σ H fun xs H1 => LCR g tt te vs σ Q xs H1) : tLc (iRng1 ta) g tt te vs σ H Q := h
theorem i_lcR {n : Nat} {j : Int} {Q : VK} (hj : j = (n : Int)) (h : Nat → V) (f : Ex S H1) (hz : n ≤ 1000)
    (turn : ∀ i S1 Hc (Qe : VK) (Nx : Hp → Prop), i < n → Gr [] S H1 S1 Hc → (∀ S' H4, Gr [] S1 Hc S' H4 → Qe (h i) H4) →
      g (.int (i : Nat)) (wipe σ vs) Hc fun σ2 H2 => wipe σ2 vs = wipe σ vs ∧ tt σ2 H2 fun b H3 => if b = true then te σ2 H3 Qe else Nx H3)
    (done : ∀ D S' H', H1 D = none → Gr [] S H1 S' H' → S' D = none → H' D = some (.lst ((List.range n).map h)) → Q (.ref D) H') : LCR g tt te vs σ Q [.int j] H1 := by
  subst hj
  have c : (2 : Int) ^ 62 = 4611686018427387904 := rfl
  refine ⟨_, rfl, by omega, by omega, fun D hD => ?_⟩
  rw [Int.toNat_natCast]
  refine lc_data walk_range h (fun _ _ => True) (fun _ _ _ _ h => h) f hD (Nat.lt_of_le_of_lt hz (by rw [sizeLine_eq]; decide)) (fun _ _ _ => trivial) ?_ fun S' H' g1 s1 l1 _ => done D S' H' hD g1 s1 l1
  rintro i x S1 Hc Hc' Qe Nx hi g1 _ ⟨e, rfl⟩ qe
  subst e
  simp only [Int.zero_add]
  exact turn i S1 _ Qe Nx hi g1 fun S' H4 g2 => qe S' H4 g2 trivial
end
end Gd

set_option Elab.async false
set_option linter.all false
set_option maxRecDepth 100000
set_option maxHeartbeats 4000000
/-! G14: repr of lists, tuples, dicts that hold own instances. -/
namespace Gd
open PySem PySem.Spec PyProof.Rows L2
open Evl (Ex Ex.refl Ex.trans Ex.new Ex.mut ex_t ex_l sq_of st_of fresh_back)
open PySem.Builtin PySem.Builtin.List
section
variable {A : Around} {args : Args} {n : Nat}
theorem depth_loop : (A.under (.builtin "list.__repr__.loop" args)).depth = A.depth + 1 := by
  first | rfl | simp [Around.under, Code.weight, Code.isCreation, Code.isGuard, Code.isCaller, Code.frames, Code.isFrame, guardIds]
theorem room_loop (r : Room (n + 1) A) : Room n (A.under (.builtin "list.__repr__.loop" args)) :=
  ⟨r.hd, by have := r.dp; rw [depth_loop]; omega, by have := r.un; rw [units_under_list_loop]; omega⟩
theorem fr_loop : (A.under (.builtin "list.__repr__.loop" args)).frames = A.frames := by
  first | rfl | simp [Around.under, Code.frames]
end
/-- an empty tuple of the written part -/
def KE (K : PySem.W.Frag) (a : Addr) : Prop := SqT K (fun _ => none) a []
theorem ke_list {X : Cx} {pins : List (Addr × Obj)} {σ : L2.St} {H : Hp} {s : Shared} {a : Addr} {xs : List V} (I : Inv X pins σ H s) (h : SqL X.K H a xs) (k : KE X.K a) : False := by
  obtain ⟨its, rv, ⟨o, no, ho, hc, _⟩, _⟩ := I.list h
  obtain ⟨its2, rv2, ⟨o2, ho2, hc2, _⟩, _⟩ := I.tuple (ex_t (H' := H) (fun _ _ z => by cases z) k)
  rw [ho] at ho2
  cases ho2
  rw [hc] at hc2
  exact absurd (Value.type.inj hc2) (by decide)
theorem ke_tup {X : Cx} {pins : List (Addr × Obj)} {σ : L2.St} {H : Hp} {s : Shared} {a : Addr} {x : V} {xs : List V} (I : Inv X pins σ H s) (h : SqT X.K H a (x :: xs)) (k : KE X.K a) : False :=
  nomatch I.tuple_inj h (ex_t (H' := H) (fun _ _ z => by cases z) k)
theorem ke_obj {X : Cx} {pins : List (Addr × Obj)} {σ : L2.St} {H : Hp} {s : Shared} {a : Addr} {o : Obj} {T : String} (I : Inv X pins σ H s) (h : s.heap.get? a = some o) (hc : o.cls = .type T) (n : T ≠ "tuple") (k : KE X.K a) : False := by
  obtain ⟨its2, rv2, ⟨o2, ho2, hc2, _⟩, _⟩ := I.tuple (ex_t (H' := H) (fun _ _ z => by cases z) k)
  rw [h] at ho2
  cases ho2
  rw [hc] at hc2
  exact n (Value.type.inj hc2)
def orA (a : Addr) (as : Addr → Prop) : Addr → Prop := fun b => b = a ∨ as b
/-- the text of v, at any state that has grown from S, under any guards that miss as -/
def RpV (X : Cx) (n : Nat) (as : Addr → Prop) (S : Hp) (v : V) (t : Str) : Prop :=
  ∀ (base : Nat), base + t.length ≤ sizeLine → ∀ (A : Around) (g : List Code) (pins : List (Addr × Obj)) (σ : L2.St) (H : Hp) (s : Shared) (u : Value) (Q : Str → Shared → Prop), A.frames = X.A.frames → A.guards = some g → (∀ b, as b → Clear g b) → Room n A → Inv X pins σ H s → Ex S H → RelV v u →
    (∀ s' H', Inv X pins σ H' s' → Ex H H' → Q t s') → wpAny (model X.prog X.w) A (pyReprUnder base u) Q X.xe s
section
variable {X : Cx} {n m : Nat} {as as' : Addr → Prop} {S S' : Hp} {v : V} {t : Str}
theorem RpV.more (h : RpV X n as S v t) (sub : ∀ b, as b → as' b) (le : n ≤ m) (e : Ex S S') : RpV X m as' S' v t :=
  fun base hb A g pins σ H s u Q fr hg hc hr I f r q => h base hb A g pins σ H s u Q fr hg (fun b hb => hc b (sub b hb)) (hr.mono le) I (e.trans f) r q
theorem RpV.is (h : ∀ u, RelV v u → ReprIs X.prog X.w u t) : RpV X n as S v t :=
  fun base hb A g pins σ H s u Q fr hg hc hr I f r q => h u r base hb A X.xe s Q fun tk => q _ H (I.tok tk) (Ex.refl H)
theorem RpV.str (z : Str) (hz : (reprText z).length ≤ 1000000) : RpV X n as S (.str z) (reprText z) := RpV.is fun u r => by
  obtain ⟨t, rfl⟩ := r
  exact ReprIs.str z t (Nat.le_trans hz line_big)
theorem RpV.int (i : Int) (hi : i.natAbs.log2 < 1920) : RpV X n as S (.int i) (toString i) := RpV.is fun u r => by
  obtain ⟨t, rfl⟩ := r
  exact ReprIs.int t hi
theorem RpV.bl (b : Bool) : RpV X n as S (.bl b) (if b then ("True" : Str) else ("False" : Str)) := RpV.is fun u r => by
  cases r
  exact ReprIs.bool b
theorem RpV.non : RpV X n as S .non "None" := RpV.is fun u r => by
  cases r
  exact ReprIs.none
/-- a list's items' texts -/
inductive RpAll (X : Cx) (n : Nat) (as : Addr → Prop) (S : Hp) : List V → List Str → Prop
  | nil : RpAll X n as S [] []
  | cons {v : V} {t : Str} {vs : List V} {ts : List Str} : RpV X n as S v t → RpAll X n as S vs ts → RpAll X n as S (v :: vs) (t :: ts)
theorem RpAll.len : ∀ {vs : List V} {ts : List Str}, RpAll X n as S vs ts → ts.length = vs.length
  | _, _, .nil => rfl
  | _, _, .cons _ h => congrArg (· + 1) h.len
theorem RpAll.at : ∀ {vs : List V} {ts : List Str}, RpAll X n as S vs ts → ∀ (i : Nat) (v : V), vs[i]? = some v → ∃ t, ts[i]? = some t ∧ RpV X n as S v t
  | _, _, .nil, _, _, q => by simp at q
  | _, _, .cons h _, 0, _, q => by
    simp at q
    subst q
    exact ⟨_, rfl, h⟩
  | _, _, .cons _ h, i + 1, v, q => by
    obtain ⟨t, h1, h2⟩ := h.at i v (by simpa using q)
    exact ⟨t, by simpa using h1, h2⟩
/-- the parts' list of the loop, off what is tracked -/
def PartO (acc : Array Value) (c : Nat) : Obj := { cls := .type "list", dict := none, data := .seq acc c, slots := #[] }
structure Part (X : Cx) (pins : List (Addr × Obj)) (P : Addr) : Prop where
  l : P ≠ X.env.locals
  f : P ∉ X.fs
  e : P ∈ X.ex ∨ X.s_0.heap.objs.size ≤ P
  c : ∀ x c, X.env.cells.lookup x = some c → c ≠ P
  p : ∀ q ∈ X.pn ++ pins, q.1 ≠ P
theorem Part.pin {pins : List (Addr × Obj)} {P : Addr} {σ : L2.St} {H : Hp} {s : Shared} {acc : Array Value} {c : Nat} (p : Part X pins P) (I : Inv X pins σ H s) (hn : H P = none) (hs : s.heap.get? P = some (PartO acc c)) : Inv X ((P, PartO acc c) :: pins) σ H s := by
  refine I.pins_of fun q hq => ?_
  rcases List.mem_cons.mp hq with z | z
  · subst z
    exact ⟨hs, hn, p.l, p.f, fun v e => by cases e⟩
  · exact I.pin q (List.mem_append_right _ z)
theorem part_unpin {pins : List (Addr × Obj)} {p : Addr × Obj} {σ : L2.St} {H : Hp} {s : Shared} (I : Inv X (p :: pins) σ H s) : Inv X pins σ H s := I.pins_of fun q hq => I.pin q (List.mem_append_right _ (List.mem_cons_of_mem _ hq))

theorem rp_loop {A : Around} {g : List Code} {R : Result → Shared → Prop} {a P : Addr} {base : Nat} {xs : List V} {ts : List Str} {pins : List (Addr × Obj)} {σ : L2.St} {H0 : Hp} (fr : A.frames = X.A.frames) (hg : A.guards = some g) (hcl : ∀ b, as b → Clear g b) (hr : Room (n + 1) A) (hna : as a → KE X.K a)
    (hE : ∀ e s', R (.error e) s' = X.xe e s') (pp : Part X pins P) (sq : SqL X.K S a xs) (al : RpAll X n as S xs ts) (hsz : base + (listText ts).length ≤ sizeLine)
    (hR : ∀ s' H' u, Inv X pins σ H' s' → Ex H0 H' → R (.ok (.ret (.str (listText ts) u))) s') :
    ∀ (k i : Nat) (s : Shared) (H : Hp) (acc : Array Value) (c : Nat) (done : List (Str × Tok)), xs.length - i = k → i ≤ xs.length → Ex S H → Ex H0 H → Inv X pins σ H s → H P = none → s.heap.get? P = some (PartO acc c) → acc.toList = strValues done → done.map (·.1) = ts.take i →
    codeAny (model X.prog X.w) A (.builtin "list.__repr__.loop" ⟨[.ref a, rawInt i, .ref P, rawInt ((base + piled (ts.take i) : Nat) : Int)], []⟩) R s := by
  have el := al.len
  have tl : (listText ts).length = (textFrom 0 "[" ts).length + 1 := by
    show (textFrom 0 "[" ts ++ "]").length = _
    exact strLen_append ..
  have tf := textFrom_len ts 0 "["
  have pl := piled_le_listText ts
  have each : ∀ t ∈ ts, t.length ≤ sizeLine := fun t ht => Nat.le_trans (tf.2.1 t ht) (by omega)
  have cnt : xs.length ≤ sizeLine := by
    have := tf.1
    rw [if_neg (by decide)] at this
    omega
  intro k
  induction k with
  | zero =>
    intro i s H acc c done hk hi f f0 I hn hP ha hd
    have e1 : i = xs.length := by omega
    obtain ⟨its, rv, ⟨o, no, ho, hc1, hc2, hdat⟩, _⟩ := I.list (ex_l f sq)
    have li := rv.length
    refine codeAny_builtin F.entry_list_repr_loop ?_
    have look : ∀ {B : Around} {Q : Array Value → Shared → Prop} {E : Value → Shared → Prop}, Q its.toArray s → wpAny (model X.prog X.w) B (listItems (.ref a)) Q E s := fun q => wpAny_listItems ho hdat q
    show wpAny _ _ (Builtin.«list.__repr__.loop» ⟨[.ref a, .int i 0, .ref P, .int ((base + piled (ts.take i) : Nat) : Int) 0], []⟩) _ _ s
    rw [repr_loop_tree]
    refine wpAny_bind (look ?_)
    have stop : its.toArray[((i : Nat) : Int).toNat]? = none := by
      rw [Int.toNat_natCast, e1, li]
      simp
    simp only [stop]
    have look2 : ∀ {B : Around} {Q : Array Value → Shared → Prop} {E : Value → Shared → Prop}, Q acc s → wpAny (model X.prog X.w) B (listItems (.ref P)) Q E s := fun q => wpAny_listItems hP rfl q
    unfold reprEnd
    refine wpAny_bind (look2 ?_)
    rw [ha, repr_fold]
    have whole : done.map (·.1) = ts := by rw [hd, e1, ← el, List.take_length]
    rw [whole]
    refine wpAny_bind (wpAny_pure (wpAny_bind (wpAny_mkStr (wpAny_pure ?_) (show (listText ts).length ≤ sizeLine by omega))))
    exact hR _ H _ (I.tok _) f0
  | succ k ih =>
    intro i s H acc c done hk hi f f0 I hn hP ha hd
    have lt : i < xs.length := by omega
    obtain ⟨t, ht, rp⟩ := al.at i xs[i] (by simp [lt])
    obtain ⟨its, rv, ⟨o, no, ho, hc1, hc2, hdat⟩, _⟩ := I.list (ex_l f sq)
    obtain ⟨u, hu1, hu2⟩ := rv.get (i := i) (x := xs[i]) (by simp [lt])
    have step := piled_take_succ ht
    have most := piled_take_le ts (i + 1)
    refine codeAny_builtin F.entry_list_repr_loop ?_
    have look : ∀ {B : Around} {Q : Array Value → Shared → Prop} {E : Value → Shared → Prop}, Q its.toArray s → wpAny (model X.prog X.w) B (listItems (.ref a)) Q E s := fun q => wpAny_listItems ho hdat q
    show wpAny _ _ (Builtin.«list.__repr__.loop» ⟨[.ref a, .int i 0, .ref P, .int ((base + piled (ts.take i) : Nat) : Int) 0], []⟩) _ _ s
    rw [repr_loop_tree]
    refine wpAny_bind (look ?_)
    have here : its.toArray[((i : Nat) : Int).toNat]? = some u := by
      rw [Int.toNat_natCast]
      simpa using hu1
    simp only [here]
    rw [Int.toNat_natCast]
    have gr : (A.under (.builtin "list.__repr__.loop" ⟨[.ref a, rawInt i, .ref P, rawInt ((base + piled (ts.take i) : Nat) : Int)], []⟩)).guards = some (.builtin "list.__repr__.loop" ⟨[.ref a, rawInt i, .ref P, rawInt ((base + piled (ts.take i) : Nat) : Int)], []⟩ :: g) := guards_under_guard (isGuard_list_loop _) hg
    have cl : ∀ b, as b → Clear (.builtin "list.__repr__.loop" ⟨[.ref a, rawInt i, .ref P, rawInt ((base + piled (ts.take i) : Nat) : Int)], []⟩ :: g) b := fun b hb => (hcl b hb).cons (a := a) fun z => ke_list I (ex_l f sq) (hna (by rw [z]; exact hb))
    have hx : (fun e s' => R (.error e) s') = X.xe := by
      funext e s'
      exact hE e s'
    rw [hx]
    refine wpAny_bind (wpAny_holding (rp (base + piled (ts.take i) + 1) (by omega) _ _ _ σ H s u _ (fr_loop.trans fr) gr cl (room_loop hr) (pp.pin I hn hP) f hu2 fun s1 H1 I1 x1 => ?_))
    obtain ⟨hP1, hn1, _⟩ := I1.pin (P, PartO acc c) (List.mem_append_right _ List.mem_cons_self)
    have J1 := part_unpin I1
    refine wpAny_bind (wpAny_mkStr ?_ (each t (List.mem_of_getElem? ht)))
    refine wpAny_bind ?_
    show wpAny _ _ (updateSeq P _) _ _ _
    have room : acc.size ≤ sizeLine := by
      have q1 : acc.toList.length = acc.size := Array.length_toList
      have q2 : (strValues done).length = done.length := by simp [strValues]
      have q3 : done.length = (ts.take i).length := by rw [← hd, List.length_map]
      have q4 : (ts.take i).length ≤ i := by
        rw [List.length_take]
        omega
      rw [ha] at q1
      omega
    refine wpAny_updateSeq hP1 rfl (wpAny_pure ⟨F.quiet_list_repr_loop _, ?_⟩) room
    have w1 : ((i : Int) + 1) = ((i + 1 : Nat) : Int) := by omega
    have w2 : base + piled (ts.take i) + (t.length + 2) = base + piled (ts.take (i + 1)) := by omega
    rw [w1, w2]
    refine ih (i + 1) _ H1 (acc.push (.str t s1.toks)) _ (done ++ [(t, s1.toks)]) (by omega) lt (f.trans x1) (f0.trans x1) ?_ hn1 (Heap.get?_update_self _ hP1 rfl) (by simp [ha, strValues]) (by simp [List.take_add_one, ht, hd])
    exact J1.turned (t' := s1.toks + 1) (fun b o nb e => (Heap.get?_update_other _ _ (Ne.symm nb)).trans e) hn1 pp.l pp.e pp.c pp.p
/-- a run that tells the text, at any state that has grown from S, under guards that miss as -/
def Cal (X : Cx) (n : Nat) (as : Addr → Prop) (S : Hp) (t : Str) (c : Sem Value) : Prop := ∀ (A : Around) (g : List Code) (pins : List (Addr × Obj)) (σ : L2.St) (H : Hp) (s : Shared) (Q : Value → Shared → Prop), A.frames = X.A.frames → A.guards = some g → (∀ b, as b → Clear g b) → Room n A → Inv X pins σ H s → Ex S H →
  (∀ s' H' u, Inv X pins σ H' s' → Ex H H' → Q (.str t u) s') → wpAny (model X.prog X.w) A c Q X.xe s
/-- a container at a whose repr is t -/
structure RpC (X : Cx) (n : Nat) (as : Addr → Prop) (S : Hp) (a : Addr) (t : Str) (T idr twin : String) : Prop where
  slot : SlotG T "__repr__" idr
  tw : reprUnder? (.builtin idr) = some (.builtin twin)
  ty : ∀ (pins : List (Addr × Obj)) (σ : L2.St) (H : Hp) (s : Shared), Inv X pins σ H s → Ex S H → s.TypeIs (.ref a) T
  call : t.length ≤ sizeLine → Cal X n as S t (call (.builtin idr) [.ref a])
  under : ∀ base : Nat, base + t.length ≤ sizeLine → Cal X n as S t (PySem.call (.builtin twin) [.ref a, rawInt base])
theorem RpC.toV {a : Addr} {T idr twin : String} (h : RpC X n as S a t T idr twin) : RpV X n as S (.ref a) t := by
  intro base hb A g pins σ H s u Q fr hg hc hr I f r q
  cases r
  refine wpAny_pyReprUnder_ref (Nat.le_trans (Nat.le_add_right _ _) hb) (wpAny_pyReprObjUnder_twin (h.ty pins σ H s I f) h.slot h.tw hr.units0 ?_)
  exact h.under base hb A g pins σ H s _ fr hg hc hr I f fun s' H' u I' x => ⟨⟨_, _, rfl⟩, _, _, rfl, q s' H' I' x⟩
theorem fr_in1 {A : Around} : A.in1.frames = A.frames := rfl
/-- lists -/
theorem rp_listBody {A : Around} {g : List Code} {R : Result → Shared → Prop} {a : Addr} {base : Nat} {x : V} {xs : List V} {ts : List Str} {pins : List (Addr × Obj)} {σ : L2.St} {H : Hp} {s : Shared} (fr : A.frames = X.A.frames) (hg : A.guards = some g) (hcl : ∀ b, orA a as b → Clear g b) (hr : Room (n + 1) A) (hna : as a → KE X.K a)
    (hE : ∀ e s', R (.error e) s' = X.xe e s') (sq : SqL X.K S a (x :: xs)) (al : RpAll X n as S (x :: xs) ts) (hsz : base + (listText ts).length ≤ sizeLine) (I : Inv X pins σ H s) (f : Ex S H)
    (hR : ∀ s' H' u, Inv X pins σ H' s' → Ex H H' → R (.ok (.ret (.str (listText ts) u))) s') :
    wpAny (model X.prog X.w) A.in1 (Builtin.listReprAt base ⟨[.ref a], []⟩) (fun fin s' => match fin with | .done f => R (.ok f) s' | .again c' => c'.quiet = true ∧ codeAny (model X.prog X.w) A c' R s') (fun e s' => R (.error e) s') s := by
  obtain ⟨its, rv, ⟨o, no, ho, hc1, hc2, hdat⟩, _⟩ := I.list (ex_l f sq)
  cases rv with
  | cons r1 r2 =>
    have ca : Clear g a := hcl a (.inl rfl)
    refine wpAny_list_repr_head (A := A.in1) hg (fun v rest kw hm => listSameRef_of_ne (ca _ _ _ _ hm)) ho hdat (wpAny_bind (m := newList []) (wpAny_newObj_type (wpAny_pure ⟨F.quiet_list_repr_loop _, ?_⟩)))
    have hn : H s.heap.objs.size = none := I.hok.fresh (Nat.le_refl _)
    have fp := I.fpOk (Nat.le_refl _) hn
    have I1 : Inv X pins σ H { s with heap := s.heap.push (PartO #[] 0) } := I.kept (t' := s.toks) fun b u e => Heap.get?_push_of_some _ e
    exact rp_loop (H0 := H) fr hg (fun b hb => hcl b (.inr hb)) hr hna hE ⟨fp.2.1, fp.2.2.1, fp.2.2.2.1, fp.2.2.2.2.1, fp.2.2.2.2.2⟩ sq al hsz hR _ 0 _ H #[] 0 [] rfl (Nat.zero_le _) f (Ex.refl H) I1 hn (Heap.get?_push_size _ rfl) rfl (by simp)
theorem RpC.list {a : Addr} {xs : List V} {ts : List Str} (sq : SqL X.K S a xs) (al : RpAll X n as S xs ts) (hna : as a → KE X.K a) : RpC X (n + 1) (orA a as) S a (listText ts) "list" "list.__repr__" "list.__repr__.under" := by
  have ty : ∀ (pins : List (Addr × Obj)) (σ : L2.St) (H : Hp) (s : Shared), Inv X pins σ H s → Ex S H → s.TypeIs (.ref a) "list" := by
    intro pins σ H s I f
    obtain ⟨its, rv, ⟨o, no, ho, hc1, _⟩, _⟩ := I.list (ex_l f sq)
    exact ⟨o, ho, hc1⟩
  refine ⟨F.slot_list_repr.toG, rfl, ty, ?_, ?_⟩
  · intro hz A g pins σ H s Q fr hg hc hr I f q
    cases xs with
    | nil =>
      cases al
      obtain ⟨its, rv, ⟨o, no, ho, hc1, _, hdat⟩, _⟩ := I.list (ex_l f sq)
      cases rv
      exact call_list_repr_empty ⟨o, ho, hc1⟩ ho hdat (q _ H _ (I.tok _) (Ex.refl H))
    | cons x xs =>
      refine wpAny_call (codeAny_call_builtin F.slot_list_repr.plain F.entry_list_repr (F.slot_list_repr.check _ _ _ _ _ _ _ _ (ty pins σ H s I f) (F.args_list_repr_1 _) ?_))
      exact rp_listBody (base := 0) (R := callEnd Q X.xe) fr hg hc hr hna (fun _ _ => rfl) sq al (by omega) I f q
  · intro base hz A g pins σ H s Q fr hg hc hr I f q
    cases xs with
    | nil =>
      cases al
      obtain ⟨its, rv, ⟨o, no, ho, hc1, _, hdat⟩, _⟩ := I.list (ex_l f sq)
      cases rv
      exact call_list_repr_under_empty ⟨o, ho, hc1⟩ ho hdat (q _ H _ (I.tok _) (Ex.refl H))
    | cons x xs =>
      refine call_twin_plain F.plain_list_repr_under F.entry_list_repr_under F.check_list_repr_under (ty pins σ H s I f) F.slot_list_repr.toG (F.args_list_repr_1 _) ?_
      exact rp_listBody (R := callEnd Q X.xe) fr hg hc hr hna (fun _ _ => rfl) sq al hz I f q
end
end Gd

set_option Elab.async false
set_option linter.all false
set_option maxRecDepth 100000
set_option maxHeartbeats 4000000
/-! G15: repr of tuples and dicts that hold own instances; own instances. -/
namespace Gd
open PySem PySem.Spec PyProof.Rows L2
open Evl (Ex Ex.refl Ex.trans Ex.new Ex.mut ex_t ex_l sq_of st_of fresh_back)
open PySem.Builtin PySem.Builtin.List
section
variable {A : Around} {args : Args} {n : Nat} {id : String}
/-- room below a guard that is a repr of a tuple or a dict -/
structure UnderOk (A : Around) (c : Code) : Prop where
  g : c.isGuard = true
  u : (A.under c).units = A.units + 1
  d : (A.under c).depth = A.depth + 1
  f : (A.under c).frames = A.frames
theorem uo_tup : UnderOk A (.builtin "tuple.__repr__" args) := ⟨isGuard_tuple_repr _, units_under_tuple_repr _ _, by first | rfl | simp [Around.under, Code.weight, Code.isCreation, Code.isGuard, Code.isCaller, Code.frames, Code.isFrame, guardIds], by first | rfl | simp [Around.under, Code.frames]⟩
theorem uo_tupU : UnderOk A (.builtin "tuple.__repr__.under" args) := ⟨isGuard_tuple_repr_under _, units_under_tuple_repr_under _ _, by first | rfl | simp [Around.under, Code.weight, Code.isCreation, Code.isGuard, Code.isCaller, Code.frames, Code.isFrame, guardIds], by first | rfl | simp [Around.under, Code.frames]⟩
theorem uo_dict : UnderOk A (.builtin "dict.__repr__" args) := ⟨isGuard_dict_repr _, units_under_dict_repr _ _, by first | rfl | simp [Around.under, Code.weight, Code.isCreation, Code.isGuard, Code.isCaller, Code.frames, Code.isFrame, guardIds], by first | rfl | simp [Around.under, Code.frames]⟩
theorem uo_dictU : UnderOk A (.builtin "dict.__repr__.under" args) := ⟨isGuard_dict_repr_under _, units_under_dict_repr_under _ _, by first | rfl | simp [Around.under, Code.weight, Code.isCreation, Code.isGuard, Code.isCaller, Code.frames, Code.isFrame, guardIds], by first | rfl | simp [Around.under, Code.frames]⟩
theorem UnderOk.room {c : Code} (o : UnderOk A c) (r : Room (n + 1) A) : Room n (A.under c) :=
  ⟨r.hd, by have := r.dp; rw [o.d]; omega, by have := r.un; rw [o.u]; omega⟩
end
section
variable {X : Cx} {n m : Nat} {as as' : Addr → Prop} {S S' : Hp} {v : V} {t : Str}
/-- the fold over a tuple's items -/
theorem rp_fold {A : Around} {g : List Code} {pins : List (Addr × Obj)} {σ : L2.St} {H0 : Hp} {c : Prop} (fr : A.frames = X.A.frames) (hg : A.guards = some g) (hcl : c → ∀ b, as b → Clear g b) (hr : Room n A) :
    ∀ (xs : List V) (hc : xs ≠ [] → c) (us : List Value) (ts : List Str) (acc : Array Str) (k : Nat) (s : Shared) (H : Hp) (Q : (Array Str × Nat) → Shared → Prop), RpAll X n as S xs ts → Vals xs us → k + piled ts ≤ sizeLine → Ex S H → Ex H0 H → Inv X pins σ H s →
      (∀ s' H', Inv X pins σ H' s' → Ex H0 H' → Q ⟨acc ++ ts.toArray, k + piled ts⟩ s') → wpAny (model X.prog X.w) A (forIn us (⟨acc, k⟩ : (Array Str × Nat)) tupBody) Q X.xe s := by
  intro xs
  induction xs with
  | nil =>
    intro hc us ts acc k s H Q al rv hz f f0 I q
    cases al
    cases rv
    rw [List.forIn_nil]
    have := q s H I f0
    exact wpAny_pure (by simpa [piled] using this)
  | cons x xs ih =>
    intro hc us ts acc k s H Q al rv hz f f0 I q
    cases al with
    | cons h1 h2 =>
      rename_i t ts'
      cases rv with
      | cons r1 r2 =>
        rw [piled_cons] at hz
        rw [List.forIn_cons]
        refine wpAny_bind (wpAny_bind (h1 (k + 1) (by omega) A g pins σ H s _ _ fr hg (hcl (hc (by simp))) hr I f r1 fun s1 H1 I1 x1 => wpAny_pure ?_))
        refine ih (fun _ => hc (by simp)) _ ts' (acc.push t) (k + (t.length + 2)) s1 H1 Q h2 r2 (by omega) (f.trans x1) (f0.trans x1) I1 fun s2 H2 I2 x2 => ?_
        have := q s2 H2 I2 x2
        rw [show k + piled (t :: ts') = k + (t.length + 2) + piled ts' by rw [piled_cons]; omega] at this
        simpa using this
theorem rp_tupBody {A : Around} {g : List Code} {R : Result → Shared → Prop} {a : Addr} {base : Nat} {xs : List V} {ts : List Str} {pins : List (Addr × Obj)} {σ : L2.St} {H : Hp} {s : Shared} {id : String} {rest : List Value} (uo : UnderOk A (.builtin id ⟨.ref a :: rest, []⟩))
    (fr : A.frames = X.A.frames) (hg : A.guards = some g) (hcl : ∀ b, orA a as b → Clear g b) (hr : Room (n + 1) A) (hna : as a → KE X.K a) (hE : ∀ e s', R (.error e) s' = X.xe e s') (sq : SqT X.K S a xs) (al : RpAll X n as S xs ts)
    (hsz : base + (tupleText ts).length ≤ sizeLine) (I : Inv X pins σ H s) (f : Ex S H) (hR : ∀ s' H' u, Inv X pins σ H' s' → Ex H H' → R (.ok (.ret (.str (tupleText ts) u))) s') :
    wpOwn (model X.prog X.w) A (.builtin id ⟨.ref a :: rest, []⟩) (Builtin.tupleReprAt base ⟨[.ref a], []⟩) (fun fin s' => match fin with | .done f => R (.ok f) s' | .again c' => c'.quiet = true ∧ codeAny (model X.prog X.w) A c' R s') (fun e s' => R (.error e) s') s := by
  obtain ⟨its, rv, ⟨o, ho, hc1, no, hdat⟩, _⟩ := I.tuple (ex_t f sq)
  have ca : Clear g a := hcl a (.inl rfl)
  have el := al.len
  have li := rv.length
  have pl := piled_le_tupleText ts
  rw [tuple_repr_tree, tupleReprUnderWay_eq]
  refine wpOwn_bind (wpOwn_stackTailAny hg (tupGuardF_off _) (tupGuardF_pos _) ?_)
  rw [show (g.any fun c => tupGuardF (.ref a) (c, default)) = false from List.any_eq_false.mpr fun c hm => by rw [tupGuardF_of_clear ca c hm]; exact Bool.false_ne_true]
  refine wpOwn_of_wpAny ?_
  show wpAny _ _ (tupleReprRest base (.ref a)) _ _ s
  unfold tupleReprRest Builtin.Tuple.tupleItemsOf
  refine wpAny_bind (wpAny_bind (wpAny_seqItems ho hdat (wpAny_pure ?_)))
  rw [← Array.forIn_toList]
  have hx : (fun e s' => R (.error e) s') = X.xe := by
    funext e s'
    exact hE e s'
  rw [hx]
  refine wpAny_bind (rp_fold (H0 := H) (c := xs ≠ []) (uo.f.trans fr) (guards_under_guard uo.g hg) (fun hc b hb => (hcl b (.inr hb)).cons (a := a) fun z => by
    cases hxs : xs with
    | nil => exact hc hxs
    | cons x xs' => exact ke_tup I (by rw [← hxs]; exact ex_t f sq) (hna (by rw [z]; exact hb))) (uo.room hr) xs (fun z => z) its ts _ _ s H _ al (by simpa using rv) (by omega) f (Ex.refl H) I fun s1 H1 I1 x1 => ?_)
  have sz : (tupleText ts).length ≤ sizeLine := by omega
  have hl : its.length = ts.length := by rw [← li, el]
  refine wpAny_bind (wpAny_mkStr (wpAny_pure ?_) (by simpa [tupleText, hl] using sz))
  have := hR _ H1 (s1.toks + 1 - 1) (I1.tok (s1.toks + 1)) x1
  simpa [tupleText, hl] using this
theorem RpC.tuple {a : Addr} {xs : List V} {ts : List Str} (sq : SqT X.K S a xs) (al : RpAll X n as S xs ts) (hna : as a → KE X.K a) : RpC X (n + 1) (orA a as) S a (tupleText ts) "tuple" "tuple.__repr__" "tuple.__repr__.under" := by
  have ty : ∀ (pins : List (Addr × Obj)) (σ : L2.St) (H : Hp) (s : Shared), Inv X pins σ H s → Ex S H → s.TypeIs (.ref a) "tuple" := by
    intro pins σ H s I f
    obtain ⟨its, rv, ⟨o, ho, hc1, _⟩, _⟩ := I.tuple (ex_t f sq)
    exact ⟨o, ho, hc1⟩
  refine ⟨F.slot_tuple_repr, rfl, ty, ?_, ?_⟩
  · intro hz A g pins σ H s Q fr hg hc hr I f q
    refine wpAny_call (codeAny_call_builtin_own (Code.quiet_builtin _ (by decide +kernel)) F.entry_tuple_repr (F.slot_tuple_repr.check _ _ _ _ _ _ _ _ (ty pins σ H s I f) (F.args_tuple_repr_1 _) ?_))
    exact rp_tupBody (base := 0) (R := callEnd Q X.xe) uo_tup fr hg hc hr hna (fun _ _ => rfl) sq al (by omega) I f q
  · intro base hz A g pins σ H s Q fr hg hc hr I f q
    refine call_twin_own (F.quiet_tuple_repr_under _) F.entry_tuple_repr_under F.check_tuple_repr_under (ty pins σ H s I f) F.slot_tuple_repr (F.args_tuple_repr_1 _) ?_
    exact rp_tupBody (R := callEnd Q X.xe) uo_tupU fr hg hc hr hna (fun _ _ => rfl) sq al hz I f q
end
end Gd

set_option Elab.async false
set_option linter.all false
set_option maxRecDepth 100000
set_option maxHeartbeats 4000000
/-! G16: promises under guards; the text of an own instance. -/
namespace Gd
open PySem PySem.Spec PyProof.Rows L2
open Evl (Ex Ex.refl Ex.trans Ex.new Ex.mut ex_t ex_l sq_of st_of fresh_back)
open PySem.W (findIn isFn looks_findIn)

/-- a promise that may depend on the reprs under way -/
structure FnGd (P : Program) (w : World) (K : PySem.W.Frag) (mg : Str → Option Value) (base : Heap) (k : Nat) (f : Addr) (fd : FuncData) (ps : List Str) (sp : List Code → Sp) : Prop where
  arity : ∀ g vs H Q E, sp g vs H Q E → vs.length = ps.length
  go : ∀ (A : Around) (g : List Code) (out : List Env) (s : Shared) (H : Hp) (ar : Args) (us : List Value) (vs : List V) (Q : VK) (E : XK),
    A.guards = some g → Room k A → Env0 P w K mg base A out s H → BindsTo s fd ar (ps.zip us) → Vals vs us → sp g vs H Q E →
    codeAny (model P w) A (.call (.ref f) ar) (CR CX0 out P w H s Q E) s
theorem FnGd.toG {P : Program} {w : World} {K : PySem.W.Frag} {mg : Str → Option Value} {base : Heap} {k : Nat} {f : Addr} {fd : FuncData} {ps : List Str} {sp : List Code → Sp} (F : FnGd P w K mg base k f fd ps sp) : FnG P w K mg base k f fd ps (sp []) :=
  ⟨F.arity [], fun A out s H ar us vs Q E gu => F.go A [] out s H ar us vs Q E gu⟩
theorem FnGd.of {P : Program} {w : World} {K : PySem.W.Frag} {mg : Str → Option Value} {base : Heap} {k : Nat} {f : Addr} {fd : FuncData} {ps : List Str} {sp : Sp} (F : FnOk P w K mg base CX0 k f fd ps sp) : FnGd P w K mg base k f fd ps (fun _ => sp) :=
  ⟨fun _ => F.len, fun A _ out s H ar us vs Q E _ => F.run A out s H ar us vs Q E⟩
theorem FnGd.mk_of {P : Program} {w : World} {K : PySem.W.Frag} {mg : Str → Option Value} {base : Heap} {k : Nat} {f : Addr} {nm q : Str} {pr : Arguments} {bd : List Stmt} {sc : Scope}
    {dvs : List V} {kws : List (Str × V)} {fd : FuncData} {N ps : List Str} {sp : List Code → Sp}
    (D : FunD K nm q pr bd sc dvs kws f fd) (S : FnScope N ps sc) (ar : ∀ g vs H Q E, sp g vs H Q E → vs.length = ps.length)
    (hb : ∀ (cdv : Value) (A : Around) (g : List Code) (out : List Env) (s : Shared) (H : Hp) (vs : List V) (Q : VK) (E : XK),
      A.guards = some g → Room k (A.deeper (envOfC q sc s.heap.objs.size f cdv)) → sp g vs H Q E →
      ∃ t, PSs (cxOf CX0 P w K mg base N q sc f cdv A out s H E) bd t ∧ t { nx := fun _ H' => Q .non H', rt := Q } (start N vs) H) :
    FnGd P w K mg base (k + 1) f fd ps sp := by
  refine ⟨ar, fun A g out s H args us vs Q E gu hr e0 bt rv hs => ?_⟩
  exact FnG.mk_core D S (ar g) out (fun cdv s' H' vs' Q' E' hr' hs' => hb cdv A g out s' H' vs' Q' E' gu hr' hs') s H args us vs Q E hr e0 bt rv hs
section
variable {X : Cx} {k : Nat} {f : Addr} {fd : FuncData} {ps : List Str} {sp : List Code → Sp} {dvs : List V} {ds : List Value}
/-- a call of such a def, around another A -/
theorem FnGd.callAt {A : Around} {g : List Code} (F : FnGd X.prog X.w X.K X.mg X.base k f fd ps sp) (fr : A.frames = X.A.frames) (gu : A.guards = some g) (hr : Room k A) (bi : Binds X.K fd ps ds) (hd : Vals dvs ds)
    {pins : List (Addr × Obj)} {σ : L2.St} {H : Hp} {s : Shared} {Q : VK} {us : List Value} {vs : List V} (I : Inv X pins σ H s) (r : Vals vs us) (h : sp g (vs ++ dvs) H Q E0) :
    wpAny (model X.prog X.w) A (call (.ref f) us) (EP X pins σ Q) X.xe s := by
  have r2 := r.append hd
  have hl := F.arity _ _ _ _ _ h
  rw [r2.length] at hl
  have e := I.env0
  have e0 : Env0 X.prog X.w X.K X.mg X.base A X.stack s H := ⟨fr.trans e.frames, e.mod, e.bs, e.bsz, e.funs, e.frf, e.hok, e.bare⟩
  refine wpAny_call (codeAny_mono (F.go A g X.stack s H ⟨us, []⟩ _ _ Q E0 gu hr e0 (bi s us I.kIn hl) r2 h) ?_)
  intro res s' z
  match res, z with
  | .ok (.ret u), z => exact I.after z
  | .ok .next, z => exact False.elim z
  | .ok .brk, z => exact False.elim z
  | .ok .cont, z => exact False.elim z
  | .error e, z => exact False.elim z
theorem FnGd.mono {j : Nat} {P : Program} {w : World} {K : PySem.W.Frag} {mg : Str → Option Value} {base : Heap} (F : FnGd P w K mg base j f fd ps sp) (h : j ≤ k) : FnGd P w K mg base k f fd ps sp :=
  ⟨F.arity, fun A g out s H ar us vs Q E gu hr => F.go A g out s H ar us vs Q E gu (hr.mono h)⟩
/-- the text of an own instance -/
theorem RpV.ins {C a dx : Addr} {fs : List (Str × V)} {n : Nat} {as : Addr → Prop} {S : Hp} {t : Str} (F : FnGd X.prog X.w X.K X.mg X.base n f fd ps sp) (bi : Binds X.K fd ps []) (hs : findIn X.K (.ref C) "__repr__" = some (some (.ref f))) (hf : isFn X.K (.ref f) = true)
    (h : S a = some (.ins C dx fs)) (pr : ∀ (g : List Code) (H : Hp) (Q : VK), Ex S H → (∀ b, as b → Clear g b) → (∀ H', Ex H H' → Q (.str t) H') → sp g [.ref a] H Q E0) : RpV X n as S (.ref a) t := by
  intro base hb A g pins σ H s u Q fr hg hc hr I x r q
  cases r
  obtain ⟨mA, J, _⟩ := ins_get I.hok (x _ _ h)
  obtain ⟨od, J, _⟩ := J.look
  have XK := I.kIn
  have one : wpAny (model X.prog X.w) A (call (.ref f) [.ref a]) (fun v s' => ∃ u, v = .str t u ∧ Q t s') X.xe s := by
    refine thn (F.callAt (ds := []) (dvs := []) fr hg hr bi .nil I (show Vals [V.ref a] [Value.ref a] from .cons rfl .nil) (pr g H (fun v H' => v = .str t ∧ Ex H H') x hc fun H' x' => ⟨rfl, x'⟩)) ?_
    rintro v s' ⟨v', H', I', rv, rfl, x'⟩
    obtain ⟨tk, rfl⟩ := rv
    exact ⟨tk, rfl, q s' H' I' x'⟩
  refine wpAny_pyReprUnder_ref (Nat.le_trans (Nat.le_add_right _ _) hb) ?_
  unfold pyReprObjUnder pyReprObjBy
  refine wpAny_bind (wpAny_cRoomFor hr.units0 (wpAny_bind (wpAny_bind (J.type.here ((looks_findIn XK hs).here ?_)))))
  rw [if_neg (by simp)]
  simp only [callSpecialIfBoundBy?, bindSpecialIfBound?]
  refine wpAny_bind (wpAny_holding (wpAny_bind (wpAny_bind (wpAny_bind (J.type.here ((looks_findIn XK hs).here ?_))))))
  refine wpAny_bind (wpAny_askSetting (wpAny_ite ?_))
  have back : ∀ (v : Value) (s' : Shared), (∃ u, v = .str t u ∧ Q t s') → wpAny (model X.prog X.w) A (pure (some v)) (fun r s'' => wpAny (model X.prog X.w) A (match r with
      | some r => do if ← isInstance r (.type "str") then pure r else raiseError "TypeError" s!"__repr__ returned non-string (type {← typeNameOf r})"
      | none => unsupported "repr:special-get-raises") (fun v s' => ∃ x u, v = .str x u ∧ Q x s') X.xe s'') X.xe s' := by
    rintro v s' ⟨u, rfl, q'⟩
    exact wpAny_pure (wpAny_bind (wpAny_isInstance (T := "str") (b := true) rfl isSubtype_str_str (wpAny_pure ⟨t, u, rfl, q'⟩)))
  split
  · refine wpAny_bind ((PySem.W.bind_fn XK _ (beq_iff_eq.mp hf)).here (wpAny_pure ?_))
    refine wpAny_bind (wpAny_mono one (fun v s' z => back v s' z) fun _ _ z => z)
  · refine wpAny_tryCatch (wpAny_bind ((PySem.W.bind_fn XK _ (beq_iff_eq.mp hf)).here (wpAny_pure ?_)))
    refine wpAny_bind (wpAny_mono one (fun v s' z => back v s' z) fun _ _ z => z)
end
end Gd

set_option Elab.async false
set_option linter.all false
set_option maxRecDepth 100000
set_option maxHeartbeats 4000000
/-! G17: repr of dicts that hold own instances. -/
namespace Gd
open PySem PySem.Spec PyProof.Rows L2
open Evl (Ex Ex.refl Ex.trans Ex.new Ex.mut ex_t ex_l sq_of st_of fresh_back)
section
variable {X : Cx} {n : Nat} {as : Addr → Prop} {S S0 : Hp}
inductive RpEnt (X : Cx) (n : Nat) (as : Addr → Prop) (S : Hp) : List (Key × V) → List Str → Prop
  | nil : RpEnt X n as S [] []
  | cons {k : Key} {v : V} {tk tv : Str} {kvs : List (Key × V)} {ts : List Str} : RpV X n as S (kV k) tk → RpV X n as S v tv → RpEnt X n as S kvs ts → RpEnt X n as S ((k, v) :: kvs) ((tk ++ ": " ++ tv) :: ts)
theorem RpEnt.len : ∀ {kvs : List (Key × V)} {ts : List Str}, RpEnt X n as S kvs ts → ts.length = kvs.length
  | _, _, .nil => rfl
  | _, _, .cons _ _ h => congrArg (· + 1) h.len
theorem RpEnt.at : ∀ {kvs : List (Key × V)} {ts : List Str}, RpEnt X n as S kvs ts → ∀ (i : Nat) (p : Key × V), kvs[i]? = some p → ∃ tk tv : Str, ts[i]? = some (tk ++ ": " ++ tv) ∧ RpV X n as S (kV p.1) tk ∧ RpV X n as S p.2 tv
  | _, _, .nil, _, _, q => by simp at q
  | _, _, .cons h1 h2 _, 0, _, q => by
    simp at q
    subst q
    exact ⟨_, _, rfl, h1, h2⟩
  | _, _, .cons _ _ h, i + 1, p, q => by
    obtain ⟨tk, tv, h1, h2, h3⟩ := h.at i p (by simpa using q)
    exact ⟨tk, tv, by simpa using h1, h2, h3⟩
theorem pairs_look {P : Program} {w : World} : ∀ {es : List DictEntry} {vs : List (Key × Value)} {kvs : List (Key × V)}, PySem.Pairs (mixKind P w) es vs → KV kvs vs →
    es.length = kvs.length ∧ ∀ (i : Nat) (p : Key × V), kvs[i]? = some p → ∃ e, es[i]? = some e ∧ RelV (kV p.1) e.key ∧ RelV p.2 e.val
  | _, _, _, .nil, .nil => ⟨rfl, fun i p h => by simp at h⟩
  | _, _, _, .cons h1 hv h2, .cons r t => by
    obtain ⟨l, f⟩ := pairs_look h2 t
    refine ⟨congrArg (· + 1) l, fun i p q => ?_⟩
    cases i with
    | zero =>
      simp at q
      subst q
      refine ⟨_, rfl, ?_, by rw [hv]; exact r.2⟩
      have hk : keyIs _ _ = true := h1
      rw [← r.1] at hk
      rcases keyIs_shape hk with ⟨j, t, e1, e2⟩ | ⟨z, t, e1, e2⟩
      · rw [e1, e2]
        exact ⟨t, rfl⟩
      · rw [e1, e2]
        exact ⟨t, rfl⟩
    | succ i =>
      obtain ⟨e, e1, e2⟩ := f i p (by simpa using q)
      exact ⟨e, by simpa using e1, e2⟩
/-- a locked dict's object, entry by entry -/
theorem dict_look {pins : List (Addr × Obj)} {σ : L2.St} {H : Hp} {s : Shared} {a : Addr} {od : Obj} {kvs : List (Key × V)} (I : Inv X pins σ H s) (h : H a = some (.frz od (.dK kvs))) :
    s.heap.get? a = some od ∧ (a == sysModules) = false ∧ od.cls = .type "dict" ∧ ∃ es ep, od.data = .dict es ep ∧ es.size = kvs.length ∧ ∀ (i : Nat) (p : Key × V), kvs[i]? = some p → ∃ e, es[i]? = some e ∧ RelV (kV p.1) e.key ∧ RelV p.2 e.val := by
  obtain ⟨ho, hz, hs, vs, kv, o, es, ep, ho2, ex, hd, ko, pr, nd⟩ := (show ObjOk X.prog X.w H s.heap a (.frz od (.dK kvs)) from I.hok a _ h)
  rw [ho] at ho2
  cases ho2
  obtain ⟨l, f⟩ := pairs_look pr kv
  refine ⟨ho, hs, ex.1, es, ep, hd, by rw [← Array.length_toList]; exact l, fun i p q => ?_⟩
  obtain ⟨e, e1, e2⟩ := f i p q
  exact ⟨e, by simpa using e1, e2⟩
theorem rp_dictBody {A : Around} {g : List Code} {R : Result → Shared → Prop} {a : Addr} {base : Nat} {kvs : List (Key × V)} {ps : List Str} {pins : List (Addr × Obj)} {σ : L2.St} {H : Hp} {s : Shared} {id : String} {rest : List Value} (uo : UnderOk A (.builtin id ⟨.ref a :: rest, []⟩))
    (fr : A.frames = X.A.frames) (hg : A.guards = some g) (hcl : ∀ b, orA a as b → Clear g b) (hr : Room (n + 1) A) (hna : as a → KE X.K a) (hE : ∀ e s', R (.error e) s' = X.xe e s') (hS : S a = some (.dK kvs)) (e0 : Ex S0 S) (s0 : S0 a = none) (al : RpEnt X n as S0 kvs ps)
    (hsz : base + (dictText ps).length ≤ sizeLine) (I : Inv X pins σ H s) (f : Ex S H) (hR : ∀ s' H' u, Inv X pins σ H' s' → Ex H H' → R (.ok (.ret (.str (dictText ps) u))) s') :
    wpOwn (model X.prog X.w) A (.builtin id ⟨.ref a :: rest, []⟩) (Builtin.dictReprAt base ⟨[.ref a], []⟩) (fun fin s' => match fin with | .done f => R (.ok f) s' | .again c' => c'.quiet = true ∧ codeAny (model X.prog X.w) A c' R s') (fun e s' => R (.error e) s') s := by
  have hH := f _ _ hS
  obtain ⟨od, I1⟩ := I.lock hH trivial
  have nf := I.nofrz hH trivial
  obtain ⟨ho, hsys, hcls, es, ep, hd, hl, hat⟩ := dict_look I1 upd_same
  have x1 : Ex S0 (upd H a (.frz od (.dK kvs))) := fun b o z => by
    rw [upd_ne (fun q => by rw [q, s0] at z; cases z)]
    exact f _ _ (e0 _ _ z)
  have ca : Clear g a := hcl a (.inl rfl)
  have el := al.len
  have pl := piled_le_dictText ps
  have hx : (fun e s' => R (.error e) s') = X.xe := by
    funext e s'
    exact hE e s'
  unfold Builtin.dictReprAt
  refine wpOwn_bind (wpOwn_of_wpAny ?_)
  unfold Builtin.Dict.dictSlotNone
  refine wpAny_bind (wpAny_notOrdered_dict ⟨od, ho, hcls⟩ ?_)
  show wpAny _ _ (pure (Value.ref a)) _ _ s
  refine wpAny_pure ?_
  rw [dictReprRunning_eq]
  refine wpOwn_bind (wpOwn_stackTailAny hg (dictGuardF_off _) (dictGuardF_pos _) ?_)
  rw [show (g.any fun c => dictGuardF (.ref a) (c, default)) = false from List.any_eq_false.mpr fun c hm => by rw [dictGuardF_of_clear ca c hm]; exact Bool.false_ne_true]
  refine wpOwn_of_wpAny ?_
  show wpAny _ _ (Builtin.Dict.addrOf (.ref a) >>= _) _ _ s
  refine wpAny_bind (wpAny_pure ?_)
  show wpAny _ _ (Builtin.Dict.showsAll a >>= _) _ _ s
  unfold Builtin.Dict.showsAll
  rw [if_neg (by rw [hsys]; exact Bool.false_ne_true)]
  refine wpAny_bind (wpAny_pure (wpAny_bind (wpAny_dictEpoch ho hd (wpAny_bind (wpAny_dictEntries ho hd (wpAny_bind ?_))))))
  rw [Std.Legacy.Range.forIn_eq_forIn_range']
  simp only [Std.Legacy.Range.size, Nat.sub_zero, Nat.add_sub_cancel, Nat.div_one]
  rw [hx]
  have gr : (A.under (.builtin id ⟨.ref a :: rest, []⟩)).guards = some (.builtin id ⟨.ref a :: rest, []⟩ :: g) := guards_under_guard uo.g hg
  have cl : ∀ b, as b → Clear (.builtin id ⟨.ref a :: rest, []⟩ :: g) b := fun b hb => (hcl b (.inr hb)).cons (a := a) fun z => ke_obj I ho hcls (by decide) (hna (by rw [z]; exact hb))
  refine wpAny_forIn_list _ (fun l r s' => ∃ i H1, l = List.range' i (es.size - i) ∧ i ≤ es.size ∧ r = (⟨(ps.take i).toArray, base + piled (ps.take i)⟩ : (Array Str × Nat)) ∧ Inv X pins σ H1 s' ∧ Ex (upd H a (.frz od (.dK kvs))) H1) _ ?_ ?_ _ _
    ⟨0, _, by simp, Nat.zero_le _, by simp [piled], I1, Ex.refl _⟩
  · rintro x l _ s1 ⟨i, H1, hl1, hi, rfl, J, xJ⟩
    have lt : i < es.size := by
      rcases Nat.lt_or_ge i es.size with z | z
      · exact z
      · rw [Nat.sub_eq_zero_of_le z] at hl1
        simp at hl1
    obtain ⟨rfl, hl2⟩ : x = i ∧ l = List.range' (i + 1) (es.size - (i + 1)) := by
      rw [show es.size - i = (es.size - (i + 1)) + 1 by omega, List.range'_succ] at hl1
      injection hl1 with z1 z2
      exact ⟨z1, z2⟩
    have hk : kvs[x]? = some kvs[x] := List.getElem?_eq_getElem (by omega)
    obtain ⟨tk, tv, ht, rk, rv⟩ := al.at x _ hk
    obtain ⟨e, he, r1, r2⟩ := hat x _ hk
    have ho1 := (dict_look J (xJ _ _ upd_same)).1
    have tl : (tk ++ ": " ++ tv).length = tk.length + 2 + tv.length := by
      rw [strLen_append, strLen_append]
      rfl
    have step := piled_take_succ ht
    have most := piled_take_le ps (x + 1)
    rw [tl] at step
    refine wpAny_bind (wpAny_dictEntries ho1 hd ?_)
    rw [he]
    refine wpAny_bind (wpAny_holding (wpAny_bind (rk (base + piled (ps.take x) + 1) (by omega) _ _ pins σ H1 s1 _ _ (uo.f.trans fr) gr cl (uo.room hr) J (x1.trans xJ) r1 fun s2 H2 J2 xJ2 => ?_)))
    refine wpAny_bind (rv (base + piled (ps.take x) + (tk.length + 3)) (by omega) _ _ pins σ H2 s2 _ _ (uo.f.trans fr) gr cl (uo.room hr) J2 ((x1.trans xJ).trans xJ2) r2 fun s3 H3 J3 xJ3 => wpAny_pure ?_)
    have ho3 := (dict_look J3 (((xJ.trans xJ2).trans xJ3) _ _ upd_same)).1
    refine wpAny_bind (wpAny_dictEpoch ho3 hd ?_)
    rw [if_neg (by simp)]
    refine wpAny_pure ⟨x + 1, H3, hl2, lt, ?_, J3, (xJ.trans xJ2).trans xJ3⟩
    rw [show (ps.take x).toArray.push (tk ++ ": " ++ tv) = (ps.take (x + 1)).toArray by rw [List.take_add_one, ht]; simp, show base + piled (ps.take x) + (tk.length + tv.length + 4) = base + piled (ps.take (x + 1)) by omega]
  · rintro _ s1 ⟨i, H1, hl1, hi, rfl, J, xJ⟩
    have ei : i = es.size := by
      rcases Nat.lt_or_ge i es.size with z | z
      · rw [show es.size - i = (es.size - (i + 1)) + 1 by omega, List.range'_succ] at hl1
        exact nomatch hl1
      · exact Nat.le_antisymm hi z
    rw [ei, hl, ← el, List.take_length]
    refine wpAny_bind (wpAny_mkStr (wpAny_pure ?_) (by simpa [dictText] using (show (dictText ps).length ≤ sizeLine by omega)))
    have U := (J.tok (s1.toks + 1)).unlock (xJ _ _ upd_same) nf
    have xU : Ex H (upd H1 a (.dK kvs)) := fun b o z => by
      by_cases q : b = a
      · subst q
        rw [upd_same, ← hH]
        exact z
      · rw [upd_ne q]
        exact xJ _ _ (by rw [upd_ne q]; exact z)
    have := hR _ _ s1.toks U xU
    simpa [dictText] using this
theorem RpC.dict {a : Addr} {kvs : List (Key × V)} {ps : List Str} (hS : S a = some (.dK kvs)) (e0 : Ex S0 S) (s0 : S0 a = none) (al : RpEnt X n as S0 kvs ps) (hna : as a → KE X.K a) : RpC X (n + 1) (orA a as) S a (dictText ps) "dict" "dict.__repr__" "dict.__repr__.under" := by
  have ty : ∀ (pins : List (Addr × Obj)) (σ : L2.St) (H : Hp) (s : Shared), Inv X pins σ H s → Ex S H → s.TypeIs (.ref a) "dict" := by
    intro pins σ H s I f
    obtain ⟨hz, hs, vs, kv, o, es, ep, ho2, ex, _⟩ := (show ObjOk X.prog X.w H s.heap a (.dK kvs) from I.hok a _ (f _ _ hS))
    exact ⟨o, ho2, ex.1⟩
  refine ⟨F.slot_dict_repr, rfl, ty, ?_, ?_⟩
  · intro hz A g pins σ H s Q fr hg hc hr I f q
    refine wpAny_call (codeAny_call_builtin_own (Code.quiet_builtin _ (by decide +kernel)) F.entry_dict_repr (F.slot_dict_repr.check _ _ _ _ _ _ _ _ (ty pins σ H s I f) (F.args_dict_repr_1 _) ?_))
    exact rp_dictBody (base := 0) (R := callEnd Q X.xe) uo_dict fr hg hc hr hna (fun _ _ => rfl) hS e0 s0 al (by omega) I f q
  · intro base hz A g pins σ H s Q fr hg hc hr I f q
    refine call_twin_own (F.quiet_dict_repr_under _) F.entry_dict_repr_under F.check_dict_repr_under (ty pins σ H s I f) F.slot_dict_repr (F.args_dict_repr_1 _) ?_
    exact rp_dictBody (R := callEnd Q X.xe) uo_dictU fr hg hc hr hna (fun _ _ => rfl) hS e0 s0 al hz I f q
end
end Gd

set_option Elab.async false
set_option linter.all false
set_option maxRecDepth 100000
set_option maxHeartbeats 4000000
/-! G18: the text of deep data. -/
namespace Gd
open PySem PySem.Spec PyProof.Rows L2
open Evl (Ex Ex.refl Ex.trans Ex.new Ex.mut ex_t ex_l sq_of st_of fresh_back)
def keyT : Key → Str
  | .inl i => Str.ofString (toString i)
  | .inr x => reprText x
mutual
def txD (tx : Addr → List (Str × Dt) → Str) : Dt → Str
  | .non => "None"
  | .bl b => if b then ("True" : Str) else ("False" : Str)
  | .int i => Str.ofString (toString i)
  | .str x => reprText x
  | .lst ds => listText (txAll tx ds)
  | .tup ds => tupleText (txAll tx ds)
  | .ins C fs => tx C fs
  | .dK kvs => dictText (txKv tx kvs)
  | .dT _ => Str.empty
def txAll (tx : Addr → List (Str × Dt) → Str) : List Dt → List Str
  | [] => []
  | d :: ds => txD tx d :: txAll tx ds
def txKv (tx : Addr → List (Str × Dt) → Str) : List (Key × Dt) → List Str
  | [] => []
  | (k, d) :: r => (keyT k ++ ": " ++ txD tx d) :: txKv tx r
end
mutual
def dpt : Dt → Nat
  | .lst ds => dptAll ds + 1
  | .tup ds => dptAll ds + 1
  | .dK kvs => dptKv kvs + 1
  | .non => 0
  | .bl _ => 0
  | .int _ => 0
  | .str _ => 0
  | .ins _ _ => 0
  | .dT _ => 0
def dptAll : List Dt → Nat
  | [] => 0
  | d :: ds => max (dpt d) (dptAll ds)
def dptKv : List (Key × Dt) → Nat
  | [] => 0
  | (k, d) :: r => max (dpt d) (dptKv r)
end
def smallI (i : Int) : Bool := decide (i.natAbs.log2 < 1920)
def smallK : Key → Bool
  | .inl i => smallI i
  | .inr _ => true
mutual
def okD (ok : Addr → List (Str × Dt) → Bool) : Dt → Bool
  | .int i => smallI i
  | .lst ds => okAll ok ds
  | .tup ds => okAll ok ds
  | .ins C fs => ok C fs
  | .dK kvs => okKv ok kvs
  | .dT _ => false
  | .non => true
  | .bl _ => true
  | .str _ => true
def okAll (ok : Addr → List (Str × Dt) → Bool) : List Dt → Bool
  | [] => true
  | d :: ds => okD ok d && okAll ok ds
def okKv (ok : Addr → List (Str × Dt) → Bool) : List (Key × Dt) → Bool
  | [] => true
  | (k, d) :: r => smallK k && (okD ok d && okKv ok r)
end
/-- the addresses that a text of data in S may go through -/
def dom (K : PySem.W.Frag) (S : Hp) : Addr → Prop := fun b => S b ≠ none ∨ KE K b
theorem dom.mono {K : PySem.W.Frag} {S S' : Hp} (e : Ex S S') {b : Addr} (h : dom K S b) : dom K S' b := by
  rcases h with h | h
  · refine .inl fun z => ?_
    cases q : S b with
    | none => exact h q
    | some o =>
      rw [e _ _ q] at z
      cases z
  · exact .inr h
section
variable {X : Cx} {n m : Nat} {as as' : Addr → Prop} {S S' : Hp} {tx : Addr → List (Str × Dt) → Str} {ok : Addr → List (Str × Dt) → Bool}
theorem RpV.strB (z : Str) : RpV X n as S (.str z) (reprText z) := fun base hb A g pins σ H s u Q fr hg hc hr I f r q => by
  obtain ⟨t, rfl⟩ := r
  exact ReprIs.str z t (Nat.le_trans (Nat.le_add_left _ _) hb) base hb A X.xe s Q fun tk => q _ H (I.tok tk) (Ex.refl H)
theorem RpV.key (k : Key) (h : smallK k = true) : RpV X n as S (kV k) (keyT k) := by
  cases k with
  | inl i => exact RpV.int i (of_decide_eq_true h)
  | inr x => exact RpV.strB x
theorem RpAll.more (sub : ∀ b, as b → as' b) (le : n ≤ m) (e : Ex S S') : ∀ {vs : List V} {ts : List Str}, RpAll X n as S vs ts → RpAll X m as' S' vs ts
  | _, _, .nil => .nil
  | _, _, .cons h1 h2 => .cons (h1.more sub le e) (h2.more sub le e)
theorem RpEnt.more (sub : ∀ b, as b → as' b) (le : n ≤ m) (e : Ex S S') : ∀ {vs : List (Key × V)} {ts : List Str}, RpEnt X n as S vs ts → RpEnt X m as' S' vs ts
  | _, _, .nil => .nil
  | _, _, .cons h1 h2 h3 => .cons (h1.more sub le e) (h2.more sub le e) (h3.more sub le e)
/-- own instances tell their text -/
def InsR (X : Cx) (n : Nat) (tx : Addr → List (Str × Dt) → Str) (ok : Addr → List (Str × Dt) → Bool) : Prop := ∀ (S : Hp) (a C : Addr) (gs : List (Str × Dt)), Dv X.K S (.ref a) (.ins C gs) → ok C gs = true → RpV X n (dom X.K S) S (.ref a) (tx C gs)
theorem rp_at {a : Addr} {H0 : Hp} (h0 : H0 a = none) : dom X.K H0 a → KE X.K a := fun h => h.resolve_left fun z => z h0
theorem rp_sub {a : Addr} {H0 H : Hp} (e : Ex H0 H) (ha : H a ≠ none) : ∀ b, orA a (dom X.K H0) b → dom X.K H b := by
  rintro b (rfl | h)
  · exact .inl ha
  · exact h.mono e
theorem some_ne {a : Addr} {H : Hp} {o : HO} (h : H a = some o) : H a ≠ none := fun z => by rw [h] at z; cases z
theorem RpC.more {a : Addr} {t : Str} {T idr twin : String} (h : RpC X n as S a t T idr twin) (sub : ∀ b, as b → as' b) (le : n ≤ m) : RpC X m as' S a t T idr twin :=
  ⟨h.slot, h.tw, h.ty, fun hz A g pins σ H s Q fr hg hc hr I f q => h.call hz A g pins σ H s Q fr hg (fun b hb => hc b (sub b hb)) (hr.mono le) I f q,
    fun base hz A g pins σ H s Q fr hg hc hr I f q => h.under base hz A g pins σ H s Q fr hg (fun b hb => hc b (sub b hb)) (hr.mono le) I f q⟩
mutual
theorem Dv.rp (hI : InsR X n tx ok) : ∀ {S : Hp} {v : V} {d : Dt}, Dv X.K S v d → okD ok d = true → RpV X (n + dpt d) (dom X.K S) S v (txD tx d)
  | _, _, _, .non, _ => by rw [txD]; exact RpV.non
  | _, _, _, .bl b, _ => by rw [txD]; exact RpV.bl b
  | _, _, _, .int i, o => by
    rw [okD] at o
    rw [txD]
    exact RpV.int i (of_decide_eq_true o)
  | _, _, _, .str x, _ => by rw [txD]; exact RpV.strB x
  | _, _, _, .lst h1 h0 e0 h2, o => by
    rw [okD] at o
    rw [txD, dpt]
    exact ((RpC.list (sq_of h1) ((DvAll.rp hI h2 o).more (fun _ z => z) (Nat.le_refl _) e0) (rp_at h0)).more (rp_sub e0 (some_ne h1)) (Nat.le_refl _)).toV
  | _, _, _, .tup h1 h0 e0 h2, o => by
    rw [okD] at o
    rw [txD, dpt]
    refine ((RpC.tuple h1.sq ((DvAll.rp hI h2 o).more (fun _ z => z) (Nat.le_refl _) e0) (rp_at h0)).more ?_ (Nat.le_refl _)).toV
    rintro b (rfl | h)
    · rcases h1 with (h1 | ⟨_, h1⟩) | ⟨_, h1⟩
      · exact .inl (some_ne h1)
      · exact .inl (some_ne h1)
      · exact .inr h1
    · exact h.mono e0
  | _, _, _, .ins h1 h0 e0 h2 h3, o => by
    rw [okD] at o
    rw [txD, dpt]
    exact hI _ _ _ _ (.ins h1 h0 e0 h2 h3) o
  | _, _, _, .dK (kvs := kvs) (gs := gs) h1 h0 e0 h2 h3, o => by
    rw [okD] at o
    rw [txD, dpt]
    exact ((RpC.dict h1 e0 h0 (DvAll.rpKv hI kvs gs h2 h3 o) (rp_at h0)).more (rp_sub e0 (some_ne h1)) (Nat.le_refl _)).toV
  | _, _, _, .dT _ _ _ _ _, o => by
    rw [okD] at o
    cases o
theorem DvAll.rp (hI : InsR X n tx ok) : ∀ {S : Hp} {vs : List V} {ds : List Dt}, DvAll X.K S vs ds → okAll ok ds = true → RpAll X (n + dptAll ds) (dom X.K S) S vs (txAll tx ds)
  | _, _, _, .nil, _ => by rw [txAll]; exact .nil
  | _, _, _, .cons h1 h2, o => by
    rw [okAll, Bool.and_eq_true] at o
    rw [txAll, dptAll]
    exact .cons ((Dv.rp hI h1 o.1).more (fun _ z => z) (by omega) (Ex.refl _)) ((DvAll.rp hI h2 o.2).more (fun _ z => z) (by omega) (Ex.refl _))
theorem DvAll.rpKv (hI : InsR X n tx ok) : ∀ {S : Hp} (kvs : List (Key × V)) (gs : List (Key × Dt)), kvs.map (·.1) = gs.map (·.1) → DvAll X.K S (kvs.map (·.2)) (gs.map (·.2)) → okKv ok gs = true → RpEnt X (n + dptKv gs) (dom X.K S) S kvs (txKv tx gs)
  | _, [], [], _, _, _ => by rw [txKv]; exact .nil
  | _, [], _ :: _, e, _, _ => by simp at e
  | _, _ :: _, [], e, _, _ => by simp at e
  | _, (k, v) :: kvs, (k', d) :: gs, e, .cons h1 h2, o => by
    simp only [List.map_cons, List.cons.injEq] at e
    obtain ⟨rfl, e2⟩ := e
    rw [okKv, Bool.and_eq_true, Bool.and_eq_true] at o
    rw [txKv, dptKv]
    exact .cons (RpV.key _ o.1) ((Dv.rp hI h1 o.2.1).more (fun _ z => z) (by show n + dpt d ≤ _; omega) (Ex.refl _)) ((DvAll.rpKv hI kvs gs e2 h2 o.2.2).more (fun _ z => z) (by omega) (Ex.refl _))
end
/-! ### at the top: repr(x), {x!r} -/
/-- a list, a tuple, a dict -/
def isCon : Dt → Bool
  | .lst _ => true
  | .tup _ => true
  | .dK _ => true
  | _ => false
theorem Dv.rpc (hI : InsR X n tx ok) {S : Hp} {v : V} {d : Dt} (h : Dv X.K S v d) (o : okD ok d = true) (c : isCon d = true) : ∃ a T idr twin, v = .ref a ∧ RpC X (n + dpt d) (dom X.K S) S a (txD tx d) T idr twin := by
  cases h with
  | lst h1 h0 e0 h2 =>
    rw [okD] at o
    rw [txD, dpt]
    exact ⟨_, _, _, _, rfl, (RpC.list (sq_of h1) ((DvAll.rp hI h2 o).more (fun _ z => z) (Nat.le_refl _) e0) (rp_at h0)).more (rp_sub e0 (some_ne h1)) (Nat.le_refl _)⟩
  | tup h1 h0 e0 h2 =>
    rw [okD] at o
    rw [txD, dpt]
    refine ⟨_, _, _, _, rfl, (RpC.tuple h1.sq ((DvAll.rp hI h2 o).more (fun _ z => z) (Nat.le_refl _) e0) (rp_at h0)).more ?_ (Nat.le_refl _)⟩
    rintro b (rfl | h)
    · rcases h1 with (h1 | ⟨_, h1⟩) | ⟨_, h1⟩
      · exact .inl (some_ne h1)
      · exact .inl (some_ne h1)
      · exact .inr h1
    · exact h.mono e0
  | dK h1 h0 e0 h2 h3 =>
    rw [okD] at o
    rw [txD, dpt]
    exact ⟨_, _, _, _, rfl, (RpC.dict h1 e0 h0 (DvAll.rpKv hI _ _ h2 h3 o) (rp_at h0)).more (rp_sub e0 (some_ne h1)) (Nat.le_refl _)⟩
  | non => cases c
  | bl _ => cases c
  | int _ => cases c
  | str _ => cases c
  | ins _ _ _ _ _ => cases c
  | dT _ _ _ _ _ => cases c
/-- repr(x) of data, with own instances in it -/
def rReprT (K : PySem.W.Frag) (g : List Code) (tx : Addr → List (Str × Dt) → Str) (ok : Addr → List (Str × Dt) → Bool) : List V → Hp → VK → Prop := fun xs H Q => ∃ S v d, xs = [v] ∧ Dv K S v d ∧ Ex S H ∧ okD ok d = true ∧ isCon d = true ∧ dpt d ≤ 5 ∧ (txD tx d).length ≤ 1000000 ∧
  (∀ b, dom K S b → Clear g b) ∧ ∀ H', Ex H H' → Q (.str (txD tx d)) H'
theorem call_reprT {g : List Code} (gu : X.A.guards = some g) (hr : Room (n + 6) X.A) (hI : InsR X n tx ok) : CallR X (.builtin "repr") (rReprT X.K g tx ok) := by
  intro pins s σ H xs us Q I r h
  obtain ⟨S, v, d, rfl, hd, f, o, c, dp, hz, cl, q⟩ := h
  obtain ⟨a, T, idr, twin, rfl, R⟩ := hd.rpc hI o c
  rw [Vals.ref1 r]
  refine call_repr_slot (by have := hr.un; omega) (R.ty pins σ H s I f) R.slot ?_
  refine R.call (Nat.le_trans hz line_big) X.A.in1 g pins σ H s _ rfl gu cl ((Room.in1 hr).mono (by omega)) I f fun s' H' u I' x => ?_
  exact ⟨_, _, rfl, .str (txD tx d), H', I', ⟨_, rfl⟩, q H' x⟩
def tFmtT (K : PySem.W.Frag) (g : List Code) (tx : Addr → List (Str × Dt) → Str) (ok : Addr → List (Str × Dt) → Bool) (te : TE) : TE := fun σ H Q => te σ H fun v H1 => ∃ S d, Dv K S v d ∧ Ex S H1 ∧ okD ok d = true ∧ isCon d = true ∧ dpt d ≤ 5 ∧ (txD tx d).length ≤ 1000000 ∧
  (∀ b, dom K S b → Clear g b) ∧ ∀ H', Ex H1 H' → Q (.str (txD tx d)) H'
theorem pe_fmtT {g : List Code} {e : Expr} {te : TE} {pos : Pos} (gu : X.A.guards = some g) (hr : Room (n + 6) X.A) (hI : InsR X n tx ok) (he : PE X e te) : PE X (.FormattedValue e 114 none pos) (tFmtT X.K g tx ok te) := by
  constructor
  intro pins s σ H Q I h
  refine wpAny_FormattedValue_repr (thn (he.run pins s σ H _ I h) ?_)
  rintro u s1 ⟨v, H1, I1, r1, S, d, hd, f, o, c, dp, hz, cl, q⟩
  obtain ⟨a, T, idr, twin, rfl, R⟩ := hd.rpc hI o c
  have e1 : u = Value.ref a := r1
  subst e1
  have hz' := Nat.le_trans hz line_big
  refine wpAny_pyReprObj_slot hr.units0 (R.ty pins σ H1 s1 I1 f) R.slot ?_
  refine R.call hz' X.A g pins σ H1 s1 _ rfl gu cl (hr.mono (by omega)) I1 f fun s' H' u I' x => ?_
  refine ⟨_, _, rfl, ?_⟩
  exact wpAny_formatField_str ⟨.str (txD tx d), H', I'.tok _, ⟨_, rfl⟩, q H' x⟩ ⟨.str (txD tx d), H', I'.tok _, ⟨_, rfl⟩, q H' x⟩ hz'
end
end Gd

set_option Elab.async false
set_option linter.all false
set_option maxRecDepth 100000
set_option maxHeartbeats 4000000
/-! G19: == of dicts whose values may be own instances. -/
namespace Gd
open PySem PySem.Spec PyProof.Rows L2
open Evl (Ex Ex.refl Ex.trans Ex.new Ex.mut ex_t ex_l sq_of st_of fresh_back)
/-- x == y within a built-in answers b, at any state that has grown from S, where no repr is under way -/
def EqV (X : Cx) (n : Nat) (S : Hp) (x y : V) (b : Bool) : Prop := ∀ (A : Around) (pins : List (Addr × Obj)) (σ : L2.St) (H : Hp) (s : Shared) (u v : Value) (Q : Bool → Shared → Prop), A.frames = X.A.frames → A.guards = X.A.guards → Room n A → Inv X pins σ H s → Ex S H → RelV x u → RelV y v →
  (∀ s' H', Inv X pins σ H' s' → Ex H H' → Q b s') → wpAny (model X.prog X.w) A (eqBool u v) Q X.xe s
section
variable {X : Cx} {n m : Nat} {S S0 : Hp}
theorem EqV.more {x y : V} {b : Bool} {S' : Hp} (h : EqV X n S x y b) (le : n ≤ m) (e : Ex S S') : EqV X m S' x y b :=
  fun A pins σ H s u v Q fr gu hr I f r1 r2 q => h A pins σ H s u v Q fr gu (hr.mono le) I (e.trans f) r1 r2 q
theorem EqV.flat {x y : V} (hx : flatV x = true) (hy : flatV y = true) : EqV X n S x y (eqV x y) :=
  fun A pins σ H s u v Q fr gu hr I f r1 r2 q => eqAt_V (A := A) (s := s) r1 r2 hx hy X.prog X.w X.xe _ (q s H I (Ex.refl H))
theorem kv_at : ∀ {kvs : List (Key × V)} {vs : List (Key × Value)} {i : Nat} {p : Key × V}, KV kvs vs → kvs[i]? = some p → ∃ q, vs[i]? = some q ∧ p.1 = q.1 ∧ RelV p.2 q.2
  | _, _, _, _, .nil, e => by simp at e
  | _, _, 0, _, .cons r _, e => by
    simp at e
    subst e
    exact ⟨_, rfl, r⟩
  | _, _, i + 1, p, .cons _ t, e => by
    obtain ⟨q, h1, h2⟩ := kv_at (i := i) (p := p) t (by simpa using e)
    exact ⟨q, by simpa using h1, h2⟩
/-- a locked dict: its entries, and how keys are found -/
theorem dict_full {pins : List (Addr × Obj)} {σ : L2.St} {H : Hp} {s : Shared} {a : Addr} {od : Obj} {kvs : List (Key × V)} (I : Inv X pins σ H s) (h : H a = some (.frz od (.dK kvs))) :
    (a == sysModules) = false ∧ od.cls = .type "dict" ∧ ∃ es ep, od.data = .dict es ep ∧ es.size = kvs.length ∧ PySem.KeysOf (mixKind X.prog X.w) es ∧ (∀ (i : Nat) (p : Key × V), kvs[i]? = some p → ∃ e, es[i]? = some e ∧ (mixKind X.prog X.w).is p.1 e.key = true ∧ e.hash = (mixKind X.prog X.w).hash p.1 ∧ RelV p.2 e.val) ∧
      ∀ k, RelO (valV kvs k) (findBy (mixKind X.prog X.w).is es k) := by
  obtain ⟨ho, hz, hs, vs, kv, o, es, ep, ho2, ex, hd, ko, pr, nd⟩ := (show ObjOk X.prog X.w H s.heap a (.frz od (.dK kvs)) from I.hok a _ h)
  rw [ho] at ho2
  cases ho2
  have lv := kv.length
  have lp := pr.length
  refine ⟨hs, ex.1, es, ep, hd, by rw [← Array.length_toList, lp, lv], ko, fun i p q => ?_, fun k => ?_⟩
  · have hi : i < kvs.length := (List.getElem?_eq_some_iff.mp q).1
    have he : i < es.size := by rw [← Array.length_toList, lp, ← lv]; exact hi
    have hv : i < vs.length := by rw [← lv]; exact hi
    obtain ⟨h1, h2⟩ := pr.get? (i := i) (e := es[i]) (k := (vs[i]).1) (v := (vs[i]).2) (by rw [Array.getElem?_toList]; exact Array.getElem?_eq_getElem he) (List.getElem?_eq_getElem hv)
    obtain ⟨k', k1, k2⟩ := ko es[i] (Array.getElem_mem he)
    have kk := (mixKind X.prog X.w).inj _ _ _ k1 h1
    obtain ⟨w1, w2, w3⟩ := kv_at kv q
    have ev : w1 = vs[i] := by
      rw [List.getElem?_eq_getElem hv] at w2
      exact (Option.some.inj w2).symm
    subst ev
    refine ⟨es[i], Array.getElem?_eq_getElem he, by rw [w3.1]; exact h1, by rw [k2, kk, w3.1], by rw [h2]; exact w3.2⟩
  · have := kv.val k
    rw [← pr.find k] at this
    have e2 : findBy (mixKind X.prog X.w).is es k = (es.toList.find? fun e => (mixKind X.prog X.w).is k e.key).map (·.val) := by
      obtain ⟨l⟩ := es
      simp [findBy]
    rw [e2]
    exact this
/-- a dict, locked or not -/
def RdK (H : Hp) (b : Addr) (kvs : List (Key × V)) : Prop := H b = some (.dK kvs) ∨ ∃ o, H b = some (.frz o (.dK kvs))
theorem RdK.mono {H H' : Hp} {b : Addr} {kvs : List (Key × V)} (h : RdK H b kvs) (e : Ex H H') : RdK H' b kvs := h.imp (e _ _) fun ⟨o, h⟩ => ⟨o, e _ _ h⟩
theorem dict_rd {pins : List (Addr × Obj)} {σ : L2.St} {H : Hp} {s : Shared} {b : Addr} {kvs : List (Key × V)} (I : Inv X pins σ H s) (h : RdK H b kvs) :
    (b == sysModules) = false ∧ ∃ o es ep, s.heap.get? b = some o ∧ o.cls = .type "dict" ∧ o.data = .dict es ep ∧ es.size = kvs.length ∧ PySem.KeysOf (mixKind X.prog X.w) es ∧ ∀ k, RelO (valV kvs k) (findBy (mixKind X.prog X.w).is es k) := by
  have x : ObjOk X.prog X.w H s.heap b (.dK kvs) := by
    rcases h with h | ⟨o, h⟩
    · exact I.hok b _ h
    · exact (show ObjOk X.prog X.w H s.heap b (.frz o (.dK kvs)) from I.hok b _ h).2
  obtain ⟨hz, hs, vs, kv, o, es, ep, ho2, ex, hd, ko, pr, nd⟩ := x
  have lv := kv.length
  have lp := pr.length
  refine ⟨hs, o, es, ep, ho2, ex.1, hd, by rw [← Array.length_toList, lp, lv], ko, fun k => ?_⟩
  have := kv.val k
  rw [← pr.find k] at this
  have e2 : findBy (mixKind X.prog X.w).is es k = (es.toList.find? fun e => (mixKind X.prog X.w).is k e.key).map (·.val) := by
    obtain ⟨l⟩ := es
    simp [findBy]
  rw [e2]
  exact this
/-- the answer of == of two dicts, e: that of the values at a key -/
def eqKV (kA kB : List (Key × V)) (e : Key → Bool) : Bool := decide (kA.length = kB.length) && kA.all fun p => (valV kB p.1).isSome && e p.1
theorem samePairs_O {A : Around} {a b : Addr} {nm : String} {kA kB : List (Key × V)} {e : Key → Bool} {pins : List (Addr × Obj)} {σ : L2.St} {H1 : Hp} {s : Shared} {oa : Obj} {Q : Bool → Shared → Prop} (fr : A.frames = X.A.frames) (gu : A.guards = X.A.guards) (hr : Room n A)
    (I : Inv X pins σ H1 s) (x1 : Ex S0 H1) (la : H1 a = some (.frz oa (.dK kA))) (lb : RdK H1 b kB) (he : ∀ p ∈ kA, ∀ y, valV kB p.1 = some y → EqV X n S0 p.2 y (e p.1))
    (q : ∀ s' H', Inv X pins σ H' s' → Ex H1 H' → Q (eqKV kA kB e) s') : wpAny (model X.prog X.w) A (Builtin.Dict.samePairs nm a b) Q X.xe s := by
  have ga := (dict_look I la).1
  obtain ⟨sa, ca, es, ep, da, na, ka, fa, _⟩ := dict_full I la
  obtain ⟨sb, ob, es', ep', gb, cb, db, nb, _⟩ := dict_rd I lb
  have at_ : ∀ {s' : Shared} {H' : Hp}, Inv X pins σ H' s' → Ex H1 H' → s'.heap.get? a = some oa := fun J x => (dict_look J (x _ _ la)).1
  unfold Builtin.Dict.samePairs Builtin.Dict.showsAll
  rw [if_neg (by rw [sa]; exact Bool.false_ne_true), if_neg (by rw [sb]; exact Bool.false_ne_true)]
  refine wpAny_bind (wpAny_pure (wpAny_bind (wpAny_pure (wpAny_bind (wpAny_dictEntries ga da ?_)))))
  dsimp only
  refine wpAny_bind (wpAny_dictEntries gb db ?_)
  by_cases hs : es.size = es'.size
  · rw [if_neg (by rw [hs]; simp)]
    have hlen : decide (kA.length = kB.length) = true := decide_eq_true (by rw [← na, ← nb]; exact hs)
    refine wpAny_bind (wpAny_dictEpoch ga da (wpAny_bind ?_))
    rw [Std.Legacy.Range.forIn_eq_forIn_range']
    simp only [Std.Legacy.Range.size, Nat.sub_zero, Nat.add_sub_cancel, Nat.div_one]
    refine wpAny_forIn_list _ (fun l r s' => r = (none, ()) ∧ ∃ i H', l = List.range' i (es.size - i) ∧ i ≤ es.size ∧ Inv X pins σ H' s' ∧ Ex H1 H' ∧ eqKV kA kB e = ((kA.drop i).all fun p => (valV kB p.1).isSome && e p.1)) _ ?_ ?_ _ _
      ⟨rfl, 0, H1, by simp, Nat.zero_le _, I, Ex.refl _, by unfold eqKV; rw [hlen, Bool.true_and, List.drop_zero]⟩
    · rintro x l r s1 ⟨rfl, i, H2, hl1, hi, J, xJ, hq⟩
      have lt : i < es.size := by
        rcases Nat.lt_or_ge i es.size with z | z
        · exact z
        · rw [Nat.sub_eq_zero_of_le z] at hl1
          simp at hl1
      obtain ⟨rfl, hl2⟩ : x = i ∧ l = List.range' (i + 1) (es.size - (i + 1)) := by
        rw [show es.size - i = (es.size - (i + 1)) + 1 by omega, List.range'_succ] at hl1
        injection hl1 with z1 z2
        exact ⟨z1, z2⟩
      have hk : kA[x]? = some (kA[x]'(by omega)) := List.getElem?_eq_getElem (by omega)
      obtain ⟨en, hen, k1, k2, rv⟩ := fa x _ hk
      have hm := List.mem_of_getElem? hk
      have hdr : kA.drop x = (kA[x]'(by omega)) :: kA.drop (x + 1) := List.drop_eq_getElem_cons (by omega)
      rw [hdr, List.all_cons] at hq
      generalize (kA[x]'(by omega)) = p at hk k1 k2 rv hm hq
      have g1 := at_ J xJ
      obtain ⟨_, ob, es', ep', g2, _, db, _, kb, fb⟩ := dict_rd J (lb.mono xJ)
      refine wpAny_bind (wpAny_dictEntries g1 da ?_)
      rw [hen]
      show wpAny _ _ (holding [en.key, en.val] _ >>= _) _ _ _
      rw [k2]
      refine wpAny_bind (wpAny_holding (wpAny_bind (wpAny_dictFind_of k1 g2 db kb ?_)))
      have hf := fb p.1
      rw [findBy_of_findIdx?] at hf
      cases hj : es'.findIdx? fun e => (mixKind X.prog X.w).is p.1 e.key with
      | none =>
        rw [hj] at hf
        have hn : valV kB p.1 = none := by
          cases z : valV kB p.1 with
          | none => rfl
          | some y => rw [z] at hf; exact hf.elim
        rw [hn] at hq
        refine wpAny_pure ?_
        show wpAny _ _ (if (!false) = true then _ else _) _ _ _
        rw [if_pos (show (!false) = true from rfl)]
        have := q s1 H2 J xJ
        rw [hq] at this
        exact wpAny_pure (wpAny_pure this)
      | some j =>
        rw [hj] at hf
        obtain ⟨hjl, _, _⟩ := Array.findIdx?_eq_some_iff_getElem.mp hj
        simp only [Array.getElem?_eq_getElem hjl, Option.map_some] at hf
        obtain ⟨y, hy, ry⟩ : ∃ y, valV kB p.1 = some y ∧ RelV y es'[j].val := by
          cases z : valV kB p.1 with
          | none => rw [z] at hf; exact hf.elim
          | some y => rw [z] at hf; exact ⟨y, rfl, hf⟩
        refine wpAny_bind (wpAny_dictEntries g2 db ?_)
        rw [Array.getElem?_eq_getElem hjl]
        refine wpAny_holding (he p hm y hy A pins σ H2 s1 _ _ _ fr gu hr J (x1.trans xJ) rv ry fun s2 H3 J2 xJ2 => ?_)
        rw [hy] at hq
        cases hb : e p.1 with
        | false =>
          rw [hb] at hq
          show wpAny _ _ (if (!false) = true then _ else _) _ _ _
          rw [if_pos (show (!false) = true from rfl)]
          have := q s2 H3 J2 (xJ.trans xJ2)
          rw [hq] at this
          exact wpAny_pure (wpAny_pure this)
        | true =>
          rw [hb] at hq
          show wpAny _ _ (if (!true) = true then _ else _) _ _ _
          rw [if_neg (by decide)]
          refine wpAny_bind (wpAny_dictEpoch (at_ J2 (xJ.trans xJ2)) da ?_)
          rw [if_neg (by simp)]
          exact wpAny_pure ⟨rfl, x + 1, H3, hl2, lt, J2, xJ.trans xJ2, by simpa using hq⟩
    · rintro r s1 ⟨rfl, i, H2, hl1, hi, J, xJ, hq⟩
      have ei : i = es.size := by
        rcases Nat.lt_or_ge i es.size with z | z
        · rw [show es.size - i = (es.size - (i + 1)) + 1 by omega, List.range'_succ] at hl1
          exact nomatch hl1
        · exact Nat.le_antisymm hi z
      rw [ei, na, List.drop_length] at hq
      have := q s1 H2 J xJ
      rw [hq] at this
      exact wpAny_pure this
  · rw [if_pos (by simpa using hs)]
    have hlen : decide (kA.length = kB.length) = false := decide_eq_false (by rw [← na, ← nb]; exact hs)
    have := q s H1 I (Ex.refl _)
    unfold eqKV at this
    rw [hlen, Bool.false_and] at this
    exact wpAny_bind (wpAny_rule (wpAny_pure this))
/-- x == y, dicts whose values may be own instances -/
def rEqDO (X : Cx) (n : Nat) : R2 := fun x y H Q => ∃ a b kA kB S0 e, x = .ref a ∧ y = .ref b ∧ S0 a = none ∧ Ex S0 H ∧ H a = some (.dK kA) ∧ H b = some (.dK kB) ∧ (∀ p ∈ kA, ∀ y, valV kB p.1 = some y → EqV X n S0 p.2 y (e p.1)) ∧ ∀ H', Ex H H' → Q (.bl (eqKV kA kB e)) H'
theorem op_eqDO (hr : Room (n + 2) X.A) : OpR X (compareOp .Eq) (rEqDO X n) := by
  intro pins s σ H x y v u Q I rx ry h
  obtain ⟨a, b, kA, kB, S0, e, rfl, rfl, s0, x0, ha, hb, he, q⟩ := h
  obtain rfl : v = Value.ref a := rx
  obtain rfl : u = Value.ref b := ry
  have ty : ∀ {c : Addr} {k : List (Key × V)}, H c = some (.dK k) → s.TypeIs (.ref c) "dict" := by
    intro c k hc
    obtain ⟨hz, hs, vs, kv, o, es, ep, ho2, ex, _⟩ := (show ObjOk X.prog X.w H s.heap c (.dK k) from I.hok c _ hc)
    exact ⟨o, ho2, ex.1⟩
  refine PySem.wpAny_richCompare_same_room (op := .Eq) (ty ha) (ty hb) PySem.F.slot_dict_eq (wpAny_call_entry PySem.F.slot_dict_eq (ty ha) PySem.F.entry_dict_eq ?_ (PySem.F.args_dict_eq_2 _ _)) hr.units0
  show wpAny _ _ (Builtin.Dict.dictSlotArgs "__eq__" ⟨[.ref a, .ref b], []⟩ >>= _) _ _ s
  unfold Builtin.Dict.dictSlotArgs
  refine wpAny_bind (wpAny_bind (wpAny_notOrdered_dict (ty ha) ?_))
  show wpAny _ _ (pure (Value.ref a, Value.ref b)) _ _ s
  refine wpAny_pure (wpAny_bind (wpAny_isInstance (T := "dict") (ty hb) PySem.F.sub_dict_dict ?_))
  simp only [Bool.not_true, Bool.false_eq_true, if_false]
  refine wpAny_bind (wpAny_pure (wpAny_bind (wpAny_pure (wpAny_bind ?_))))
  obtain ⟨od, I1⟩ := I.lock ha trivial
  have nf := I.nofrz ha trivial
  have xL : ∀ {H' : Hp}, Ex (upd H a (.frz od (.dK kA))) H' → Ex H (upd H' a (.dK kA)) := fun x b o z => by
    by_cases q : b = a
    · subst q
      rw [upd_same, ← ha]
      exact z
    · rw [upd_ne q]
      exact x _ _ (by rw [upd_ne q]; exact z)
  have x1 : Ex S0 (upd H a (.frz od (.dK kA))) := fun b o z => by
    rw [upd_ne (fun q => by rw [q, s0] at z; cases z)]
    exact x0 _ _ z
  have lb : RdK (upd H a (.frz od (.dK kA))) b kB := by
    by_cases q : b = a
    · subst q
      rw [ha] at hb
      cases hb
      exact .inr ⟨od, upd_same⟩
    · exact .inl (by rw [upd_ne q]; exact hb)
  refine samePairs_O (S0 := S0) (n := n) (A := X.A.in1) rfl rfl ((Room.in1 hr).mono (by omega)) I1 x1 upd_same lb he fun s' H' J xJ => wpAny_pure ⟨_, rfl, fun z => (by cases z), ?_⟩
  have U := J.unlock (xJ _ _ upd_same) nf
  have := q _ (xL xJ)
  exact ⟨.bl (eqKV kA kB e), _, U, (by show Value.bool (eqKV kA kB e == true) = Value.bool (eqKV kA kB e); simp), this⟩
end
end Gd

set_option Elab.async false
set_option linter.all false
set_option maxRecDepth 100000
set_option maxHeartbeats 4000000
/-! G20: own instances compared within a built-in; data without an address. -/
namespace Gd
open PySem PySem.Spec PyProof.Rows L2
open Evl (Ex Ex.refl Ex.trans Ex.new Ex.mut ex_t ex_l sq_of st_of fresh_back)
open PySem.W (findIn isFn notFirst)
section
variable {X : Cx} {n : Nat} {S : Hp}
theorem eqBool_id {A : Around} {a : Addr} {s : Shared} {E : Value → Shared → Prop} {Q : Bool → Shared → Prop} (q : Q true s) : wpAny (model X.prog X.w) A (eqBool (.ref a) (.ref a)) Q E s := by
  unfold eqBool
  refine wpAny_holding (wpAny_ite_split (fun _ => wpAny_bind (wpAny_rule (wpAny_pure q))) (fun h => absurd (beq_self_eq_true (Value.ref a)) h))
/-- two own instances, by their own == -/
theorem EqV.ins {C f a b dx dy : Addr} {fs gs : List (Str × V)} {fd : FuncData} {ps : List Str} {sp : Sp} {r : Bool} (gu : X.A.guards = some []) (F : FnG X.prog X.w X.K X.mg X.base n f fd ps sp) (bi : Binds X.K fd ps [])
    (hs : findIn X.K (.ref C) "__eq__" = some (some (.ref f))) (hf : isFn X.K (.ref f) = true) (nf : notFirst X.K C (.ref C) = true) (ty : ∀ (H : Hp) (a dx : Addr) (fs : List (Str × V)), H a = some (.ins C dx fs) → TyX X.K H (.ref a) (.ref C))
    (ha : S a = some (.ins C dx fs)) (hb : S b = some (.ins C dy gs)) (same : a = b → r = true) (pr : ∀ (H : Hp) (Q : VK), Ex S H → (∀ H', Ex H H' → Q (.bl r) H') → sp [.ref a, .ref b] H Q E0) : EqV X n S (.ref a) (.ref b) r := by
  intro A pins σ H s u v Q fr gA hr I x r1 r2 q
  obtain rfl : u = Value.ref a := r1
  obtain rfl : v = Value.ref b := r2
  by_cases e : a = b
  · subst e
    rw [same rfl] at q
    exact eqBool_id (q s H I (Ex.refl H))
  · obtain ⟨mA, J, _⟩ := ins_get I.hok (x _ _ ha)
    obtain ⟨od, J, _⟩ := J.look
    obtain ⟨m, hF⟩ := I.fr
    obtain ⟨Pk, kk, pk, _⟩ := kit_of (x := V.ref b) (u := Value.ref b) I rfl (ty H b dy gs (x _ _ hb))
    refine GQ.eqBool_refG e ?_
    refine PySem.W.cmp_K (op := .Eq) hr.units0 hF I.ok.mod.kin J (kk.ty _ _ I.kIn pk) nf hs hf ?_
    refine thn (F.callAt (ds := []) (dvs := []) fr (gA.trans gu) hr bi .nil I (show Vals [V.ref a, V.ref b] [Value.ref a, Value.ref b] from .cons rfl (.cons rfl .nil)) (pr H (fun v H' => v = .bl r ∧ Ex H H') x fun H' x' => ⟨rfl, x'⟩)) ?_
    rintro v s' ⟨v', H', I', rv, rfl, x'⟩
    obtain rfl : v = Value.bool r := rv
    exact ⟨r, rfl, q s' H' I' x'⟩
end
/-! ### data that does not go through an address -/
def minus (S : Hp) (a : Addr) : Hp := fun b => if b = a then none else S b
theorem minus_at {S : Hp} {a : Addr} : minus S a a = none := if_pos rfl
theorem minus_ne {S : Hp} {a b : Addr} (h : b ≠ a) : minus S a b = S b := if_neg h
theorem minus_ex {S : Hp} {a : Addr} : Ex (minus S a) S := fun b o z => by
  by_cases q : b = a
  · subst q
    rw [minus_at] at z
    cases z
  · rw [minus_ne q] at z
    exact z
theorem minus_mono {S S' : Hp} {a : Addr} (e : Ex S S') : Ex (minus S a) (minus S' a) := fun b o z => by
  by_cases q : b = a
  · subst q
    rw [minus_at] at z
    cases z
  · rw [minus_ne q] at z ⊢
    exact e _ _ z
mutual
/-- no part of the data is one that P knows -/
def avoid (P : Dt → Bool) : Dt → Bool
  | .non => true
  | .bl _ => true
  | .int _ => true
  | .str _ => true
  | .lst ds => !P (.lst ds) && avoidAll P ds
  | .tup ds => !P (.tup ds) && avoidAll P ds
  | .ins C fs => !P (.ins C fs) && avoidF P fs
  | .dK kvs => !P (.dK kvs) && avoidK P kvs
  | .dT kvs => !P (.dT kvs) && avoidT P kvs
def avoidAll (P : Dt → Bool) : List Dt → Bool
  | [] => true
  | d :: ds => avoid P d && avoidAll P ds
def avoidF (P : Dt → Bool) : List (Str × Dt) → Bool
  | [] => true
  | (_, d) :: r => avoid P d && avoidF P r
def avoidK (P : Dt → Bool) : List (Key × Dt) → Bool
  | [] => true
  | (_, d) :: r => avoid P d && avoidK P r
def avoidT (P : Dt → Bool) : List (List Key × Dt) → Bool
  | [] => true
  | (_, d) :: r => avoid P d && avoidT P r
end
theorem avoidF_eq (P : Dt → Bool) : ∀ fs : List (Str × Dt), avoidF P fs = avoidAll P (fs.map (·.2))
  | [] => by simp [avoidF, avoidAll]
  | (_, d) :: r => by simp [avoidF, avoidAll, avoidF_eq P r]
theorem avoidK_eq (P : Dt → Bool) : ∀ fs : List (Key × Dt), avoidK P fs = avoidAll P (fs.map (·.2))
  | [] => by simp [avoidK, avoidAll]
  | (_, d) :: r => by simp [avoidK, avoidAll, avoidK_eq P r]
theorem avoidT_eq (P : Dt → Bool) : ∀ fs : List (List Key × Dt), avoidT P fs = avoidAll P (fs.map (·.2))
  | [] => by simp [avoidT, avoidAll]
  | (_, d) :: r => by simp [avoidT, avoidAll, avoidT_eq P r]
section
variable {K : PySem.W.Frag} {P : Dt → Bool} {a : Addr}
theorem minus_some {S : Hp} {c : Addr} {o : HO} (h : S c = some o) (n : c ≠ a) : minus S a c = some o := (minus_ne n).trans h
theorem minus_none {S : Hp} {c : Addr} (h : S c = none) : minus S a c = none := by
  by_cases q : c = a
  · rw [q]
    exact minus_at
  · exact (minus_ne q).trans h
theorem ne_of_P {S : Hp} {c : Addr} {d : Dt} (hP : ∀ d, Dv K S (.ref a) d → P d = true) (h : Dv K S (.ref c) d) (n : (!P d) = true) : c ≠ a := by
  rintro rfl
  rw [hP d h] at n
  cases n
theorem TupD.minus {S : Hp} {c : Addr} {xs : List V} (h : TupD K S c xs) (n : c ≠ a) : TupD K (Gd.minus S a) c xs := by
  rcases h with (h | ⟨o, h⟩) | h
  · exact .inl (.inl (minus_some h n))
  · exact .inl (.inr ⟨o, minus_some h n⟩)
  · exact .inr h
mutual
theorem Dv.minus : ∀ {S : Hp} {v : V} {d : Dt}, Dv K S v d → (∀ d, Dv K S (.ref a) d → P d = true) → avoid P d = true → Dv K (Gd.minus S a) v d
  | _, _, _, .non, _, _ => .non
  | _, _, _, .bl b, _, _ => .bl b
  | _, _, _, .int i, _, _ => .int i
  | _, _, _, .str x, _, _ => .str x
  | _, _, _, .lst h1 h0 e0 h2, hP, av => by
    rw [avoid, Bool.and_eq_true] at av
    have ne := ne_of_P hP (.lst h1 h0 e0 h2) av.1
    exact .lst (minus_some h1 ne) (minus_none h0) (minus_mono e0) (DvAll.minus h2 (fun d h => hP d (h.mono e0)) av.2)
  | _, _, _, .tup h1 h0 e0 h2, hP, av => by
    rw [avoid, Bool.and_eq_true] at av
    have ne := ne_of_P hP (.tup h1 h0 e0 h2) av.1
    exact .tup (h1.minus ne) (minus_none h0) (minus_mono e0) (DvAll.minus h2 (fun d h => hP d (h.mono e0)) av.2)
  | _, _, _, .ins h1 h0 e0 h2 h3, hP, av => by
    rw [avoid, Bool.and_eq_true, avoidF_eq] at av
    have ne := ne_of_P hP (.ins h1 h0 e0 h2 h3) av.1
    exact .ins (minus_some h1 ne) (minus_none h0) (minus_mono e0) h2 (DvAll.minus h3 (fun d h => hP d (h.mono e0)) av.2)
  | _, _, _, .dK h1 h0 e0 h2 h3, hP, av => by
    rw [avoid, Bool.and_eq_true, avoidK_eq] at av
    have ne := ne_of_P hP (.dK h1 h0 e0 h2 h3) av.1
    exact .dK (minus_some h1 ne) (minus_none h0) (minus_mono e0) h2 (DvAll.minus h3 (fun d h => hP d (h.mono e0)) av.2)
  | _, _, _, .dT h1 h0 e0 h2 h3, hP, av => by
    rw [avoid, Bool.and_eq_true, avoidT_eq] at av
    have ne := ne_of_P hP (.dT h1 h0 e0 h2 h3) av.1
    exact .dT (minus_some h1 ne) (minus_none h0) (minus_mono e0) h2 (DvAll.minus h3 (fun d h => hP d (h.mono e0)) av.2)
theorem DvAll.minus : ∀ {S : Hp} {vs : List V} {ds : List Dt}, DvAll K S vs ds → (∀ d, Dv K S (.ref a) d → P d = true) → avoidAll P ds = true → DvAll K (Gd.minus S a) vs ds
  | _, _, _, .nil, _, _ => .nil
  | _, _, _, .cons h1 h2, hP, av => by
    rw [avoidAll, Bool.and_eq_true] at av
    exact .cons (Dv.minus h1 hP av.1) (DvAll.minus h2 hP av.2)
end
end
end Gd

set_option Elab.async false
set_option linter.all false
set_option maxRecDepth 100000
set_option maxHeartbeats 4000000
/-! G21: a head by facts, with getters of properties, classes, and one Bool. -/
namespace Gd
open PySem PySem.Spec PyProof.Rows L2
/-- a property's getter -/
def propG (K : PySem.W.Frag) (C : Addr) (f : Str) : Addr := match PySem.W.recIn K (He.ma K C f) "property" with
  | some (.ref g :: _) => g
  | _ => 0
def propB (K : PySem.W.Frag) (C : Addr) (f : Str) : Bool :=
  He.eqO (PySem.W.findIn K (.ref C) f) (some (some (.ref (He.ma K C f)))) && (He.eqO (PySem.W.specialIn K (.ref (He.ma K C f)) "__get__") (some (some (.builtin "property.__get__"))) &&
  (decide (PySem.W.takesIn K (.ref (He.ma K C f)) = some true) && (match PySem.W.recIn K (He.ma K C f) "property" with
    | some (.ref _ :: _) => true
    | _ => false)))
theorem propB_ok {K : PySem.W.Frag} {C : Addr} {f : Str} (h : propB K C f = true) : PropOf K C f (He.ma K C f) (propG K C f) := by
  unfold propB at h
  simp only [Bool.and_eq_true] at h
  obtain ⟨h1, h2, h3, h4⟩ := h
  refine ⟨He.eqO_ok h1, He.eqO_ok h2, of_decide_eq_true h3, ?_⟩
  unfold propG
  cases q : PySem.W.recIn K (He.ma K C f) "property" with
  | none => rw [q] at h4; cases h4
  | some l =>
    rw [q] at h4
    cases l with
    | nil => cases h4
    | cons v r =>
      cases v with
      | ref g => exact ⟨r, rfl⟩
      | _ => cases h4
/-- built-in types that a value may have -/
def bases : List String := ["NoneType", "bool", "int", "str", "list", "tuple", "dict"]
/-- what is asked of an own class beside He's facts -/
structure OwnC (K : PySem.W.Frag) (C : Addr) : Prop where
  ty : ∀ (H : Hp) (a dx : Addr) (fs : List (Str × V)), H a = some (.ins C dx fs) → TyX K H (.ref a) (.ref C)
  isi : ∀ t ∈ bases, PySem.W.kitOne K (.type t) (.ref C) = some false
  nf : ∀ t ∈ bases, PySem.W.notFirst K C (.type t) = true
  nfS : PySem.W.notFirst K C (.ref C) = true
  sf : PySem.W.selfFirst K C = true
  ne : PySem.W.findIn K (.ref C) "__ne__" = some (some (.builtin "object.__ne__"))
  ob : PySem.W.subIn K (.ref C) (.type "object") = some true
def ownL (K : PySem.W.Frag) (C : Addr) : List Bool :=
  [He.eqO (PySem.W.findIn K (.ref C) "__class__") (some (some (.builtin "object.__class__"))),
   He.eqO (PySem.W.specialIn K (.builtin "object.__class__") "__get__") (some (some (.builtin "getset_descriptor.__get__"))),
   decide (PySem.W.takesIn K (.builtin "object.__class__") = some true),
   decide (PySem.W.mroIn K C (.type "object") = some true),
   bases.all fun t => decide (PySem.W.kitOne K (.type t) (.ref C) = some false),
   bases.all fun t => PySem.W.notFirst K C (.type t),
   PySem.W.notFirst K C (.ref C), PySem.W.selfFirst K C,
   He.eqO (PySem.W.findIn K (.ref C) "__ne__") (some (some (.builtin "object.__ne__"))),
   decide (PySem.W.subIn K (.ref C) (.type "object") = some true)]
def ownB (K : PySem.W.Frag) (C : Addr) : Bool := (ownL K C).all id
theorem all_at {l : List Bool} (h : l.all id = true) {b : Bool} {i : Nat} (e : l[i]? = some b) : b = true := List.all_eq_true.mp h b (List.mem_of_getElem? e)
theorem ownB_ok {K : PySem.W.Frag} {C : Addr} (h : ownB K C = true) (cl : Cls K C) : OwnC K C where
  ty H a dx fs e := .base (.ins e cl (He.eqO_ok (all_at h (i := 0) rfl)) (He.eqO_ok (all_at h (i := 1) rfl)) (of_decide_eq_true (all_at h (i := 2) rfl)) (of_decide_eq_true (all_at h (i := 3) rfl)))
  isi t ht := of_decide_eq_true (List.all_eq_true.mp (all_at h (i := 4) rfl) t ht)
  nf t ht := List.all_eq_true.mp (all_at h (i := 5) rfl) t ht
  nfS := all_at h (i := 6) rfl
  sf := all_at h (i := 7) rfl
  ne := He.eqO_ok (all_at h (i := 8) rfl)
  ob := of_decide_eq_true (all_at h (i := 9) rfl)
/-! ### the hook -/
def obsEA (n : Nat) (fa : List He.Fa) (fn : List He5.DefA) (ex : PySem.W.Frag → Bool) (g : Addr → Option Obj) : AlE :=
  (He5.obsA fa fn (He.frG g (He5.asA g n)), ex (He.frG g (He5.asA g n)))
def SaysEA (fa : List He.Fa) (fn : List He5.DefA) (ex : PySem.W.Frag → Bool) (K : PySem.W.Frag) : Prop := He5.SaysA fa fn K ∧ ex K = true
def hookEA (n : Nat) (fa : List He.Fa) (fn : List He5.DefA) (ex : PySem.W.Frag → Bool) : PySem.W.Hook where
  α := AlE
  obs := fun s => obsEA n fa fn ex s.heap.get?
  val := fun _ => (He5.valA fn, true)
  says := fun _ h => ∃ K : PySem.W.Frag, K.In h ∧ SaysEA fa fn ex K
  of := fun _ _ e => ⟨_, He.frG_in, congrArg (fun z : AlE => z.1) e, congrArg (fun z : AlE => z.2) e⟩
  keeps := fun _ _ _ ⟨K, hK, c⟩ k => ⟨K, hK.keeps k, c⟩
theorem obsEA_eq {n : Nat} {fa : List He.Fa} {fn : List He5.DefA} {ex : PySem.W.Frag → Bool} {g : Addr → Option Obj} {s : Shared} (h : ∀ a, g a = s.heap.get? a) :
    obsEA n fa fn ex g = (hookEA n fa fn ex).obs s := by
  have e : g = s.heap.get? := funext h
  rw [e]; rfl
end Gd

set_option Elab.async false
set_option linter.all false
set_option maxRecDepth 100000
set_option maxHeartbeats 4000000
namespace K31
open PySem PySem.Spec PyProof.Rows L2 Gd
def top (i : Nat) : Stmt := PySem.Challenge.pw_lateledger_k31_orders_and_rounds_told.main.body.getD i (.Pass ⟨0, 0, 0, 0⟩)
abbrev s_is_integer : Stmt := top 19
abbrev s_is_count : Stmt := top 20
abbrev s_is_name : Stmt := top 21
abbrev s_is_good : Stmt := top 22
abbrev s_is_dict_of_names : Stmt := top 23
abbrev s_is_bundle : Stmt := top 24
abbrev s_bundle_told : Stmt := top 25
abbrev s_has_any : Stmt := top 26
abbrev s_Order_init : Stmt := inClass (top 30) 0
abbrev s_Order_house : Stmt := inClass (top 30) 1
abbrev s_Order_limit : Stmt := inClass (top 30) 2
abbrev s_Order_most : Stmt := inClass (top 30) 3
abbrev s_Order_bundle : Stmt := inClass (top 30) 4
abbrev s_Order_eq : Stmt := inClass (top 30) 5
abbrev s_Order_repr : Stmt := inClass (top 30) 6
abbrev s_goods_of : Stmt := top 31
abbrev s_Round_init : Stmt := inClass (top 32) 0
abbrev s_Round_orders : Stmt := inClass (top 32) 1
abbrev s_Round_goods : Stmt := inClass (top 32) 2
abbrev s_Round_getitem : Stmt := inClass (top 32) 3
abbrev s_Round_iter : Stmt := inClass (top 32) 4
abbrev s_Round_with_order : Stmt := inClass (top 32) 5
abbrev s_Round_without : Stmt := inClass (top 32) 6
abbrev s_Round_of_house : Stmt := inClass (top 32) 7
abbrev s_Round_contains : Stmt := inClass (top 32) 8
abbrev s_Round_len : Stmt := inClass (top 32) 9
abbrev s_Round_eq : Stmt := inClass (top 32) 10
abbrev s_Round_repr : Stmt := inClass (top 32) 11
abbrev s_want_order : Stmt := top 33
abbrev s_law_pot : Stmt := top 35
abbrev s_law_draw : Stmt := top 36
abbrev s_law_pick : Stmt := top 37
abbrev s_law_mixed : Stmt := top 38
abbrev s_law_names : Stmt := top 39
abbrev s_law_order : Stmt := top 40
abbrev s_law_model : Stmt := top 41
abbrev s_law_made : Stmt := top 42
abbrev s_law_goods : Stmt := top 43
abbrev s_law_bundle : Stmt := top 44
abbrev s_law_doubled : Stmt := top 45
abbrev s_law_shown : Stmt := top 46
abbrev s_law_order_right : Stmt := top 47
abbrev s_law_is : Stmt := top 48
abbrev s_law_spoilt : Stmt := top 49
abbrev s_law_changed_right : Stmt := top 50
abbrev s_law_right : Stmt := top 51
abbrev s_law : Stmt := top 52
theorem sc_is_integer : FnScope ["value"] ["value"] (defScope s_is_integer) := ⟨rfl, rfl, rfl, by decide +kernel, rfl, by decide +kernel, by decide +kernel⟩
theorem sc_is_count : FnScope ["value"] ["value"] (defScope s_is_count) := ⟨rfl, rfl, rfl, by decide +kernel, rfl, by decide +kernel, by decide +kernel⟩
theorem sc_is_name : FnScope ["value", "letter"] ["value"] (defScope s_is_name) := ⟨rfl, rfl, rfl, by decide +kernel, rfl, by decide +kernel, by decide +kernel⟩
theorem sc_is_good : FnScope ["value"] ["value"] (defScope s_is_good) := ⟨rfl, rfl, rfl, by decide +kernel, rfl, by decide +kernel, by decide +kernel⟩
theorem sc_is_dict_of_names : FnScope ["value", "key"] ["value"] (defScope s_is_dict_of_names) := ⟨rfl, rfl, rfl, by decide +kernel, rfl, by decide +kernel, by decide +kernel⟩
theorem sc_is_bundle : FnScope ["value", "good", "many"] ["value"] (defScope s_is_bundle) := ⟨rfl, rfl, rfl, by decide +kernel, rfl, by decide +kernel, by decide +kernel⟩
theorem sc_bundle_told : FnScope ["bundle", "good"] ["bundle"] (defScope s_bundle_told) := ⟨rfl, rfl, rfl, by decide +kernel, rfl, by decide +kernel, by decide +kernel⟩
theorem sc_has_any : FnScope ["number"] ["number"] (defScope s_has_any) := ⟨rfl, rfl, rfl, by decide +kernel, rfl, by decide +kernel, by decide +kernel⟩
theorem sc_Order_init : FnScope ["self", "house", "bundle", "limit", "most"] ["self", "house", "bundle", "limit", "most"] (defScope s_Order_init) := ⟨rfl, rfl, rfl, by decide +kernel, rfl, by decide +kernel, by decide +kernel⟩
theorem sc_Order_house : FnScope ["self"] ["self"] (defScope s_Order_house) := ⟨rfl, rfl, rfl, by decide +kernel, rfl, by decide +kernel, by decide +kernel⟩
theorem sc_Order_limit : FnScope ["self"] ["self"] (defScope s_Order_limit) := ⟨rfl, rfl, rfl, by decide +kernel, rfl, by decide +kernel, by decide +kernel⟩
theorem sc_Order_most : FnScope ["self"] ["self"] (defScope s_Order_most) := ⟨rfl, rfl, rfl, by decide +kernel, rfl, by decide +kernel, by decide +kernel⟩
theorem sc_Order_bundle : FnScope ["self"] ["self"] (defScope s_Order_bundle) := ⟨rfl, rfl, rfl, by decide +kernel, rfl, by decide +kernel, by decide +kernel⟩
theorem sc_Order_eq : FnScope ["self", "other"] ["self", "other"] (defScope s_Order_eq) := ⟨rfl, rfl, rfl, by decide +kernel, rfl, by decide +kernel, by decide +kernel⟩
theorem sc_Order_repr : FnScope ["self"] ["self"] (defScope s_Order_repr) := ⟨rfl, rfl, rfl, by decide +kernel, rfl, by decide +kernel, by decide +kernel⟩
theorem sc_goods_of : FnScope ["orders", "found", "order", "good"] ["orders"] (defScope s_goods_of) := ⟨rfl, rfl, rfl, by decide +kernel, rfl, by decide +kernel, by decide +kernel⟩
theorem sc_Round_init : FnScope ["self", "orders", "name"] ["self", "orders"] (defScope s_Round_init) := ⟨rfl, rfl, rfl, by decide +kernel, rfl, by decide +kernel, by decide +kernel⟩
theorem sc_Round_orders : FnScope ["self"] ["self"] (defScope s_Round_orders) := ⟨rfl, rfl, rfl, by decide +kernel, rfl, by decide +kernel, by decide +kernel⟩
theorem sc_Round_goods : FnScope ["self"] ["self"] (defScope s_Round_goods) := ⟨rfl, rfl, rfl, by decide +kernel, rfl, by decide +kernel, by decide +kernel⟩
theorem sc_Round_getitem : FnScope ["self", "name"] ["self", "name"] (defScope s_Round_getitem) := ⟨rfl, rfl, rfl, by decide +kernel, rfl, by decide +kernel, by decide +kernel⟩
theorem sc_Round_iter : FnScope ["self"] ["self"] (defScope s_Round_iter) := ⟨rfl, rfl, rfl, by decide +kernel, rfl, by decide +kernel, by decide +kernel⟩
theorem sc_Round_with_order : FnScope ["self", "name", "order"] ["self", "name", "order"] (defScope s_Round_with_order) := ⟨rfl, rfl, rfl, by decide +kernel, rfl, by decide +kernel, by decide +kernel⟩
theorem sc_Round_without : FnScope ["self", "names", "name", "order"] ["self", "names"] (defScope s_Round_without) := ⟨rfl, rfl, rfl, by decide +kernel, rfl, by decide +kernel, by decide +kernel⟩
theorem sc_Round_of_house : FnScope ["self", "house", "name", "order"] ["self", "house"] (defScope s_Round_of_house) := ⟨rfl, rfl, rfl, by decide +kernel, rfl, by decide +kernel, by decide +kernel⟩
theorem sc_Round_contains : FnScope ["self", "value"] ["self", "value"] (defScope s_Round_contains) := ⟨rfl, rfl, rfl, by decide +kernel, rfl, by decide +kernel, by decide +kernel⟩
theorem sc_Round_len : FnScope ["self"] ["self"] (defScope s_Round_len) := ⟨rfl, rfl, rfl, by decide +kernel, rfl, by decide +kernel, by decide +kernel⟩
theorem sc_Round_eq : FnScope ["self", "other"] ["self", "other"] (defScope s_Round_eq) := ⟨rfl, rfl, rfl, by decide +kernel, rfl, by decide +kernel, by decide +kernel⟩
theorem sc_Round_repr : FnScope ["self"] ["self"] (defScope s_Round_repr) := ⟨rfl, rfl, rfl, by decide +kernel, rfl, by decide +kernel, by decide +kernel⟩
theorem sc_want_order : FnScope ["deals", "value"] ["deals", "value"] (defScope s_want_order) := ⟨rfl, rfl, rfl, by decide +kernel, rfl, by decide +kernel, by decide +kernel⟩
theorem sc_law_pot : FnScope ["script", "k", "cell"] ["script", "k"] (defScope s_law_pot) := ⟨rfl, rfl, rfl, by decide +kernel, rfl, by decide +kernel, by decide +kernel⟩
theorem sc_law_draw : FnScope ["pot", "many", "digit"] ["pot", "many"] (defScope s_law_draw) := ⟨rfl, rfl, rfl, by decide +kernel, rfl, by decide +kernel, by decide +kernel⟩
theorem sc_law_pick : FnScope ["pot", "some"] ["pot", "some"] (defScope s_law_pick) := ⟨rfl, rfl, rfl, by decide +kernel, rfl, by decide +kernel, by decide +kernel⟩
theorem sc_law_mixed : FnScope ["pot", "some", "left", "found", "turn"] ["pot", "some"] (defScope s_law_mixed) := ⟨rfl, rfl, rfl, by decide +kernel, rfl, by decide +kernel, by decide +kernel⟩
theorem sc_law_names : FnScope ["pot", "many", "rest", "found", "turn"] ["pot", "many"] (defScope s_law_names) := ⟨rfl, rfl, rfl, by decide +kernel, rfl, by decide +kernel, by decide +kernel⟩
theorem sc_law_order : FnScope ["pot", "goods", "bundle", "way", "limit", "many", "good", "sign"] ["pot", "goods"] (defScope s_law_order) := ⟨rfl, rfl, rfl, by decide +kernel, rfl, by decide +kernel, by decide +kernel⟩
theorem sc_law_model : FnScope ["pot", "most", "goods", "name"] ["pot", "most", "goods"] (defScope s_law_model) := ⟨rfl, rfl, rfl, by decide +kernel, rfl, by decide +kernel, by decide +kernel⟩
theorem sc_law_made : FnScope ["model", "name"] ["model"] (defScope s_law_made) := ⟨rfl, rfl, rfl, by decide +kernel, rfl, by decide +kernel, by decide +kernel⟩
theorem sc_law_goods : FnScope ["model", "found", "name", "good", "many"] ["model"] (defScope s_law_goods) := ⟨rfl, rfl, rfl, by decide +kernel, rfl, by decide +kernel, by decide +kernel⟩
theorem sc_law_bundle : FnScope ["row", "good"] ["row"] (defScope s_law_bundle) := ⟨rfl, rfl, rfl, by decide +kernel, rfl, by decide +kernel, by decide +kernel⟩
theorem sc_law_doubled : FnScope ["row", "good"] ["row"] (defScope s_law_doubled) := ⟨rfl, rfl, rfl, by decide +kernel, rfl, by decide +kernel, by decide +kernel⟩
theorem sc_law_shown : FnScope ["row"] ["row"] (defScope s_law_shown) := ⟨rfl, rfl, rfl, by decide +kernel, rfl, by decide +kernel, by decide +kernel⟩
theorem sc_law_order_right : FnScope ["pot", "row", "handed", "made", "twin", "told", "others", "good", "other"] ["pot", "row"] (defScope s_law_order_right) := ⟨rfl, rfl, rfl, by decide +kernel, rfl, by decide +kernel, by decide +kernel⟩
theorem sc_law_is : FnScope ["made", "model", "names", "name", "shown", "row", "house", "due", "odd", "thing"] ["made", "model"] (defScope s_law_is) := ⟨rfl, rfl, rfl, by decide +kernel, rfl, by decide +kernel, by decide +kernel⟩
theorem sc_law_spoilt : FnScope ["made"] ["made"] (defScope s_law_spoilt) := ⟨rfl, rfl, rfl, by decide +kernel, rfl, by decide +kernel, by decide +kernel⟩
theorem sc_law_changed_right : FnScope ["pot", "made", "model", "name", "some", "rest", "handed", "less", "back", "row"] ["pot", "made", "model"] (defScope s_law_changed_right) := ⟨rfl, rfl, rfl, by decide +kernel, rfl, by decide +kernel, by decide +kernel⟩
theorem sc_law_right : FnScope ["pot", "goods", "model", "name", "row", "handed", "made", "twin", "turn", "others", "both", "some", "again", "bent", "is_same", "other"] ["pot"] (defScope s_law_right) := ⟨rfl, rfl, rfl, by decide +kernel, rfl, by decide +kernel, by decide +kernel⟩
theorem sc_law : FnScope ["script", "k"] ["script"] (defScope s_law) := ⟨rfl, rfl, rfl, by decide +kernel, rfl, by decide +kernel, by decide +kernel⟩
def d_is_integer : He5.DefA := ⟨fun K => He.fAd K ("is_integer", none), "is_integer", "is_integer", defArgs s_is_integer, defBody s_is_integer, defScope s_is_integer, [], []⟩
def d_is_count : He5.DefA := ⟨fun K => He.fAd K ("is_count", none), "is_count", "is_count", defArgs s_is_count, defBody s_is_count, defScope s_is_count, [], []⟩
def d_is_name : He5.DefA := ⟨fun K => He.fAd K ("is_name", none), "is_name", "is_name", defArgs s_is_name, defBody s_is_name, defScope s_is_name, [], []⟩
def d_is_good : He5.DefA := ⟨fun K => He.fAd K ("is_good", none), "is_good", "is_good", defArgs s_is_good, defBody s_is_good, defScope s_is_good, [], []⟩
def d_is_dict_of_names : He5.DefA := ⟨fun K => He.fAd K ("is_dict_of_names", none), "is_dict_of_names", "is_dict_of_names", defArgs s_is_dict_of_names, defBody s_is_dict_of_names, defScope s_is_dict_of_names, [], []⟩
def d_is_bundle : He5.DefA := ⟨fun K => He.fAd K ("is_bundle", none), "is_bundle", "is_bundle", defArgs s_is_bundle, defBody s_is_bundle, defScope s_is_bundle, [], []⟩
def d_bundle_told : He5.DefA := ⟨fun K => He.fAd K ("bundle_told", none), "bundle_told", "bundle_told", defArgs s_bundle_told, defBody s_bundle_told, defScope s_bundle_told, [], []⟩
def d_has_any : He5.DefA := ⟨fun K => He.fAd K ("has_any", none), "has_any", "has_any", defArgs s_has_any, defBody s_has_any, defScope s_has_any, [], []⟩
def d_Order_init : He5.DefA := ⟨fun K => He.fAd K ("Order", some "__init__"), "__init__", "Order.__init__", defArgs s_Order_init, defBody s_Order_init, defScope s_Order_init, [], []⟩
def d_Order_house : He5.DefA := ⟨fun K => propG K (He.ga K "Order") "house", "house", "Order.house", defArgs s_Order_house, defBody s_Order_house, defScope s_Order_house, [], []⟩
def d_Order_limit : He5.DefA := ⟨fun K => propG K (He.ga K "Order") "limit", "limit", "Order.limit", defArgs s_Order_limit, defBody s_Order_limit, defScope s_Order_limit, [], []⟩
def d_Order_most : He5.DefA := ⟨fun K => propG K (He.ga K "Order") "most", "most", "Order.most", defArgs s_Order_most, defBody s_Order_most, defScope s_Order_most, [], []⟩
def d_Order_bundle : He5.DefA := ⟨fun K => He.fAd K ("Order", some "bundle"), "bundle", "Order.bundle", defArgs s_Order_bundle, defBody s_Order_bundle, defScope s_Order_bundle, [], []⟩
def d_Order_eq : He5.DefA := ⟨fun K => He.fAd K ("Order", some "__eq__"), "__eq__", "Order.__eq__", defArgs s_Order_eq, defBody s_Order_eq, defScope s_Order_eq, [], []⟩
def d_Order_repr : He5.DefA := ⟨fun K => He.fAd K ("Order", some "__repr__"), "__repr__", "Order.__repr__", defArgs s_Order_repr, defBody s_Order_repr, defScope s_Order_repr, [], []⟩
def d_goods_of : He5.DefA := ⟨fun K => He.fAd K ("goods_of", none), "goods_of", "goods_of", defArgs s_goods_of, defBody s_goods_of, defScope s_goods_of, [], []⟩
def d_Round_init : He5.DefA := ⟨fun K => He.fAd K ("Round", some "__init__"), "__init__", "Round.__init__", defArgs s_Round_init, defBody s_Round_init, defScope s_Round_init, [], []⟩
def d_Round_orders : He5.DefA := ⟨fun K => He.fAd K ("Round", some "orders"), "orders", "Round.orders", defArgs s_Round_orders, defBody s_Round_orders, defScope s_Round_orders, [], []⟩
def d_Round_goods : He5.DefA := ⟨fun K => He.fAd K ("Round", some "goods"), "goods", "Round.goods", defArgs s_Round_goods, defBody s_Round_goods, defScope s_Round_goods, [], []⟩
def d_Round_getitem : He5.DefA := ⟨fun K => He.fAd K ("Round", some "__getitem__"), "__getitem__", "Round.__getitem__", defArgs s_Round_getitem, defBody s_Round_getitem, defScope s_Round_getitem, [], []⟩
def d_Round_iter : He5.DefA := ⟨fun K => He.fAd K ("Round", some "__iter__"), "__iter__", "Round.__iter__", defArgs s_Round_iter, defBody s_Round_iter, defScope s_Round_iter, [], []⟩
def d_Round_with_order : He5.DefA := ⟨fun K => He.fAd K ("Round", some "with_order"), "with_order", "Round.with_order", defArgs s_Round_with_order, defBody s_Round_with_order, defScope s_Round_with_order, [], []⟩
def d_Round_without : He5.DefA := ⟨fun K => He.fAd K ("Round", some "without"), "without", "Round.without", defArgs s_Round_without, defBody s_Round_without, defScope s_Round_without, [], []⟩
def d_Round_of_house : He5.DefA := ⟨fun K => He.fAd K ("Round", some "of_house"), "of_house", "Round.of_house", defArgs s_Round_of_house, defBody s_Round_of_house, defScope s_Round_of_house, [], []⟩
def d_Round_contains : He5.DefA := ⟨fun K => He.fAd K ("Round", some "__contains__"), "__contains__", "Round.__contains__", defArgs s_Round_contains, defBody s_Round_contains, defScope s_Round_contains, [], []⟩
def d_Round_len : He5.DefA := ⟨fun K => He.fAd K ("Round", some "__len__"), "__len__", "Round.__len__", defArgs s_Round_len, defBody s_Round_len, defScope s_Round_len, [], []⟩
def d_Round_eq : He5.DefA := ⟨fun K => He.fAd K ("Round", some "__eq__"), "__eq__", "Round.__eq__", defArgs s_Round_eq, defBody s_Round_eq, defScope s_Round_eq, [], []⟩
def d_Round_repr : He5.DefA := ⟨fun K => He.fAd K ("Round", some "__repr__"), "__repr__", "Round.__repr__", defArgs s_Round_repr, defBody s_Round_repr, defScope s_Round_repr, [], []⟩
def d_want_order : He5.DefA := ⟨fun K => He.fAd K ("want_order", none), "want_order", "want_order", defArgs s_want_order, defBody s_want_order, defScope s_want_order, [], []⟩
def d_law_pot : He5.DefA := ⟨fun K => He.fAd K ("_law_pot", none), "_law_pot", "_law_pot", defArgs s_law_pot, defBody s_law_pot, defScope s_law_pot, [], []⟩
def d_law_draw : He5.DefA := ⟨fun K => He.fAd K ("_law_draw", none), "_law_draw", "_law_draw", defArgs s_law_draw, defBody s_law_draw, defScope s_law_draw, [], []⟩
def d_law_pick : He5.DefA := ⟨fun K => He.fAd K ("_law_pick", none), "_law_pick", "_law_pick", defArgs s_law_pick, defBody s_law_pick, defScope s_law_pick, [], []⟩
def d_law_mixed : He5.DefA := ⟨fun K => He.fAd K ("_law_mixed", none), "_law_mixed", "_law_mixed", defArgs s_law_mixed, defBody s_law_mixed, defScope s_law_mixed, [], []⟩
def d_law_names : He5.DefA := ⟨fun K => He.fAd K ("_law_names", none), "_law_names", "_law_names", defArgs s_law_names, defBody s_law_names, defScope s_law_names, [], []⟩
def d_law_order : He5.DefA := ⟨fun K => He.fAd K ("_law_order", none), "_law_order", "_law_order", defArgs s_law_order, defBody s_law_order, defScope s_law_order, [], []⟩
def d_law_model : He5.DefA := ⟨fun K => He.fAd K ("_law_model", none), "_law_model", "_law_model", defArgs s_law_model, defBody s_law_model, defScope s_law_model, [], []⟩
def d_law_made : He5.DefA := ⟨fun K => He.fAd K ("_law_made", none), "_law_made", "_law_made", defArgs s_law_made, defBody s_law_made, defScope s_law_made, [], []⟩
def d_law_goods : He5.DefA := ⟨fun K => He.fAd K ("_law_goods", none), "_law_goods", "_law_goods", defArgs s_law_goods, defBody s_law_goods, defScope s_law_goods, [], []⟩
def d_law_bundle : He5.DefA := ⟨fun K => He.fAd K ("_law_bundle", none), "_law_bundle", "_law_bundle", defArgs s_law_bundle, defBody s_law_bundle, defScope s_law_bundle, [], []⟩
def d_law_doubled : He5.DefA := ⟨fun K => He.fAd K ("_law_doubled", none), "_law_doubled", "_law_doubled", defArgs s_law_doubled, defBody s_law_doubled, defScope s_law_doubled, [], []⟩
def d_law_shown : He5.DefA := ⟨fun K => He.fAd K ("_law_shown", none), "_law_shown", "_law_shown", defArgs s_law_shown, defBody s_law_shown, defScope s_law_shown, [], []⟩
def d_law_order_right : He5.DefA := ⟨fun K => He.fAd K ("_law_order_right", none), "_law_order_right", "_law_order_right", defArgs s_law_order_right, defBody s_law_order_right, defScope s_law_order_right, [], []⟩
def d_law_is : He5.DefA := ⟨fun K => He.fAd K ("_law_is", none), "_law_is", "_law_is", defArgs s_law_is, defBody s_law_is, defScope s_law_is, [], []⟩
def d_law_spoilt : He5.DefA := ⟨fun K => He.fAd K ("_law_spoilt", none), "_law_spoilt", "_law_spoilt", defArgs s_law_spoilt, defBody s_law_spoilt, defScope s_law_spoilt, [], []⟩
def d_law_changed_right : He5.DefA := ⟨fun K => He.fAd K ("_law_changed_right", none), "_law_changed_right", "_law_changed_right", defArgs s_law_changed_right, defBody s_law_changed_right, defScope s_law_changed_right, [], []⟩
def d_law_right : He5.DefA := ⟨fun K => He.fAd K ("_law_right", none), "_law_right", "_law_right", defArgs s_law_right, defBody s_law_right, defScope s_law_right, [], []⟩
def d_law : He5.DefA := ⟨fun K => He.fAd K ("law", none), "law", "law", defArgs s_law, defBody s_law, defScope s_law, [], []⟩
def fn : List He5.DefA := [d_is_integer, d_is_count, d_is_name, d_is_good, d_is_dict_of_names, d_is_bundle, d_bundle_told, d_has_any, d_Order_init, d_Order_house, d_Order_limit, d_Order_most, d_Order_bundle, d_Order_eq, d_Order_repr, d_goods_of, d_Round_init, d_Round_orders, d_Round_goods, d_Round_getitem, d_Round_iter, d_Round_with_order, d_Round_without, d_Round_of_house, d_Round_contains, d_Round_len, d_Round_eq, d_Round_repr, d_want_order, d_law_pot, d_law_draw, d_law_pick, d_law_mixed, d_law_names, d_law_order, d_law_model, d_law_made, d_law_goods, d_law_bundle, d_law_doubled, d_law_shown, d_law_order_right, d_law_is, d_law_spoilt, d_law_changed_right, d_law_right, d_law]
def fa : List He.Fa := [.glo "LedgerError", .glo "InvalidHouse", .glo "InvalidBundle", .glo "InvalidLimit", .glo "InvalidMost", .glo "InvalidOrder", .glo "InvalidOrders", .glo "InvalidName", .glo "MissingError", .glo "UnknownOrder", .glo "StateError", .glo "NameTaken", .glo "LimitError", .glo "TooMany", .str "LETTERS" "abcdefghijklmnopqrstuvwxyz", .int "MOST_LETTERS" 8, .glo "KEPT_WORDS", .glo "is_integer", .glo "is_count", .glo "is_name", .glo "is_good", .glo "is_dict_of_names", .glo "is_bundle", .glo "bundle_told", .glo "has_any", .int "MOST_ORDERS" 12, .int "MOST_GOODS" 4, .glo "Order", .glo "goods_of", .glo "Round", .glo "want_order", .glo "_law_pot", .glo "_law_draw", .glo "_law_pick", .glo "_law_mixed", .glo "_law_names", .glo "_law_order", .glo "_law_model", .glo "_law_made", .glo "_law_goods", .glo "_law_bundle", .glo "_law_doubled", .glo "_law_shown", .glo "_law_order_right", .glo "_law_is", .glo "_law_spoilt", .glo "_law_changed_right", .glo "_law_right", .glo "law", .free "ValueError", .free "LookupError", .free "isinstance", .free "int", .free "bool", .free "str", .free "len", .free "all", .free "dict", .free "sorted", .free "list", .free "TypeError", .free "abs", .free "max", .free "divmod", .free "range", .free "zip", .free "sum", .free "set", .free "repr", .free "any", .free "tuple", .free "min", .free "RuntimeError", .free "ArithmeticError", .free "property", .cls "Order", .mkr "Order", .noat "Order" "own_house", .noat "Order" "own_bundle", .noat "Order" "own_limit", .noat "Order" "own_most", .meth "Order" "bundle", .meth "Order" "__eq__", .meth "Order" "__repr__", .cls "Round", .mkr "Round", .noat "Round" "own_orders", .noat "Round" "own_goods", .meth "Round" "orders", .meth "Round" "goods", .meth "Round" "__getitem__", .meth "Round" "__iter__", .meth "Round" "with_order", .meth "Round" "without", .meth "Round" "of_house", .meth "Round" "__contains__", .meth "Round" "__len__", .meth "Round" "__eq__", .meth "Round" "__repr__"]
/-- the function object at f -/
def fdOf (K : PySem.W.Frag) (f : Addr) : FuncData := match K.lookup f with
  | some ⟨_, _, .func fd, _⟩ => fd
  | _ => default
abbrev FD (K : PySem.W.Frag) (d : He5.DefA) : Prop := FunD K d.name d.qual d.params d.body d.scope (d.dvs K) (d.kws K) (d.at_ K) (fdOf K (d.at_ K))
theorem fd_of {K : PySem.W.Frag} {d : He5.DefA} (h : ∃ fd, FunD K d.name d.qual d.params d.body d.scope (d.dvs K) (d.kws K) (d.at_ K) fd) : FD K d := by
  obtain ⟨fd, F⟩ := h
  have e : fdOf K (d.at_ K) = fd := by
    obtain ⟨oc, od, dV, kV, doc, pm, an, cdv, ct, osl, _, lk, _⟩ := F.ex
    unfold fdOf
    rw [lk]
  unfold FD
  rw [e]
  exact F
/-- what the top has left, by name -/
structure Txt (K : PySem.W.Frag) (mg : Str → Option Value) : Prop where
  g_LedgerError : mg "LedgerError" = some (.ref (He.ga K "LedgerError"))
  g_InvalidHouse : mg "InvalidHouse" = some (.ref (He.ga K "InvalidHouse"))
  g_InvalidBundle : mg "InvalidBundle" = some (.ref (He.ga K "InvalidBundle"))
  g_InvalidLimit : mg "InvalidLimit" = some (.ref (He.ga K "InvalidLimit"))
  g_InvalidMost : mg "InvalidMost" = some (.ref (He.ga K "InvalidMost"))
  g_InvalidOrder : mg "InvalidOrder" = some (.ref (He.ga K "InvalidOrder"))
  g_InvalidOrders : mg "InvalidOrders" = some (.ref (He.ga K "InvalidOrders"))
  g_InvalidName : mg "InvalidName" = some (.ref (He.ga K "InvalidName"))
  g_MissingError : mg "MissingError" = some (.ref (He.ga K "MissingError"))
  g_UnknownOrder : mg "UnknownOrder" = some (.ref (He.ga K "UnknownOrder"))
  g_StateError : mg "StateError" = some (.ref (He.ga K "StateError"))
  g_NameTaken : mg "NameTaken" = some (.ref (He.ga K "NameTaken"))
  g_LimitError : mg "LimitError" = some (.ref (He.ga K "LimitError"))
  g_TooMany : mg "TooMany" = some (.ref (He.ga K "TooMany"))
  c_LETTERS : ∃ t, mg "LETTERS" = some (.str "abcdefghijklmnopqrstuvwxyz" t)
  c_MOST_LETTERS : ∃ t, mg "MOST_LETTERS" = some (.int 8 t)
  g_KEPT_WORDS : mg "KEPT_WORDS" = some (.ref (He.ga K "KEPT_WORDS"))
  g_is_integer : mg "is_integer" = some (.ref (He.ga K "is_integer"))
  g_is_count : mg "is_count" = some (.ref (He.ga K "is_count"))
  g_is_name : mg "is_name" = some (.ref (He.ga K "is_name"))
  g_is_good : mg "is_good" = some (.ref (He.ga K "is_good"))
  g_is_dict_of_names : mg "is_dict_of_names" = some (.ref (He.ga K "is_dict_of_names"))
  g_is_bundle : mg "is_bundle" = some (.ref (He.ga K "is_bundle"))
  g_bundle_told : mg "bundle_told" = some (.ref (He.ga K "bundle_told"))
  g_has_any : mg "has_any" = some (.ref (He.ga K "has_any"))
  c_MOST_ORDERS : ∃ t, mg "MOST_ORDERS" = some (.int 12 t)
  c_MOST_GOODS : ∃ t, mg "MOST_GOODS" = some (.int 4 t)
  g_Order : mg "Order" = some (.ref (He.ga K "Order"))
  g_goods_of : mg "goods_of" = some (.ref (He.ga K "goods_of"))
  g_Round : mg "Round" = some (.ref (He.ga K "Round"))
  g_want_order : mg "want_order" = some (.ref (He.ga K "want_order"))
  g_law_pot : mg "_law_pot" = some (.ref (He.ga K "_law_pot"))
  g_law_draw : mg "_law_draw" = some (.ref (He.ga K "_law_draw"))
  g_law_pick : mg "_law_pick" = some (.ref (He.ga K "_law_pick"))
  g_law_mixed : mg "_law_mixed" = some (.ref (He.ga K "_law_mixed"))
  g_law_names : mg "_law_names" = some (.ref (He.ga K "_law_names"))
  g_law_order : mg "_law_order" = some (.ref (He.ga K "_law_order"))
  g_law_model : mg "_law_model" = some (.ref (He.ga K "_law_model"))
  g_law_made : mg "_law_made" = some (.ref (He.ga K "_law_made"))
  g_law_goods : mg "_law_goods" = some (.ref (He.ga K "_law_goods"))
  g_law_bundle : mg "_law_bundle" = some (.ref (He.ga K "_law_bundle"))
  g_law_doubled : mg "_law_doubled" = some (.ref (He.ga K "_law_doubled"))
  g_law_shown : mg "_law_shown" = some (.ref (He.ga K "_law_shown"))
  g_law_order_right : mg "_law_order_right" = some (.ref (He.ga K "_law_order_right"))
  g_law_is : mg "_law_is" = some (.ref (He.ga K "_law_is"))
  g_law_spoilt : mg "_law_spoilt" = some (.ref (He.ga K "_law_spoilt"))
  g_law_changed_right : mg "_law_changed_right" = some (.ref (He.ga K "_law_changed_right"))
  g_law_right : mg "_law_right" = some (.ref (He.ga K "_law_right"))
  g_law : mg "law" = some (.ref (He.ga K "law"))
  b_ValueError : mg "ValueError" = none
  b_LookupError : mg "LookupError" = none
  b_isinstance : mg "isinstance" = none
  b_int : mg "int" = none
  b_bool : mg "bool" = none
  b_str : mg "str" = none
  b_len : mg "len" = none
  b_all : mg "all" = none
  b_dict : mg "dict" = none
  b_sorted : mg "sorted" = none
  b_list : mg "list" = none
  b_TypeError : mg "TypeError" = none
  b_abs : mg "abs" = none
  b_max : mg "max" = none
  b_divmod : mg "divmod" = none
  b_range : mg "range" = none
  b_zip : mg "zip" = none
  b_sum : mg "sum" = none
  b_set : mg "set" = none
  b_repr : mg "repr" = none
  b_any : mg "any" = none
  b_tuple : mg "tuple" = none
  b_min : mg "min" = none
  b_RuntimeError : mg "RuntimeError" = none
  b_ArithmeticError : mg "ArithmeticError" = none
  b_property : mg "property" = none
  cl_Order : Cls K (He.ga K "Order")
  mk_Order : Mk K (He.ga K "Order") (He.ma K (He.ga K "Order") "__init__")
  na_Order_own_house : NoAttr K (He.ga K "Order") "own_house"
  na_Order_own_bundle : NoAttr K (He.ga K "Order") "own_bundle"
  na_Order_own_limit : NoAttr K (He.ga K "Order") "own_limit"
  na_Order_own_most : NoAttr K (He.ga K "Order") "own_most"
  m_Order_bundle : Meth K (He.ga K "Order") "bundle" (He.ma K (He.ga K "Order") "bundle")
  m_Order_eq : Meth K (He.ga K "Order") "__eq__" (He.ma K (He.ga K "Order") "__eq__")
  m_Order_repr : Meth K (He.ga K "Order") "__repr__" (He.ma K (He.ga K "Order") "__repr__")
  cl_Round : Cls K (He.ga K "Round")
  mk_Round : Mk K (He.ga K "Round") (He.ma K (He.ga K "Round") "__init__")
  na_Round_own_orders : NoAttr K (He.ga K "Round") "own_orders"
  na_Round_own_goods : NoAttr K (He.ga K "Round") "own_goods"
  m_Round_orders : Meth K (He.ga K "Round") "orders" (He.ma K (He.ga K "Round") "orders")
  m_Round_goods : Meth K (He.ga K "Round") "goods" (He.ma K (He.ga K "Round") "goods")
  m_Round_getitem : Meth K (He.ga K "Round") "__getitem__" (He.ma K (He.ga K "Round") "__getitem__")
  m_Round_iter : Meth K (He.ga K "Round") "__iter__" (He.ma K (He.ga K "Round") "__iter__")
  m_Round_with_order : Meth K (He.ga K "Round") "with_order" (He.ma K (He.ga K "Round") "with_order")
  m_Round_without : Meth K (He.ga K "Round") "without" (He.ma K (He.ga K "Round") "without")
  m_Round_of_house : Meth K (He.ga K "Round") "of_house" (He.ma K (He.ga K "Round") "of_house")
  m_Round_contains : Meth K (He.ga K "Round") "__contains__" (He.ma K (He.ga K "Round") "__contains__")
  m_Round_len : Meth K (He.ga K "Round") "__len__" (He.ma K (He.ga K "Round") "__len__")
  m_Round_eq : Meth K (He.ga K "Round") "__eq__" (He.ma K (He.ga K "Round") "__eq__")
  m_Round_repr : Meth K (He.ga K "Round") "__repr__" (He.ma K (He.ga K "Round") "__repr__")
  f_is_integer : FD K d_is_integer
  f_is_count : FD K d_is_count
  f_is_name : FD K d_is_name
  f_is_good : FD K d_is_good
  f_is_dict_of_names : FD K d_is_dict_of_names
  f_is_bundle : FD K d_is_bundle
  f_bundle_told : FD K d_bundle_told
  f_has_any : FD K d_has_any
  f_Order_init : FD K d_Order_init
  f_Order_house : FD K d_Order_house
  f_Order_limit : FD K d_Order_limit
  f_Order_most : FD K d_Order_most
  f_Order_bundle : FD K d_Order_bundle
  f_Order_eq : FD K d_Order_eq
  f_Order_repr : FD K d_Order_repr
  f_goods_of : FD K d_goods_of
  f_Round_init : FD K d_Round_init
  f_Round_orders : FD K d_Round_orders
  f_Round_goods : FD K d_Round_goods
  f_Round_getitem : FD K d_Round_getitem
  f_Round_iter : FD K d_Round_iter
  f_Round_with_order : FD K d_Round_with_order
  f_Round_without : FD K d_Round_without
  f_Round_of_house : FD K d_Round_of_house
  f_Round_contains : FD K d_Round_contains
  f_Round_len : FD K d_Round_len
  f_Round_eq : FD K d_Round_eq
  f_Round_repr : FD K d_Round_repr
  f_want_order : FD K d_want_order
  f_law_pot : FD K d_law_pot
  f_law_draw : FD K d_law_draw
  f_law_pick : FD K d_law_pick
  f_law_mixed : FD K d_law_mixed
  f_law_names : FD K d_law_names
  f_law_order : FD K d_law_order
  f_law_model : FD K d_law_model
  f_law_made : FD K d_law_made
  f_law_goods : FD K d_law_goods
  f_law_bundle : FD K d_law_bundle
  f_law_doubled : FD K d_law_doubled
  f_law_shown : FD K d_law_shown
  f_law_order_right : FD K d_law_order_right
  f_law_is : FD K d_law_is
  f_law_spoilt : FD K d_law_spoilt
  f_law_changed_right : FD K d_law_changed_right
  f_law_right : FD K d_law_right
  f_law : FD K d_law
theorem txt_of {K : PySem.W.Frag} {h : Heap} {mg : Str → Option Value} (X : K.In h) (G : h.Ns mainGlobals mg) (c : He5.SaysA fa fn K) : Txt K mg where
  g_LedgerError := He.glo_ok X G (c.fact 0 rfl)
  g_InvalidHouse := He.glo_ok X G (c.fact 1 rfl)
  g_InvalidBundle := He.glo_ok X G (c.fact 2 rfl)
  g_InvalidLimit := He.glo_ok X G (c.fact 3 rfl)
  g_InvalidMost := He.glo_ok X G (c.fact 4 rfl)
  g_InvalidOrder := He.glo_ok X G (c.fact 5 rfl)
  g_InvalidOrders := He.glo_ok X G (c.fact 6 rfl)
  g_InvalidName := He.glo_ok X G (c.fact 7 rfl)
  g_MissingError := He.glo_ok X G (c.fact 8 rfl)
  g_UnknownOrder := He.glo_ok X G (c.fact 9 rfl)
  g_StateError := He.glo_ok X G (c.fact 10 rfl)
  g_NameTaken := He.glo_ok X G (c.fact 11 rfl)
  g_LimitError := He.glo_ok X G (c.fact 12 rfl)
  g_TooMany := He.glo_ok X G (c.fact 13 rfl)
  c_LETTERS := He.str_ok X G (c.fact 14 rfl)
  c_MOST_LETTERS := He.int_ok X G (c.fact 15 rfl)
  g_KEPT_WORDS := He.glo_ok X G (c.fact 16 rfl)
  g_is_integer := He.glo_ok X G (c.fact 17 rfl)
  g_is_count := He.glo_ok X G (c.fact 18 rfl)
  g_is_name := He.glo_ok X G (c.fact 19 rfl)
  g_is_good := He.glo_ok X G (c.fact 20 rfl)
  g_is_dict_of_names := He.glo_ok X G (c.fact 21 rfl)
  g_is_bundle := He.glo_ok X G (c.fact 22 rfl)
  g_bundle_told := He.glo_ok X G (c.fact 23 rfl)
  g_has_any := He.glo_ok X G (c.fact 24 rfl)
  c_MOST_ORDERS := He.int_ok X G (c.fact 25 rfl)
  c_MOST_GOODS := He.int_ok X G (c.fact 26 rfl)
  g_Order := He.glo_ok X G (c.fact 27 rfl)
  g_goods_of := He.glo_ok X G (c.fact 28 rfl)
  g_Round := He.glo_ok X G (c.fact 29 rfl)
  g_want_order := He.glo_ok X G (c.fact 30 rfl)
  g_law_pot := He.glo_ok X G (c.fact 31 rfl)
  g_law_draw := He.glo_ok X G (c.fact 32 rfl)
  g_law_pick := He.glo_ok X G (c.fact 33 rfl)
  g_law_mixed := He.glo_ok X G (c.fact 34 rfl)
  g_law_names := He.glo_ok X G (c.fact 35 rfl)
  g_law_order := He.glo_ok X G (c.fact 36 rfl)
  g_law_model := He.glo_ok X G (c.fact 37 rfl)
  g_law_made := He.glo_ok X G (c.fact 38 rfl)
  g_law_goods := He.glo_ok X G (c.fact 39 rfl)
  g_law_bundle := He.glo_ok X G (c.fact 40 rfl)
  g_law_doubled := He.glo_ok X G (c.fact 41 rfl)
  g_law_shown := He.glo_ok X G (c.fact 42 rfl)
  g_law_order_right := He.glo_ok X G (c.fact 43 rfl)
  g_law_is := He.glo_ok X G (c.fact 44 rfl)
  g_law_spoilt := He.glo_ok X G (c.fact 45 rfl)
  g_law_changed_right := He.glo_ok X G (c.fact 46 rfl)
  g_law_right := He.glo_ok X G (c.fact 47 rfl)
  g_law := He.glo_ok X G (c.fact 48 rfl)
  b_ValueError := He.free_ok X G (c.fact 49 rfl)
  b_LookupError := He.free_ok X G (c.fact 50 rfl)
  b_isinstance := He.free_ok X G (c.fact 51 rfl)
  b_int := He.free_ok X G (c.fact 52 rfl)
  b_bool := He.free_ok X G (c.fact 53 rfl)
  b_str := He.free_ok X G (c.fact 54 rfl)
  b_len := He.free_ok X G (c.fact 55 rfl)
  b_all := He.free_ok X G (c.fact 56 rfl)
  b_dict := He.free_ok X G (c.fact 57 rfl)
  b_sorted := He.free_ok X G (c.fact 58 rfl)
  b_list := He.free_ok X G (c.fact 59 rfl)
  b_TypeError := He.free_ok X G (c.fact 60 rfl)
  b_abs := He.free_ok X G (c.fact 61 rfl)
  b_max := He.free_ok X G (c.fact 62 rfl)
  b_divmod := He.free_ok X G (c.fact 63 rfl)
  b_range := He.free_ok X G (c.fact 64 rfl)
  b_zip := He.free_ok X G (c.fact 65 rfl)
  b_sum := He.free_ok X G (c.fact 66 rfl)
  b_set := He.free_ok X G (c.fact 67 rfl)
  b_repr := He.free_ok X G (c.fact 68 rfl)
  b_any := He.free_ok X G (c.fact 69 rfl)
  b_tuple := He.free_ok X G (c.fact 70 rfl)
  b_min := He.free_ok X G (c.fact 71 rfl)
  b_RuntimeError := He.free_ok X G (c.fact 72 rfl)
  b_ArithmeticError := He.free_ok X G (c.fact 73 rfl)
  b_property := He.free_ok X G (c.fact 74 rfl)
  cl_Order := He.cls_ok (c.fact 75 rfl)
  mk_Order := He.mkr_ok (c.fact 76 rfl)
  na_Order_own_house := He.noat_ok (c.fact 77 rfl)
  na_Order_own_bundle := He.noat_ok (c.fact 78 rfl)
  na_Order_own_limit := He.noat_ok (c.fact 79 rfl)
  na_Order_own_most := He.noat_ok (c.fact 80 rfl)
  m_Order_bundle := He.meth_ok (c.fact 81 rfl)
  m_Order_eq := He.meth_ok (c.fact 82 rfl)
  m_Order_repr := He.meth_ok (c.fact 83 rfl)
  cl_Round := He.cls_ok (c.fact 84 rfl)
  mk_Round := He.mkr_ok (c.fact 85 rfl)
  na_Round_own_orders := He.noat_ok (c.fact 86 rfl)
  na_Round_own_goods := He.noat_ok (c.fact 87 rfl)
  m_Round_orders := He.meth_ok (c.fact 88 rfl)
  m_Round_goods := He.meth_ok (c.fact 89 rfl)
  m_Round_getitem := He.meth_ok (c.fact 90 rfl)
  m_Round_iter := He.meth_ok (c.fact 91 rfl)
  m_Round_with_order := He.meth_ok (c.fact 92 rfl)
  m_Round_without := He.meth_ok (c.fact 93 rfl)
  m_Round_of_house := He.meth_ok (c.fact 94 rfl)
  m_Round_contains := He.meth_ok (c.fact 95 rfl)
  m_Round_len := He.meth_ok (c.fact 96 rfl)
  m_Round_eq := He.meth_ok (c.fact 97 rfl)
  m_Round_repr := He.meth_ok (c.fact 98 rfl)
  f_is_integer := fd_of (c.def_ 0 rfl)
  f_is_count := fd_of (c.def_ 1 rfl)
  f_is_name := fd_of (c.def_ 2 rfl)
  f_is_good := fd_of (c.def_ 3 rfl)
  f_is_dict_of_names := fd_of (c.def_ 4 rfl)
  f_is_bundle := fd_of (c.def_ 5 rfl)
  f_bundle_told := fd_of (c.def_ 6 rfl)
  f_has_any := fd_of (c.def_ 7 rfl)
  f_Order_init := fd_of (c.def_ 8 rfl)
  f_Order_house := fd_of (c.def_ 9 rfl)
  f_Order_limit := fd_of (c.def_ 10 rfl)
  f_Order_most := fd_of (c.def_ 11 rfl)
  f_Order_bundle := fd_of (c.def_ 12 rfl)
  f_Order_eq := fd_of (c.def_ 13 rfl)
  f_Order_repr := fd_of (c.def_ 14 rfl)
  f_goods_of := fd_of (c.def_ 15 rfl)
  f_Round_init := fd_of (c.def_ 16 rfl)
  f_Round_orders := fd_of (c.def_ 17 rfl)
  f_Round_goods := fd_of (c.def_ 18 rfl)
  f_Round_getitem := fd_of (c.def_ 19 rfl)
  f_Round_iter := fd_of (c.def_ 20 rfl)
  f_Round_with_order := fd_of (c.def_ 21 rfl)
  f_Round_without := fd_of (c.def_ 22 rfl)
  f_Round_of_house := fd_of (c.def_ 23 rfl)
  f_Round_contains := fd_of (c.def_ 24 rfl)
  f_Round_len := fd_of (c.def_ 25 rfl)
  f_Round_eq := fd_of (c.def_ 26 rfl)
  f_Round_repr := fd_of (c.def_ 27 rfl)
  f_want_order := fd_of (c.def_ 28 rfl)
  f_law_pot := fd_of (c.def_ 29 rfl)
  f_law_draw := fd_of (c.def_ 30 rfl)
  f_law_pick := fd_of (c.def_ 31 rfl)
  f_law_mixed := fd_of (c.def_ 32 rfl)
  f_law_names := fd_of (c.def_ 33 rfl)
  f_law_order := fd_of (c.def_ 34 rfl)
  f_law_model := fd_of (c.def_ 35 rfl)
  f_law_made := fd_of (c.def_ 36 rfl)
  f_law_goods := fd_of (c.def_ 37 rfl)
  f_law_bundle := fd_of (c.def_ 38 rfl)
  f_law_doubled := fd_of (c.def_ 39 rfl)
  f_law_shown := fd_of (c.def_ 40 rfl)
  f_law_order_right := fd_of (c.def_ 41 rfl)
  f_law_is := fd_of (c.def_ 42 rfl)
  f_law_spoilt := fd_of (c.def_ 43 rfl)
  f_law_changed_right := fd_of (c.def_ 44 rfl)
  f_law_right := fd_of (c.def_ 45 rfl)
  f_law := fd_of (c.def_ 46 rfl)
end K31

set_option Elab.async false
set_option linter.all false
set_option maxRecDepth 100000
set_option maxHeartbeats 0
namespace K31
open PySem PySem.Spec PyProof.Rows L2 Gd
def exL (K : PySem.W.Frag) : List Bool :=
  [tupAt K (He.ga K "KEPT_WORDS") [.str "coin", .str "hall", .str "outside"], ownB K (He.ga K "Order"), ownB K (He.ga K "Round"), propB K (He.ga K "Order") "house", propB K (He.ga K "Order") "limit", propB K (He.ga K "Order") "most"]
def ex (K : PySem.W.Frag) : Bool := (exL K).all id
abbrev R : PySem.W.OpenRow := PySem.W.OpenLaw.row PySem.Challenge.rw_lateledger_k31_orders_and_rounds_told
abbrev hk : PySem.W.Hook := hookEA 6 fa fn ex
def ob (s : PySem.W.SharedT) : AlE := obsEA 6 fa fn ex (HandSHeadRun.getT s)
theorem ob_eq (s : PySem.W.SharedT) : ob s = hk.obs s.abs := obsEA_eq (HandSHeadRun.getT_eq s)
def loose0 : List Str := ["__name__", "LedgerError", "InvalidHouse", "InvalidBundle", "InvalidLimit", "InvalidMost"]
def loose1 : List Str := ["InvalidOrder", "InvalidOrders", "InvalidName", "MissingError", "UnknownOrder", "StateError", "NameTaken", "LimitError", "TooMany", "LETTERS", "MOST_LETTERS", "KEPT_WORDS", "is_integer", "is_count", "is_name", "is_good"]
def loose2 : List Str := ["is_dict_of_names", "is_bundle", "bundle_told", "has_any", "MOST_ORDERS", "MOST_GOODS", "Order", "goods_of", "Round", "want_order", "_law_pot", "_law_draw", "_law_pick", "_law_mixed"]
def loose3 : List Str := ["_law_names", "_law_order", "_law_model", "_law_made", "_law_goods", "_law_bundle", "_law_doubled", "_law_shown", "_law_order_right", "_law_is", "_law_spoilt", "_law_changed_right", "_law_right"]
def loose : List Str := loose0 ++ (loose1 ++ (loose2 ++ (loose3)))
theorem run (w : World) : HandSHeadRun.RunEq R (PySem.W.view R.prog [52]) hk ob 6000 loose w := by
  intro os
  kernel_rfl
end K31

set_option Elab.async false
set_option linter.all false
set_option maxRecDepth 100000
set_option maxHeartbeats 4000000
/-! G22: x[i] and y in x by own methods. -/
namespace Gd
open PySem PySem.Spec PyProof.Rows L2
open Evl (Ex Ex.refl Ex.trans Ex.new Ex.mut ex_t ex_l sq_of st_of fresh_back)
open PySem.W (findIn isFn notFirst)
/-- y in x, y not in x, by x's own method -/
def rInO (C : Addr) (sp : Sp) (neg : Bool) : R2 := fun y x H Q => ∃ a dx fs, x = .ref a ∧ H a = some (.ins C dx fs) ∧ sp [x, y] H (fun v H' => ∃ b, v = .bl b ∧ Q (.bl (if neg then !b else b)) H') E0
/-- x[i] by x's own method -/
def tIxO (C : Addr) (sp : Sp) (ta ti : TE) : TE := fun σ H Q => ta σ H fun x H1 => ti σ H1 fun y H2 => ∃ a dx fs, x = .ref a ∧ H2 a = some (.ins C dx fs) ∧ sp [x, y] H2 Q E0
theorem x_ixO {C : Addr} {sp : Sp} {ta ti : TE} {σ : L2.St} {H : Hp} {Q : VK} (h : ta σ H fun x H1 => ti σ H1 fun y H2 => ∃ a dx fs, x = .ref a ∧ H2 a = some (.ins C dx fs) ∧ sp [x, y] H2 Q E0) : tIxO C sp ta ti σ H Q := h
section
variable {X : Cx} {C f : Addr} {fd : FuncData} {ps : List Str} {sp : Sp} {k : Nat}
theorem op_inO (gu : X.A.guards = some []) (F : FnG X.prog X.w X.K X.mg X.base k f fd ps sp) (hr : Room k X.A) (bi : Binds X.K fd ps [])
    (hs : findIn X.K (.ref C) "__contains__" = some (some (.ref f))) (hf : isFn X.K (.ref f) = true) : OpR X (compareOp .In) (rInO C sp false) := by
  intro pins s σ H x y v u Q I rx ry h
  obtain ⟨a, dx, fs, rfl, ha, q⟩ := h
  obtain rfl : u = Value.ref a := ry
  obtain ⟨mA, J, _⟩ := ins_get I.hok ha
  obtain ⟨od, J, _⟩ := J.look
  obtain ⟨m, hF⟩ := I.fr
  refine PySem.W.in_K hF I.ok.mod.kin J hs hf ?_
  refine thn (F.callAt (ds := []) rfl gu hr bi .nil I (show Vals [V.ref a, x] [Value.ref a, v] from .cons rfl (.cons rx .nil)) (by rw [List.append_nil]; exact q)) ?_
  rintro r s' ⟨v', H', I', rv, b, rfl, q'⟩
  obtain rfl : r = Value.bool b := rv
  exact wpAny_truthy_bool ⟨.bl b, H', I', rfl, q'⟩
theorem op_notInO (gu : X.A.guards = some []) (F : FnG X.prog X.w X.K X.mg X.base k f fd ps sp) (hr : Room k X.A) (bi : Binds X.K fd ps [])
    (hs : findIn X.K (.ref C) "__contains__" = some (some (.ref f))) (hf : isFn X.K (.ref f) = true) : OpR X (compareOp .NotIn) (rInO C sp true) := by
  intro pins s σ H x y v u Q I rx ry h
  obtain ⟨a, dx, fs, rfl, ha, q⟩ := h
  obtain rfl : u = Value.ref a := ry
  obtain ⟨mA, J, _⟩ := ins_get I.hok ha
  obtain ⟨od, J, _⟩ := J.look
  obtain ⟨m, hF⟩ := I.fr
  refine PySem.W.notIn_K hF I.ok.mod.kin J hs hf ?_
  refine thn (F.callAt (ds := []) rfl gu hr bi .nil I (show Vals [V.ref a, x] [Value.ref a, v] from .cons rfl (.cons rx .nil)) (by rw [List.append_nil]; exact q)) ?_
  rintro r s' ⟨v', H', I', rv, b, rfl, q'⟩
  obtain rfl : r = Value.bool b := rv
  exact wpAny_truthy_bool ⟨.bl (!b), H', I', rfl, q'⟩
theorem FunD.fnIn {K : PySem.W.Frag} {x qual : Str} {params : Arguments} {body : List Stmt} {scope : Scope} {dvs : List V} {kws : List (Str × V)} (F : FunD K x qual params body scope dvs kws f fd) : PySem.W.fnIn K f = true := by
  obtain ⟨oc, od, dV, kV, doc, pm, an, cdv, ct, osl, rfl, lk, _⟩ := F.ex
  unfold PySem.W.fnIn
  rw [lk]
theorem pe_ixO {o i : Expr} {pos : Pos} {ta ti : TE} (gu : X.A.guards = some []) (F : FnG X.prog X.w X.K X.mg X.base k f fd ps sp) (hr : Room (k + 1) X.A) (bi : Binds X.K fd ps []) (fn : PySem.W.fnIn X.K f = true)
    (hs : findIn X.K (.ref C) "__getitem__" = some (some (.ref f))) (hf : isFn X.K (.ref f) = true) (ho : PE X o ta) (hi : PE X i ti)
    (hsl : ∀ a iv, subscripted i true (.ref a) iv = runValue (.builtin "lifetime.subscript" ⟨[.ref a, iv], []⟩) := by intro _ _; with_unfolding_all rfl) : PE X (.Subscript o i pos) (tIxO C sp ta ti) := by
  refine ⟨fun pins s σ H Q I h => ?_⟩
  refine Subscript_ (thn (ho.run pins s σ H _ I h) fun u s1 ⟨x, H1, I1, rx, q1⟩ => thn (hi.run pins s1 σ H1 _ I1 q1) fun iv s2 ⟨y, H2, I2, ry, a, dx, fs, ex, ha, q⟩ => ?_)
  subst ex
  obtain rfl : u = Value.ref a := rx
  obtain ⟨mA, J, _⟩ := ins_get I2.hok ha
  obtain ⟨od, J, _⟩ := J.look
  obtain ⟨m, hF⟩ := I2.fr
  refine PySem.W.sub_K hF I2.ok.mod.kin J hs fn hf ?_ (hsl a iv)
  exact F.callAt (A := X.A.in1) (ds := []) rfl gu (Room.in1 hr) bi .nil I2 (show Vals [V.ref a, y] [Value.ref a, iv] from .cons rfl (.cons ry .nil)) (by rw [List.append_nil]; exact q)
end
end Gd

set_option Elab.async false
set_option linter.all false
set_option maxRecDepth 100000
set_option maxHeartbeats 4000000
/-! G23: locked dicts; comprehensions whose steps collect data. -/
namespace Gd
open PySem PySem.Spec PyProof.Rows L2
open Evl (Ex Ex.refl Ex.trans Ex.new Ex.mut ex_t ex_l sq_of st_of fresh_back)
section
variable {K : PySem.W.Frag} {S H S1 H1 : Hp} {L : List Addr} {a : Addr} {kvs : List (Key × V)} {od : Obj}
/-- the frozen part while the dict at a is locked: without a -/
theorem lock_ex (f : Ex S H) : Ex (minus S a) (upd H a (.frz od (.dK kvs))) := fun b o z => by
  by_cases q : b = a
  · subst q
    rw [minus_at] at z
    cases z
  · rw [minus_ne q] at z
    rw [upd_ne q]
    exact f _ _ z
def plus (S1 S : Hp) (a : Addr) : Hp := fun b => if b = a then S a else S1 b
theorem plus_at : plus S1 S a a = S a := if_pos rfl
theorem plus_ne {b : Addr} (h : b ≠ a) : plus S1 S a b = S1 b := if_neg h
theorem lock_back (f : Ex S H) (ha : H a = some (.dK kvs)) (na : a ∉ L) (g : Gr L (minus S a) (upd H a (.frz od (.dK kvs))) S1 H1) :
    H1 a = some (.frz od (.dK kvs)) ∧ S1 a = none ∧ Gr L S H (plus S1 S a) (upd H1 a (.dK kvs)) ∧ Ex S1 (plus S1 S a) := by
  obtain ⟨h1, h2⟩ := g.own na upd_same minus_at
  refine ⟨h1, h2, ⟨fun b o z => ?_, fun b o z => ?_, fun b o nb z => ?_, fun b o nb z y => ?_⟩, fun b o z => ?_⟩
  · by_cases q : b = a
    · subst q
      rw [plus_at]
      exact z
    · rw [plus_ne q]
      exact g.s _ _ (by rw [minus_ne q]; exact z)
  · by_cases q : b = a
    · subst q
      rw [plus_at] at z
      rw [upd_same, ← ha]
      exact f _ _ z
    · rw [plus_ne q] at z
      rw [upd_ne q]
      exact g.i _ _ z
  · by_cases q : b = a
    · subst q
      rw [upd_same, ← ha]
      exact z
    · rw [upd_ne q]
      exact g.h _ _ nb (by rw [upd_ne q]; exact z)
  · by_cases q : b = a
    · subst q
      rw [plus_at]
      exact y
    · rw [plus_ne q]
      exact g.n _ o nb (by rw [upd_ne q]; exact z) (by rw [minus_ne q]; exact y)
  · by_cases q : b = a
    · subst q
      rw [h2] at z
      cases z
    · rw [plus_ne q]
      exact z
/-- an expression that locks a dict -/
theorem i_lockE {t : TE} {σ : L2.St} {Q : VK} (ha : H a = some (.dK kvs)) (h : ∀ od, t σ (upd H a (.frz od (.dK kvs))) fun v H' => H' a = some (.frz od (.dK kvs)) ∧ Q v (upd H' a (.dK kvs))) : tLockE t σ H Q :=
  ⟨a, _, ha, trivial, h⟩
/-- a dict that stands in H, its values data over S -/
structure DkH (K : PySem.W.Frag) (S H : Hp) (v : V) (gs : List (Key × Dt)) (a : Addr) (kvs : List (Key × V)) : Prop where
  e : v = .ref a
  h : H a = some (.dK kvs)
  k : kvs.map (·.1) = gs.map (·.1)
  d : DvAll K S (kvs.map (·.2)) (gs.map (·.2))
theorem Dv.dK_inv {v : V} {gs : List (Key × Dt)} (h : Dv K S v (.dK gs)) : ∃ a kvs, v = .ref a ∧ S a = some (.dK kvs) ∧ kvs.map (·.1) = gs.map (·.1) ∧ DvAll K (Gd.minus S a) (kvs.map (·.2)) (gs.map (·.2)) := by
  cases h with
  | @dK _ H0 a kvs _ h1 h0 e0 h2 h3 => exact ⟨_, _, rfl, h1, h2, h3.mono fun b o z => by
      by_cases q : b = a
      · subst q
        rw [h0] at z
        cases z
      · rw [minus_ne q]
        exact e0 _ _ z⟩
theorem kv_at2 {gs : List (Key × Dt)} {kvs : List (Key × V)} (hk : kvs.map (·.1) = gs.map (·.1)) (d : DvAll K S (kvs.map (·.2)) (gs.map (·.2))) {i : Nat} {k : Key} {x : V} (e : kvs[i]? = some (k, x)) : ∃ g, gs[i]? = some (k, g) ∧ Dv K S x g := by
  obtain ⟨g, h1, h2⟩ := d.get' (i := i) (v := x) (by rw [List.getElem?_map, e]; rfl)
  have h3 : (gs.map (·.1))[i]? = some k := by rw [← hk, List.getElem?_map, e]; rfl
  rw [List.getElem?_map] at h1 h3
  cases q : gs[i]? with
  | none => rw [q] at h1; cases h1
  | some p =>
    rw [q] at h1 h3
    cases h1
    cases h3
    exact ⟨_, rfl, h2⟩
theorem kv_len {gs : List (Key × Dt)} {kvs : List (Key × V)} (hk : kvs.map (·.1) = gs.map (·.1)) : kvs.length = gs.length := by
  have := congrArg List.length hk
  rwa [List.length_map, List.length_map] at this
theorem val_at {gs : List (Key × Dt)} {kvs : List (Key × V)} (hk : kvs.map (·.1) = gs.map (·.1)) (d : DvAll K S (kvs.map (·.2)) (gs.map (·.2))) (k : Key) :
    (∃ x g, valV kvs k = some x ∧ (gs.find? fun p => decide (p.1 = k)).map (·.2) = some g ∧ Dv K S x g) ∨ (valV kvs k = none ∧ (gs.find? fun p => decide (p.1 = k)) = none) := by
  induction kvs generalizing gs with
  | nil =>
    cases gs with
    | nil => exact .inr ⟨rfl, rfl⟩
    | cons g r => cases hk
  | cons p r ih =>
    cases gs with
    | nil => cases hk
    | cons g s =>
      rw [List.map_cons, List.map_cons] at hk
      injection hk with h1 h2
      rw [List.map_cons, List.map_cons] at d
      cases d with
      | cons d1 d2 =>
        by_cases q : p.1 = k
        · refine .inl ⟨p.2, g.2, ?_, ?_, d1⟩
          · unfold valV
            rw [List.find?_cons_of_pos (by simpa using q)]
            rfl
          · rw [List.find?_cons_of_pos (by rw [← h1]; simpa using q)]
            rfl
        · have e1 : valV (p :: r) k = valV r k := by
            unfold valV
            rw [List.find?_cons_of_neg (by simpa using q)]
          rw [e1, List.find?_cons_of_neg (by rw [← h1]; simpa using q)]
          exact ih h2 d2
end
section
variable {K : PySem.W.Frag} {J : It} {n : Nat} {G : Hp → Prop} {Y : Nat → Hp → V → Hp → Prop} {g : TG} {tt : TT} {te tk tv : TE} {vs : List Nat} {σ : L2.St} {S H1 : Hp} {L : List Addr}
/-- what a comprehension asks, at the new list D -/
def LcW (J : It) (g : TG) (tt : TT) (te : TE) (vs : List Nat) (σ : L2.St) (D : Addr) (H1 : Hp) (Qd : Hp → Prop) : Prop := ∃ W : Nat → Nat → Hp → Prop, (∃ m, W 0 m (upd H1 D (.lst []))) ∧ ∀ i m H, W i m H →
  (J.stop i H ∧ Qd H) ∨ (J.go i H ∧ ∃ Nx : Hp → Prop, (∀ H', Nx H' → ∃ m', m' < m ∧ W (i + 1) m' H') ∧ ∀ x H', J.yld i H x H' → g x (wipe σ vs) H' fun σ2 H2 => wipe σ2 vs = wipe σ vs ∧ tt σ2 H2 fun b H3 =>
    if b = true then te σ2 H3 fun y H4 => ∃ acc, H4 D = some (.lst acc) ∧ acc.length < sizeLine ∧ Nx (upd H4 D (.lst (acc ++ [y]))) else Nx H3)
/-- .. of a dict's comprehension -/
def DcW (J : It) (g : TG) (tt : TT) (tk tv : TE) (vs : List Nat) (σ : L2.St) (D : Addr) (H1 : Hp) (Qd : Hp → Prop) : Prop := ∃ W : Nat → Nat → Hp → Prop, (∃ m, W 0 m (upd H1 D (.dK []))) ∧ ∀ i m H, W i m H →
  (J.stop i H ∧ Qd H) ∨ (J.go i H ∧ ∃ Nx : Hp → Prop, (∀ H', Nx H' → ∃ m', m' < m ∧ W (i + 1) m' H') ∧ ∀ x H', J.yld i H x H' → g x (wipe σ vs) H' fun σ2 H2 => wipe σ2 vs = wipe σ vs ∧ tt σ2 H2 fun b H3 =>
    if b = true then tk σ2 H3 fun y H4 => tv σ2 H4 fun z H5 => ∃ kvs k, y = kV k ∧ H5 D = some (.dK kvs) ∧ kvs.length < sizeLine ∧ Nx (upd H5 D (.dK (putK kvs k z))) else Nx H3)
theorem x_lc {wi : TI} {H : Hp} {Q : VK} (h : wi σ H fun J H1 => ∀ D, H1 D = none → LcW J g tt te vs σ D H1 (Q (.ref D))) : tLc wi g tt te vs σ H Q := h
theorem x_dc {wi : TI} {H : Hp} {Q : VK} (h : wi σ H fun J H1 => ∀ D, H1 D = none → DcW J g tt tk tv vs σ D H1 (Q (.ref D))) : tDc wi g tt tk tv vs σ H Q := h
/-- a step within a comprehension: D apart -/
theorem Gr.mutD {S1 Hc S' H4 : Hp} {D : Addr} {o : HO} (g1 : Gr L S H1 S1 Hc) (g2 : Gr L S1 Hc S' H4) (hD : H1 D = none) (s4 : S' D = none) : Gr L S H1 S' (upd H4 D o) := by
  refine (g1.trans g2 fun x hx => .inl hx).trans (Gr.mut (L := [D]) g2.i s4 (by simp)) ?_
  intro z hz
  have e1 : z = D := by simpa using hz
  subst e1
  exact .inr hD
/-- data are collected; Iv: what stands at the i-th turn, ds collected -/
theorem lc_G (w : Walk J n G Y) (Iv : Nat → List Dt → Hp → Hp → Prop) (f : Ex S H1) {D : Addr} (hD : H1 D = none) (nD : D ∉ L) (hz : n < 1000000) (h0 : Iv 0 [] S (upd H1 D (.lst [])))
    (st : ∀ i ds S1 Hc o, Iv i ds S1 Hc → S1 D = none → Iv i ds S1 (upd Hc D o)) (hG : ∀ i ds S1 Hc, Gr L S H1 S1 Hc → Iv i ds S1 Hc → G Hc)
    (turn : ∀ i x ds S1 Hc Hc' (Qe : VK) (Nx : Hp → Prop), i < n → Gr L S H1 S1 Hc → Iv i ds S1 Hc → Y i Hc x Hc' →
      (∀ S' H4 y d, Gr L S1 Hc S' H4 → Dv K S' y d → Iv (i + 1) (ds ++ [d]) S' H4 → Qe y H4) → (∀ S' H4, Gr L S1 Hc S' H4 → Iv (i + 1) ds S' H4 → Nx H4) →
      g x (wipe σ vs) Hc' fun σ2 H2 => wipe σ2 vs = wipe σ vs ∧ tt σ2 H2 fun b H3 => if b = true then te σ2 H3 Qe else Nx H3)
    {Qd : Hp → Prop} (done : ∀ S' H' xs ds, Gr L S H1 S' H' → S' D = none → H' D = some (.lst xs) → DvAll K S' xs ds → Iv n ds S' H' → Qd H') : LcW J g tt te vs σ D H1 Qd := by
  have sD : S D = none := fresh_back f hD
  refine lc_it w (fun i H => ∃ S1 xs ds, Gr L S H1 S1 H ∧ S1 D = none ∧ H D = some (.lst xs) ∧ DvAll K S1 xs ds ∧ ds.length ≤ i ∧ Iv i ds S1 H) ?_ ?_ ?_ ?_
  · exact ⟨S, [], [], Gr.newO f hD, sD, upd_same, .nil, Nat.le_refl _, h0⟩
  · rintro i H _ ⟨S1, xs, ds, g1, _, _, _, _, iv⟩
    exact hG i ds S1 H g1 iv
  · rintro i x H H' hi ⟨S1, xs, ds, g1, s1, hl, dv, hn, iv⟩ y
    refine turn i x ds S1 H H' _ _ hi g1 iv y ?_ ?_
    · intro S' H4 u d g2 du iv'
      obtain ⟨h4, s4⟩ := g2.own nD hl s1
      refine ⟨_, h4, ?_, S', xs ++ [u], ds ++ [d], Gr.mutD g1 g2 hD s4, s4, upd_same, (dv.mono g2.s).append (.cons du .nil), ?_, st _ _ _ _ _ iv' s4⟩
      · rw [dv.length, sizeLine_eq]
        omega
      · rw [List.length_append, List.length_singleton]
        omega
    · intro S' H4 g2 iv'
      obtain ⟨h4, s4⟩ := g2.own nD hl s1
      exact ⟨S', xs, ds, g1.trans g2 fun x hx => .inl hx, s4, h4, dv.mono g2.s, by omega, iv'⟩
  · rintro H ⟨S1, xs, ds, g1, s1, hl, dv, _, iv⟩
    exact done S1 H xs ds g1 s1 hl dv iv
/-- .. the i-th turn collects out i, or nothing -/
theorem lc_P (w : Walk J n G Y) (out : Nat → Option Dt) (f : Ex S H1) {D : Addr} (hD : H1 D = none) (hz : n < 1000000) (hG : ∀ S1 Hc, Gr [] S H1 S1 Hc → G Hc)
    (turn : ∀ i x S1 Hc Hc' (Qe : VK) (Nx : Hp → Prop), i < n → Gr [] S H1 S1 Hc → Y i Hc x Hc' →
      (∀ S' H4 y d, Gr [] S1 Hc S' H4 → Dv K S' y d → out i = some d → Qe y H4) → (∀ S' H4, Gr [] S1 Hc S' H4 → out i = none → Nx H4) →
      g x (wipe σ vs) Hc' fun σ2 H2 => wipe σ2 vs = wipe σ vs ∧ tt σ2 H2 fun b H3 => if b = true then te σ2 H3 Qe else Nx H3)
    {Qd : Hp → Prop} (done : ∀ S' H' xs, Gr [] S H1 S' H' → S' D = none → H' D = some (.lst xs) → DvAll K S' xs ((List.range n).filterMap out) → Qd H') : LcW J g tt te vs σ D H1 Qd := by
  refine lc_G (K := K) (L := []) w (fun i ds _ _ => ds = (List.range i).filterMap out) f hD (fun m => nomatch m) hz rfl (fun _ _ _ _ _ h _ => h) (fun _ _ S1 Hc g1 _ => hG S1 Hc g1) ?_ ?_
  · rintro i x ds S1 Hc Hc' Qe Nx hi g1 rfl y q1 q2
    refine turn i x S1 Hc Hc' Qe Nx hi g1 y (fun S' H4 u d g2 du e => q1 S' H4 u d g2 du ?_) (fun S' H4 g2 e => q2 S' H4 g2 ?_)
    · rw [List.range_succ, List.filterMap_append, List.filterMap_cons, e, List.filterMap_nil]
    · rw [List.range_succ, List.filterMap_append, List.filterMap_cons, e, List.filterMap_nil, List.append_nil]
  · rintro S' H' xs ds g1 s1 hl dv rfl
    exact done S' H' xs g1 s1 hl dv
theorem range_fm {α β : Type} (h : α → Option β) : ∀ (as : List α) (out : Nat → Option β), (∀ i a, as[i]? = some a → out i = h a) → (List.range as.length).filterMap out = as.filterMap h
  | [], _, _ => rfl
  | a :: r, out, e => by
    have e0 : out 0 = h a := e 0 a rfl
    have ih := range_fm h r (fun i => out (i + 1)) fun i b hb => e (i + 1) b (by simpa using hb)
    rw [List.length_cons, List.range_succ_eq_map, List.filterMap_cons, List.filterMap_map, List.filterMap_cons, e0]
    cases q : h a with
    | none => exact ih
    | some y => exact congrArg (y :: ·) ih
end
end Gd

set_option Elab.async false
set_option linter.all false
set_option maxRecDepth 100000
set_option maxHeartbeats 4000000
/-! G24: {**d, k: v}. -/
namespace Gd
open PySem PySem.Spec PyProof.Rows L2
open Evl (Ex Ex.refl Ex.trans Ex.new Ex.mut ex_t ex_l sq_of st_of fresh_back)
section
variable {P : Program} {w : World} {A : Around} {E : Value → Shared → Prop} {s : Shared} {D a : Addr}
theorem dictPut_pairs {kvs : List (Key × Value)} {k : Key} {key v : Value} {Q : Unit → Shared → Prop} (hkey : (mixKind P w).is k key = true) (hm : s.heap.DictOf (mixKind P w) D kvs) (hsz : kvs.length ≤ sizeLine)
    (hQ : ∀ h', h'.DictOf (mixKind P w) D (stored kvs k v) → Heap.SameBut D s.heap h' → Q () { s with heap := h' }) : wpAny (model P w) A (dictPut D ((mixKind P w).hash k) key v) Q E s := by
  obtain ⟨o, es, ep, ho, hc, hd, hk, hp, hn⟩ := hm
  have hes : es.size ≤ sizeLine := by
    have e1 := hp.length
    have e2 : es.toList.length = es.size := by simp
    omega
  unfold dictPut
  refine wpAny_bind (wpAny_dictFind_of hkey ho hd hk ?_)
  have hidx : (es.findIdx? fun e => (mixKind P w).is k e.key) = kvs.findIdx? fun kv => decide (kv.1 = k) := by
    rw [← hp.findIdx k]
    obtain ⟨l⟩ := es
    simp
  cases hi : es.findIdx? fun e => (mixKind P w).is k e.key with
  | some i =>
    refine wpAny_updateDict ho hd (hQ _ ⟨_, _, ep, Heap.get?_update_self _ ho (Obj.isFreed_of_dict (Obj.data_mapDict hd _)), hc.mapDict _, Obj.data_mapDict hd _, hk.modify _ _, ?_, ?_⟩ (Heap.SameBut.update ..))
    · rw [stored, if_pos (any_of_findIdx_some (hidx ▸ hi))]
      have hl : (es.toList.findIdx? fun e => (mixKind P w).is k e.key) = some i := by
        rw [← hi]
        obtain ⟨l⟩ := es
        simp
      have := hp.modify hn hl v
      obtain ⟨l⟩ := es
      simpa using this
    · rw [stored, if_pos (any_of_findIdx_some (hidx ▸ hi)), keys_map_store]
      exact hn
  | none =>
    have hnot : k ∉ kvs.map (·.1) := not_mem_of_findIdx_none (hidx ▸ hi)
    have hany : ¬ (kvs.any fun kv => decide (kv.1 = k)) = true := by
      rw [List.any_eq_true]
      rintro ⟨kv, hkv, he⟩
      exact hnot (List.mem_map.mpr ⟨kv, hkv, of_decide_eq_true he⟩)
    refine wpAny_updateDictKeys (hz := hes) ho hd (hQ _ ⟨_, _, ep + 1, Heap.get?_update_self _ ho (Obj.isFreed_of_dict (Obj.data_mapDictKeys hd _)), hc.mapDictKeys _, Obj.data_mapDictKeys hd _, hk.push hkey _, ?_, ?_⟩ (Heap.SameBut.update ..))
    · rw [stored, if_neg hany]
      have := hp.append hkey ((mixKind P w).hash k) v
      obtain ⟨l⟩ := es
      simpa using this
    · rw [stored, if_neg hany, List.map_append, List.nodup_append]
      refine ⟨hn, by simp, ?_⟩
      intro x hx b hb
      simp only [List.map_cons, List.map_nil, List.mem_singleton] at hb
      subst hb
      exact fun e => hnot (e ▸ hx)
theorem merge_pairs {acc more : List (Key × Value)} {Q : Unit → Shared → Prop} (ne : D ≠ a) (hs : (a == sysModules) = false) (hD : s.heap.DictOf (mixKind P w) D acc) (ha : s.heap.DictOf (mixKind P w) a more) (z : acc.length + more.length ≤ sizeLine)
    (hQ : ∀ h', h'.DictOf (mixKind P w) D (merged acc more) → Heap.SameBut D s.heap h' → Q () { s with heap := h' }) : wpAny (model P w) A (mergeMapping D (.ref a) false) Q E s := by
  have ha0 := ha
  obtain ⟨o, es, ep, ho, hc, hd, hk, hp, hn⟩ := ha
  obtain ⟨oD, eD, epD, hoD, hcD, hdD, _⟩ := id hD
  have hes : es.size = more.length := by
    have e1 := hp.length
    rw [← e1]
    simp
  unfold mergeMapping
  refine wpAny_bind (wpAny_isInstance ha0.typeIs isSubtype_dict_dict ?_)
  dsimp only
  rw [if_pos rfl]
  refine wpAny_bind (wpAny_specialOf ha0.typeIs PySem.F.slot_dict_iter.lookup ?_)
  refine wpAny_bind (wpAny_pure ?_)
  rw [show ((some (Value.builtin "dict.__iter__") : Option Value) == some (Value.builtin "dict.__iter__")) = true from by simp]
  dsimp only
  rw [hs]
  simp only [Bool.false_eq_true, if_false]
  refine wpAny_bind (wpAny_dictEntries hoD hdD ?_)
  have core : wpAny (model P w) A (do
          let __do_lift ← dictEntries a
          let epoch ← dictEpoch a
          forIn (List.range __do_lift.size) PUnit.unit fun i __s => do
              let __do_lift ← dictEntries a
              match __do_lift[i]? with
                | some e => do
                  holding [e.key, e.val] (dictPut D e.hash e.key e.val)
                  let __do_lift ← dictEpoch a
                  if (__do_lift != epoch) = true then do
                      unsupported "dict.changed-during-merge"
                      pure (ForInStep.yield PUnit.unit)
                    else pure (ForInStep.yield PUnit.unit)
                | x => do
                  unsupported "dict.changed-during-merge"
                  pure (ForInStep.yield PUnit.unit)
          pure ()) Q E s := by
    refine wpAny_bind (wpAny_dictEntries ho hd (wpAny_bind (wpAny_dictEpoch ho hd ?_)))
    refine wpAny_bind ?_
    refine wpAny_forIn_list _ (fun l r s' => ∃ i, l = List.range' i (es.size - i) ∧ i ≤ es.size ∧ ∃ h', s' = { s with heap := h' } ∧ Heap.SameBut D s.heap h' ∧ h'.DictOf (mixKind P w) D (merged acc (more.take i))) _ ?_ ?_ _ _
      ⟨0, by rw [List.range_eq_range']; simp, Nat.zero_le _, s.heap, rfl, Heap.SameBut.refl _ _, by simpa [merged] using hD⟩
    · rintro x l r s1 ⟨i, hl1, hi, h1, rfl, sb, hD1⟩
      have lt : i < es.size := by
        rcases Nat.lt_or_ge i es.size with q | q
        · exact q
        · rw [Nat.sub_eq_zero_of_le q] at hl1
          simp at hl1
      obtain ⟨rfl, hl2⟩ : x = i ∧ l = List.range' (i + 1) (es.size - (i + 1)) := by
        rw [show es.size - i = (es.size - (i + 1)) + 1 by omega, List.range'_succ] at hl1
        injection hl1 with z1 z2
        exact ⟨z1, z2⟩
      have ho1 : h1.get? a = some o := (sb.2 a (Ne.symm ne)).trans ho
      have hm : x < more.length := by omega
      obtain ⟨k1, k2⟩ := hp.get? (i := x) (e := es[x]) (k := (more[x]).1) (v := (more[x]).2) (by rw [Array.getElem?_toList]; exact Array.getElem?_eq_getElem lt) (List.getElem?_eq_getElem hm)
      obtain ⟨k', q1, q2⟩ := hk es[x] (Array.getElem_mem lt)
      have kk := (mixKind P w).inj _ _ _ q1 k1
      subst kk
      refine wpAny_bind (wpAny_dictEntries (s := { s with heap := h1 }) ho1 hd ?_)
      rw [Array.getElem?_eq_getElem lt]
      show wpAny _ _ (holding [es[x].key, es[x].val] _ >>= _) _ _ _
      rw [q2]
      refine wpAny_bind (wpAny_holding (dictPut_pairs (s := { s with heap := h1 }) k1 hD1 ?_ fun h2 hD2 sb2 => ?_))
      · have := merged_length_le acc (more.take x)
        rw [List.length_take] at this
        omega
      · have ho2 : h2.get? a = some o := (sb2.2 a (Ne.symm ne)).trans ho1
        refine wpAny_bind (wpAny_dictEpoch (s := { s with heap := h2 }) ho2 hd ?_)
        rw [if_neg (by simp)]
        refine wpAny_pure ⟨x + 1, hl2, lt, h2, rfl, sb.trans sb2, ?_⟩
        rw [merged_take_succ acc more x more[x] (List.getElem?_eq_getElem hm), ← k2]
        exact hD2
    · rintro r s1 ⟨i, hl1, hi, h1, rfl, sb, hD1⟩
      have ei : i = es.size := by
        rcases Nat.lt_or_ge i es.size with q | q
        · rw [show es.size - i = (es.size - (i + 1)) + 1 by omega, List.range'_succ] at hl1
          exact nomatch hl1
        · exact Nat.le_antisymm hi q
      rw [ei, hes, List.take_length] at hD1
      exact wpAny_pure (hQ h1 hD1 sb)
  by_cases he : eD.isEmpty = true
  · rw [if_pos he]
    refine wpAny_bind (wpAny_dictEntries ho hd (wpAny_bind ?_))
    refine wpAny_forIn_array' _ (fun rest b s' => s' = s ∧ ∀ e ∈ rest, e ∈ es.toList) _ ?_ ?_ _ _ ⟨rfl, fun e h => h⟩
    · rintro e rest b s' ⟨rfl, hm⟩
      obtain ⟨k, q1, q2⟩ := hk e (by simpa using hm e (List.mem_cons_self ..))
      rcases keyIs_shape (show keyIs k e.key = true from q1) with ⟨i, t, _, ev⟩ | ⟨i, t, _, ev⟩
      · rw [ev]
        exact wpAny_pure ⟨rfl, fun x hx => hm x (List.mem_cons_of_mem _ hx)⟩
      · rw [ev]
        exact wpAny_pure ⟨rfl, fun x hx => hm x (List.mem_cons_of_mem _ hx)⟩
    · rintro b s' ⟨rfl, _⟩
      exact core
  · rw [if_neg he]
    exact core
theorem merged_new : ∀ {more acc : List (Key × Value)}, ((acc ++ more).map (·.1)).Nodup → merged acc more = acc ++ more
  | [], acc, _ => by simp [merged]
  | p :: r, acc, h => by
    have hn : ¬ (acc.any fun kv => decide (kv.1 = p.1)) = true := by
      rw [List.any_eq_true]
      rintro ⟨kv, hkv, he⟩
      rw [List.map_append, List.nodup_append] at h
      exact h.2.2 kv.1 (List.mem_map.mpr ⟨kv, hkv, rfl⟩) p.1 (by simp) (of_decide_eq_true he)
    have e : stored acc p.1 p.2 = acc ++ [p] := by
      unfold stored
      rw [if_neg hn]
    have := merged_new (more := r) (acc := acc ++ [p]) (by simpa using h)
    show merged (stored acc p.1 p.2) r = _
    rw [e, this]
    simp
end
/-- {**e, k: v} -/
def tDStar (te tk tv : TE) : TE := fun σ H Q => ∀ D, H D = none → te σ (upd H D (.dK [])) fun x H1 => ∃ a kvs, x = .ref a ∧ a ≠ D ∧ H1 D = some (.dK []) ∧ Rd H1 a (.dK kvs) ∧ kvs.length ≤ 1000 ∧
  ∀ D2, H1 D2 = none → tk σ (upd (upd H1 D (.dK kvs)) D2 (.dK [])) fun y H2 => tv σ H2 fun z H3 => ∃ k, y = kV k ∧ H3 D = some (.dK kvs) ∧ H3 D2 = some (.dK []) ∧ Q (.ref D) (upd (upd H3 D2 (.dK [(k, z)])) D (.dK (putK kvs k z)))
theorem x_dstar {te tk tv : TE} {σ : L2.St} {H : Hp} {Q : VK} (h : ∀ D, H D = none → te σ (upd H D (.dK [])) fun x H1 => ∃ a kvs, x = .ref a ∧ a ≠ D ∧ H1 D = some (.dK []) ∧ Rd H1 a (.dK kvs) ∧ kvs.length ≤ 1000 ∧
  ∀ D2, H1 D2 = none → tk σ (upd (upd H1 D (.dK kvs)) D2 (.dK [])) fun y H2 => tv σ H2 fun z H3 => ∃ k, y = kV k ∧ H3 D = some (.dK kvs) ∧ H3 D2 = some (.dK []) ∧ Q (.ref D) (upd (upd H3 D2 (.dK [(k, z)])) D (.dK (putK kvs k z)))) : tDStar te tk tv σ H Q := h
section
variable {X : Cx}
theorem pe_dstar {e k v : Expr} {pos : Pos} {te tk tv : TE} (he : PE X e te) (hk : PE X k tk) (hv : PE X v tv) : PE X (.Dict [none, some k] [e, v] pos) (tDStar te tk tv) := by
  refine ⟨fun pins s σ H Q I q => ?_⟩
  rw [arm_eval_Dict]
  refine wpAny_bind (wpAny_standAt ?_)
  show wpAny _ _ (dictDisplay [(none, do let x ← eval e X.env; standAt pos; pure x), (some (eval k X.env), do let x ← eval v X.env; standAt pos; pure x)]) _ _ s
  unfold dictDisplay
  simp only [List.forIn_cons, List.forIn_nil]
  refine wpAny_bind (wpAny_bind (wpAny_bind ?_))
  rw [if_pos (show ([] : List (Sem Value × Sem Value)).isEmpty = true from rfl)]
  refine wpAny_pure ?_
  dsimp only
  refine wpAny_bind (wpAny_alloc ?_)
  have hn := I.hok.fresh (Nat.le_refl s.heap.objs.size)
  have I1 := I.laid (a := s.heap.objs.size) (o := .dK []) (h' := s.heap.push { cls := .type "dict", data := .dict #[] }) (t' := s.toks) (fun _ _ q => Heap.get?_push_of_some _ q) (Nat.le_refl _) (dk_empty s.heap I.big)
  generalize s.heap.objs.size = D at hn I1
  refine wpAny_bind (wpAny_holding (wpAny_bind (thn (he.run pins _ σ _ _ I1 (q D hn)) ?_)))
  rintro u s1 ⟨x, H1, I2, rx, a, kvs, rfl, ne, hD, ha, hz, q⟩
  obtain rfl : u = Value.ref a := rx
  refine wpAny_bind (wpAny_standAt (wpAny_pure ?_))
  obtain ⟨_, dD, vs0, r0, ddD⟩ := dk_of I2.hok hD
  cases r0
  obtain ⟨_, da, vs, rel, dda⟩ := dk_rd I2.hok ha
  have nd : (vs.map (·.1)).Nodup := by
    obtain ⟨_, _, _, _, _, _, _, _, nd⟩ := dda
    exact nd
  have lv := rel.length
  refine wpAny_bind (wpAny_onRaise (wpAny_tryCatch (wpAny_onRaise (wpAny_holding (merge_pairs (Ne.symm ne) da ddD dda (by rw [List.length_nil, sizeLine_eq]; omega) fun h1 dd1 sb1 => ?_)))))
  rw [merged_new (by simpa using nd), List.nil_append] at dd1
  have I3 : Inv X pins σ (upd H1 D (.dK kvs)) { s1 with heap := h1 } := by
    have he' : ∃ q, h1.get? D = some q := let ⟨q, _, _, hq, _⟩ := dd1; ⟨q, hq⟩
    exact d_write I2 (by rw [hD]; exact True.intro) sb1 he' (dk_new (by rw [sizeLine_eq]; omega) dD rel dd1)
  refine wpAny_pure ?_
  dsimp only
  refine wpAny_bind ?_
  rw [if_neg (by simp)]
  refine wpAny_pure ?_
  dsimp only
  refine wpAny_pure ?_
  dsimp only
  refine wpAny_bind ?_
  rw [if_neg (by simp)]
  simp only [List.nil_append]
  have hn2 := I3.hok.fresh (Nat.le_refl h1.objs.size)
  have I4 := I3.laid (a := h1.objs.size) (o := .dK []) (h' := h1.push { cls := .type "dict", data := .dict #[] }) (t' := s1.toks) (fun _ _ q => Heap.get?_push_of_some _ q) (Nat.le_refl _) (dk_empty h1 I3.big)
  have ne2 : h1.objs.size ≠ D := fun z => by
    rw [z, upd_same] at hn2
    cases hn2
  rw [upd_ne ne2] at hn2
  refine wpAny_bind (wpAny_holding (wpAny_subDict (knd := mixKind X.prog X.w) (by simp) (evalPairs_cons (thn (hk.run pins _ σ _ _ I4 (q _ hn2)) ?_))))
  generalize h1.objs.size = D2 at hn2 ne2 q I4
  rintro ku s2 ⟨y, H2, I5, ry, q2⟩
  refine wpAny_bind (thn (hv.run pins s2 σ H2 _ I5 q2) ?_)
  rintro zu s3 ⟨z, H3, I6, rz, k', rfl, e1, e2, q3⟩
  refine wpAny_bind (wpAny_standAt (wpAny_pure (evalPairs_nil ?_)))
  obtain ⟨_, dD2, vs1, r1, ddD2⟩ := dk_of I6.hok e2
  cases r1
  refine ⟨[(k', zu)], ⟨kV_is ry, rfl, trivial⟩, ddD2, fun h4 dd4 sb4 => ?_⟩
  have r4 : KV [(k', z)] [(k', zu)] := .cons ⟨rfl, rz⟩ .nil
  have e4 : merged [] [(k', zu)] = [(k', zu)] := rfl
  rw [e4] at dd4
  have I7 : Inv X pins σ (upd H3 D2 (.dK [(k', z)])) { s3 with heap := h4, toks := s3.toks + [(ku, zu)].length } := by
    have he' : ∃ q, h4.get? D2 = some q := let ⟨q, _, _, hq, _⟩ := dd4; ⟨q, hq⟩
    exact d_write I6 (by rw [e2]; exact True.intro) sb4 he' (dk_new (by show 1 ≤ sizeLine; decide) dD2 r4 dd4)
  have hD7 : (upd H3 D2 (.dK [(k', z)])) D = some (.dK kvs) := by
    rw [upd_ne (Ne.symm ne2)]
    exact e1
  obtain ⟨_, dD7, vs7, r7, dd7⟩ := dk_of I7.hok hD7
  have l7 := r7.length
  refine wpAny_bind (wpAny_onRaise (wpAny_holding (merge_pairs (s := { s3 with heap := h4, toks := s3.toks + [(ku, zu)].length }) (Ne.symm ne2) dD2 dd7 dd4 (by rw [← l7, sizeLine_eq]; simp; omega) fun h8 dd8 sb8 => ?_)))
  refine wpAny_pure ?_
  dsimp only
  refine wpAny_pure ⟨.ref D, _, ?_, rfl, q3⟩
  have he' : ∃ q, h8.get? D = some q := let ⟨q, _, _, hq, _⟩ := dd8; ⟨q, hq⟩
  exact d_write (s := { s3 with heap := h4, toks := s3.toks + [(ku, zu)].length }) I7 (by rw [hD7]; exact True.intro) sb8 he' (dk_new (by have := length_putK kvs k' z; rw [sizeLine_eq]; omega) dD7 (r7.put k' rz) dd8)
end
end Gd

set_option Elab.async false
set_option linter.all false
set_option maxRecDepth 100000
set_option maxHeartbeats 4000000
/-! G25: comprehensions and loops over locked dicts; dicts collected. -/
namespace Gd
open PySem PySem.Spec PyProof.Rows L2
open Evl (Ex Ex.refl Ex.trans Ex.new Ex.mut ex_t ex_l sq_of st_of fresh_back)
section
variable {K : PySem.W.Frag} {S : Hp} {a : Addr} {od : Obj} {kvs : List (Key × V)} {gs : List (Key × Dt)}
theorem walk_keysD (hk : kvs.map (·.1) = gs.map (·.1)) (d : DvAll K S (kvs.map (·.2)) (gs.map (·.2))) : Walk (Itk a od kvs) gs.length (fun H => H a = some (.frz od (.dK kvs))) (fun i H x H' => H' = H ∧ ∃ p, gs[i]? = some p ∧ x = kV p.1) := by
  rw [← kv_len hk]
  refine walk_keys.mono (fun _ h => h) ?_
  rintro i H x H' _ _ ⟨rfl, k, v, e, rfl⟩
  obtain ⟨g, h1, _⟩ := kv_at2 hk d e
  exact ⟨rfl, _, h1, rfl⟩
theorem walk_valsD (hk : kvs.map (·.1) = gs.map (·.1)) (d : DvAll K S (kvs.map (·.2)) (gs.map (·.2))) : Walk (Itd a od kvs) gs.length (fun H => H a = some (.frz od (.dK kvs))) (fun i H x H' => H' = H ∧ ∃ p, gs[i]? = some p ∧ Dv K S x p.2) := by
  rw [← kv_len hk]
  refine walk_values.mono (fun _ h => h) ?_
  rintro i H x H' _ _ ⟨rfl, k, e⟩
  obtain ⟨g, h1, h2⟩ := kv_at2 hk d e
  exact ⟨rfl, _, h1, h2⟩
theorem walk_itemsD (hk : kvs.map (·.1) = gs.map (·.1)) (d : DvAll K S (kvs.map (·.2)) (gs.map (·.2))) : Walk (Iti a od kvs) gs.length (fun H => H a = some (.frz od (.dK kvs))) (fun i H x H' => ∃ T p v, x = .ref T ∧ H T = none ∧ H' = upd H T (.tup [kV p.1, v]) ∧ gs[i]? = some p ∧ Dv K S v p.2) := by
  rw [← kv_len hk]
  refine walk_items.mono (fun _ h => h) ?_
  rintro i H x H' _ _ ⟨T, u, v, rfl, hT, rfl, e1, e2⟩
  dsimp only at e1 e2
  cases q : kvs[i]? with
  | none => rw [q] at e1; cases e1
  | some kv =>
    rw [q] at e1 e2
    cases e1
    cases e2
    obtain ⟨g, h1, h2⟩ := kv_at2 (k := kv.1) (x := kv.2) hk d q
    exact ⟨T, _, _, rfl, hT, rfl, h1, h2⟩
end
section
variable {K : PySem.W.Frag} {J : It} {n : Nat} {G : Hp → Prop} {Y : Nat → Hp → V → Hp → Prop} {g : TG} {tt : TT} {te tk tv : TE} {vs : List Nat} {σ : L2.St} {S S0 H1 : Hp} {L : List Addr} {a : Addr} {od : Obj} {kvs : List (Key × V)} {gs : List (Key × Dt)}
/-- .. by the entries of a dict -/
theorem lc_E {α : Type} {as : List α} (w : Walk J as.length G Y) (h : α → Option Dt) (f : Ex S H1) {D : Addr} (hD : H1 D = none) (hz : as.length < 1000000) (hG : ∀ S1 Hc, Gr [] S H1 S1 Hc → G Hc)
    (turn : ∀ i p x S1 Hc Hc' (Qe : VK) (Nx : Hp → Prop), as[i]? = some p → Gr [] S H1 S1 Hc → Y i Hc x Hc' →
      (∀ S' H4 y d, Gr [] S1 Hc S' H4 → Dv K S' y d → h p = some d → Qe y H4) → (∀ S' H4, Gr [] S1 Hc S' H4 → h p = none → Nx H4) →
      g x (wipe σ vs) Hc' fun σ2 H2 => wipe σ2 vs = wipe σ vs ∧ tt σ2 H2 fun b H3 => if b = true then te σ2 H3 Qe else Nx H3)
    {Qd : Hp → Prop} (done : ∀ S' H' xs, Gr [] S H1 S' H' → S' D = none → H' D = some (.lst xs) → DvAll K S' xs (as.filterMap h) → Qd H') : LcW J g tt te vs σ D H1 Qd := by
  refine lc_P (K := K) w (fun i => as[i]?.bind h) f hD hz hG ?_ ?_
  · intro i x S1 Hc Hc' Qe Nx hi g1 y q1 q2
    have e : as[i]? = some as[i] := List.getElem?_eq_getElem hi
    refine turn i as[i] x S1 Hc Hc' Qe Nx e g1 y (fun S' H4 y d g2 dv e2 => q1 S' H4 y d g2 dv ?_) (fun S' H4 g2 e2 => q2 S' H4 g2 ?_)
    · rw [e]
      exact e2
    · rw [e]
      exact e2
  · intro S' H' xs g1 s1 hl dv
    rw [range_fm h as _ fun i p e => by rw [e]; rfl] at dv
    exact done S' H' xs g1 s1 hl dv
/-- a dict is collected, its keys differ -/
theorem dc_E {α : Type} {as : List α} (w : Walk J as.length G Y) (h : α → Option (Key × Dt)) (f : Ex S H1) {D : Addr} (hD : H1 D = none) (hz : as.length < 1000000) (hG : ∀ S1 Hc, Gr [] S H1 S1 Hc → G Hc) (nd : ((as.filterMap h).map (·.1)).Nodup)
    (turn : ∀ i p x S1 Hc Hc' (Qe : V → V → Hp → Prop) (Nx : Hp → Prop), as[i]? = some p → Gr [] S H1 S1 Hc → Y i Hc x Hc' →
      (∀ S' H4 k z d, Gr [] S1 Hc S' H4 → Dv K S' z d → h p = some (k, d) → Qe (kV k) z H4) → (∀ S' H4, Gr [] S1 Hc S' H4 → h p = none → Nx H4) →
      g x (wipe σ vs) Hc' fun σ2 H2 => wipe σ2 vs = wipe σ vs ∧ tt σ2 H2 fun b H3 => if b = true then tk σ2 H3 fun y H4 => tv σ2 H4 fun z H5 => Qe y z H5 else Nx H3)
    {Qd : Hp → Prop} (done : ∀ S' H' kvs, Gr [] S H1 S' H' → S' D = none → H' D = some (.dK kvs) → kvs.map (·.1) = (as.filterMap h).map (·.1) → DvAll K S' (kvs.map (·.2)) ((as.filterMap h).map (·.2)) → Qd H') : DcW J g tt tk tv vs σ D H1 Qd := by
  have sD : S D = none := fresh_back f hD
  refine ⟨fun i m H => m = as.length - i ∧ i ≤ as.length ∧ ∃ S1 kvs, Gr [] S H1 S1 H ∧ S1 D = none ∧ H D = some (.dK kvs) ∧ kvs.map (·.1) = ((as.take i).filterMap h).map (·.1) ∧ DvAll K S1 (kvs.map (·.2)) (((as.take i).filterMap h).map (·.2)), ⟨as.length, by simp, Nat.zero_le _, S, [], Gr.newO f hD, sD, upd_same, rfl, .nil⟩, ?_⟩
  rintro i m H ⟨rfl, hi, S1, kvs, g1, s1, hl, hk, dv⟩
  have q := hG S1 H g1
  by_cases hlt : i < as.length
  · have e : as[i]? = some as[i] := List.getElem?_eq_getElem hlt
    have et : as.take (i + 1) = as.take i ++ [as[i]] := by rw [List.take_add_one, e]; rfl
    refine .inr ⟨w.goes i H hlt q, fun H' => i + 1 ≤ as.length ∧ ∃ S1 kvs, Gr [] S H1 S1 H' ∧ S1 D = none ∧ H' D = some (.dK kvs) ∧ kvs.map (·.1) = ((as.take (i + 1)).filterMap h).map (·.1) ∧ DvAll K S1 (kvs.map (·.2)) (((as.take (i + 1)).filterMap h).map (·.2)), fun H' p' => ⟨as.length - (i + 1), by omega, rfl, p'⟩, fun x H' y => ?_⟩
    refine turn i as[i] x S1 H H' (fun y z H5 => ∃ kvs k, y = kV k ∧ H5 D = some (.dK kvs) ∧ kvs.length < sizeLine ∧ _) _ e g1 (w.yields i H x H' hlt q y) ?_ ?_
    · intro S' H4 k z d g2 dz e2
      obtain ⟨h4, s4⟩ := g2.own (fun m => nomatch m) hl s1
      have nk : valV kvs k = none := by
        cases qv : valV kvs k with
        | none => rfl
        | some v =>
          have hin := valV_in qv
          rw [hk] at hin
          have es : as = as.take i ++ (as[i] :: as.drop (i + 1)) := by
            rw [← List.drop_eq_getElem_cons hlt, List.take_append_drop]
          rw [es, List.filterMap_append, List.filterMap_cons, e2, List.map_append, List.nodup_append] at nd
          exact absurd rfl (nd.2.2 k hin k (by simp))
      have lk : kvs.length ≤ i := by
        have := congrArg List.length hk
        rw [List.length_map, List.length_map] at this
        rw [this]
        exact Nat.le_trans (List.length_filterMap_le _ _) (by rw [List.length_take]; omega)
      refine ⟨kvs, k, rfl, h4, by rw [sizeLine_eq]; omega, hlt, S', kvs ++ [(k, z)], ?_, s4, ?_, ?_, ?_⟩
      · exact Gr.mutD g1 g2 hD s4
      · rw [upd_same, putK_new z nk]
      · rw [et, List.filterMap_append, List.filterMap_cons, e2, List.map_append, List.map_append, hk]
        rfl
      · rw [et, List.filterMap_append, List.filterMap_cons, e2, List.map_append, List.map_append]
        exact (dv.mono g2.s).append (.cons dz .nil)
    · intro S' H4 g2 e2
      obtain ⟨h4, s4⟩ := g2.own (fun m => nomatch m) hl s1
      refine ⟨hlt, S', kvs, g1.trans g2 fun x hx => .inl hx, s4, h4, ?_, ?_⟩
      · rw [et, List.filterMap_append, List.filterMap_cons, e2, List.filterMap_nil, List.append_nil]
        exact hk
      · rw [et, List.filterMap_append, List.filterMap_cons, e2, List.filterMap_nil, List.append_nil]
        exact dv.mono g2.s
  · have e : i = as.length := by omega
    subst e
    rw [List.take_length] at hk dv
    exact .inl ⟨w.stops H q, done S1 H kvs g1 s1 hl hk dv⟩
end
end Gd

set_option Elab.async false
set_option linter.all false
set_option maxRecDepth 100000
set_option maxHeartbeats 4000000
/-! G26: readings of loops: over a list or a tuple, over a locked dict. -/
namespace Gd
open PySem PySem.Spec PyProof.Rows L2
open Evl (Ex Ex.refl Ex.trans Ex.new Ex.mut ex_t ex_l sq_of st_of fresh_back)
/-- over a list or a tuple -/
def iSeq (K : PySem.W.Frag) (tl : TE) : TI := fun σ H R => tl σ H fun x H1 => ∃ a, x = .ref a ∧ (((∃ xs, SqL K H1 a xs) ∧ R (Itl K a) H1) ∨ ((∃ xs, SqT K H1 a xs) ∧ R (Itt K a) H1))
theorem pi_seq {X : Cx} {tg l : Expr} {tl : TE} (hl : PE X l tl) : PI X tg l (iSeq X.K tl) := by
  constructor
  intro pins s σ H R I h
  refine thn (hl.run pins s σ H _ I h) ?_
  rintro v s1 ⟨_, H1, I1, r1, a, rfl, q⟩
  obtain rfl : v = Value.ref a := r1
  have fp : ∀ b, b = s1.heap.objs.size → FpOk X pins H1 b := by
    rintro _ rfl
    exact I1.fpOk (Nat.le_refl _) (I1.hok.fresh (Nat.le_refl _))
  have kp : ∀ ob : Obj, L2.Inv X pins σ H1 { s1 with heap := s1.heap.push ob } := fun ob => I1.kept (t' := s1.toks) fun b o e => Heap.get?_push_of_some _ e
  rcases q with ⟨⟨xs, hq⟩, q⟩ | ⟨⟨xs, hq⟩, q⟩
  · obtain ⟨its, rv, p, hz⟩ := I1.list hq
    exact wpAny_pyIter_list p.isList ⟨_, [s1.heap.objs.size], _, _, H1, rfl, kp _, turn_list a _, ⟨_, Heap.get?_push_size _ rfl, rfl, rfl⟩, fun b hb => fp b (by simpa using hb), q⟩
  · obtain ⟨its, rv, p, hz⟩ := I1.tuple hq
    exact wpAny_pyIter_tuple p ⟨_, [s1.heap.objs.size], _, _, H1, rfl, kp _, turn_tuple a _, ⟨_, Heap.get?_push_size _ rfl, rfl, rfl⟩, fun b hb => fp b (by simpa using hb), q⟩
/-- what a for asks -/
def ForW (J : It) (g : TG) (tb : TS) (D : Ends) (σ : L2.St) (H : Hp) : Prop := ∃ W : Nat → Nat → L2.St → Hp → Prop, (∃ m, W 0 m σ H) ∧ ∀ i m σ H, W i m σ H →
  (J.stop i H ∧ D.nx σ H) ∨ (J.go i H ∧ ∃ N : L2.St → Hp → Prop, (∀ σ' H', N σ' H' → ∃ m', m' < m ∧ W (i + 1) m' σ' H') ∧ ∀ x H', J.yld i H x H' → g x σ H' fun σ2 H2 => tb { D with nx := N, ct := N, bk := D.nx } σ2 H2)
section
variable {K : PySem.W.Frag} {σ : L2.St} {H H1 S : Hp} {D : Ends} {g : TG} {tb : TS} {te tk tv td : TE} {tt : TT} {wi : TI} {v : V} {ds : List Dt} {vs : List Nat} {Q : VK} {a : Addr} {od : Obj} {kvs : List (Key × V)} {gs : List (Key × Dt)}
theorem x_forW (h : wi σ H fun J H1 => ForW J g tb D σ H1) : tFor wi g tb D σ H := h
theorem x_iSeq {R : It → Hp → Prop} {tl : TE} (h : tl σ H fun x H1 => ∃ a, x = .ref a ∧ (((∃ xs, SqL K H1 a xs) ∧ R (Itl K a) H1) ∨ ((∃ xs, SqT K H1 a xs) ∧ R (Itt K a) H1))) : iSeq K tl σ H R := h
theorem x_iList' {R : It → Hp → Prop} {tl : TE} (h : tl σ H fun x H1 => ∃ a, x = .ref a ∧ (∃ xs, SqL K H1 a xs) ∧ R (Itl K a) H1) : iList K tl σ H R := h
theorem x_iKeys {R : It → Hp → Prop} (h : td σ H fun x H1 => ∃ d o, x = .ref d ∧ ((∃ kvs, H1 d = some (.frz o (.dK kvs)) ∧ R (Itk d o kvs) H1) ∨ ∃ kvs, H1 d = some (.frz o (.dT kvs)) ∧ R (Itkt d o kvs) H1)) : iKeys td σ H R := h
theorem x_iVals {R : It → Hp → Prop} (h : td σ H fun x H1 => ∃ d o kvs, x = .ref d ∧ H1 d = some (.frz o (.dK kvs)) ∧ R (Itd d o kvs) H1) : iVals td σ H R := h
theorem x_iItems {R : It → Hp → Prop} (h : td σ H fun x H1 => ∃ d o kvs, x = .ref d ∧ H1 d = some (.frz o (.dK kvs)) ∧ R (Iti d o kvs) H1) : iItems td σ H R := h
theorem i_keys {R : It → Hp → Prop} (h : H a = some (.frz od (.dK kvs))) (q : R (Itk a od kvs) H) : ∃ d o, V.ref a = .ref d ∧ ((∃ kvs, H d = some (.frz o (.dK kvs)) ∧ R (Itk d o kvs) H) ∨ ∃ kvs, H d = some (.frz o (.dT kvs)) ∧ R (Itkt d o kvs) H) := ⟨a, od, rfl, .inl ⟨kvs, h, q⟩⟩
theorem i_dv {R : Addr → Obj → List (Key × V) → Prop} (h : H a = some (.frz od (.dK kvs))) (q : R a od kvs) : ∃ d o kvs, V.ref a = .ref d ∧ H d = some (.frz o (.dK kvs)) ∧ R d o kvs := ⟨a, od, kvs, rfl, h, q⟩
/-- walks over data -/
theorem walk_tupD {xs : List V} (h : TupD K S a xs) (hx : DvAll K S xs ds) : Walk (Itt K a) ds.length (fun H => Ex S H) (fun i H x H' => H' = H ∧ ∃ d, ds[i]? = some d ∧ Dv K S x d) := by
  rw [← hx.length]
  exact walk_tup.mono (fun H f => (h.mono f).sq) fun i H x H' _ _ y => ⟨y.1, hx.get' y.2⟩
theorem Dv.tup_invD {ds : List Dt} (h : Dv K S v (.tup ds)) : ∃ a xs, v = .ref a ∧ TupD K S a xs ∧ DvAll K S xs ds := by
  cases h with
  | tup h1 h0 e0 h2 => exact ⟨_, _, rfl, h1, h2.mono e0⟩
/-- for x in xs, data -/
theorem i_forL (f : Ex S H) (h : Dv K S v (.lst ds)) (Pv : Nat → L2.St → Hp → Prop) (h0 : Pv 0 σ H) (hG : ∀ i σ H, i ≤ ds.length → Pv i σ H → Ex S H)
    (hs : ∀ i σ H x d, ds[i]? = some d → Dv K S x d → Pv i σ H → g x σ H fun σ2 H2 => tb { D with nx := Pv (i + 1), ct := Pv (i + 1), bk := D.nx } σ2 H2) (hd : ∀ σ H, Pv ds.length σ H → D.nx σ H) :
    ∃ a, v = .ref a ∧ (∃ xs, SqL K H a xs) ∧ ForW (Itl K a) g tb D σ H := by
  obtain ⟨a, xs, rfl, h1, h2⟩ := h.lst_inv
  refine ⟨a, rfl, ⟨xs, sq_of (f _ _ h1)⟩, for_it (walk_listD h1 h2) Pv h0 hG ?_ hd⟩
  rintro i x σ H H' hi pv ⟨rfl, d, e, dx⟩
  exact hs i σ _ x d e dx pv
/-- .. a list or a tuple -/
theorem i_forQ (f : Ex S H) (h : SqD K S v ds) (Pv : Nat → L2.St → Hp → Prop) (h0 : Pv 0 σ H) (hG : ∀ i σ H, i ≤ ds.length → Pv i σ H → Ex S H)
    (hs : ∀ i σ H x d, ds[i]? = some d → Dv K S x d → Pv i σ H → g x σ H fun σ2 H2 => tb { D with nx := Pv (i + 1), ct := Pv (i + 1), bk := D.nx } σ2 H2) (hd : ∀ σ H, Pv ds.length σ H → D.nx σ H) :
    ∃ a, v = .ref a ∧ (((∃ xs, SqL K H a xs) ∧ ForW (Itl K a) g tb D σ H) ∨ ((∃ xs, SqT K H a xs) ∧ ForW (Itt K a) g tb D σ H)) := by
  cases h with
  | l h =>
    obtain ⟨a, e, h1, h2⟩ := i_forL f h Pv h0 hG hs hd
    exact ⟨a, e, .inl ⟨h1, h2⟩⟩
  | t h =>
    obtain ⟨a, xs, rfl, h1, h2⟩ := h.tup_invD
    refine ⟨a, rfl, .inr ⟨⟨xs, (h1.mono f).sq⟩, for_it (walk_tupD h1 h2) Pv h0 hG ?_ hd⟩⟩
    rintro i x σ H H' hi pv ⟨rfl, d, e, dx⟩
    exact hs i σ _ x d e dx pv
/-- for x in d.values() of a locked dict -/
theorem i_forVals (hk : kvs.map (·.1) = gs.map (·.1)) (d : DvAll K S (kvs.map (·.2)) (gs.map (·.2))) (Pv : Nat → L2.St → Hp → Prop) (h0 : Pv 0 σ H) (hG : ∀ i σ H, i ≤ gs.length → Pv i σ H → H a = some (.frz od (.dK kvs)))
    (hs : ∀ i σ H x p, gs[i]? = some p → Dv K S x p.2 → Pv i σ H → g x σ H fun σ2 H2 => tb { D with nx := Pv (i + 1), ct := Pv (i + 1), bk := D.nx } σ2 H2) (hd : ∀ σ H, Pv gs.length σ H → D.nx σ H) : ForW (Itd a od kvs) g tb D σ H := by
  refine for_it (walk_valsD hk d) Pv h0 hG ?_ hd
  rintro i x σ H H' hi pv ⟨rfl, p, e, dx⟩
  exact hs i σ _ x p e dx pv
/-- for k in d of a locked dict -/
theorem i_forKeys (hk : kvs.map (·.1) = gs.map (·.1)) (d : DvAll K S (kvs.map (·.2)) (gs.map (·.2))) (Pv : Nat → L2.St → Hp → Prop) (h0 : Pv 0 σ H) (hG : ∀ i σ H, i ≤ gs.length → Pv i σ H → H a = some (.frz od (.dK kvs)))
    (hs : ∀ i σ H p, gs[i]? = some p → Pv i σ H → g (kV p.1) σ H fun σ2 H2 => tb { D with nx := Pv (i + 1), ct := Pv (i + 1), bk := D.nx } σ2 H2) (hd : ∀ σ H, Pv gs.length σ H → D.nx σ H) : ForW (Itk a od kvs) g tb D σ H := by
  refine for_it (walk_keysD hk d) Pv h0 hG ?_ hd
  rintro i x σ H H' hi pv ⟨rfl, p, e, rfl⟩
  exact hs i σ _ p e pv
/-- a statement that locks a dict -/
theorem x_lock {t : TS} (ha : H a = some (.dK kvs)) (h : ∀ od, t ⟨fun σ' H' => H' a = some (.frz od (.dK kvs)) ∧ D.nx σ' (upd H' a (.dK kvs)), fun v H' => H' a = some (.frz od (.dK kvs)) ∧ D.rt v (upd H' a (.dK kvs)),
    fun σ' H' => H' a = some (.frz od (.dK kvs)) ∧ D.bk σ' (upd H' a (.dK kvs)), fun σ' H' => H' a = some (.frz od (.dK kvs)) ∧ D.ct σ' (upd H' a (.dK kvs))⟩ σ (upd H a (.frz od (.dK kvs)))) : tLock t D σ H := ⟨a, _, ha, trivial, h⟩
end
section
variable {K : PySem.W.Frag} {σ : L2.St} {H H1 S : Hp} {g : TG} {tt : TT} {te tk tv : TE} {v : V} {vs : List Nat} {Q : VK} {a : Addr} {od : Obj} {kvs : List (Key × V)} {gs : List (Key × Dt)}
/-- a comprehension over a list or a tuple of data -/
theorem i_lcE {α : Type} {as : List α} {fD : α → Dt} (f : Ex S H1) (dv : Dv K S v (.lst (as.map fD))) (h : α → Option Dt) (hz : as.length < 1000000)
    (turn : ∀ (i : Nat) p x S1 Hc (Qe : VK) (Nx : Hp → Prop), as[i]? = some p → Gr [] S H1 S1 Hc → Dv K S1 x (fD p) →
      (∀ S' H4 y d, Gr [] S1 Hc S' H4 → Dv K S' y d → h p = some d → Qe y H4) → (∀ S' H4, Gr [] S1 Hc S' H4 → h p = none → Nx H4) →
      g x (wipe σ vs) Hc fun σ2 H2 => wipe σ2 vs = wipe σ vs ∧ tt σ2 H2 fun b H3 => if b = true then te σ2 H3 Qe else Nx H3)
    (done : ∀ D S' H' xs, H1 D = none → Gr [] S H1 S' H' → S' D = none → H' D = some (.lst xs) → DvAll K S' xs (as.filterMap h) → Q (.ref D) H') :
    ∃ a, v = .ref a ∧ (∃ xs, SqL K H1 a xs) ∧ ∀ D, H1 D = none → LcW (Itl K a) g tt te vs σ D H1 (Q (.ref D)) := by
  obtain ⟨a, xs, rfl, h1, h2⟩ := dv.lst_inv
  refine ⟨a, rfl, ⟨xs, sq_of (f _ _ h1)⟩, fun D hD => ?_⟩
  have w := walk_listD h1 h2
  rw [List.length_map] at w
  refine lc_E w h f hD hz (fun S1 Hc g1 => g1.s.trans g1.i) ?_ (fun S' H' xs g1 s1 hl dv => done D S' H' xs hD g1 s1 hl dv)
  rintro i p x S1 Hc Hc' Qe Nx hp g1 ⟨rfl, d, hd, dx⟩ q1 q2
  rw [List.getElem?_map, hp] at hd
  cases hd
  exact turn i p x S1 _ Qe Nx hp g1 (dx.mono g1.s) q1 q2
/-- .. over the keys of a locked dict -/
theorem i_lcK (f : Ex S H1) (ha : H1 a = some (.frz od (.dK kvs))) (hk : kvs.map (·.1) = gs.map (·.1)) (d : DvAll K S (kvs.map (·.2)) (gs.map (·.2))) (h : Key × Dt → Option Dt) (hz : gs.length < 1000000)
    (turn : ∀ (i : Nat) p S1 Hc (Qe : VK) (Nx : Hp → Prop), gs[i]? = some p → Gr [] S H1 S1 Hc →
      (∀ S' H4 y d, Gr [] S1 Hc S' H4 → Dv K S' y d → h p = some d → Qe y H4) → (∀ S' H4, Gr [] S1 Hc S' H4 → h p = none → Nx H4) →
      g (kV p.1) (wipe σ vs) Hc fun σ2 H2 => wipe σ2 vs = wipe σ vs ∧ tt σ2 H2 fun b H3 => if b = true then te σ2 H3 Qe else Nx H3)
    {D : Addr} (hD : H1 D = none) {Qd : Hp → Prop} (done : ∀ S' H' xs, Gr [] S H1 S' H' → S' D = none → H' D = some (.lst xs) → DvAll K S' xs (gs.filterMap h) → Qd H') :
    LcW (Itk a od kvs) g tt te vs σ D H1 Qd := by
  refine lc_E (walk_keysD hk d) h f hD hz (fun S1 Hc g1 => g1.nil_h _ _ ha) ?_ done
  rintro i p x S1 Hc Hc' Qe Nx hp g1 ⟨rfl, p', hp', rfl⟩ q1 q2
  rw [hp] at hp'
  cases hp'
  exact turn i p S1 _ Qe Nx hp g1 q1 q2
/-- .. over the items of a locked dict -/
theorem i_lcI (f : Ex S H1) (ha : H1 a = some (.frz od (.dK kvs))) (hk : kvs.map (·.1) = gs.map (·.1)) (d : DvAll K S (kvs.map (·.2)) (gs.map (·.2))) (h : Key × Dt → Option Dt) (hz : gs.length < 1000000)
    (turn : ∀ (i : Nat) p u T S1 Hc (Qe : VK) (Nx : Hp → Prop), gs[i]? = some p → Gr [] S H1 S1 (upd Hc T (.tup [kV p.1, u])) → Dv K S1 u p.2 →
      (∀ S' H4 y d, Gr [] S1 (upd Hc T (.tup [kV p.1, u])) S' H4 → Dv K S' y d → h p = some d → Qe y H4) → (∀ S' H4, Gr [] S1 (upd Hc T (.tup [kV p.1, u])) S' H4 → h p = none → Nx H4) →
      g (.ref T) (wipe σ vs) (upd Hc T (.tup [kV p.1, u])) fun σ2 H2 => wipe σ2 vs = wipe σ vs ∧ tt σ2 H2 fun b H3 => if b = true then te σ2 H3 Qe else Nx H3)
    {D : Addr} (hD : H1 D = none) {Qd : Hp → Prop} (done : ∀ S' H' xs, Gr [] S H1 S' H' → S' D = none → H' D = some (.lst xs) → DvAll K S' xs (gs.filterMap h) → Qd H') :
    LcW (Iti a od kvs) g tt te vs σ D H1 Qd := by
  refine lc_E (walk_itemsD hk d) h f hD hz (fun S1 Hc g1 => g1.nil_h _ _ ha) ?_ done
  rintro i p x S1 Hc Hc' Qe Nx hp g1 ⟨T, p', u, rfl, hT, rfl, hp', du⟩ q1 q2
  rw [hp] at hp'
  cases hp'
  have gT : Gr [] S1 Hc S1 (upd Hc T (.tup [kV p.1, u])) := Gr.newO g1.i hT
  exact turn i p u T S1 Hc Qe Nx hp (g1.then gT) (du.mono g1.s) (fun S' H4 y d g2 => q1 S' H4 y d (gT.then g2)) (fun S' H4 g2 => q2 S' H4 (gT.then g2))
end
end Gd

set_option Elab.async false
set_option linter.all false
set_option maxRecDepth 100000
set_option maxHeartbeats 4000000
/-! G27: dicts by values: d[k], k in d, len, sorted, list, dict, d[k] = v. -/
namespace Gd
open PySem PySem.Spec PyProof.Rows L2
open Evl (Ex Ex.refl Ex.trans Ex.new Ex.mut ex_t ex_l sq_of st_of fresh_back)
def rIxD : R2 := fun x y H Q => ∃ a v, x = .ref a ∧ DGet H a y (some v) ∧ Q v H
def rIxY (K : PySem.W.Frag) : R2 := fun x y H Q => (rIxL K x y H Q ∨ rIxT K x y H Q) ∨ rIxD x y H Q
def rInD (neg : Bool) : R2 := fun y x H Q => ∃ a o, x = .ref a ∧ DGet H a y o ∧ Q (.bl (if neg then !o.isSome else o.isSome)) H
section
variable {X : Cx}
theorem ix_dict (hu : X.A.units + 1 < cLine) : IxR X rIxD := by
  intro value slice pins s σ H x y v u Q I rx ry h hs
  obtain ⟨a, z, rfl, g, q⟩ := h
  obtain rfl : v = Value.ref a := rx
  have ty := dict_typeIs I g
  have fin : wpAny (model X.prog X.w) X.A (subscripted slice false (.ref a) u) (fun r s3 => wpAny (model X.prog X.w) X.A (letTemporaryGo value (.ref a) r >>= fun _ => pure r) (EP X pins σ Q) X.xe s3) X.xe s := by
    rw [hs]
    exact wpAny_operating (d_getItem hu I g ry fun w' s3 I3 rw' => wpAny_bind (wpAny_letTemporaryGo (wpAny_pure ⟨z, H, I3, rw', q⟩)))
  unfold subscriptTail
  refine wpAny_bind ?_
  rw [getitemInPython_of_ne ty.not_modules]
  refine wpAny_bind (wpAny_specialOf ty PySem.F.slot_dict_getitem.lookup ?_)
  first
    | exact wpAny_pure (wpAny_bind fin)
    | exact wpAny_bind (wpAny_pure (wpAny_bind fin))
    | exact wpAny_bind fin
theorem ix_Y (hu : X.A.units + 1 < cLine) : IxR X (rIxY X.K) := ix_X.or (ix_dict hu)
theorem op_inD (hu : X.A.units + 1 < cLine) : OpR X (compareOp .In) (rInD false) := by
  intro pins s σ H x y v u Q I rx ry h
  obtain ⟨a, o, rfl, g, q⟩ := h
  obtain rfl : u = Value.ref a := ry
  exact d_in hu I g rx fun s3 I3 => ⟨.bl o.isSome, H, I3, rfl, q⟩
theorem op_notInD (hu : X.A.units + 1 < cLine) : OpR X (compareOp .NotIn) (rInD true) := by
  intro pins s σ H x y v u Q I rx ry h
  obtain ⟨a, o, rfl, g, q⟩ := h
  obtain rfl : u = Value.ref a := ry
  exact d_notIn hu I g rx fun s3 I3 => ⟨.bl (!o.isSome), H, I3, rfl, q⟩
def rLenD : List V → Hp → VK → Prop := fun xs H Q => ∃ a kvs, xs = [V.ref a] ∧ Rd H a (.dK kvs) ∧ Q (.int kvs.length) H
theorem call_lenD : CallR X (.builtin "len") rLenD := by
  intro pins s σ H xs us Q I r h
  obtain ⟨a, kvs, rfl, ha, q⟩ := h
  obtain ⟨u, rfl, ru⟩ := vals1 r
  obtain rfl : u = Value.ref a := ru
  exact d_len I ha fun t s' I' => ⟨.int kvs.length, H, I', ⟨t, rfl⟩, q⟩
def rSortD : List V → Hp → VK → Prop := fun xs H Q => ∃ (a : Addr) (kvs : List (Key × V)) (ks : List Str), xs = [.ref a] ∧ Rd H a (.dK kvs) ∧ kvs.map (·.1) = ks.map Sum.inr ∧ ks.length < 64 ∧
    ∀ ys p, ys.Perm ks → sortedS ys = true → H p = none → Q (.ref p) (upd H p (.lst (ys.map V.str)))
theorem call_sortD (hc : X.calm = true) : CallR X (.builtin "sorted") rSortD := call_sortedD hc
def rListD' : List V → Hp → VK → Prop := fun xs H Q => ∃ (a : Addr) (kvs : List (Key × V)), xs = [.ref a] ∧ Rd H a (.dK kvs) ∧ ∀ p, H p = none → Q (.ref p) (upd H p (.lst (kvs.map fun kv => kV kv.1)))
theorem call_listD' (hc : X.calm = true) : CallR X (.type "list") rListD' := call_listD hc
def rDictD : List V → Hp → VK → Prop := fun xs H Q => ∃ (a : Addr) (kvs : List (Key × V)), xs = [.ref a] ∧ Rd H a (.dK kvs) ∧ ∀ p, H p = none → Q (.ref p) (upd H p (.dK kvs))
theorem call_dictD' : CallR X (.type "dict") rDictD := call_dictD
def rDictP (K : PySem.W.Frag) : List V → Hp → VK → Prop := fun xs H Q => ∃ (a : Addr) (ps : List Addr) (kvs : List (Key × V)), xs = [.ref a] ∧ SqL K H a (ps.map V.ref) ∧ Paired (fun p kv => SqT K H p [kV kv.1, kv.2]) ps kvs ∧
    ∀ p, H p = none → Q (.ref p) (upd H p (.dK (mergeK [] kvs)))
theorem call_dictP' (hc : X.calm = true) : CallR X (.type "dict") (rDictP X.K) := call_dictP hc
end
section
variable {K : PySem.W.Frag} {σ : L2.St} {H S : Hp} {Q : VK} {a : Addr} {kvs : List (Key × V)} {gs : List (Key × Dt)}
theorem i_ixDk {k : Key} {v : V} (h : Rd H a (.dK kvs)) (e : valV kvs k = some v) (q : Q v H) : rIxY K (.ref a) (kV k) H Q :=
  .inr ⟨a, v, rfl, .inl ⟨kvs, k, h, rfl, e.symm⟩, q⟩
theorem i_ixY {x y : V} (h : rIxL K x y H Q ∨ rIxT K x y H Q) : rIxY K x y H Q := .inl h
theorem i_inDk {neg : Bool} {k : Key} (h : Rd H a (.dK kvs)) (q : Q (.bl (if neg then !(valV kvs k).isSome else (valV kvs k).isSome)) H) : rInD neg (kV k) (.ref a) H Q := ⟨a, _, rfl, .inl ⟨kvs, k, h, rfl, rfl⟩, q⟩
theorem i_put {k : Key} {v : V} {R : Hp → Prop} (h : H a = some (.dK kvs)) (z : kvs.length ≤ 1000000) (q : R (upd H a (.dK (putK kvs k v)))) : rSetD (.ref a) (kV k) v H R :=
  ⟨a, _, rfl, .inl ⟨kvs, k, h, rfl, Nat.lt_of_le_of_lt z (by rw [sizeLine_eq]; decide), rfl⟩, q⟩
/-- an assoc list merged: the later wins, the place is the first one's -/
def putG (gs : List (Key × Dt)) (k : Key) (d : Dt) : List (Key × Dt) := if (gs.any fun p => decide (p.1 = k)) = true then gs.map (fun p => if p.1 = k then (p.1, d) else p) else gs ++ [(k, d)]
def mergeG (gs more : List (Key × Dt)) : List (Key × Dt) := more.foldl (fun acc p => putG acc p.1 p.2) gs
theorem any_keys {α β : Type} {l : List (Key × α)} {m : List (Key × β)} (h : l.map (·.1) = m.map (·.1)) (k : Key) : (l.any fun p => decide (p.1 = k)) = m.any fun p => decide (p.1 = k) := by
  have e1 : (l.any fun p => decide (p.1 = k)) = (l.map (·.1)).any fun x => decide (x = k) := by rw [List.any_map]; rfl
  have e2 : (m.any fun p => decide (p.1 = k)) = (m.map (·.1)).any fun x => decide (x = k) := by rw [List.any_map]; rfl
  rw [e1, e2, h]
theorem map_put : ∀ {kvs : List (Key × V)} {gs : List (Key × Dt)} {k : Key} {v : V} {d : Dt}, kvs.map (·.1) = gs.map (·.1) → DvAll K S (kvs.map (·.2)) (gs.map (·.2)) → Dv K S v d →
    (kvs.map fun p => if p.1 = k then (p.1, v) else p).map (·.1) = (gs.map fun p => if p.1 = k then (p.1, d) else p).map (·.1) ∧ DvAll K S ((kvs.map fun p => if p.1 = k then (p.1, v) else p).map (·.2)) ((gs.map fun p => if p.1 = k then (p.1, d) else p).map (·.2))
  | [], [], _, _, _, _, _, _ => ⟨rfl, .nil⟩
  | [], _ :: _, _, _, _, h, _, _ => by cases h
  | _ :: _, [], _, _, _, h, _, _ => by cases h
  | p :: r, g :: s, k, v, d, h, dv, dd => by
    rw [List.map_cons, List.map_cons] at h
    injection h with h1 h2
    rw [List.map_cons, List.map_cons] at dv
    cases dv with
    | cons d1 d2 =>
      obtain ⟨a, b⟩ := map_put h2 d2 dd (k := k)
      simp only [List.map_cons]
      rw [← h1]
      by_cases q : p.1 = k
      · rw [if_pos q, if_pos q]
        exact ⟨by rw [a, h1], .cons dd b⟩
      · rw [if_neg q, if_neg q]
        exact ⟨by rw [a, h1], .cons d1 b⟩
theorem kv_put {k : Key} {v : V} {d : Dt} (hk : kvs.map (·.1) = gs.map (·.1)) (dv : DvAll K S (kvs.map (·.2)) (gs.map (·.2))) (dd : Dv K S v d) : (putK kvs k v).map (·.1) = (putG gs k d).map (·.1) ∧ DvAll K S ((putK kvs k v).map (·.2)) ((putG gs k d).map (·.2)) := by
  unfold putK putG
  rw [any_keys hk k]
  by_cases q : (gs.any fun p => decide (p.1 = k)) = true
  · rw [if_pos q, if_pos q]
    exact map_put hk dv dd
  · rw [if_neg q, if_neg q]
    simp only [List.map_append, hk]
    exact ⟨rfl, dv.append (.cons dd .nil)⟩
theorem kv_merge : ∀ {more : List (Key × V)} {mg : List (Key × Dt)} {kvs : List (Key × V)} {gs : List (Key × Dt)}, kvs.map (·.1) = gs.map (·.1) → DvAll K S (kvs.map (·.2)) (gs.map (·.2)) → more.map (·.1) = mg.map (·.1) → DvAll K S (more.map (·.2)) (mg.map (·.2)) →
    (mergeK kvs more).map (·.1) = (mergeG gs mg).map (·.1) ∧ DvAll K S ((mergeK kvs more).map (·.2)) ((mergeG gs mg).map (·.2))
  | [], [], _, _, hk, dv, _, _ => ⟨hk, dv⟩
  | [], _ :: _, _, _, _, _, h, _ => by cases h
  | _ :: _, [], _, _, _, _, h, _ => by cases h
  | p :: r, g :: s, kvs, gs, hk, dv, h, d => by
    rw [List.map_cons, List.map_cons] at h
    injection h with h1 h2
    rw [List.map_cons, List.map_cons] at d
    cases d with
    | cons d1 d2 =>
      obtain ⟨a, b⟩ := kv_put (k := p.1) hk dv d1
      have := kv_merge a b h2 d2
      have e1 : mergeK kvs (p :: r) = mergeK (putK kvs p.1 p.2) r := rfl
      have e2 : mergeG gs (g :: s) = mergeG (putG gs p.1 g.2) s := by rw [h1]; rfl
      rw [e1, e2]
      exact this
theorem mergeG_nd : ∀ {mg gs : List (Key × Dt)}, ((gs ++ mg).map (·.1)).Nodup → mergeG gs mg = gs ++ mg
  | [], gs, _ => by simp [mergeG]
  | p :: r, gs, h => by
    have hn : ¬ (gs.any fun kv => decide (kv.1 = p.1)) = true := by
      rw [List.any_eq_true]
      rintro ⟨kv, hkv, he⟩
      rw [List.map_append, List.nodup_append] at h
      exact h.2.2 kv.1 (List.mem_map.mpr ⟨kv, hkv, rfl⟩) p.1 (by simp) (of_decide_eq_true he)
    have e : putG gs p.1 p.2 = gs ++ [p] := by
      unfold putG
      rw [if_neg hn]
    have := mergeG_nd (mg := r) (gs := gs ++ [p]) (by simpa using h)
    show mergeG (putG gs p.1 p.2) r = _
    rw [e, this]
    simp
theorem Dv.pair_inv {v : V} {d e : Dt} (h : Dv K S v (.tup [d, e])) : ∃ p x y, v = .ref p ∧ SqT K S p [x, y] ∧ Dv K S x d ∧ Dv K S y e := by
  obtain ⟨p, xs, rfl, h1, h2⟩ := h.tup_inv
  cases h2 with
  | cons d1 h2 => cases h2 with
    | cons d2 h2 => cases h2; exact ⟨p, _, _, rfl, h1, d1, d2⟩
def keyD : Key → Dt
  | .inl i => .int i
  | .inr s => .str s
theorem keyD_inv {v : V} {k : Key} (h : Dv K S v (keyD k)) : v = kV k := by
  cases k with
  | inl i => exact h.int_inv
  | inr s => exact h.str_inv
theorem paired_imp {α β : Type} {R R' : α → β → Prop} (h : ∀ a b, R a b → R' a b) {xs : List α} {ys : List β} (p : Paired R xs ys) : Paired R' xs ys := by
  induction p with
  | nil => exact .nil
  | cons r _ ih => exact .cons (h _ _ r) ih
theorem pairs_inv : ∀ {xs : List V} {mg : List (Key × Dt)}, DvAll K S xs (mg.map fun p => .tup [keyD p.1, p.2]) → ∃ (ps : List Addr) (kvs : List (Key × V)), xs = ps.map V.ref ∧ Paired (fun p kv => SqT K S p [kV kv.1, kv.2]) ps kvs ∧ kvs.map (·.1) = mg.map (·.1) ∧ DvAll K S (kvs.map (·.2)) (mg.map (·.2))
  | _, [], h => by cases h; exact ⟨[], [], rfl, .nil, rfl, .nil⟩
  | _, p :: r, h => by
    rw [List.map_cons] at h
    cases h with
    | cons h1 h2 =>
      obtain ⟨a, x, y, rfl, hs, d1, d2⟩ := h1.pair_inv
      obtain ⟨ps, kvs, rfl, pr, hk, dv⟩ := pairs_inv h2
      cases keyD_inv d1
      exact ⟨a :: ps, (p.1, y) :: kvs, rfl, .cons hs pr, by simp [hk], .cons d2 dv⟩
/-- dict([(k, v), ..]), the list as it stands -/
theorem i_dictP {xs : List V} {mg : List (Key × Dt)} (f : Ex S H) (h : H a = some (.lst xs)) (d : DvAll K S xs (mg.map fun p => .tup [keyD p.1, p.2]))
    (q : ∀ p kvs, H p = none → kvs.map (·.1) = (mergeG [] mg).map (·.1) → DvAll K S (kvs.map (·.2)) ((mergeG [] mg).map (·.2)) → Q (.ref p) (upd H p (.dK kvs))) : rDictP K [.ref a] H Q := by
  obtain ⟨ps, kvs, rfl, pr, hk, dv⟩ := pairs_inv d
  obtain ⟨e1, e2⟩ := kv_merge (kvs := []) (gs := []) rfl .nil hk dv
  exact ⟨a, ps, kvs, rfl, sq_of h, paired_imp (fun _ _ t => sqT_mono f t) pr, fun p hp => q p _ hp e1 e2⟩
end
end Gd

set_option Elab.async false
set_option linter.all false
set_option maxRecDepth 100000
set_option maxHeartbeats 4000000
/-! G28: comprehensions over a locked dict's keys, whatever its values are. -/
namespace Gd
open PySem PySem.Spec PyProof.Rows L2
open Evl (Ex Ex.refl Ex.trans Ex.new Ex.mut ex_t ex_l sq_of st_of fresh_back)
section
variable {K : PySem.W.Frag} {σ : L2.St} {H1 S : Hp} {g : TG} {tt : TT} {te : TE} {vs : List Nat} {a : Addr} {od : Obj} {kvs : List (Key × V)}
theorem i_lcK0 (f : Ex S H1) (ha : H1 a = some (.frz od (.dK kvs))) (h : Key → Option Dt) (hz : kvs.length < 1000000)
    (turn : ∀ (i : Nat) k v S1 Hc (Qe : VK) (Nx : Hp → Prop), kvs[i]? = some (k, v) → Gr [] S H1 S1 Hc →
      (∀ S' H4 y d, Gr [] S1 Hc S' H4 → Dv K S' y d → h k = some d → Qe y H4) → (∀ S' H4, Gr [] S1 Hc S' H4 → h k = none → Nx H4) →
      g (kV k) (wipe σ vs) Hc fun σ2 H2 => wipe σ2 vs = wipe σ vs ∧ tt σ2 H2 fun b H3 => if b = true then te σ2 H3 Qe else Nx H3)
    {D : Addr} (hD : H1 D = none) {Qd : Hp → Prop} (done : ∀ S' H' xs, Gr [] S H1 S' H' → S' D = none → H' D = some (.lst xs) → DvAll K S' xs ((kvs.map (·.1)).filterMap h) → Qd H') :
    LcW (Itk a od kvs) g tt te vs σ D H1 Qd := by
  refine lc_E (K := K) walk_keys (fun p => h p.1) f hD hz (fun S1 Hc g1 => g1.nil_h _ _ ha) ?_ ?_
  · rintro i p x S1 Hc Hc' Qe Nx hp g1 ⟨rfl, k, v, hp', rfl⟩ q1 q2
    rw [hp] at hp'
    cases hp'
    exact turn i _ _ S1 _ Qe Nx hp g1 q1 q2
  · intro S' H' xs g1 s1 hl dv
    refine done S' H' xs g1 s1 hl ?_
    rw [List.filterMap_map]
    exact dv
end
theorem dvAll_bls_inv {K : PySem.W.Frag} {S : Hp} : ∀ {vs : List V} {bs : List Bool}, DvAll K S vs (bs.map Dt.bl) → vs = bs.map V.bl
  | _, [], h => by cases h; rfl
  | _, b :: r, h => by
    cases h with
    | cons h1 h2 =>
      cases h1
      rw [dvAll_bls_inv h2]
      rfl
theorem fm_some {α β : Type} {h : α → Option β} {h' : α → β} : ∀ {l : List α}, (∀ a ∈ l, h a = some (h' a)) → l.filterMap h = l.map h'
  | [], _ => rfl
  | a :: r, e => by
    rw [List.filterMap_cons, e a (.head _), List.map_cons, fm_some fun b hb => e b (.tail _ hb)]
end Gd

set_option Elab.async false
set_option linter.all false
set_option maxRecDepth 100000
set_option maxHeartbeats 4000000
/-! K31M: bundles, rows, models: the data of the law, without the program. -/
namespace K31
open PySem PySem.Spec PyProof.Rows L2 Gd
open Evl (Ex Ex.refl Ex.trans Ex.new Ex.mut ex_t ex_l sq_of st_of fresh_back)
/-! ### texts in order -/
def srt (l : List Str) : List Str := l.mergeSort fun a b => decide (a.cps.toList ≤ b.cps.toList)
theorem srt_perm (l : List Str) : (srt l).Perm l := List.mergeSort_perm _ _
theorem srt_pw (l : List Str) : (srt l).Pairwise leS := by
  have := List.pairwise_mergeSort (le := fun a b : Str => decide (a.cps.toList ≤ b.cps.toList)) (fun a b c h1 h2 => by
    simp only [decide_eq_true_eq] at *
    exact List.le_trans h1 h2) (fun a b => by
    simp only [Bool.or_eq_true, decide_eq_true_eq]
    exact List.le_total _ _) l
  exact this.imp fun h => of_decide_eq_true h
theorem srt_one {l ys : List Str} (p : ys.Perm l) (s : sortedS ys = true) : ys = srt l :=
  List.Perm.eq_of_pairwise (fun _ _ _ _ a b => leS_anti a b) (sortedS_pw s) (srt_pw l) (p.trans (srt_perm l).symm)
theorem srt_eq {l ys : List Str} (p : ys.Perm l) (s : ys.Pairwise leS) : ys = srt l :=
  List.Perm.eq_of_pairwise (fun _ _ _ _ a b => leS_anti a b) s (srt_pw l) (p.trans (srt_perm l).symm)
theorem srt_congr {l l' : List Str} (p : l.Perm l') : srt l = srt l' := srt_eq ((srt_perm l).trans p) (srt_pw l)
theorem srt_nd {l : List Str} (h : l.Nodup) : (srt l).Nodup := (srt_perm l).nodup_iff.mpr h
theorem srt_mem {l : List Str} {x : Str} : x ∈ srt l ↔ x ∈ l := (srt_perm l).mem_iff
theorem srt_len (l : List Str) : (srt l).length = l.length := (srt_perm l).length_eq
/-! ### tables by name -/
def look {α : Type} (m : List (Str × α)) (k : Str) : Option α := (m.find? fun p => decide (p.1 = k)).map (·.2)
def keys {α : Type} (m : List (Str × α)) : List Str := m.map (·.1)
theorem look_mem {α : Type} : ∀ {m : List (Str × α)} {k : Str} {x : α}, (keys m).Nodup → (k, x) ∈ m → look m k = some x
  | p :: r, k, x, nd, h => by
    unfold look
    have nd' : (p.1 :: keys r).Nodup := nd
    obtain ⟨n1, n2⟩ := List.nodup_cons.mp nd'
    rcases List.mem_cons.mp h with e | h
    · subst e
      rw [List.find?_cons_of_pos (by simp)]
      rfl
    · have ne : ¬ p.1 = k := by
        rintro rfl
        exact n1 (List.mem_map.mpr ⟨_, h, rfl⟩)
      rw [List.find?_cons_of_neg (by simpa using ne)]
      exact look_mem n2 h
theorem look_in {α : Type} {m : List (Str × α)} {k : Str} {x : α} (h : look m k = some x) : (k, x) ∈ m := by
  unfold look at h
  cases q : m.find? fun p => decide (p.1 = k) with
  | none => rw [q] at h; cases h
  | some p =>
    rw [q] at h
    cases h
    have e : p.1 = k := by simpa using List.find?_some q
    rw [← e]
    exact List.mem_of_find?_eq_some q
theorem look_key {α : Type} {m : List (Str × α)} {k : Str} (h : k ∈ keys m) : ∃ x, look m k = some x := by
  cases q : look m k with
  | some x => exact ⟨x, rfl⟩
  | none =>
    unfold look at q
    rw [Option.map_eq_none_iff, List.find?_eq_none] at q
    obtain ⟨p, hp, rfl⟩ := List.mem_map.mp h
    have := q p hp
    simp at this
theorem look_no {α : Type} {m : List (Str × α)} {k : Str} (h : k ∉ keys m) : look m k = none := by
  cases q : look m k with
  | none => rfl
  | some x => exact absurd (List.mem_map.mpr ⟨_, look_in q, rfl⟩) h
/-! ### bundles -/
abbrev Bd := List (Str × Int)
/-- what counts of a bundle, in order -/
def told (b : Bd) : Bd := (srt (keys b)).filterMap fun k => match look b k with
  | some i => if i = 0 then none else some (k, i)
  | none => none
def bkv (b : Bd) : List (Key × V) := b.map fun p => (Sum.inr p.1, V.int p.2)
def bgs (b : Bd) : List (Key × Dt) := b.map fun p => (Sum.inr p.1, Dt.int p.2)
def bdD (b : Bd) : Dt := .dK (bgs b)
theorem bkv_keys (b : Bd) : (bkv b).map (·.1) = (keys b).map Sum.inr := by
  unfold bkv keys
  rw [List.map_map, List.map_map]
  rfl
theorem bgs_keys (b : Bd) : (bgs b).map (·.1) = (keys b).map Sum.inr := by
  unfold bgs keys
  rw [List.map_map, List.map_map]
  rfl
theorem bkv_dv {K : PySem.W.Frag} {S : Hp} : ∀ (b : Bd), DvAll K S ((bkv b).map (·.2)) ((bgs b).map (·.2))
  | [] => .nil
  | p :: r => .cons (.int p.2) (bkv_dv r)
theorem bkv_inv {K : PySem.W.Frag} {S : Hp} : ∀ {b : Bd} {kvs : List (Key × V)}, kvs.map (·.1) = (bgs b).map (·.1) → DvAll K S (kvs.map (·.2)) ((bgs b).map (·.2)) → kvs = bkv b
  | [], [], _, _ => rfl
  | [], _ :: _, h, _ => by cases h
  | _ :: _, [], h, _ => by cases h
  | p :: r, q :: s, h, d => by
    obtain ⟨q1, q2⟩ := q
    have h' : q1 :: s.map (·.1) = Sum.inr p.1 :: (bgs r).map (·.1) := h
    injection h' with h1 h2
    have d' : DvAll K S (q2 :: s.map (·.2)) (Dt.int p.2 :: (bgs r).map (·.2)) := d
    cases d' with
    | cons d1 d2 =>
      cases d1.int_inv
      rw [h1, bkv_inv h2 d2]
      rfl
theorem bd_inv {K : PySem.W.Frag} {S : Hp} {v : V} {b : Bd} (h : Dv K S v (bdD b)) : ∃ a, v = .ref a ∧ S a = some (.dK (bkv b)) := by
  obtain ⟨a, kvs, rfl, h1, h2, h3⟩ := h.dK_inv
  rw [bkv_inv h2 h3] at h1
  exact ⟨a, rfl, h1⟩
theorem bd_new {K : PySem.W.Frag} {S : Hp} {p : Addr} {b : Bd} (h : S p = none) : Dv K (upd S p (.dK (bkv b))) (.ref p) (bdD b) :=
  dv_dK_new h (by rw [bkv_keys, bgs_keys]) (bkv_dv b)
theorem bkv_val (b : Bd) (k : Str) : valV (bkv b) (Sum.inr k) = (look b k).map V.int := by
  induction b with
  | nil => rfl
  | cons p r ih =>
    unfold look bkv valV at *
    by_cases q : p.1 = k
    · rw [List.map_cons, List.find?_cons_of_pos (by simp [q]), List.find?_cons_of_pos (by simp [q])]
      rfl
    · rw [List.map_cons, List.find?_cons_of_neg (by simp [q]), List.find?_cons_of_neg (by simp [q])]
      exact ih
theorem told_keys_nd {b : Bd} (h : (keys b).Nodup) : (keys (told b)).Nodup ∧ (keys (told b)).Pairwise leS ∧ ∀ k i, (k, i) ∈ told b ↔ (look b k = some i ∧ i ≠ 0) := by
  have fm : keys (told b) = (srt (keys b)).filter fun k => match look b k with
      | some i => !decide (i = 0)
      | none => false := by
    unfold told keys
    generalize srt (List.map (fun x => x.1) b) = l
    induction l with
    | nil => rfl
    | cons k r ih =>
      rw [List.filterMap_cons, List.filter_cons]
      cases q : look b k with
      | none => simpa [q] using ih
      | some i =>
        by_cases z : i = 0
        · simpa [q, z] using ih
        · simpa [q, z] using ih
  refine ⟨?_, ?_, ?_⟩
  · rw [fm]
    exact (srt_nd h).filter _
  · rw [fm]
    exact (srt_pw _).filter _
  · intro k i
    unfold told
    rw [List.mem_filterMap]
    constructor
    · rintro ⟨k', h1, h2⟩
      cases q : look b k' with
      | none => rw [q] at h2; cases h2
      | some j =>
        rw [q] at h2
        by_cases z : j = 0
        · simp [z] at h2
        · simp only [z, if_false, Option.some.injEq, Prod.mk.injEq] at h2
          obtain ⟨rfl, rfl⟩ := h2
          exact ⟨q, z⟩
    · rintro ⟨h1, h2⟩
      exact ⟨k, srt_mem.mpr (List.mem_map.mpr ⟨_, look_in h1, rfl⟩), by rw [h1]; simp [h2]⟩
end K31

set_option Elab.async false
set_option linter.all false
set_option maxRecDepth 100000
set_option maxHeartbeats 4000000
/-! K31A: words and bundles. -/
namespace K31
open PySem PySem.Spec PyProof.Rows L2 Gd
open Evl (Ex Ex.refl Ex.trans Ex.new Ex.mut ex_t ex_l sq_of st_of fresh_back)

local macro_rules | `(tactic| walk_at "st") => `(tactic| first
  | with_reducible refine x_seq ?_ | with_reducible refine x_ret ?_ | with_reducible refine x_retN ?_ | with_reducible refine x_next ?_ | with_reducible refine x_drop ?_ | with_reducible refine x_if ?_ | with_reducible refine x_asg ?_
  | with_reducible refine x_par ?_ | with_reducible refine x_par3 ?_ | with_reducible refine x_sfld ?_ | ((with_reducible show tVar _ _ _ _); refine x_var rfl ?_) | with_reducible refine x_c ?_ | with_reducible refine x_op ?_ | with_reducible refine x_un ?_
  | with_reducible refine x_chain ?_ | with_reducible refine x_andV ?_ | with_reducible refine x_orV ?_ | with_reducible refine x_notV ?_ | with_reducible refine x_ifE ?_ | with_reducible refine x_nil ?_ | with_reducible refine x_cons ?_ | with_reducible refine x_star ?_
  | with_reducible refine x_tup ?_ | with_reducible refine x_lst ?_ | with_reducible refine x_cb ?_ | with_reducible refine x_call ?_ | with_reducible refine x_meth ?_ | with_reducible refine x_make ?_ | with_reducible refine x_fld ?_ | with_reducible refine x_bm0 ?_ | with_reducible refine x_bm ?_
  | with_reducible refine x_sl ?_ | with_reducible refine x_no ?_ | with_reducible refine x_part ?_ | with_reducible refine x_rev ?_ | with_reducible refine x_fmtD ?_ | with_reducible refine x_test ?_ | with_reducible refine x_tB ?_ | with_reducible refine x_and ?_ | with_reducible refine x_or ?_ | with_reducible refine x_not ?_ | with_reducible refine x_yes ?_
  | with_reducible refine x_gname ?_ | with_reducible refine x_gtup ?_ | with_reducible refine x_gnil ?_ | with_reducible refine x_gcons ?_ | with_reducible refine x_gsub ?_ | with_reducible refine x_iList ?_ | with_reducible refine x_iStr ?_ | with_reducible refine x_iRng1 ?_ | with_reducible refine x_iEnumQ ?_
  | with_reducible refine x_lc ?_ | with_reducible refine x_dc ?_ | with_reducible refine x_iKeys ?_ | with_reducible refine x_iVals ?_ | with_reducible refine x_iItems ?_ | with_reducible refine x_forW ?_ | with_reducible refine x_iSeq ?_ | with_reducible refine x_ixO ?_
  | with_reducible refine i_I0 ?_ | with_reducible refine i_U ?_ | with_reducible refine iteT ?_ | with_reducible refine iteF ?_ | with_reducible refine iteNT ?_ | with_reducible refine iteNF ?_ | with_reducible refine x_bl ?_ | with_reducible refine x_int ?_ | with_reducible refine i_add ?_ | with_reducible refine i_int1 ?_ | with_reducible refine i_abs ?_ | with_reducible refine i_max ?_ | with_reducible refine i_min ?_)
local macro_rules | `(tactic| walk_at "go") => `(tactic| repeat (first | walk_at "st" | dsimp only [Bool.not_true, Bool.not_false, List.nil_append, List.cons_append]))

theorem units1 {k : Nat} {A : Around} (hr : Room k A) : A.units + 1 < cLine := by
  have := hr.un
  omega
theorem pe_nv {X : Cx} {e : Expr} : PE X e (fun _ _ _ => False) := ⟨fun _ _ _ _ _ _ h => h.elim⟩
abbrev CO (K : PySem.W.Frag) : Addr := He.ga K "Order"
abbrev CR (K : PySem.W.Frag) : Addr := He.ga K "Round"
structure Tabs (K : PySem.W.Frag) : Prop where
  kept : ∀ H : Hp, SqT K H (He.ga K "KEPT_WORDS") [.str "coin", .str "hall", .str "outside"]
  oc : OwnC K (CO K)
  rc : OwnC K (CR K)
  p_Order_house : PropOf K (CO K) "house" (He.ma K (CO K) "house") (propG K (CO K) "house")
  p_Order_limit : PropOf K (CO K) "limit" (He.ma K (CO K) "limit") (propG K (CO K) "limit")
  p_Order_most : PropOf K (CO K) "most" (He.ma K (CO K) "most") (propG K (CO K) "most")
abbrev FO (P : Program) (w : World) (K : PySem.W.Frag) (mg : Str → Option Value) (base : Heap) (k : Nat) (d : He5.DefA) (ps : List Str) (sp : Sp) : Prop :=
  FnOk P w K mg base CX0 k (d.at_ K) (fdOf K (d.at_ K)) ps sp
def letters : Str := "abcdefghijklmnopqrstuvwxyz"
def nameB (z : Str) : Bool := decide (1 ≤ z.length) && (decide (z.length ≤ 8) && z.cps.toList.all fun c => decide (c ∈ letters.cps.toList))
def keptL : List V := [.str "coin", .str "hall", .str "outside"]
def goodB (z : Str) : Bool := nameB z && !inV (.str z) keptL

section
variable {P : Program} {w : World} {K : PySem.W.Frag} {mg : Str → Option Value} {base : Heap}
/-! ### is_integer -/
def spIsInt : Sp := fun vs H Q _ => ∃ i, vs = [.int i] ∧ Q (.bl true) H
theorem b_is_integer (T : Txt K mg) : Binds K (fdOf K (d_is_integer.at_ K)) ["value"] [] := T.f_is_integer.bindsN fun _ _ _ _ _ _ us hl => match us, hl with | [_], _ => rfl
theorem ok_is_integer (T : Txt K mg) : FO P w K mg base 1 d_is_integer ["value"] spIsInt := by
  refine T.f_is_integer.ok sc_is_integer (fun vs H Q E h => ?_) (fun cdv A outer s H vs Q E hr h => ?_)
  · obtain ⟨i, rfl, _⟩ := h
    rfl
  · obtain ⟨i, rfl, q⟩ := h
    refine ⟨_, (pss_one (ps_ret (pe_and (pe_callB call_isi (by rfl) T.b_isinstance (by decide +kernel) (pa_cons (pv 0) (pa_cons (pe_bltn (v := .ty "int") rfl T.b_int (by decide +kernel) rfl) pa_nil))) (pe_one (pe_not (pe_callB call_isi (by rfl) T.b_isinstance (by decide +kernel) (pa_cons (pv 0) (pa_cons (pe_bltn (v := .ty "bool") rfl T.b_bool (by decide +kernel) rfl) pa_nil)))))))), ?_⟩
    walk_at "go"
    refine i_isi ty_int (b := true) (by decide +kernel) ?_
    walk_at "go"
    refine i_isi ty_int (b := false) (by decide +kernel) ?_
    walk_at "go"
    exact q
/-! ### is_count -/
def spIsCount : Sp := fun vs H Q _ => ∃ i, vs = [.int i] ∧ Q (.bl (decide (0 ≤ i))) H
theorem b_is_count (T : Txt K mg) : Binds K (fdOf K (d_is_count.at_ K)) ["value"] [] := T.f_is_count.bindsN fun _ _ _ _ _ _ us hl => match us, hl with | [_], _ => rfl
theorem ok_is_count (T : Txt K mg) : FO P w K mg base 2 d_is_count ["value"] spIsCount := by
  have G_is_integer := ok_is_integer (P := P) (w := w) (base := base) T
  refine T.f_is_count.ok sc_is_count (fun vs H Q E h => ?_) (fun cdv A outer s H vs Q E hr h => ?_)
  · obtain ⟨i, rfl, _⟩ := h
    rfl
  · obtain ⟨i, rfl, q⟩ := h
    refine ⟨_, (pss_one (ps_ret (pe_and (pe_call G_is_integer (hr.mono (by decide)) rfl T.g_is_integer T.f_is_integer.kp (b_is_integer T) .nil pass0 (pa_cons (pv 0) pa_nil)) (pe_one (pe_cmpR op_ge (pv 0) pe_int (nomark _)))))), ?_⟩
    walk_at "go"
    refine ⟨i, rfl, ?_⟩
    walk_at "go"
    exact q
/-! ### is_name -/
def spIsName : Sp := fun vs H Q _ => ∃ z : Str, vs = [.str z] ∧ z.length ≤ 10000 ∧ ∀ H', Ex H H' → Q (.bl (nameB z)) H'
theorem b_is_name (T : Txt K mg) : Binds K (fdOf K (d_is_name.at_ K)) ["value"] [] := T.f_is_name.bindsN fun _ _ _ _ _ _ us hl => match us, hl with | [_], _ => rfl
theorem ok_is_name (T : Txt K mg) : FO P w K mg base 1 d_is_name ["value"] spIsName := by
  refine T.f_is_name.ok sc_is_name (fun vs H Q E h => ?_) (fun cdv A outer s H vs Q E hr h => ?_)
  · obtain ⟨i, rfl, _⟩ := h
    rfl
  · obtain ⟨z, rfl, hz, q⟩ := h
    refine ⟨_, (pss_cons (ps_if (PW.pt (pw_or (pt_not (pt_val (pe_callB call_isi (by rfl) T.b_isinstance (by decide +kernel) (pa_cons (pv 0) (pa_cons (pe_bltn (v := .ty "str") rfl T.b_str (by decide +kernel) rfl) pa_nil))))) (pw_or1 (pt_not (pt_chain op_le op_le pe_int (pe_callB call_lenX (by rfl) T.b_len (by decide +kernel) (pa_cons (pv 0) pa_nil)) (pe_glob (v := .int 8) rfl T.c_MOST_LETTERS.choose_spec ⟨_, rfl⟩)))))) (pss_one (ps_ret pe_bl)) pss_nil)
    (pss_one (ps_ret (pe_callB (cr_all rfl) (by rfl) T.b_all (by decide +kernel) (pa_cons (pe_lc (own := [("letter", 1)]) rfl sc_is_name.nd (pi_str (pv 0)) (blkOk_by (N := ["value", "letter"]) (sc := defScope s_is_name) (by decide +kernel)) (fun _ _ _ _ _ => (pg_name (i := 1) sc_is_name.nd rfl (.inl rfl))) (fun _ _ _ _ _ => pts_nil) (fun _ _ _ _ _ => (pe_cmpR op_in_sign (pv 1) (pe_glob (v := .str "abcdefghijklmnopqrstuvwxyz") rfl T.c_LETTERS.choose_spec ⟨_, rfl⟩) (by rfl)))) pa_nil))))), ?_⟩
    walk_at "go"
    refine i_isi ty_str (b := true) (by decide +kernel) ?_
    walk_at "go"
    refine i_lenS (Nat.le_trans hz (by decide)) ?_
    walk_at "go"
    by_cases h1 : 1 ≤ z.length
    · rw [decide_eq_true (show (1 : Int) ≤ (z.length : Int) by omega)]
      walk_at "go"
      by_cases h2 : z.length ≤ 8
      · rw [decide_eq_true (show (z.length : Int) ≤ 8 by omega)]
        walk_at "go"
        refine ⟨z, rfl, fun D hD => ?_⟩
        refine lc_data walk_str (fun i => .bl (decide (z.cps.getD i 0 ∈ letters.cps.toList))) (fun _ _ => True) (fun _ _ _ _ h => h) (Ex.refl H) hD ?_ (fun _ _ _ => trivial) ?_ ?_
        · show z.length < sizeLine
          rw [sizeLine_eq]
          omega
        · rintro i x S1 Hc Hc' Qe Nx hi g _ ⟨rfl, c, hc, rfl⟩ qe
          walk_at "go"
          refine ⟨rfl, ?_⟩
          walk_at "go"
          refine ⟨c, letters, rfl, rfl, ?_⟩
          have ec : z.cps.getD i 0 = c := by rw [Array.getD_eq_getD_getElem?, hc]; rfl
          have := qe S1 Hc' (Gr.refl g.i) trivial
          rw [ec] at this
          exact this
        · intro S' H' g s' hl _
          have hb : (List.range z.cps.size).map (fun i => V.bl (decide (z.cps.getD i 0 ∈ letters.cps.toList))) = (z.cps.toList.map fun c => decide (c ∈ letters.cps.toList)).map V.bl := by
            apply List.ext_getElem?
            intro i
            by_cases hi : i < z.cps.size
            · simp [hi, Array.getD_eq_getD_getElem?]
            · simp [hi]
          refine ⟨D, _, rfl, sq_of (by rw [hl, hb]), ?_⟩
          have := q H' g.nil_h
          unfold nameB at this
          rw [decide_eq_true h1, decide_eq_true h2, Bool.true_and, Bool.true_and] at this
          rw [List.all_map]
          exact this
      · rw [decide_eq_false (show ¬ (z.length : Int) ≤ 8 by omega)]
        walk_at "go"
        have := q H (Ex.refl H)
        unfold nameB at this
        rw [decide_eq_false h2, Bool.false_and, Bool.and_false] at this
        exact this
    · rw [decide_eq_false (show ¬ (1 : Int) ≤ (z.length : Int) by omega)]
      walk_at "go"
      have := q H (Ex.refl H)
      unfold nameB at this
      rw [decide_eq_false h1, Bool.false_and] at this
      exact this
/-! ### is_good -/
def spIsGood : Sp := fun vs H Q _ => ∃ z : Str, vs = [.str z] ∧ z.length ≤ 10000 ∧ ∀ H', Ex H H' → Q (.bl (goodB z)) H'
theorem b_is_good (T : Txt K mg) : Binds K (fdOf K (d_is_good.at_ K)) ["value"] [] := T.f_is_good.bindsN fun _ _ _ _ _ _ us hl => match us, hl with | [_], _ => rfl
theorem ok_is_good (T : Txt K mg) (B : Tabs K) : FO P w K mg base 2 d_is_good ["value"] spIsGood := by
  have G_is_name := ok_is_name (P := P) (w := w) (base := base) T
  refine T.f_is_good.ok sc_is_good (fun vs H Q E h => ?_) (fun cdv A outer s H vs Q E hr h => ?_)
  · obtain ⟨i, rfl, _⟩ := h
    rfl
  · obtain ⟨z, rfl, hz, q⟩ := h
    refine ⟨_, (pss_one (ps_ret (pe_and (pe_call G_is_name (hr.mono (by decide)) rfl T.g_is_name T.f_is_name.kp (b_is_name T) .nil pass0 (pa_cons (pv 0) pa_nil)) (pe_one (pe_cmpR op_notIn_seq (pv 0) (pe_glob (v := .ref (He.ga K "KEPT_WORDS")) rfl T.g_KEPT_WORDS rfl) (by rfl)))))), ?_⟩
    walk_at "go"
    refine ⟨z, rfl, hz, fun H' f => ?_⟩
    walk_at "go"
    cases h1 : nameB z
    · walk_at "go"
      have := q H' f
      unfold goodB at this
      rw [h1, Bool.false_and] at this
      exact this
    · walk_at "go"
      refine ⟨_, keptL, rfl, .inr (B.kept H'), rfl, rfl, ?_⟩
      have := q H' f
      unfold goodB at this
      rw [h1, Bool.true_and] at this
      exact this
theorem ty_dK {H : Hp} {a : Addr} {kvs : List (Key × V)} (h : H a = some (.dK kvs)) : TyX K H (.ref a) (.type "dict") := .base (.dK h)
theorem i_all {H : Hp} {Q : VK} {D : Addr} {bs : List Bool} (hl : H D = some (.lst (bs.map V.bl))) (q : Q (.bl (bs.all id)) H) : ∃ (a : Addr) (bs : List Bool), [V.ref D] = [V.ref a] ∧ SqL K H a (bs.map V.bl) ∧ Q (.bl (bs.all id)) H := ⟨D, bs, rfl, sq_of hl, q⟩
/-! ### is_dict_of_names -/
def spNames : Sp := fun vs H Q _ => ∃ (a : Addr) (kvs : List (Key × V)) (ks : List Str), vs = [.ref a] ∧ H a = some (.dK kvs) ∧ kvs.map (·.1) = ks.map Sum.inr ∧ ks.length ≤ 1000 ∧ (∀ k ∈ ks, nameB k = true ∧ k.length ≤ 10000) ∧ ∀ H', Ex H H' → Q (.bl true) H'
theorem b_is_dict_of_names (T : Txt K mg) : Binds K (fdOf K (d_is_dict_of_names.at_ K)) ["value"] [] := T.f_is_dict_of_names.bindsN fun _ _ _ _ _ _ us hl => match us, hl with | [_], _ => rfl
theorem ok_is_dict_of_names (T : Txt K mg) : FO P w K mg base 2 d_is_dict_of_names ["value"] spNames := by
  have G_is_name := ok_is_name (P := P) (w := w) (base := base) T
  refine T.f_is_dict_of_names.ok sc_is_dict_of_names (fun vs H Q E h => ?_) (fun cdv A outer s H vs Q E hr h => ?_)
  · obtain ⟨a, kvs, ks, rfl, _⟩ := h
    rfl
  · obtain ⟨a, kvs, ks, rfl, ha, hk, hz, nm, q⟩ := h
    refine ⟨_, (pss_one (ps_ret (pe_and (pe_callB call_isi (by rfl) T.b_isinstance (by decide +kernel) (pa_cons (pv 0) (pa_cons (pe_bltn (v := .ty "dict") rfl T.b_dict (by decide +kernel) rfl) pa_nil))) (pe_one (pe_lock (pe_callB (cr_all rfl) (by rfl) T.b_all (by decide +kernel) (pa_cons (pe_lc (own := [("key", 1)]) rfl sc_is_dict_of_names.nd (pi_keys (pv 0)) (blkOk_by (N := ["value", "key"]) (sc := defScope s_is_dict_of_names) (by decide +kernel)) (fun _ _ _ _ _ => (pg_name (i := 1) sc_is_dict_of_names.nd rfl (.inl rfl))) (fun _ _ _ _ _ => pts_nil) (fun _ _ _ _ _ => (pe_call G_is_name (hr.mono (by decide)) rfl T.g_is_name T.f_is_name.kp (b_is_name T) .nil pass0 (pa_cons (pv 1) pa_nil)))) pa_nil))))))), ?_⟩
    walk_at "go"
    refine i_isi (ty_dK ha) (b := true) (by decide +kernel) ?_
    walk_at "go"
    refine i_lockE ha fun od => ?_
    walk_at "go"
    refine ⟨a, od, rfl, .inl ⟨kvs, upd_same, fun D hD => ?_⟩⟩
    have f0 : Ex (fun _ => none) H := fun _ _ z => by cases z
    have hl : kvs.length = ks.length := by
      have := congrArg List.length hk
      rwa [List.length_map, List.length_map] at this
    refine i_lcK0 (K := K) (lock_ex f0) upd_same (fun _ => some (.bl true)) (by omega) ?_ hD ?_
    · intro i k v S1 Hc Qe Nx hi g q1 q2
      have hin : k ∈ ks.map Sum.inr := by
        rw [← hk]
        exact List.mem_map.mpr ⟨_, List.mem_of_getElem? hi, rfl⟩
      obtain ⟨z, hz', rfl⟩ := List.mem_map.mp hin
      walk_at "go"
      refine ⟨rfl, ?_⟩
      walk_at "go"
      refine ⟨z, rfl, (nm z hz').2, fun H' e => ?_⟩
      rw [(nm z hz').1]
      exact q1 S1 H' _ _ (Gr.same g.i e) (.bl true) rfl
    · intro S' H' xs g s' hl' dv
      rw [fm_some (h' := fun _ => Dt.bl true) fun _ _ => rfl] at dv
      have ex : xs = ((kvs.map (·.1)).map fun _ => true).map V.bl := dvAll_bls_inv (by rw [List.map_map]; exact dv)
      obtain ⟨b1, b2, b3, b4⟩ := lock_back (L := []) f0 ha (by simp) g
      walk_at "go"
      refine ⟨D, _, rfl, sq_of (by rw [hl', ex]), b1, ?_⟩
      walk_at "go"
      rw [List.all_map, show ((kvs.map (·.1)).all (id ∘ fun _ => true)) = true from List.all_eq_true.mpr fun _ _ => rfl]
      exact q _ b3.nil_h
/-! ### is_bundle -/
def bdOk (b : Bd) : Prop := (keys b).Nodup ∧ b.length ≤ 20 ∧ ∀ k ∈ keys b, goodB k = true ∧ k.length ≤ 8
def spBundle : Sp := fun vs H Q _ => ∃ (a : Addr) (b : Bd), vs = [.ref a] ∧ H a = some (.dK (bkv b)) ∧ bdOk b ∧ ∀ H', Ex H H' → Q (.bl true) H'
theorem b_is_bundle (T : Txt K mg) : Binds K (fdOf K (d_is_bundle.at_ K)) ["value"] [] := T.f_is_bundle.bindsN fun _ _ _ _ _ _ us hl => match us, hl with | [_], _ => rfl
theorem ok_is_bundle (T : Txt K mg) (B : Tabs K) : FO P w K mg base 3 d_is_bundle ["value"] spBundle := by
  have G_is_good := ok_is_good (P := P) (w := w) (base := base) T B
  have G_is_integer := ok_is_integer (P := P) (w := w) (base := base) T
  refine T.f_is_bundle.ok sc_is_bundle (fun vs H Q E h => ?_) (fun cdv A outer s H vs Q E hr h => ?_)
  · obtain ⟨a, b, rfl, _⟩ := h
    rfl
  · obtain ⟨a, b, rfl, ha, ⟨nd, hz, nm⟩, q⟩ := h
    refine ⟨_, (pss_cons (ps_if (pt_not (pt_val (pe_callB call_isi (by rfl) T.b_isinstance (by decide +kernel) (pa_cons (pv 0) (pa_cons (pe_bltn (v := .ty "dict") rfl T.b_dict (by decide +kernel) rfl) pa_nil))))) (pss_one (ps_ret pe_bl)) pss_nil)
    (pss_one (ps_ret (pe_lock (pe_callB (cr_all rfl) (by rfl) T.b_all (by decide +kernel) (pa_cons (pe_lc (own := [("good", 1), ("many", 2)]) rfl sc_is_bundle.nd (pi_items (pv 0)) (blkOk_by (N := ["value", "good", "many"]) (sc := defScope s_is_bundle) (by decide +kernel)) (fun _ _ _ _ _ => (show PG _ _ (gTup K 2 _) from (pg_tup rfl (pgs_cons (pg_name (i := 1) sc_is_bundle.nd rfl (.inl rfl)) (pgs_cons (pg_name (i := 2) sc_is_bundle.nd rfl (.inl rfl)) pgs_nil))))) (fun _ _ _ _ _ => pts_nil) (fun _ _ _ _ _ => (pe_and (pe_call G_is_good (hr.mono (by decide)) rfl T.g_is_good T.f_is_good.kp (b_is_good T) .nil pass0 (pa_cons (pv 1) pa_nil)) (pe_one (pe_call G_is_integer (hr.mono (by decide)) rfl T.g_is_integer T.f_is_integer.kp (b_is_integer T) .nil pass0 (pa_cons (pv 2) pa_nil)))))) pa_nil)))))), ?_⟩
    walk_at "go"
    refine i_isi (ty_dK ha) (b := true) (by decide +kernel) ?_
    walk_at "go"
    refine i_lockE ha fun od => ?_
    walk_at "go"
    refine ⟨a, od, bkv b, rfl, upd_same, fun D hD => ?_⟩
    have f0 : Ex (fun _ => none) H := fun _ _ z => by cases z
    refine i_lcI (K := K) (gs := bgs b) (lock_ex f0) upd_same (by rw [bkv_keys, bgs_keys]) (bkv_dv b) (fun _ => some (.bl true)) (by rw [bgs, List.length_map]; omega) ?_ hD ?_
    · intro i p u T1 S1 Hc Qe Nx hi g du q1 q2
      obtain ⟨⟨z, n⟩, hp, rfl⟩ := List.mem_map.mp (List.mem_of_getElem? hi)
      obtain ⟨n1, n2⟩ := nm z (List.mem_map.mpr ⟨_, hp, rfl⟩)
      cases du.int_inv
      walk_at "go"
      refine i_pair ?_
      walk_at "go"
      refine ⟨rfl, ?_⟩
      walk_at "go"
      refine ⟨z, rfl, by omega, fun H' e => ?_⟩
      rw [n1]
      walk_at "go"
      refine ⟨n, rfl, ?_⟩
      walk_at "go"
      exact q1 S1 H' _ _ (Gr.same g.i e) (.bl true) rfl
    · intro S' H' xs g s' hl' dv
      rw [fm_some (h' := fun _ => Dt.bl true) fun _ _ => rfl] at dv
      have ex : xs = ((bgs b).map fun _ => true).map V.bl := dvAll_bls_inv (by rw [List.map_map]; exact dv)
      obtain ⟨b1, b2, b3, b4⟩ := lock_back (L := []) f0 ha (by simp) g
      walk_at "go"
      refine ⟨D, _, rfl, sq_of (by rw [hl', ex]), b1, ?_⟩
      walk_at "go"
      rw [List.all_map, show ((bgs b).all (id ∘ fun _ => true)) = true from List.all_eq_true.mpr fun _ _ => rfl]
      exact q _ b3.nil_h
/-! ### has_any -/
def spAny : Sp := fun vs H Q _ => ∃ i : Int, vs = [.int i] ∧ Q (.bl (!decide (i = 0))) H
theorem b_has_any (T : Txt K mg) : Binds K (fdOf K (d_has_any.at_ K)) ["number"] [] := T.f_has_any.bindsN fun _ _ _ _ _ _ us hl => match us, hl with | [_], _ => rfl
theorem ok_has_any (T : Txt K mg) : FO P w K mg base 1 d_has_any ["number"] spAny := by
  refine T.f_has_any.ok sc_has_any (fun vs H Q E h => ?_) (fun cdv A outer s H vs Q E hr h => ?_)
  · obtain ⟨i, rfl, _⟩ := h
    rfl
  · obtain ⟨i, rfl, q⟩ := h
    refine ⟨_, (pss_one (ps_ret (pe_ifExp (pt_val (pe_callB call_isi (by rfl) T.b_isinstance (by decide +kernel) (pa_cons (pv 0) (pa_cons (pe_bltn (v := .ty "int") rfl T.b_int (by decide +kernel) rfl) pa_nil)))) (pe_cmpR op_ne (pv 0) pe_int (nomark _)) pe_nv))), ?_⟩
    walk_at "go"
    refine i_isi ty_int (b := true) (by decide +kernel) ?_
    walk_at "go"
    refine ⟨rfl, ?_⟩
    rw [show decide (V.int i = V.int 0) = decide (i = 0) by by_cases h : i = 0 <;> simp [h]]
    exact q
/-! ### bundle_told -/
def spTold : Sp := fun vs H Q _ => ∃ (a : Addr) (b : Bd), vs = [.ref a] ∧ H a = some (.dK (bkv b)) ∧ bdOk b ∧ ∀ p H', H p = none → Ex H H' → H' p = some (.dK (bkv (told b))) → Q (.ref p) H'
theorem b_bundle_told (T : Txt K mg) : Binds K (fdOf K (d_bundle_told.at_ K)) ["bundle"] [] := T.f_bundle_told.bindsN fun _ _ _ _ _ _ us hl => match us, hl with | [_], _ => rfl
def toldE (b : Bd) (k : Str) : Option (Key × Dt) := match look b k with
  | some i => if i = 0 then none else some (Sum.inr k, .int i)
  | none => none
theorem told_gs (b : Bd) : (srt (keys b)).filterMap (toldE b) = bgs (told b) := by
  unfold told bgs
  rw [List.map_filterMap]
  congr 1
  funext k
  unfold toldE
  cases look b k with
  | none => rfl
  | some i =>
    by_cases z : i = 0
    · simp [z]
    · simp [z]
theorem ok_bundle_told (T : Txt K mg) : FO P w K mg base 2 d_bundle_told ["bundle"] spTold := by
  have G_has_any := ok_has_any (P := P) (w := w) (base := base) T
  refine T.f_bundle_told.ok sc_bundle_told (fun vs H Q E h => ?_) (fun cdv A outer s H vs Q E hr h => ?_)
  · obtain ⟨a, b, rfl, _⟩ := h
    rfl
  · obtain ⟨a, b, rfl, ha, ⟨nd, hz, nm⟩, q⟩ := h
    refine ⟨_, (pss_one (ps_ret (pe_dc (own := [("good", 1)]) rfl sc_bundle_told.nd (pi_list (pe_callB (call_sortD rfl) (by rfl) T.b_sorted (by decide +kernel) (pa_cons (pv 0) pa_nil))) (blkOk_by (N := ["bundle", "good"]) (sc := defScope s_bundle_told) (by decide +kernel)) (fun _ _ _ _ _ => (pg_name (i := 1) sc_bundle_told.nd rfl (.inl rfl))) (fun _ _ _ _ _ => (pts_one (pt_val (pe_call G_has_any (hr.mono (by decide)) rfl T.g_has_any T.f_has_any.kp (b_has_any T) .nil pass0 (pa_cons (pe_ix (show IxR _ (rIxY K) from ix_Y (units1 hr)) (pv 0) (pv 1) (fun _ _ => rfl)) pa_nil))))) (fun _ _ _ _ _ => (pv 1)) (fun _ _ _ _ _ => (pe_ix (show IxR _ (rIxY K) from ix_Y (units1 hr)) (pv 0) (pv 1) (fun _ _ => rfl)))))), ?_⟩
    walk_at "go"
    refine ⟨a, bkv b, keys b, rfl, .inl ha, bkv_keys b, by unfold keys; rw [List.length_map]; omega, fun ys l pm so hl => ?_⟩
    cases srt_one pm so
    have f0 : Ex (fun _ => none) (upd H l (.lst ((srt (keys b)).map V.str))) := fun _ _ z => by cases z
    have e1 := Ex.new (o := HO.lst ((srt (keys b)).map V.str)) hl
    refine ⟨l, rfl, ⟨_, sq_of upd_same⟩, fun D hD => ?_⟩
    have f1 : Ex (upd (fun _ => none) l (.lst ((srt (keys b)).map V.str))) (upd H l (.lst ((srt (keys b)).map V.str))) := fun c o z => by
      by_cases q : c = l
      · subst q
        rw [upd_same] at z ⊢
        exact z
      · rw [upd_ne q] at z
        cases z
    have w := walk_listD (K := K) (S := upd (fun _ => none) l (.lst ((srt (keys b)).map V.str))) upd_same (dvAll_strs (srt (keys b)))
    rw [List.length_map] at w
    refine dc_E (K := K) w (toldE b) f1 hD (by rw [srt_len]; unfold keys; rw [List.length_map]; omega) (fun S1 Hc g => g.s.trans g.i) ?_ ?_ ?_
    · rw [told_gs, bgs_keys]
      exact List.Pairwise.map _ (fun a b h e => h (Sum.inr.inj e)) (told_keys_nd nd).1
    · rintro i k x S1 Hc Hc' Qe Nx hk g ⟨rfl, d, hd, dx⟩ q1 q2
      rw [List.getElem?_map, hk] at hd
      cases hd
      cases dx.str_inv
      have hc : Hc' a = some (.dK (bkv b)) := g.nil_h _ _ (e1 _ _ ha)
      obtain ⟨n, hn⟩ := look_key (m := b) (k := k) (srt_mem.mp (List.mem_of_getElem? hk))
      have vv : valV (bkv b) (Sum.inr k) = some (.int n) := by rw [bkv_val, hn]; rfl
      walk_at "go"
      refine ⟨rfl, ?_⟩
      walk_at "go"
      refine i_ixDk (k := .inr k) (.inl hc) vv ?_
      walk_at "go"
      refine ⟨n, rfl, ?_⟩
      by_cases z : n = 0
      · rw [decide_eq_true z]
        walk_at "go"
        exact q2 S1 _ (Gr.refl g.i) (by unfold toldE; rw [hn]; simp [z])
      · rw [decide_eq_false z]
        walk_at "go"
        refine i_ixDk (k := .inr k) (.inl hc) vv ?_
        exact q1 S1 _ (.inr k) _ (.int n) (Gr.refl g.i) (.int n) (by unfold toldE; rw [hn]; simp [z])
    · intro S' H' kvs g s' hl' hk dv
      rw [told_gs] at hk dv
      rw [bkv_inv hk dv] at hl'
      exact q D H' (by
        have := hD
        by_cases c : D = l
        · rw [c, upd_same] at this
          cases this
        · rwa [upd_ne c] at this) (e1.trans g.nil_h) hl'
end
end K31

set_option Elab.async false
set_option linter.all false
set_option maxRecDepth 100000
set_option maxHeartbeats 4000000
/-! K31E: dicts compared, plainly. -/
namespace K31
open PySem PySem.Spec PyProof.Rows L2 Gd
theorem sub_perm {α : Type} : ∀ {A B : List α}, A.Nodup → (∀ a ∈ A, a ∈ B) → A.length = B.length → A.Perm B
  | [], B, _, _, hl => by
    have : B = [] := List.eq_nil_of_length_eq_zero hl.symm
    rw [this]
  | a :: r, B, nd, h, hl => by
    obtain ⟨n1, n2⟩ := List.nodup_cons.mp nd
    obtain ⟨s, t, rfl⟩ := List.append_of_mem (h a (.head _))
    have ih : r.Perm (s ++ t) := sub_perm n2 (fun b hb => by
      have := h b (.tail _ hb)
      rw [List.mem_append, List.mem_cons] at this
      rcases this with z | z | z
      · exact List.mem_append.mpr (.inl z)
      · exact absurd (z ▸ hb) n1
      · exact List.mem_append.mpr (.inr z)) (by
      rw [List.length_cons, List.length_append, List.length_cons] at hl
      rw [List.length_append]
      omega)
    exact (ih.cons a).trans List.perm_middle.symm
/-- two tables with keys in order are one if each entry of the first is found in the second, of the same length -/
theorem tab_eq {α : Type} : ∀ {A B : List (Str × α)}, (keys A).Nodup → (keys B).Nodup → (keys A).Pairwise leS → (keys B).Pairwise leS → A.length = B.length → (∀ p ∈ A, p ∈ B) → A = B := by
  intro A B na nb sa sb hl h
  have nA : A.Nodup := (List.pairwise_map.mp na).imp fun h e => h (congrArg Prod.fst e)
  have p : A.Perm B := sub_perm nA h hl
  refine List.Perm.eq_of_pairwise (le := fun a b => leS a.1 b.1) ?_ (List.pairwise_map.mp sa) (List.pairwise_map.mp sb) p
  intro a b ha hb h1 h2
  have e : a.1 = b.1 := leS_anti h1 h2
  have l1 := look_mem nb (h a ha)
  have l2 := look_mem nb hb
  rw [e] at l1
  rw [l1] at l2
  exact Prod.ext e (Option.some.inj l2)
/-- what == of two dicts answers by the values' own answers -/
def eqE (kA kB : List (Key × V)) (k : Key) : Bool := match valV kA k, valV kB k with
  | some x, some y => eqV x y
  | _, _ => true
theorem eq_bd {A B : Bd} (na : (keys A).Nodup) (nb : (keys B).Nodup) (sa : (keys A).Pairwise leS) (sb : (keys B).Pairwise leS) : eqKV (bkv A) (bkv B) (eqE (bkv A) (bkv B)) = decide (A = B) := by
  have key : ∀ p ∈ A, ((valV (bkv B) (Sum.inr p.1)).isSome && eqE (bkv A) (bkv B) (Sum.inr p.1)) = decide (p ∈ B) := by
    intro p hp
    have l1 : look A p.1 = some p.2 := look_mem na hp
    unfold eqE
    rw [bkv_val, bkv_val, l1]
    cases q : look B p.1 with
    | none =>
      have : p ∉ B := fun h => by
        rw [look_mem nb h] at q
        cases q
      simp [this]
    | some j =>
      show (true && eqV (V.int p.2) (V.int j)) = decide (p ∈ B)
      rw [show eqV (V.int p.2) (V.int j) = decide (p.2 = j) from by first | rfl | simp [eqV]]
      have hj := look_in q
      by_cases e : p.2 = j
      · have : p ∈ B := by
          rw [← e] at hj
          exact hj
        simp [this, e]
      · have : p ∉ B := fun h => by
          rw [look_mem nb h] at q
          exact e (Option.some.inj q)
        simp [this, e]
  have lA : (bkv A).length = A.length := List.length_map ..
  have lB : (bkv B).length = B.length := List.length_map ..
  unfold eqKV
  rw [lA, lB, Bool.eq_iff_iff, Bool.and_eq_true, decide_eq_true_eq, decide_eq_true_eq, List.all_eq_true]
  constructor
  · rintro ⟨hl, h⟩
    refine tab_eq na nb sa sb hl fun p hp => ?_
    have := h (Sum.inr p.1, V.int p.2) (List.mem_map.mpr ⟨p, hp, rfl⟩)
    rw [key p hp] at this
    exact of_decide_eq_true this
  · rintro rfl
    refine ⟨rfl, fun q hq => ?_⟩
    obtain ⟨p, hp, rfl⟩ := List.mem_map.mp hq
    rw [key p hp]
    exact decide_eq_true hp
end K31

set_option Elab.async false
set_option linter.all false
set_option maxRecDepth 100000
set_option maxHeartbeats 4000000
/-! K31P: rows, models, goods: plainly. -/
namespace K31
open PySem PySem.Spec PyProof.Rows L2 Gd
/-- what a row tells -/
structure Row where
  house : Str
  bun : Bd
  lim : Int
  most : Int
deriving DecidableEq
abbrev Ms := List (Str × Row)
/-- a step of goods_of -/
def goodsS (acc : List Str) (r : Row) : List Str := acc ++ (keys (told r.bun)).filter fun g => !acc.contains g
def goodsL (m : Ms) : List Str := m.foldl (fun acc p => goodsS acc p.2) []
def goodsM (m : Ms) : List Str := srt (goodsL m)
theorem goodsS_nd {acc : List Str} {r : Row} (h : acc.Nodup) (hb : (keys r.bun).Nodup) : (goodsS acc r).Nodup := by
  unfold goodsS
  rw [List.nodup_append]
  refine ⟨h, ((told_keys_nd hb).1).filter _, fun a ha b hb e => ?_⟩
  subst e
  have := (List.mem_filter.mp hb).2
  rw [Bool.not_eq_true', List.contains_eq_mem, decide_eq_false_iff_not] at this
  exact this ha
theorem goodsS_mem {acc : List Str} {r : Row} {k : Str} : k ∈ goodsS acc r ↔ k ∈ acc ∨ k ∈ keys (told r.bun) := by
  unfold goodsS
  rw [List.mem_append, List.mem_filter, Bool.not_eq_true', List.contains_eq_mem, decide_eq_false_iff_not]
  by_cases c : k ∈ acc
  · simp [c]
  · simp [c]
theorem goodsF : ∀ (m : Ms) (acc : List Str), acc.Nodup → (∀ p ∈ m, (keys p.2.bun).Nodup) → (m.foldl (fun acc p => goodsS acc p.2) acc).Nodup ∧ ∀ k, k ∈ m.foldl (fun acc p => goodsS acc p.2) acc ↔ k ∈ acc ∨ ∃ p ∈ m, k ∈ keys (told p.2.bun)
  | [], acc, h, _ => ⟨h, fun k => by simp⟩
  | p :: r, acc, h, hb => by
    obtain ⟨h1, h2⟩ := goodsF r (goodsS acc p.2) (goodsS_nd h (hb p (.head _))) fun q hq => hb q (.tail _ hq)
    refine ⟨h1, fun k => ?_⟩
    rw [List.foldl_cons, h2, goodsS_mem, or_assoc]
    refine or_congr Iff.rfl ⟨fun z => ?_, ?_⟩
    · rcases z with z | ⟨q, hq, z⟩
      · exact ⟨p, .head _, z⟩
      · exact ⟨q, .tail _ hq, z⟩
    · rintro ⟨q, hq, z⟩
      rcases List.mem_cons.mp hq with e | hq
      · exact .inl (e ▸ z)
      · exact .inr ⟨q, hq, z⟩
theorem goodsL_nd {m : Ms} (hb : ∀ p ∈ m, (keys p.2.bun).Nodup) : (goodsL m).Nodup := (goodsF m [] List.nodup_nil hb).1
theorem goodsL_mem {m : Ms} (hb : ∀ p ∈ m, (keys p.2.bun).Nodup) (k : Str) : k ∈ goodsL m ↔ ∃ p ∈ m, k ∈ keys (told p.2.bun) := by
  unfold goodsL
  rw [(goodsF m [] List.nodup_nil hb).2]
  simp
theorem goodsM_one {m : Ms} (hb : ∀ p ∈ m, (keys p.2.bun).Nodup) {l : List Str} (nd : l.Nodup) (h : ∀ k, k ∈ l ↔ ∃ p ∈ m, k ∈ keys (told p.2.bun)) : srt l = goodsM m :=
  srt_congr ((List.perm_ext_iff_of_nodup nd (goodsL_nd hb)).mpr fun k => (h k).trans (goodsL_mem hb k).symm)
theorem goodsL_snoc (m : Ms) (p : Str × Row) : goodsL (m ++ [p]) = goodsS (goodsL m) p.2 := by
  unfold goodsL
  rw [List.foldl_append]
  rfl
theorem goodsL_few : ∀ {m : Ms} {n : Nat}, (∀ p ∈ m, (told p.2.bun).length ≤ n) → (goodsL m).length ≤ n * m.length := by
  intro m n
  unfold goodsL
  suffices h : ∀ (m : Ms) (acc : List Str), (∀ p ∈ m, (told p.2.bun).length ≤ n) → (m.foldl (fun acc p => goodsS acc p.2) acc).length ≤ acc.length + n * m.length by
    intro h'
    have := h m [] h'
    simpa using this
  intro m
  induction m with
  | nil => intro acc _; simp
  | cons p r ih =>
    intro acc h
    rw [List.foldl_cons]
    have h1 := ih (goodsS acc p.2) fun q hq => h q (.tail _ hq)
    have h2 : (goodsS acc p.2).length ≤ acc.length + n := by
      unfold goodsS
      rw [List.length_append]
      have := List.length_filter_le (fun g => !acc.contains g) (keys (told p.2.bun))
      have h3 := h p (.head _)
      have h4 : (keys (told p.2.bun)).length = (told p.2.bun).length := List.length_map ..
      omega
    rw [List.length_cons, Nat.mul_add, Nat.mul_one]
    omega
theorem told_len (b : Bd) : (told b).length ≤ b.length := by
  unfold told
  refine Nat.le_trans (List.length_filterMap_le _ _) ?_
  rw [srt_len]
  exact Nat.le_of_eq (List.length_map ..)
/-! ### a model in the order of its names -/
def srtM (m : Ms) : Ms := (srt (keys m)).filterMap fun k => (look m k).map fun r => (k, r)
theorem srtM_keys (m : Ms) : keys (srtM m) = srt (keys m) := by
  have h : ∀ l : List Str, (∀ k ∈ l, k ∈ keys m) → keys (l.filterMap fun k => (look m k).map fun r => (k, r)) = l := by
    intro l
    induction l with
    | nil => intro _; rfl
    | cons k r ih =>
      intro hl
      obtain ⟨x, hx⟩ := look_key (hl k (.head _))
      rw [List.filterMap_cons, hx]
      show k :: keys _ = k :: r
      rw [ih fun z hz => hl z (.tail _ hz)]
  exact h _ fun k hk => srt_mem.mp hk
theorem srtM_mem {m : Ms} (nd : (keys m).Nodup) {p : Str × Row} : p ∈ srtM m ↔ p ∈ m := by
  unfold srtM
  rw [List.mem_filterMap]
  constructor
  · rintro ⟨k, _, h⟩
    cases q : look m k with
    | none => rw [q] at h; cases h
    | some r =>
      rw [q] at h
      cases h
      exact look_in q
  · intro h
    exact ⟨p.1, srt_mem.mpr (List.mem_map.mpr ⟨p, h, rfl⟩), by rw [look_mem nd h]; rfl⟩
theorem srtM_look {m : Ms} (nd : (keys m).Nodup) (k : Str) : look (srtM m) k = look m k := by
  have nd' : (keys (srtM m)).Nodup := by rw [srtM_keys]; exact srt_nd nd
  cases q : look m k with
  | some r => exact look_mem nd' ((srtM_mem nd).mpr (look_in q))
  | none =>
    refine look_no fun h => ?_
    rw [srtM_keys, srt_mem] at h
    obtain ⟨x, hx⟩ := look_key h
    rw [hx] at q
    cases q
theorem srtM_len (m : Ms) : (srtM m).length = m.length := by
  have := congrArg List.length (srtM_keys m)
  rw [srt_len] at this
  unfold keys at this
  rwa [List.length_map, List.length_map] at this
/-- a table whose names stand in order, of the same rows -/
theorem srtM_one {m t : Ms} (nd : (keys m).Nodup) (so : (keys t).Pairwise leS) (p : t.Perm m) : t = srtM m := by
  have pk : (keys t).Perm (keys m) := p.map _
  have n1 : (keys t).Nodup := pk.nodup_iff.mpr nd
  refine tab_eq n1 (by rw [srtM_keys]; exact srt_nd nd) so (by rw [srtM_keys]; exact srt_pw _) (by rw [srtM_len]; exact p.length_eq) fun q hq => (srtM_mem nd).mpr (p.mem_iff.mp hq)
theorem srtM_self {t : Ms} (nd : (keys t).Nodup) (so : (keys t).Pairwise leS) : srtM t = t := (srtM_one nd so (List.Perm.refl t)).symm
theorem srtM_congr {m t : Ms} (nd : (keys m).Nodup) (p : t.Perm m) : srtM t = srtM m := by
  have pk : (keys t).Perm (keys m) := p.map _
  have n1 : (keys t).Nodup := pk.nodup_iff.mpr nd
  refine srtM_one nd (by rw [srtM_keys]; exact srt_pw _) ?_
  refine List.Perm.trans (sub_perm ?_ (fun a ha => (srtM_mem n1).mp ha) (srtM_len t)) p
  have : (keys (srtM t)).Nodup := by rw [srtM_keys]; exact srt_nd n1
  exact (List.pairwise_map.mp this).imp fun h e => h (congrArg Prod.fst e)
end K31

set_option Elab.async false
set_option linter.all false
set_option maxRecDepth 100000
set_option maxHeartbeats 4000000
/-! K31B: the class Order. -/
namespace K31
open PySem PySem.Spec PyProof.Rows L2 Gd
open Evl (Ex Ex.refl Ex.trans Ex.new Ex.mut ex_t ex_l sq_of st_of fresh_back)

local macro_rules | `(tactic| walk_at "st") => `(tactic| first
  | with_reducible refine x_seq ?_ | with_reducible refine x_ret ?_ | with_reducible refine x_retN ?_ | with_reducible refine x_next ?_ | with_reducible refine x_drop ?_ | with_reducible refine x_if ?_ | with_reducible refine x_asg ?_
  | with_reducible refine x_par ?_ | with_reducible refine x_par3 ?_ | with_reducible refine x_sfld ?_ | ((with_reducible show tVar _ _ _ _); refine x_var rfl ?_) | with_reducible refine x_c ?_ | with_reducible refine x_op ?_ | with_reducible refine x_un ?_
  | with_reducible refine x_chain ?_ | with_reducible refine x_andV ?_ | with_reducible refine x_orV ?_ | with_reducible refine x_notV ?_ | with_reducible refine x_ifE ?_ | with_reducible refine x_nil ?_ | with_reducible refine x_cons ?_ | with_reducible refine x_star ?_
  | with_reducible refine x_tup ?_ | with_reducible refine x_lst ?_ | with_reducible refine x_cb ?_ | with_reducible refine x_call ?_ | with_reducible refine x_meth ?_ | with_reducible refine x_make ?_ | with_reducible refine x_fld ?_ | with_reducible refine x_bm0 ?_ | with_reducible refine x_bm ?_
  | with_reducible refine x_sl ?_ | with_reducible refine x_no ?_ | with_reducible refine x_part ?_ | with_reducible refine x_rev ?_ | with_reducible refine x_fmtD ?_ | with_reducible refine x_test ?_ | with_reducible refine x_tB ?_ | with_reducible refine x_and ?_ | with_reducible refine x_or ?_ | with_reducible refine x_not ?_ | with_reducible refine x_yes ?_
  | with_reducible refine x_gname ?_ | with_reducible refine x_gtup ?_ | with_reducible refine x_gnil ?_ | with_reducible refine x_gcons ?_ | with_reducible refine x_gsub ?_ | with_reducible refine x_iList ?_ | with_reducible refine x_iStr ?_ | with_reducible refine x_iRng1 ?_ | with_reducible refine x_iEnumQ ?_
  | with_reducible refine x_lc ?_ | with_reducible refine x_dc ?_ | with_reducible refine x_iKeys ?_ | with_reducible refine x_iVals ?_ | with_reducible refine x_iItems ?_ | with_reducible refine x_forW ?_ | with_reducible refine x_iSeq ?_ | with_reducible refine x_ixO ?_
  | with_reducible refine i_I0 ?_ | with_reducible refine i_U ?_ | with_reducible refine iteT ?_ | with_reducible refine iteF ?_ | with_reducible refine iteNT ?_ | with_reducible refine iteNF ?_ | with_reducible refine x_bl ?_ | with_reducible refine x_int ?_ | with_reducible refine i_add ?_ | with_reducible refine i_int1 ?_ | with_reducible refine i_abs ?_ | with_reducible refine i_max ?_ | with_reducible refine i_min ?_)
local macro_rules | `(tactic| walk_at "go") => `(tactic| repeat (first | walk_at "st" | dsimp only [Bool.not_true, Bool.not_false, List.nil_append, List.cons_append]))

structure RowOk (r : Row) : Prop where
  n : nameB r.house = true
  h8 : r.house.length ≤ 8
  b : bdOk r.bun
  m : 0 ≤ r.most
def ordF (K : PySem.W.Frag) (r : Row) : List (Str × Dt) := [("own_house", .str r.house), ("own_bundle", bdD (told r.bun)), ("own_limit", .int r.lim), ("own_most", .int r.most)]
def ordD (K : PySem.W.Frag) (r : Row) : Dt := .ins (CO K) (ordF K r)
section
variable {P : Program} {w : World} {K : PySem.W.Frag} {mg : Str → Option Value} {base : Heap}
section
variable {S H : Hp}
theorem ord_inv {v : V} {r : Row} (h : Dv K S v (ordD K r)) : ∃ a dx p, v = .ref a ∧ S a = some (.ins (CO K) dx [("own_house", .str r.house), ("own_bundle", .ref p), ("own_limit", .int r.lim), ("own_most", .int r.most)]) ∧ S p = some (.dK (bkv (told r.bun))) := by
  obtain ⟨a, dx, fs, rfl, h1, h2, h3⟩ := h.ins_inv
  match fs, h2, h3 with
  | [(x, g), (y, t), (z, u), (z2, u2)], h2, h3 =>
    simp only [ordF, List.map_cons, List.map_nil, List.cons.injEq, and_true] at h2
    obtain ⟨rfl, rfl, rfl, rfl⟩ := h2
    cases h3 with
    | cons d1 h3 => cases h3 with
      | cons d2 h3 => cases h3 with
        | cons d3 h3 => cases h3 with
          | cons d4 h3 =>
            cases d1.str_inv
            cases d3.int_inv
            cases d4.int_inv
            obtain ⟨p, rfl, hp⟩ := bd_inv d2
            exact ⟨a, dx, p, rfl, h1, hp⟩
end
/-! ### __init__ -/
def spOrd : Sp := fun vs H Q _ => ∃ (S : Hp) (x a dx : Addr) (r : Row), vs = [.ref x, .str r.house, .ref a, .int r.lim, .int r.most] ∧ Ex S H ∧ S x = none ∧ H x = some (.ins (CO K) dx []) ∧ H a = some (.dK (bkv r.bun)) ∧ RowOk r ∧
  ∀ S' H', Gr [x] S H S' H' → Dv K S' (.ref x) (ordD K r) → Q .non H'
theorem ok_Order_init (T : Txt K mg) (B : Tabs K) : FO P w K mg base 4 d_Order_init ["self", "house", "bundle", "limit", "most"] (spOrd (K := K)) := by
  have G_is_name := ok_is_name (P := P) (w := w) (base := base) T
  have G_is_bundle := ok_is_bundle (P := P) (w := w) (base := base) T B
  have G_is_integer := ok_is_integer (P := P) (w := w) (base := base) T
  have G_is_count := ok_is_count (P := P) (w := w) (base := base) T
  have G_bundle_told := ok_bundle_told (P := P) (w := w) (base := base) T
  refine T.f_Order_init.ok sc_Order_init (fun vs H Q E h => ?_) (fun cdv A outer s H vs Q E hr h => ?_)
  · obtain ⟨S, x, a, dx, r, rfl, _⟩ := h
    rfl
  · obtain ⟨S, x, a, dx, r, rfl, f, sx, hx, ha, ok, q⟩ := h
    have h8 := ok.h8
    refine ⟨_, (pss_cons (ps_if (pt_not (pt_val (pe_call G_is_name (hr.mono (by decide)) rfl T.g_is_name T.f_is_name.kp (b_is_name T) .nil pass0 (pa_cons (pv 1) pa_nil)))) pss_never pss_nil)
    (pss_cons (ps_if (pt_not (pt_val (pe_call G_is_bundle (hr.mono (by decide)) rfl T.g_is_bundle T.f_is_bundle.kp (b_is_bundle T) .nil pass0 (pa_cons (pv 2) pa_nil)))) pss_never pss_nil)
    (pss_cons (ps_if (pt_not (pt_val (pe_call G_is_integer (hr.mono (by decide)) rfl T.g_is_integer T.f_is_integer.kp (b_is_integer T) .nil pass0 (pa_cons (pv 3) pa_nil)))) pss_never pss_nil)
    (pss_cons (ps_if (pt_not (pt_val (pe_call G_is_count (hr.mono (by decide)) rfl T.g_is_count T.f_is_count.kp (b_is_count T) .nil pass0 (pa_cons (pv 4) pa_nil)))) pss_never pss_nil)
    (pss_cons (ps_fld (pv 0) (pv 1) rfl)
    (pss_cons (ps_fld (pv 0) (pe_call G_bundle_told (hr.mono (by decide)) rfl T.g_bundle_told T.f_bundle_told.kp (b_bundle_told T) .nil pass0 (pa_cons (pv 2) pa_nil)) rfl)
    (pss_cons (ps_fld (pv 0) (pv 3) rfl)
    (pss_one (ps_fld (pv 0) (pv 4) rfl))))))))), ?_⟩
    walk_at "go"
    refine ⟨r.house, rfl, by omega, fun H1 e1 => ?_⟩
    rw [ok.n]
    walk_at "go"
    refine ⟨a, r.bun, rfl, e1 _ _ ha, ok.b, fun H2 e2 => ?_⟩
    walk_at "go"
    refine ⟨r.lim, rfl, ?_⟩
    walk_at "go"
    refine ⟨r.most, rfl, ?_⟩
    rw [decide_eq_true ok.m]
    have e12 := e1.trans e2
    have g1 : Gr [x] S H S H2 := Gr.same f e12
    walk_at "go"
    refine ⟨x, _, dx, _, rfl, e12 _ _ hx, T.cl_Order, T.na_Order_own_house, by decide, ?_⟩
    have nax : a ≠ x := fun z => by
      rw [z, hx] at ha
      cases ha
    have g2 : Gr [x] S H S (upd H2 x (.ins (CO K) dx [("own_house", .str r.house)])) := g1.trans (Gr.mut (L := [x]) g1.i sx (by simp)) (fun z hz => .inl hz)
    walk_at "go"
    refine ⟨a, r.bun, rfl, by rw [upd_ne nax]; exact e12 _ _ ha, ok.b, fun p H3 hp e3 h3 => ?_⟩
    have sp : S p = none := fresh_back g2.i hp
    have g3 : Gr [x] S H S H3 := g2.then (Gr.same g2.i e3)
    have g4 : Gr [x] S H (upd S p (.dK (bkv (told r.bun)))) H3 := g3.trans (Gr.frz (L := [p]) g3.i sp h3 (by simp)) (fun z hz => .inr (by
      rw [List.mem_singleton.mp hz]
      cases qq : H p with
      | none => rfl
      | some o =>
        by_cases px : p = x
        · rw [px, upd_same] at hp
          cases hp
        · cases (g2.h p o (by simpa using px) qq).symm.trans hp))
    have npx : x ≠ p := fun z => by
      rw [← z, upd_same] at hp
      cases hp
    have sx4 : (upd S p (.dK (bkv (told r.bun)))) x = none := by rw [upd_ne npx]; exact sx
    walk_at "go"
    refine ⟨x, _, dx, _, rfl, e3 _ _ upd_same, T.cl_Order, T.na_Order_own_bundle, (by show 1 < 1000; decide), ?_⟩
    walk_at "go"
    refine ⟨x, _, dx, _, rfl, upd_same, T.cl_Order, T.na_Order_own_limit, (by show 2 < 1000; decide), ?_⟩
    walk_at "go"
    refine ⟨x, _, dx, _, rfl, upd_same, T.cl_Order, T.na_Order_own_most, (by show 3 < 1000; decide), ?_⟩
    walk_at "go"
    have mu : ∀ {H5 : Hp} (o : HO), Gr [x] S H (upd S p (.dK (bkv (told r.bun)))) H5 → Gr [x] S H (upd S p (.dK (bkv (told r.bun)))) (upd H5 x o) := fun o g => g.trans (Gr.mut (L := [x]) g.i sx4 (by simp)) (fun z hz => .inl hz)
    have g5 := mu (.ins (CO K) dx [("own_house", .str r.house), ("own_bundle", .ref p)]) g4
    have g6 := mu (.ins (CO K) dx [("own_house", .str r.house), ("own_bundle", .ref p), ("own_limit", .int r.lim)]) g5
    have g7 := mu (.ins (CO K) dx [("own_house", .str r.house), ("own_bundle", .ref p), ("own_limit", .int r.lim), ("own_most", .int r.most)]) g6
    have g8 := g7.trans (Gr.frz (L := [x]) g7.i sx4 upd_same (by simp)) (fun z hz => .inl hz)
    exact q _ _ g8 (.ins upd_same sx4 (Ex.new sx4) rfl (.cons (.str _) (.cons (bd_new sp) (.cons (.int _) (.cons (.int _) .nil)))))
/-! ### house -/
def spG_house : Sp := fun vs H Q _ => ∃ S v r, vs = [v] ∧ Ex S H ∧ Dv K S v (ordD K r) ∧ Q (.str r.house) H
theorem b_Order_house (T : Txt K mg) : Binds K (fdOf K (d_Order_house.at_ K)) ["self"] [] := T.f_Order_house.bindsN fun _ _ _ _ _ _ us hl => match us, hl with | [_], _ => rfl
theorem ok_Order_house (T : Txt K mg) : FO P w K mg base 1 d_Order_house ["self"] (spG_house (K := K)) := by
  refine T.f_Order_house.ok sc_Order_house (fun vs H Q E h => ?_) (fun cdv A outer s H vs Q E hr h => ?_)
  · obtain ⟨S, v, r, rfl, _⟩ := h
    rfl
  · obtain ⟨S, v, r, rfl, f, dv, q⟩ := h
    obtain ⟨a, dx, p, rfl, h1, h2⟩ := ord_inv dv
    refine ⟨_, (pss_one (ps_ret (pe_fld (pv 0) rfl))), ?_⟩
    walk_at "go"
    exact ⟨a, _, dx, _, _, rfl, f _ _ h1, T.cl_Order, T.na_Order_own_house, rfl, q⟩
/-! ### limit -/
def spG_limit : Sp := fun vs H Q _ => ∃ S v r, vs = [v] ∧ Ex S H ∧ Dv K S v (ordD K r) ∧ Q (.int r.lim) H
theorem b_Order_limit (T : Txt K mg) : Binds K (fdOf K (d_Order_limit.at_ K)) ["self"] [] := T.f_Order_limit.bindsN fun _ _ _ _ _ _ us hl => match us, hl with | [_], _ => rfl
theorem ok_Order_limit (T : Txt K mg) : FO P w K mg base 1 d_Order_limit ["self"] (spG_limit (K := K)) := by
  refine T.f_Order_limit.ok sc_Order_limit (fun vs H Q E h => ?_) (fun cdv A outer s H vs Q E hr h => ?_)
  · obtain ⟨S, v, r, rfl, _⟩ := h
    rfl
  · obtain ⟨S, v, r, rfl, f, dv, q⟩ := h
    obtain ⟨a, dx, p, rfl, h1, h2⟩ := ord_inv dv
    refine ⟨_, (pss_one (ps_ret (pe_fld (pv 0) rfl))), ?_⟩
    walk_at "go"
    exact ⟨a, _, dx, _, _, rfl, f _ _ h1, T.cl_Order, T.na_Order_own_limit, rfl, q⟩
/-! ### most -/
def spG_most : Sp := fun vs H Q _ => ∃ S v r, vs = [v] ∧ Ex S H ∧ Dv K S v (ordD K r) ∧ Q (.int r.most) H
theorem b_Order_most (T : Txt K mg) : Binds K (fdOf K (d_Order_most.at_ K)) ["self"] [] := T.f_Order_most.bindsN fun _ _ _ _ _ _ us hl => match us, hl with | [_], _ => rfl
theorem ok_Order_most (T : Txt K mg) : FO P w K mg base 1 d_Order_most ["self"] (spG_most (K := K)) := by
  refine T.f_Order_most.ok sc_Order_most (fun vs H Q E h => ?_) (fun cdv A outer s H vs Q E hr h => ?_)
  · obtain ⟨S, v, r, rfl, _⟩ := h
    rfl
  · obtain ⟨S, v, r, rfl, f, dv, q⟩ := h
    obtain ⟨a, dx, p, rfl, h1, h2⟩ := ord_inv dv
    refine ⟨_, (pss_one (ps_ret (pe_fld (pv 0) rfl))), ?_⟩
    walk_at "go"
    exact ⟨a, _, dx, _, _, rfl, f _ _ h1, T.cl_Order, T.na_Order_own_most, rfl, q⟩
/-! ### bundle -/
def spBun : Sp := fun vs H Q _ => ∃ S v r, vs = [v] ∧ Ex S H ∧ Dv K S v (ordD K r) ∧ ∀ p, H p = none → Q (.ref p) (upd H p (.dK (bkv (told r.bun))))
theorem b_Order_bundle (T : Txt K mg) : Binds K (fdOf K (d_Order_bundle.at_ K)) ["self"] [] := T.f_Order_bundle.bindsN fun _ _ _ _ _ _ us hl => match us, hl with | [_], _ => rfl
theorem ok_Order_bundle (T : Txt K mg) : FO P w K mg base 1 d_Order_bundle ["self"] (spBun (K := K)) := by
  refine T.f_Order_bundle.ok sc_Order_bundle (fun vs H Q E h => ?_) (fun cdv A outer s H vs Q E hr h => ?_)
  · obtain ⟨S, v, r, rfl, _⟩ := h
    rfl
  · obtain ⟨S, v, r, rfl, f, dv, q⟩ := h
    obtain ⟨a, dx, p, rfl, h1, h2⟩ := ord_inv dv
    refine ⟨_, (pss_one (ps_ret (pe_callTy call_dictD' (by rfl) T.b_dict (by decide +kernel) (pa_cons (pe_fld (pv 0) rfl) pa_nil)))), ?_⟩
    walk_at "go"
    refine ⟨a, _, dx, _, _, rfl, f _ _ h1, T.cl_Order, T.na_Order_own_bundle, rfl, ?_⟩
    walk_at "go"
    exact ⟨p, _, rfl, .inl (f _ _ h2), q⟩
/-! ### == -/
structure ToldOk (b : Bd) : Prop where
  nd : (keys b).Nodup
  so : (keys b).Pairwise leS
theorem told_ok {b : Bd} (h : bdOk b) : ToldOk (told b) := ⟨(told_keys_nd h.1).1, (told_keys_nd h.1).2.1⟩
/-- rows that make equal orders -/
def sameB (r t : Row) : Bool := decide (r.house = t.house) && (decide (r.lim = t.lim) && (decide (r.most = t.most) && decide (told r.bun = told t.bun)))
def spOEq : Sp := fun vs H Q _ => ∃ S v u r, vs = [v, u] ∧ Ex S H ∧ Dv K S v (ordD K r) ∧ ((∃ t ∈ bases, TyX K H u (.type t) ∧ Q (.bl false) H) ∨ ∃ t, Dv K S u (ordD K t) ∧ bdOk r.bun ∧ bdOk t.bun ∧ ∀ H', Ex H H' → Q (.bl (sameB r t)) H')
theorem b_Order_eq (T : Txt K mg) : Binds K (fdOf K (d_Order_eq.at_ K)) ["self", "other"] [] := T.f_Order_eq.bindsN fun _ _ _ _ _ _ us hl => match us, hl with | [_, _], _ => rfl
theorem i_eqB {X : Cx} {S H : Hp} {Q : VK} {a b : Addr} {A B : Bd} (f : Ex S H) (ha : S a = some (.dK (bkv A))) (hb : S b = some (.dK (bkv B))) (oa : ToldOk A) (ob : ToldOk B) (q : ∀ H', Ex H H' → Q (.bl (decide (A = B))) H') : rEqDO X 0 (.ref a) (.ref b) H Q := by
  refine ⟨a, b, bkv A, bkv B, fun _ => none, eqE (bkv A) (bkv B), rfl, rfl, rfl, (fun _ _ z => by cases z), f _ _ ha, f _ _ hb, ?_, fun H' e => ?_⟩
  · intro p hp y hy
    obtain ⟨p', hp', rfl⟩ := List.mem_map.mp hp
    have l1 : valV (bkv A) (Sum.inr p'.1) = some (.int p'.2) := by rw [bkv_val, look_mem oa.nd hp']; rfl
    obtain ⟨j, rfl⟩ : ∃ j, y = .int j := by
      rw [bkv_val] at hy
      cases q : look B p'.1 with
      | none => rw [q] at hy; cases hy
      | some j => rw [q] at hy; cases hy; exact ⟨j, rfl⟩
    have e : eqE (bkv A) (bkv B) (Sum.inr p'.1) = eqV (.int p'.2) (.int j) := by
      unfold eqE
      rw [l1, hy]
    show EqV X 0 _ (.int p'.2) (.int j) _
    rw [e]
    exact EqV.flat rfl rfl
  · rw [eq_bd oa.nd ob.nd oa.so ob.so]
    exact q H' e
theorem ok_Order_eq (T : Txt K mg) (B : Tabs K) : FO P w K mg base 3 d_Order_eq ["self", "other"] (spOEq (K := K)) := by
  refine T.f_Order_eq.ok sc_Order_eq (fun vs H Q E h => ?_) (fun cdv A outer s H vs Q E hr h => ?_)
  · obtain ⟨S, v, u, r, rfl, _⟩ := h
    rfl
  · obtain ⟨S, v, u, r, rfl, f, dv, h⟩ := h
    obtain ⟨a, dx, p, rfl, h1, h2⟩ := ord_inv dv
    refine ⟨_, (pss_cons (ps_if (PW.pt (pw_or (pt_not (pt_val (pe_callB call_isi (by rfl) T.b_isinstance (by decide +kernel) (pa_cons (pv 1) (pa_cons (pe_glob (v := .ref (He.ga K "Order")) rfl T.g_Order rfl) pa_nil))))) (pw_or1 (pt_cmpR op_ne (pe_fld (pv 0) rfl) (pe_fld (pv 1) rfl) (nomark _))))) (pss_one (ps_ret pe_bl)) pss_nil)
    (pss_cons (ps_if (PW.pt (pw_or (pt_cmpR op_ne (pe_fld (pv 0) rfl) (pe_fld (pv 1) rfl) (nomark _)) (pw_or1 (pt_cmpR op_ne (pe_fld (pv 0) rfl) (pe_fld (pv 1) rfl) (nomark _))))) (pss_one (ps_ret pe_bl)) pss_nil)
    (pss_one (ps_ret (pe_cmpR (op_eqDO (n := 0) hr) (pe_fld (pv 0) rfl) (pe_fld (pv 1) rfl) (nomark _)))))), ?_⟩
    walk_at "go"
    rcases h with ⟨t, ht, ty, q⟩ | ⟨t, du, or', ot, q⟩
    · refine ⟨_, _, _, _, false, rfl, .own _, ty, B.oc.isi t ht, ?_⟩
      walk_at "go"
      exact q
    · obtain ⟨b, dy, p', rfl, k1, k2⟩ := ord_inv du
      refine ⟨_, _, _, _, true, rfl, .own _, B.oc.ty _ _ _ _ (f _ _ k1), ?_, ?_⟩
      · unfold PySem.W.kitOne
        rw [if_pos (by simp)]
      walk_at "go"
      refine ⟨a, _, dx, _, _, rfl, f _ _ h1, T.cl_Order, T.na_Order_own_house, rfl, ?_⟩
      walk_at "go"
      refine ⟨b, _, dy, _, _, rfl, f _ _ k1, T.cl_Order, T.na_Order_own_house, rfl, ?_⟩
      refine ⟨rfl, ?_⟩
      rw [show decide (V.str r.house = V.str t.house) = decide (r.house = t.house) by by_cases h : r.house = t.house <;> simp [h]]
      unfold sameB at q
      by_cases e1 : r.house = t.house
      · rw [decide_eq_true e1] at q ⊢
        simp only [Bool.true_and] at q
        walk_at "go"
        refine ⟨a, _, dx, _, _, rfl, f _ _ h1, T.cl_Order, T.na_Order_own_limit, rfl, ?_⟩
        walk_at "go"
        refine ⟨b, _, dy, _, _, rfl, f _ _ k1, T.cl_Order, T.na_Order_own_limit, rfl, ?_⟩
        refine ⟨rfl, ?_⟩
        rw [show decide (V.int r.lim = V.int t.lim) = decide (r.lim = t.lim) by by_cases h : r.lim = t.lim <;> simp [h]]
        by_cases e2 : r.lim = t.lim
        · rw [decide_eq_true e2] at q ⊢
          simp only [Bool.true_and] at q
          walk_at "go"
          refine ⟨a, _, dx, _, _, rfl, f _ _ h1, T.cl_Order, T.na_Order_own_most, rfl, ?_⟩
          walk_at "go"
          refine ⟨b, _, dy, _, _, rfl, f _ _ k1, T.cl_Order, T.na_Order_own_most, rfl, ?_⟩
          refine ⟨rfl, ?_⟩
          rw [show decide (V.int r.most = V.int t.most) = decide (r.most = t.most) by by_cases h : r.most = t.most <;> simp [h]]
          by_cases e3 : r.most = t.most
          · rw [decide_eq_true e3] at q ⊢
            simp only [Bool.true_and] at q
            walk_at "go"
            refine ⟨a, _, dx, _, _, rfl, f _ _ h1, T.cl_Order, T.na_Order_own_bundle, rfl, ?_⟩
            walk_at "go"
            refine ⟨b, _, dy, _, _, rfl, f _ _ k1, T.cl_Order, T.na_Order_own_bundle, rfl, ?_⟩
            exact i_eqB f h2 k2 (told_ok or') (told_ok ot) q
          · rw [decide_eq_false e3] at q ⊢
            walk_at "go"
            exact q H (Ex.refl H)
        · rw [decide_eq_false e2] at q ⊢
          walk_at "go"
          exact q H (Ex.refl H)
      · rw [decide_eq_false e1] at q ⊢
        walk_at "go"
        exact q H (Ex.refl H)
end
end K31

set_option Elab.async false
set_option linter.all false
set_option maxRecDepth 100000
set_option maxHeartbeats 4000000
/-! K31R: the text of an order. -/
namespace K31
open PySem PySem.Spec PyProof.Rows L2 Gd
open Evl (Ex Ex.refl Ex.trans Ex.new Ex.mut ex_t ex_l sq_of st_of fresh_back)

local macro_rules | `(tactic| walk_at "st") => `(tactic| first
  | with_reducible refine x_seq ?_ | with_reducible refine x_ret ?_ | with_reducible refine x_retN ?_ | with_reducible refine x_next ?_ | with_reducible refine x_drop ?_ | with_reducible refine x_if ?_ | with_reducible refine x_asg ?_
  | with_reducible refine x_par ?_ | with_reducible refine x_par3 ?_ | with_reducible refine x_sfld ?_ | ((with_reducible show tVar _ _ _ _); refine x_var rfl ?_) | with_reducible refine x_c ?_ | with_reducible refine x_op ?_ | with_reducible refine x_un ?_
  | with_reducible refine x_chain ?_ | with_reducible refine x_andV ?_ | with_reducible refine x_orV ?_ | with_reducible refine x_notV ?_ | with_reducible refine x_ifE ?_ | with_reducible refine x_nil ?_ | with_reducible refine x_cons ?_ | with_reducible refine x_star ?_
  | with_reducible refine x_tup ?_ | with_reducible refine x_lst ?_ | with_reducible refine x_cb ?_ | with_reducible refine x_call ?_ | with_reducible refine x_meth ?_ | with_reducible refine x_make ?_ | with_reducible refine x_fld ?_ | with_reducible refine x_bm0 ?_ | with_reducible refine x_bm ?_
  | with_reducible refine x_sl ?_ | with_reducible refine x_no ?_ | with_reducible refine x_part ?_ | with_reducible refine x_rev ?_ | with_reducible refine x_fmtD ?_ | with_reducible refine x_test ?_ | with_reducible refine x_tB ?_ | with_reducible refine x_and ?_ | with_reducible refine x_or ?_ | with_reducible refine x_not ?_ | with_reducible refine x_yes ?_
  | with_reducible refine x_gname ?_ | with_reducible refine x_gtup ?_ | with_reducible refine x_gnil ?_ | with_reducible refine x_gcons ?_ | with_reducible refine x_gsub ?_ | with_reducible refine x_iList ?_ | with_reducible refine x_iStr ?_ | with_reducible refine x_iRng1 ?_ | with_reducible refine x_iEnumQ ?_
  | with_reducible refine x_lc ?_ | with_reducible refine x_dc ?_ | with_reducible refine x_iKeys ?_ | with_reducible refine x_iVals ?_ | with_reducible refine x_iItems ?_ | with_reducible refine x_forW ?_ | with_reducible refine x_iSeq ?_ | with_reducible refine x_ixO ?_
  | with_reducible refine i_I0 ?_ | with_reducible refine i_U ?_ | with_reducible refine iteT ?_ | with_reducible refine iteF ?_ | with_reducible refine iteNT ?_ | with_reducible refine iteNF ?_ | with_reducible refine x_bl ?_ | with_reducible refine x_int ?_ | with_reducible refine i_add ?_ | with_reducible refine i_int1 ?_ | with_reducible refine i_abs ?_ | with_reducible refine i_max ?_ | with_reducible refine i_min ?_)
local macro_rules | `(tactic| walk_at "go") => `(tactic| repeat (first | walk_at "st" | dsimp only [Bool.not_true, Bool.not_false, List.nil_append, List.cons_append]))

def tx0 : Addr → List (Str × Dt) → Str := fun _ _ => Str.empty
def ok0 : Addr → List (Str × Dt) → Bool := fun _ _ => false
theorem insR0 (X : Cx) (n : Nat) : InsR X n tx0 ok0 := fun _ _ _ _ _ h => by cases h
/-- the text of a bundle -/
def bdT (b : Bd) : Str := txD tx0 (bdD b)
/-- the text of an order -/
def ordT (r : Row) : Str := "Order(" ++ reprText r.house ++ ", " ++ bdT (told r.bun) ++ ", " ++ toString r.lim ++ ", " ++ toString r.most ++ ")"
structure SmallR (r : Row) : Prop where
  h : (reprText r.house).length ≤ 100
  b : (bdT (told r.bun)).length ≤ 2000
  bo : okD ok0 (bdD (told r.bun)) = true
  l : r.lim.natAbs.log2 < 1920
  l2 : (toString r.lim : Str).length ≤ 700
  m : r.most.natAbs.log2 < 1920
  m2 : (toString r.most : Str).length ≤ 700
theorem bd_of {K : PySem.W.Frag} {S : Hp} {p : Addr} {b : Bd} (h : S p = some (.dK (bkv b))) : Dv K S (.ref p) (bdD b) := .dK (H0 := fun _ => none) h rfl (fun _ _ z => by cases z) (by rw [bkv_keys, bgs_keys]) (bkv_dv b)
theorem dpt_bd (b : Bd) : dpt (bdD b) ≤ 1 := by
  unfold bdD
  rw [dpt]
  have : dptKv (bgs b) = 0 := by
    unfold bgs
    induction b with
    | nil => simp [dptKv]
    | cons p r ih => simp [dptKv, dpt, ih]
  omega
section
variable {P : Program} {w : World} {K : PySem.W.Frag} {mg : Str → Option Value} {base : Heap}
def spORepr (K : PySem.W.Frag) (g : List Code) : Sp := fun vs H Q _ => ∃ S v r, vs = [v] ∧ Ex S H ∧ Dv K S v (ordD K r) ∧ SmallR r ∧ (∀ b, dom K S b → Clear g b) ∧ ∀ H', Ex H H' → Q (.str (ordT r)) H'
theorem b_Order_repr (T : Txt K mg) : Binds K (fdOf K (d_Order_repr.at_ K)) ["self"] [] := T.f_Order_repr.bindsN fun _ _ _ _ _ _ us hl => match us, hl with | [_], _ => rfl
theorem ok_Order_repr (T : Txt K mg) : FnGd P w K mg base 8 (d_Order_repr.at_ K) (fdOf K (d_Order_repr.at_ K)) ["self"] (spORepr K) := by
  refine FnGd.mk_of T.f_Order_repr sc_Order_repr (fun g vs H Q E h => ?_) (fun cdv A g outer s H vs Q E gu hr h => ?_)
  · obtain ⟨S, v, r, rfl, _⟩ := h
    rfl
  · obtain ⟨S, v, r, rfl, f, dv, sm, cl, q⟩ := h
    obtain ⟨a, dx, p, rfl, h1, h2⟩ := ord_inv dv
    refine ⟨_, (pss_one (ps_ret (pe_joined (PJ.cons pe_str (PJ.cons (pe_fmtR (pe_fld (pv 0) rfl)) (PJ.cons pe_str (PJ.cons (Gd.pe_fmtT (n := 0) gu (hr.mono (by decide)) (insR0 _ 0) (pe_fld (pv 0) rfl)) (PJ.cons pe_str (PJ.cons (pe_fmtR (pe_fld (pv 0) rfl)) (PJ.cons pe_str (PJ.cons (pe_fmtR (pe_fld (pv 0) rfl)) (PJ.cons pe_str PJ.nil)))))))))))), ?_⟩
    walk_at "go"
    have c1 : (Str.ofString "Order(").length = 6 := by decide
    have c2 : (Str.ofString ", ").length = 2 := by decide
    have c3 : (Str.ofString ")").length = 1 := by decide
    have c0 : Str.empty.length = 0 := rfl
    have l1 := sm.h
    have l2 := sm.b
    have l3 := sm.l2
    have l4 := sm.m2
    have big : (2000000 : Nat) ≤ sizeLine := by rw [sizeLine_eq]; decide
    refine x_js ?_
    walk_at "go"
    refine i_js (by simp only [str_app_len]; omega) ?_
    refine x_js ?_
    show tFld _ _ _ _ _ _
    walk_at "go"
    refine ⟨a, _, dx, _, _, rfl, f _ _ h1, T.cl_Order, T.na_Order_own_house, rfl, ?_⟩
    refine .inl ⟨_, rfl, by omega, ?_⟩
    refine i_js (by simp only [str_app_len]; omega) ?_
    refine x_js ?_
    walk_at "go"
    refine i_js (by simp only [str_app_len]; omega) ?_
    refine x_js ?_
    show tFld _ _ _ _ _ _
    walk_at "go"
    refine ⟨a, _, dx, _, _, rfl, f _ _ h1, T.cl_Order, T.na_Order_own_bundle, rfl, ?_⟩
    refine ⟨S, bdD (told r.bun), bd_of h2, f, sm.bo, rfl, Nat.le_trans (dpt_bd _) (by decide), Nat.le_trans l2 (by decide), cl, fun H1 e1 => ?_⟩
    have l2' : (txD tx0 (bdD (told r.bun))).length ≤ 2000 := l2
    refine i_js (by simp only [str_app_len]; omega) ?_
    refine x_js ?_
    walk_at "go"
    refine i_js (by simp only [str_app_len]; omega) ?_
    refine x_js ?_
    show tFld _ _ _ _ _ _
    walk_at "go"
    refine ⟨a, _, dx, _, _, rfl, e1 _ _ (f _ _ h1), T.cl_Order, T.na_Order_own_limit, rfl, ?_⟩
    refine .inr ⟨_, rfl, sm.l, ?_⟩
    refine i_js (by simp only [str_app_len]; omega) ?_
    refine x_js ?_
    walk_at "go"
    refine i_js (by simp only [str_app_len]; omega) ?_
    refine x_js ?_
    show tFld _ _ _ _ _ _
    walk_at "go"
    refine ⟨a, _, dx, _, _, rfl, e1 _ _ (f _ _ h1), T.cl_Order, T.na_Order_own_most, rfl, ?_⟩
    refine .inr ⟨_, rfl, sm.m, ?_⟩
    refine i_js (by simp only [str_app_len]; omega) ?_
    refine x_js ?_
    walk_at "go"
    refine i_js (by simp only [str_app_len]; omega) ?_
    refine x_jsN ?_
    have := q H1 e1
    unfold ordT bdT at this
    rw [str_empty_app]
    exact this
end
end K31

set_option Elab.async false
set_option linter.all false
set_option maxRecDepth 100000
set_option maxHeartbeats 4000000
/-! G29: sets of texts: set(l), sorted(s). -/
namespace Gd
open PySem PySem.Spec PyProof.Rows L2
open PySem.Froz (TxOk is_str)
/-- a set of the texts l (no two alike), in some order, that can be walked -/
structure TxS (P : Program) (w : World) (h : Heap) (a : Addr) (l : List Str) (o : Obj) (es : Array (Int × Value)) (ep : Nat) (t : SetTable) : Prop where
  ho : h.get? a = some o
  hx : o.ExactSet
  hd : o.data = .set es ep t
  ok : TxOk P w (es, ep, t) l
  nd : l.Nodup
  few : l.length + 1 < scanBound
  ris : Ris t.place.toList
  led : w.params.followText "set-order" = true ∨ t.led = true
def TxR (P : Program) (w : World) (h : Heap) (a : Addr) (l : List Str) : Prop := ∃ o es ep t, TxS P w h a l o es ep t
section
variable {P : Program} {w : World} {A : Around} {E : Value → Shared → Prop} {s : Shared} {a : Addr} {l : List Str}
theorem TxR.at {h h' : Heap} (R : TxR P w h a l) (k : ∀ o, h.get? a = some o → h'.get? a = some o) : TxR P w h' a l := by
  obtain ⟨o, es, ep, t, r⟩ := R
  exact ⟨o, es, ep, t, { r with ho := k o r.ho }⟩
theorem tx_tail {g : Bool → Sem Unit} (hg : ∀ (b : Bool) (s₁ : Shared) (Q' : Unit → Shared → Prop), Q' () s₁ → wpAny (model P w) A (g b) Q' E s₁)
    {o : Obj} {es es1 : Array (Int × Value)} {ep : Nat} {t t2 : SetTable} (ho : s.heap.get? a = some o) (hx : o.ExactSet) (hd : o.data = .set es ep t)
    (F : TxOk P w (es1, ep, t2) l) (nd : l.Nodup) (few : l.length + 1 < scanBound) (hr : Ris t2.place.toList) (hl : w.params.followText "set-order" = true ∨ t2.led = true) {wd : Bool} {R : Option Bool → Shared → Prop}
    (hR : ∀ h', Heap.SameBut a s.heap h' → TxR P w h' a l → R (some true) { s with heap := h' }) :
    wpAny (model P w) A (do
        storeSet a es1 t2
        if (!wd && t2.tooFull) = true then do
            g (relayAll t2 es1 (SetTable.grown es1.size)).2.2
            storeSet a (relayAll t2 es1 (SetTable.grown es1.size)).1 (relayAll t2 es1 (SetTable.grown es1.size)).2.1
            pure (some true)
          else pure (some true)) R E s := by
  have hz : es1.size = l.length := F.sz
  have hb : es1.size < scanBound := by omega
  refine wpAny_bind (wpAny_storeSet_of ho hd ?_ (fits_of_scanBound hb))
  have ho1 := store_at (es' := es1) (t' := t2) ho hd
  have sb1 := Heap.SameBut.update s.heap a (Obj.putSet es1 t2)
  split
  · have r3 := relayAll_ris t2 es1 (SetTable.grown es1.size)
    have l3 := relayAll_led t2 es1 (SetTable.grown es1.size)
    have F3 := F.perm (ep' := ep + 2) (relayAll_perm t2 es1 (SetTable.grown es1.size)) (relayAll_fits t2 es1 (SetTable.grown es1.size))
    generalize relayAll t2 es1 (SetTable.grown es1.size) = Z at r3 l3 F3 ⊢
    obtain ⟨es2, t3, gave⟩ := Z
    dsimp only at r3 l3 F3 ⊢
    have hz2 : es2.size = l.length := F3.sz
    refine wpAny_bind (hg _ _ _ (wpAny_bind (wpAny_storeSet_of ho1 rfl ?_ (fits_of_scanBound (by omega)))))
    refine wpAny_pure (hR _ (sb1.trans (Heap.SameBut.update _ a _)) ⟨_, es2, _, t3, store_at (es' := es2) (t' := t3) ho1 rfl, hx, rfl, F3, nd, few, r3, ?_⟩)
    rw [l3]
    exact hl
  · exact wpAny_pure (hR _ sb1 ⟨_, es1, _, t2, ho1, hx, rfl, ⟨F.el, F.mem, F.sz, F.fit⟩, nd, few, hr, hl⟩)
theorem TxOk_is {D : Froz.SD} {l : List Str} {k : Str} (F : TxOk P w D l) : k ∈ l ↔ (List.findIdx? (fun e => (strKind P w).is k e.2) D.1.toList).isSome = true := by
  rw [F.mem k, List.findIdx?_isSome, List.any_eq_true]
/-- a text more -/
theorem tx_add {k : Str} {u : Tok} {Q : Bool → Shared → Prop} (R : TxR P w s.heap a l) (few : l.length + 2 < scanBound)
    (hQ : ∀ h', Heap.SameBut a s.heap h' → TxR P w h' a (if k ∈ l then l else k :: l) → Q (!decide (k ∈ l)) { s with heap := h' }) : wpAny (model P w) A (setAddHashed a (.str k u) (hashStr w k)) Q E s := by
  obtain ⟨o, es, ep, t, ho, hx, hd, F, nd, few1, hr, hl⟩ := R
  have hz : es.size = l.length := F.sz
  have hb : es.size < scanBound := by omega
  have hel : ElemsOf (strKind P w) es.toList := F.el
  have hf : t.fits es.size = true := F.fit
  unfold setAddHashed setAddHashedIn
  refine wpAny_holding (wpAny_bind (wpAny_setState_of ho hd hf ?_))
  dsimp only
  rw [byScan_of rfl hb hel, if_pos rfl]
  unfold setAddByScan
  refine wpAny_bind (wpAny_bind (wpAny_rule (wpAny_bind (wpAny_setScan_of (knd := strKind P w) (k := k) (is_str k u) ho hd hf hel ?_))))
  have hi := TxOk_is (k := k) F
  cases hfi : List.findIdx? (fun e => (strKind P w).is k e.2) es.toList with
  | some j =>
    rw [show (es, ep, t).1 = es from rfl, hfi] at hi
    have hk : k ∈ l := hi.mpr rfl
    have q := hQ s.heap (Heap.SameBut.refl a s.heap)
    rw [if_pos hk, decide_eq_true hk] at q
    dsimp only
    exact wpAny_pure (wpAny_pure (q ⟨o, es, ep, t, ho, hx, hd, F, nd, few1, hr, hl⟩))
  | none =>
    rw [show (es, ep, t).1 = es from rfl, hfi] at hi
    have hk : k ∉ l := fun z => by cases hi.mp z
    have q := fun h' sb => hQ h' sb
    rw [if_neg hk, decide_eq_false hk] at q
    have F1 := F.push (u := u) (ep' := ep) (layNew_perm t es (hashStr w k) (Value.str k u)) (layNew_fits t es (hashStr w k) (Value.str k u))
    have r1 := layNew_ris t es (hashStr w k) (Value.str k u) hr
    have l1 := layNew_led t es (hashStr w k) (Value.str k u)
    generalize layNew t es (hashStr w k) (Value.str k u) = Z at F1 r1 l1 ⊢
    obtain ⟨es1, t1, wd, gave⟩ := Z
    dsimp only at F1 r1 l1 ⊢
    have gw : ∀ (b : Bool) {s₁ : Shared} {Q' : Unit → Shared → Prop}, Q' () s₁ → wpAny (model P w) A (match b with | true => rule "set.scan.the-table-gave-way" | false => pure ()) Q' E s₁ :=
      fun b s₁ Q' q => by
        cases b
        · exact wpAny_pure q
        · exact wpAny_rule q
    refine wpAny_bind (gw _ ?_)
    have nd1 : (k :: l).Nodup := List.nodup_cons.mpr ⟨hk, nd⟩
    have led1 : w.params.followText "set-order" = true ∨ t1.led = true := hl.imp id fun z => by rw [l1]; exact z
    split
    · refine wpAny_bind ?_
      rw [hashByValue_scannable 8 (x := Value.str k u) rfl]
      refine wpAny_pure ?_
      have F2 : TxOk P w (es1, ep, if plainKind (Value.str k u) = true then t1 else { t1 with plain := false }) (k :: l) := by
        split
        · exact F1
        · exact ⟨F1.el, F1.mem, F1.sz, SetTable.fits_plain_off F1.fit⟩
      have r2 : Ris (if plainKind (Value.str k u) = true then t1 else { t1 with plain := false }).place.toList := by
        split
        · exact r1
        · exact r1
      have led2 : w.params.followText "set-order" = true ∨ (if plainKind (Value.str k u) = true then t1 else { t1 with plain := false }).led = true := by
        split
        · exact led1
        · exact led1
      refine tx_tail (R := fun r s' => wpAny (model P w) A (match r with | some b => pure b | none => _) Q E s') (fun b s₁ Q' q' => ?_) ho hx hd F2 nd1 (by rw [List.length_cons]; omega) r2 led2 fun h' sb r => ?_
      · cases b
        · exact wpAny_pure q'
        · exact wpAny_rule q'
      · exact wpAny_pure (q h' sb r)
    · refine wpAny_bind (wpAny_pure ?_)
      rw [if_pos rfl]
      refine tx_tail (R := fun r s' => wpAny (model P w) A (match r with | some b => pure b | none => _) Q E s') (fun b s₁ Q' q' => ?_) ho hx hd F1 nd1 (by rw [List.length_cons]; omega) r1 led1 fun h' sb r => ?_
      · cases b
        · exact wpAny_pure q'
        · exact wpAny_rule q'
      · exact wpAny_pure (q h' sb r)
end
/-! ### set(l) -/
theorem tx_at : ∀ {us : List Value} {xs : List Str}, StrsAre us xs → ∀ (i : Nat) (v : Value), us[i]? = some v → ∃ t, v = .str (xs.getD i Str.empty) t
  | _, _, .nil, i, v, h => by simp at h
  | _, _, .cons y t r, 0, v, h => by
    simp at h
    exact ⟨t, by rw [← h]; rfl⟩
  | _, _, .cons y t r, i + 1, v, h => by
    obtain ⟨t', e⟩ := tx_at r i v (by simpa using h)
    exact ⟨t', by rw [e]; rfl⟩
/-- what is listed once and has a list's members, of no more length, is that list in some order -/
theorem once_perm {α : Type} : ∀ {A B : List α}, A.Nodup → (∀ a ∈ A, a ∈ B) → A.length = B.length → A.Perm B
  | [], B, _, _, hl => by
    have : B = [] := List.eq_nil_of_length_eq_zero hl.symm
    rw [this]
  | a :: r, B, nd, h, hl => by
    obtain ⟨n1, n2⟩ := List.nodup_cons.mp nd
    obtain ⟨s, t, rfl⟩ := List.append_of_mem (h a (.head _))
    have ih : r.Perm (s ++ t) := once_perm n2 (fun b hb => by
      have := h b (.tail _ hb)
      rw [List.mem_append, List.mem_cons] at this
      rcases this with z | z | z
      · exact List.mem_append.mpr (.inl z)
      · exact absurd (z ▸ hb) n1
      · exact List.mem_append.mpr (.inr z)) (by
      rw [List.length_cons, List.length_append, List.length_cons] at hl
      rw [List.length_append]
      omega)
    exact (ih.cons a).trans List.perm_middle.symm
def txOf : Value → Str
  | .str k _ => k
  | _ => Str.empty
theorem txs_are : ∀ {us : List Value}, (∀ v ∈ us, ∃ k t, v = .str k t) → StrsAre us (us.map txOf)
  | [], _ => .nil
  | v :: us, h => by
    obtain ⟨k, t, rfl⟩ := h v (.head _)
    exact .cons k t (txs_are fun u hu => h u (.tail _ hu))
/-- what the set holds behind the first i of xs -/
structure TxGot (xs : List Str) (i : Nat) (L : List Str) : Prop where
  mem : ∀ k, k ∈ L ↔ k ∈ xs.take i
  len : L.length ≤ i
theorem TxGot.step {xs L : List Str} {i : Nat} {k : Str} (g : TxGot xs i L) (hk : xs[i]? = some k) : TxGot xs (i + 1) (if k ∈ L then L else k :: L) := by
  have ht : xs.take (i + 1) = xs.take i ++ [k] := by rw [List.take_add_one, hk]; rfl
  by_cases c : k ∈ L
  · rw [if_pos c]
    refine ⟨fun z => ?_, by have := g.len; omega⟩
    rw [ht, List.mem_append, ← g.mem z, List.mem_singleton]
    exact ⟨.inl, fun h => h.elim id fun e => e ▸ c⟩
  · rw [if_neg c]
    refine ⟨fun z => ?_, by have := g.len; rw [List.length_cons]; omega⟩
    rw [ht, List.mem_append, ← g.mem z, List.mem_singleton, List.mem_cons]
    exact Or.comm
section
variable {P : Program} {w : World} {A : Around} {E : Value → Shared → Prop} {s : Shared}
theorem TxR.few {h : Heap} {a : Addr} {l : List Str} (R : TxR P w h a l) : l.length + 1 < scanBound := by
  obtain ⟨o, es, ep, t, r⟩ := R
  exact r.few
theorem set_update_txs {I : Addr} {fp wr : List Addr} {G : Array GenState → Array GenState → Prop} {n : Nat} {Pv : Nat → Value → Prop} {St : Nat → Shared → Prop} {R : Result → Shared → Prop}
    (W : WalksS P w A.in1 I fp wr G n Pv St) (S : Addr) (hSf : S ∉ fp) (xs : List Str) (hn : n = xs.length) (hb : xs.length + 2 < scanBound) (hval : ∀ i v, Pv i v → ∃ k t, xs[i]? = some k ∧ v = .str k t) :
    ∀ (k i : Nat) (s : Shared), n - i = k → i ≤ n → St i s → (∃ L, TxR P w s.heap S L ∧ TxGot xs i L) →
      (∀ s' L, Moved (S :: wr) G s s' → TxR P w s'.heap S L → TxGot xs n L → R (.ok (.ret .none)) s') →
      codeAny (model P w) A (.builtin "set.update.loop" ⟨[.ref S, .ref I], []⟩) R s := by
  have hSw : S ∉ wr := fun h => hSf (W.sub _ h)
  have hsub : ∀ b ∈ wr, b ∈ S :: wr := fun b hb => List.mem_cons_of_mem _ hb
  intro k
  induction k with
  | zero =>
    intro i s hk' hi hst ⟨L, hS, hg⟩ hR
    have hin : i = n := by omega
    subst hin
    refine codeAny_builtin F.entry_set_update_loop ?_
    rw [Around.under_plainId F.plain_set_update_loop _]
    show wpAny _ A.in1 (pyNext (.ref I) >>= _) _ _ s
    refine wpAny_bind (W.done s _ _ hst fun s' hm => ?_)
    show wpAny _ A.in1 (ret Value.none) _ _ s'
    exact wpAny_pure (hR s' L (hm.mono hsub) (hS.at fun o e => hm.heap S o hSw e) hg)
  | succ k ih =>
    intro i s hk' hi hst ⟨L, hS, hg⟩ hR
    have hlt : i < n := by omega
    refine codeAny_builtin F.entry_set_update_loop ?_
    rw [Around.under_plainId F.plain_set_update_loop _]
    show wpAny _ A.in1 (pyNext (.ref I) >>= _) _ _ s
    refine wpAny_bind (W.item i s _ _ hlt hst fun v s' hP hst' hm => ?_)
    obtain ⟨z, t, hz, rfl⟩ := hval i v hP
    have hS' : TxR P w s'.heap S L := hS.at fun o e => hm.heap S o hSw e
    show wpAny _ A.in1 (holding [Value.str z t] (setAdd S (.str z t)) >>= _) _ _ s'
    refine wpAny_bind (wpAny_holding ?_)
    unfold setAdd
    refine wpAny_holding ?_
    refine wpAny_bind ((strKind P w).pyHash (k := z) (is_str z t) ?_)
    refine tx_add (s := { s' with toks := s'.toks + 1 }) hS' (by have := hg.len; omega) fun h' hsb hS2 => ?_
    refine wpAny_pure ⟨plainId_quiet F.plain_set_update_loop _, ih (i + 1) _ (by omega) hlt (W.frame _ s' _ _ hst' (Nat.le_succ _) fun b hb o e => ?_) ⟨_, hS2, hg.step hz⟩ fun s'' L2 hm'' hS'' g'' => ?_⟩
    · rw [hsb.2 b (fun h : b = S => hSf (by rw [← h]; exact hb))]; exact e
    · refine hR s'' L2 (Moved.trans W.gtrans ((hm.mono hsub).then_heap (Nat.le_succ _) fun b o hb e => ?_) hm'') hS'' g''
      rw [hsb.2 b (fun h : b = S => hb (by rw [h]; exact List.mem_cons_self))]; exact e
theorem tx_fresh {h : Heap} {a : Addr} (ho : h.get? a = some { cls := .type "set", dict := none, data := .set #[] 0 (.fresh 0 0 (!w.params.followText "set-order")) }) : TxR P w h a [] :=
  ⟨_, #[], 0, _, ho, ⟨rfl, rfl, rfl⟩, rfl, TxOk.nil (by rfl), List.nodup_nil, by decide, List.Pairwise.nil, by
    show _ ∨ (!w.params.followText "set-order") = true
    cases w.params.followText "set-order"
    · exact .inr rfl
    · exact .inl rfl⟩
set_option maxRecDepth 100000 in
set_option maxHeartbeats 3200000 in
theorem call_set_txs {l : Addr} {items : Array Value} (xs : List Str) {Q : Value → Shared → Prop} (hh : A.handled = none) (hl : s.heap.IsList l items) (hit : StrsAre items.toList xs) (hb : xs.length + 2 < scanBound)
    (h : ∀ (h' : Heap) (tk : Nat) L, TxR P w h' s.heap.objs.size L → TxGot xs xs.length L → (∀ b o, s.heap.get? b = some o → h'.get? b = some o) → Q (.ref s.heap.objs.size) { s with heap := h', toks := tk }) :
    wpAny (model P w) A (call (.type "set") [.ref l]) Q E s := by
  have hisz : items.size = xs.length := by
    have q := StrsAre.len_eq hit
    rw [Array.length_toList] at q
    exact q
  obtain ⟨c, tl, hmro⟩ := F.called_set.mro
  have hmade := F.called_set.made
  have hsub := F.called_set.sub
  refine wpAny_call (codeAny_of_tree ?_)
  show wpAny _ _ (callAny (.type "set") _) _ _ _
  refine wpAny_pure ⟨Code.quiet_builtin _ (by decide +kernel), codeAny_builtin F.entry_type_call ?_⟩
  rw [Around.under_plain (weight_type_call_type "set" [.ref l] []) rfl]
  have h1 := F.called_set.notType
  have h2 := F.called_set.canCreate
  have hct := F.typeCall_set_1 (.ref l)
  repeat (any_goals (first | assumption | wp_step))
  generalize hN : (Obj.mk (.type "set") none (.set #[] 0 (.fresh 0 0 (!w.params.followText "set-order"))) #[] : Obj) = N at *
  refine codeAny_mono (code_set_led1 (.ref l) (E := E) (Q₁ := fun obj s₁ => obj = .ref s.heap.objs.size ∧ s₁ = { s with heap := s.heap.push { cls := .type "set", dict := none, data := .set #[] 0 (.fresh 0 0 (!w.params.followText "set-order")) } }) ⟨rfl, rfl⟩) fun r s₁ hr => ?_
  cases r with
  | error e => exact hr
  | ok fl =>
    cases fl with
    | ret obj =>
      obtain ⟨rfl, rfl⟩ := hr
      have hS : (s.heap.push { cls := .type "set", dict := none, data := .set #[] 0 (.fresh 0 0 (!w.params.followText "set-order")) }).get? s.heap.objs.size = some { cls := .type "set", dict := none, data := .set #[] 0 (.fresh 0 0 (!w.params.followText "set-order")) } := Heap.get?_push_size _ rfl
      have hT : Shared.TypeIs { s with heap := s.heap.push { cls := .type "set", dict := none, data := .set #[] 0 (.fresh 0 0 (!w.params.followText "set-order")) } } (.ref s.heap.objs.size) "set" := ⟨_, hS, rfl⟩
      have hli := F.called_set.init.lookup
      have hbi := F.called_set.init.bind (.ref s.heap.objs.size)
      repeat (any_goals (first | assumption | wp_step))
      refine codeAny_mono (codeAny_call_builtin (R := wants (fun r s₂ => r = .none ∧ ∃ h' tk L, s₂ = { s with heap := h', toks := tk } ∧ TxR P w h' s.heap.objs.size L ∧ TxGot xs xs.length L ∧
          (∀ b o, s.heap.get? b = some o → h'.get? b = some o)) E) F.called_set.init.plain F.entry_set_init (check_set_init_1 hT ?_)) fun r₂ s₂ hr₂ => ?_
      · obtain ⟨ol, hol, hcl, nl, hdl⟩ := hl
        obtain ⟨ocls, odict, odata, oslots⟩ := ol
        simp only at hcl hdl
        subst hcl; subst hdl
        have hol' : (s.heap.push { cls := .type "set", dict := none, data := .set #[] 0 (.fresh 0 0 (!w.params.followText "set-order")) }).get? l = some { cls := .type "list", dict := odict, data := .seq items nl, slots := oslots } := Heap.get?_push_of_some _ hol
        have hsls := F.sub_list_set
        have hslf := F.sub_list_frozenset
        have hne : (Value.type "list" == Value.type "dict") = false := by decide
        have hl1 : (s.heap.push { cls := .type "set", dict := none, data := .set #[] 0 (.fresh 0 0 (!w.params.followText "set-order")) }).IsList l items := ⟨_, hol', rfl, nl, rfl⟩
        unfold Builtin.«set.__init__» noKeywords Builtin.Frozenset.updateFrom
        generalize hPI : pyIter = PI
        wp_walk
        subst hPI
        refine wpAny_pyIter_list hl1 ?_
        refine wpAny_bind (wpAny_runValue ?_)
        have hlS : l < s.heap.objs.size := Heap.lt_size hol
        have hh3 : A.in1.in1.in1.handled = none := by simp [hh]
        have hneI : l ≠ (s.heap.push { cls := .type "set", dict := none, data := .set #[] 0 (.fresh 0 0 (!w.params.followText "set-order")) }).objs.size := by
          rw [Heap.size_push]; exact Nat.ne_of_lt (Nat.lt_succ_of_lt hlS)
        have hSf : s.heap.objs.size ∉ [(s.heap.push { cls := .type "set", dict := none, data := .set #[] 0 (.fresh 0 0 (!w.params.followText "set-order")) }).objs.size, l] := by
          rw [Heap.size_push]; simp only [List.mem_cons, List.mem_singleton, List.not_mem_nil, or_false, not_or]
          exact ⟨Nat.ne_of_lt (Nat.lt_succ_self _), Nat.ne_of_gt hlS⟩
        have hval : ∀ (i : Nat) (v : Value), items[i]? = some v → ∃ k t, xs[i]? = some k ∧ v = .str k t := fun i v hv => by
          have hi : i < xs.length := by rw [← hisz]; exact (Array.getElem?_eq_some_iff.mp hv).1
          obtain ⟨t, e⟩ := tx_at hit i v (by rw [Array.getElem?_toList]; exact hv)
          refine ⟨xs[i], t, List.getElem?_eq_getElem hi, ?_⟩
          rw [e, List.getD_eq_getElem?_getD, List.getElem?_eq_getElem hi] <;> rfl
        refine set_update_txs ((Walks.list hh3 _ l hneI items).toS) s.heap.objs.size
          hSf xs hisz hb hval (items.size - 0) 0 _ (by omega) (Nat.zero_le _)
          ⟨⟨_, Heap.get?_push_size _ rfl, rfl, rfl⟩, (hl1.push _)⟩ ?hS0 ?hR
        case hS0 =>
          have hget : ((s.heap.push { cls := .type "set", dict := none, data := .set #[] 0 (.fresh 0 0 (!w.params.followText "set-order")) }).push { cls := .type "list_iterator", data := .fields #[.ref l, .int 0 0] }).get? s.heap.objs.size
              = some { cls := .type "set", dict := none, data := .set #[] 0 (.fresh 0 0 (!w.params.followText "set-order")) } := Heap.get?_push_of_some _ hS
          exact ⟨[], tx_fresh hget, ⟨fun k => by simp, Nat.le_refl 0⟩⟩
        case hR =>
          intro s' L hm hS' g'
          obtain ⟨h', g2, d', tk', os'⟩ := s'
          have eg : g2 = s.gens := hm.gens
          have ed : d' = s.drawn := hm.drawn
          have eo : os' = s.os := hm.os
          subst eg; subst ed; subst eo
          show wpAny _ _ _ _ _ _
          refine wpAny_pure ?_
          show wpAny _ _ (ret Value.none) _ _ _
          rw [hisz] at g'
          refine wpAny_pure ⟨rfl, h', tk', L, rfl, hS', g', fun b o e => ?_⟩
          have hb0 : b < s.heap.objs.size := Heap.lt_size e
          have hb1 : b ≠ s.heap.objs.size := Nat.ne_of_lt hb0
          have hb2 : b ≠ (s.heap.push { cls := .type "set", dict := none, data := .set #[] 0 (.fresh 0 0 (!w.params.followText "set-order")) }).objs.size := by
            rw [Heap.size_push]; exact Nat.ne_of_lt (Nat.lt_succ_of_lt hb0)
          exact hm.heap b o (by simp only [List.mem_cons, List.mem_singleton, List.not_mem_nil, or_false, not_or]; exact ⟨hb1, hb2⟩) (Heap.get?_push_of_some _ (Heap.get?_push_of_some _ e))
      · cases r₂ with
        | error e => exact hr₂
        | ok fl₂ =>
          cases fl₂ with
          | ret r =>
            obtain ⟨rfl, h', tk, L, rfl, hS', g', hk'⟩ := hr₂
            repeat (any_goals (first | assumption | wp_step))
            exact h _ _ _ hS' g' hk'
          | _ => exact hr₂.elim
    | _ => exact hr.elim
end
/-- where a set of texts stands, in H -/
def TxO (P : Program) (w : World) (a : Addr) (l : List Str) : HO := .ext fun h => TxR P w h a l
theorem txO_new {P : Program} {w : World} {H : Hp} {h : Heap} {a : Addr} {l : List Str} (R : TxR P w h a l) : ObjOk P w H h a (TxO P w a l) := by
  have ⟨o, _, _, _, r⟩ := R
  exact ⟨R, ⟨o, r.ho⟩, fun h1 h2 p k => p.at k⟩
section
variable {X : Cx}
/-- set(xs), xs a list of texts -/
def rSetTx (P : Program) (w : World) : List V → Hp → VK → Prop := fun vs H Q => ∃ (a : Addr) (xs : List Str), vs = [V.ref a] ∧ SqL X.K H a (xs.map V.str) ∧ xs.length < 1000 ∧
  ∀ p L, L.Nodup → (∀ k, k ∈ L ↔ k ∈ xs) → L.length ≤ xs.length → H p = none → Q (.ref p) (upd H p (TxO P w p L))
theorem call_setTx (hc : X.calm = true) : CallR X (.type "set") (rSetTx (X := X) X.prog X.w) := by
  intro pins s σ H vs us Q I r h
  obtain ⟨a, xs, rfl, hl, hz, q⟩ := h
  rw [Vals.ref1 r]
  obtain ⟨its, rv, pl, hz'⟩ := I.list hl
  have hn : H s.heap.objs.size = none := I.hok.fresh (Nat.le_refl _)
  refine call_set_txs (P := X.prog) (w := X.w) xs (I.ok.hd hc) pl.isList (by simpa using rv.strs) (by unfold scanBound; omega) fun h' tk L R g k => ?_
  have nd : L.Nodup := by
    obtain ⟨o, es, ep, t, r⟩ := R
    exact r.nd
  refine ⟨.ref s.heap.objs.size, upd H s.heap.objs.size (TxO X.prog X.w s.heap.objs.size L), I.laid (t' := tk) k (Nat.le_refl _) (txO_new R), rfl, q _ L nd (fun z => ?_) g.len hn⟩
  have := g.mem z
  rwa [List.take_length] at this
/-- sorted(s) of a set of texts -/
def rSortTx (P : Program) (w : World) : List V → Hp → VK → Prop := fun vs H Q => ∃ (a : Addr) (l : List Str), vs = [V.ref a] ∧ H a = some (TxO P w a l) ∧ l.length < 64 ∧
  ∀ ys p, ys.Perm l → sortedS ys = true → H p = none → Q (.ref p) (upd H p (.lst (ys.map V.str)))
theorem sorted_set_tx {A : Around} {P : Program} {w : World} {E : Value → Shared → Prop} {s : Shared} {a : Addr} {l : List Str} {Q : Value → Shared → Prop} (R : TxR P w s.heap a l) (hh : A.handled = none) (h64 : l.length < 64)
    (hQ : ∀ s' p (out : Array Value) (c : Nat) (ys : List Str), (∀ b o, s.heap.get? b = some o → s'.heap.get? b = some o) → s'.gens = s.gens → s'.os = s.os → s.heap.objs.size ≤ p →
      s'.heap.get? p = some (seqObj "list" out c) → StrsAre out.toList ys → ys.Perm l → sortedS ys = true → Q (.ref p) s') :
    wpAny (model P w) A (call (.builtin "sorted") [.ref a]) Q E s := by
  obtain ⟨o, es, ep, t, ho, hex, hd, F, nd, few, hr, hl⟩ := R
  have hz : es.size = l.length := F.sz
  refine Calls.call_function_entry kind_sorted plain_sorted entry_sorted (args_sorted1 _) ?_
  unfold Builtin.«sorted»
  refine wpAny_bind (m := checkCount "sorted" 1 1 _) (wpAny_pure ?_)
  refine wpAny_bind (collect_set (A := A.in1) hh ⟨o, ho, hex.1, hd⟩ F.fit (by omega) hr hl fun s1 vs k1 hz1 g1 o1 pm => ?_)
  have hvl : vs.length = l.length := by rw [pm.length_eq, List.length_map, Array.length_toList]; exact hz
  have ofv : ∀ v ∈ vs, ∃ k t, v = Value.str k t := fun v hv => by
    obtain ⟨e, he, q⟩ := List.mem_map.mp (pm.mem_iff.mp hv)
    obtain ⟨⟨k, h1, _⟩, _⟩ := F.el e he
    obtain ⟨t, ev⟩ := Value.isStrOf_shape (x := k) (v := e.2) h1
    exact ⟨k, t, by rw [← q, ev]⟩
  have hS : StrsAre vs (vs.map txOf) := txs_are ofv
  have pl : (vs.map txOf).Perm l := by
    refine (once_perm nd (fun k hk => ?_) (by rw [List.length_map]; exact hvl.symm)).symm
    obtain ⟨e, he, h1⟩ := (F.mem k).mp hk
    obtain ⟨t, ev⟩ := Value.isStrOf_shape (x := k) (v := e.2) h1
    refine List.mem_map.mpr ⟨e.2, pm.mem_iff.mpr (List.mem_map.mpr ⟨e, he, rfl⟩), by rw [ev]; rfl⟩
  refine wpAny_bind (wpAny_newList ?_ (by rw [hvl, sizeLine_eq]; omega))
  have hoL : (s1.heap.push (seqObj "list" vs.toArray 0)).get? s1.heap.objs.size = some (seqObj "list" vs.toArray 0) := Heap.get?_push_size _ rfl
  refine wpAny_bind (wpAny_holding (wpAny_call_entry slot_list_sort ⟨_, hoL, rfl⟩ entry_list_sort
    (list_sort_treeK strKind_oneLt hoL hS.keysOf (fun v₁ v₂ rest e => keyKind_strs (by rw [← e]; exact hS)) (by rw [hvl]; exact h64) fun st' hp hs => ⟨_, rfl, ?_⟩) (args_list_sort _)))
  obtain ⟨ys, b1, b2, b3⟩ := sorted_out_str hS hp hs
  obtain ⟨c, hc⟩ := sortedHeap_at (vs := vs) (out := (arrOf st').map (·.2)) hoL
  refine wpAny_pure ⟨_, rfl, hQ _ s1.heap.objs.size ((arrOf st').map (·.2)) c ys (fun b u e => ?_) g1 o1 hz1 hc b1 (b2.trans pl) b3⟩
  have q := k1 b u e
  have hlt := Heap.lt_size q
  rw [sortedHeap_old (Nat.ne_of_lt hlt) (by rw [size_push']; exact Nat.lt_succ_of_lt hlt)]
  exact Heap.get?_push_of_some _ q
theorem call_sortTx (hc : X.calm = true) : CallR X (.builtin "sorted") (rSortTx X.prog X.w) := by
  intro pins s σ H vs us Q I r h
  obtain ⟨a, l, rfl, ha, h64, q⟩ := h
  have R : TxR X.prog X.w s.heap a l := (I.hok a _ ha).1
  rw [Vals.ref1 r]
  refine sorted_set_tx R (I.ok.hd hc) h64 fun s' p out c ys k g o hp hg hS pm so => ?_
  have hlen : (ys.map V.str).length ≤ sizeLine := by rw [List.length_map, pm.length_eq, sizeLine_eq]; omega
  have hn : H p = none := I.hok.fresh hp
  have J : Inv X pins σ (upd H p (.lst (ys.map V.str))) { s with heap := s'.heap, gens := s'.gens, drawn := s'.drawn, toks := s'.toks } :=
    I.call (ch := []) (Un.laid k hp hn) (I.hok.laid k hp ⟨hlen, out.toList, c, vals_of_strs hS, by rw [Array.toArray_toList]; exact hg⟩) (by rw [g]; exact I.bare) (fun _ z => nomatch z)
  have e : s' = { s with heap := s'.heap, gens := s'.gens, drawn := s'.drawn, toks := s'.toks } := by
    cases s'
    cases s
    cases o
    rfl
  rw [e]
  exact ⟨.ref p, _, J, rfl, q ys p pm so hn⟩
end
end Gd

set_option Elab.async false
set_option linter.all false
set_option maxRecDepth 100000
set_option maxHeartbeats 4000000
/-! K31C: goods_of, the class Round made. -/
namespace K31
open PySem PySem.Spec PyProof.Rows L2 Gd
open Evl (Ex Ex.refl Ex.trans Ex.new Ex.mut ex_t ex_l sq_of st_of fresh_back)

local macro_rules | `(tactic| walk_at "st") => `(tactic| first
  | with_reducible refine x_seq ?_ | with_reducible refine x_ret ?_ | with_reducible refine x_retN ?_ | with_reducible refine x_next ?_ | with_reducible refine x_drop ?_ | with_reducible refine x_if ?_ | with_reducible refine x_asg ?_
  | with_reducible refine x_par ?_ | with_reducible refine x_par3 ?_ | with_reducible refine x_sfld ?_ | ((with_reducible show tVar _ _ _ _); refine x_var rfl ?_) | with_reducible refine x_c ?_ | with_reducible refine x_op ?_ | with_reducible refine x_un ?_
  | with_reducible refine x_chain ?_ | with_reducible refine x_andV ?_ | with_reducible refine x_orV ?_ | with_reducible refine x_notV ?_ | with_reducible refine x_ifE ?_ | with_reducible refine x_nil ?_ | with_reducible refine x_cons ?_ | with_reducible refine x_star ?_
  | with_reducible refine x_tup ?_ | with_reducible refine x_lst ?_ | with_reducible refine x_cb ?_ | with_reducible refine x_call ?_ | with_reducible refine x_meth ?_ | with_reducible refine x_make ?_ | with_reducible refine x_fld ?_ | with_reducible refine x_bm0 ?_ | with_reducible refine x_bm ?_
  | with_reducible refine x_sl ?_ | with_reducible refine x_no ?_ | with_reducible refine x_part ?_ | with_reducible refine x_rev ?_ | with_reducible refine x_fmtD ?_ | with_reducible refine x_test ?_ | with_reducible refine x_tB ?_ | with_reducible refine x_and ?_ | with_reducible refine x_or ?_ | with_reducible refine x_not ?_ | with_reducible refine x_yes ?_
  | with_reducible refine x_gname ?_ | with_reducible refine x_gtup ?_ | with_reducible refine x_gnil ?_ | with_reducible refine x_gcons ?_ | with_reducible refine x_gsub ?_ | with_reducible refine x_iList ?_ | with_reducible refine x_iStr ?_ | with_reducible refine x_iRng1 ?_ | with_reducible refine x_iEnumQ ?_
  | with_reducible refine x_lc ?_ | with_reducible refine x_dc ?_ | with_reducible refine x_iKeys ?_ | with_reducible refine x_iVals ?_ | with_reducible refine x_iItems ?_ | with_reducible refine x_forW ?_ | with_reducible refine x_iSeq ?_ | with_reducible refine x_ixO ?_
  | with_reducible refine i_I0 ?_ | with_reducible refine i_U ?_ | with_reducible refine iteT ?_ | with_reducible refine iteF ?_ | with_reducible refine iteNT ?_ | with_reducible refine iteNF ?_ | with_reducible refine x_bl ?_ | with_reducible refine x_int ?_ | with_reducible refine i_add ?_ | with_reducible refine i_int1 ?_ | with_reducible refine i_abs ?_ | with_reducible refine i_max ?_ | with_reducible refine i_min ?_)
local macro_rules | `(tactic| walk_at "go") => `(tactic| repeat (first | walk_at "st" | dsimp only [Bool.not_true, Bool.not_false, List.nil_append, List.cons_append]))

def ogs (K : PySem.W.Frag) (m : Ms) : List (Key × Dt) := m.map fun p => (Sum.inr p.1, ordD K p.2)
theorem ogs_keys {K : PySem.W.Frag} (m : Ms) : (ogs K m).map (·.1) = (keys m).map Sum.inr := by
  unfold ogs keys
  rw [List.map_map, List.map_map]
  rfl
theorem minus_self {S : Hp} {a : Addr} (h : S a = none) : Gd.minus S a = S := by
  funext b
  by_cases q : b = a
  · rw [q, minus_at, h]
  · rw [minus_ne q]
theorem i_notInL {K : PySem.W.Frag} {H : Hp} {Q : VK} {F : Addr} {s : Str} {gs : List Str} (h : H F = some (.lst (gs.map V.str))) (q : Q (.bl (!gs.contains s)) H) : rIn K true (.str s) (.ref F) H Q := by
  refine ⟨F, _, rfl, .inl (sq_of h), rfl, by rw [List.all_map, List.all_eq_true]; exact fun _ _ => rfl, ?_⟩
  rw [inV_str, if_pos rfl]
  exact q
theorem i_inL {K : PySem.W.Frag} {H : Hp} {Q : VK} {F : Addr} {s : Str} {gs : List Str} (h : H F = some (.lst (gs.map V.str))) (q : Q (.bl (gs.contains s)) H) : rIn K false (.str s) (.ref F) H Q := by
  refine ⟨F, _, rfl, .inl (sq_of h), rfl, by rw [List.all_map, List.all_eq_true]; exact fun _ _ => rfl, ?_⟩
  rw [inV_str, if_neg (by decide)]
  exact q
/-- the keys that are kept -/
def keepS (p : Str → Bool) : Key → Option Dt
  | .inr z => if p z = true then some (.str z) else none
  | .inl _ => none
theorem keepS_yes {p : Str → Bool} {z : Str} (h : p z = true) : keepS p (.inr z) = some (.str z) := by
  show (if p z = true then some (Dt.str z) else none) = _
  rw [if_pos h]
theorem keepS_no {p : Str → Bool} {z : Str} (h : p z = false) : keepS p (.inr z) = none := by
  show (if p z = true then some (Dt.str z) else none) = _
  rw [if_neg (by rw [h]; decide)]
theorem keepS_fm (p : Str → Bool) (l : List Str) : (l.map Sum.inr).filterMap (keepS p) = (l.filter p).map Dt.str := by
  induction l with
  | nil => rfl
  | cons z l ih =>
    rw [List.map_cons, List.filterMap_cons, List.filter_cons, ih]
    by_cases c : p z = true
    · rw [keepS_yes c, if_pos c]
      rfl
    · rw [keepS_no (by simpa using c), if_neg c]
structure OrdIn (K : PySem.W.Frag) (S : Hp) (kvs : List (Key × V)) (m : Ms) : Prop where
  k : kvs.map (·.1) = (ogs K m).map (·.1)
  d : DvAll K S (kvs.map (·.2)) ((ogs K m).map (·.2))
structure MsOk (m : Ms) : Prop where
  nd : (keys m).Nodup
  nm : ∀ p ∈ m, nameB p.1 = true ∧ p.1.length ≤ 8
  ok : ∀ p ∈ m, RowOk p.2
  few : m.length ≤ 12
  gs : (goodsL m).length ≤ 4
section
variable {P : Program} {w : World} {K : PySem.W.Frag} {mg : Str → Option Value} {base : Heap}
/-! ### goods_of -/
def spGoods (K : PySem.W.Frag) : Sp := fun vs H Q _ => ∃ S a kvs m, vs = [.ref a] ∧ Ex S H ∧ S a = none ∧ H a = some (.dK kvs) ∧ OrdIn K S kvs m ∧ MsOk m ∧
  ∀ p H', H p = none → Ex H H' → H' p = some (.lst ((goodsM m).map V.str)) → Q (.ref p) H'
theorem b_goods_of (T : Txt K mg) : Binds K (fdOf K (d_goods_of.at_ K)) ["orders"] [] := T.f_goods_of.bindsN fun _ _ _ _ _ _ us hl => match us, hl with | [_], _ => rfl
theorem ok_goods_of (T : Txt K mg) : FO P w K mg base 1 d_goods_of ["orders"] (spGoods K) := by
  refine T.f_goods_of.ok sc_goods_of (fun vs H Q E h => ?_) (fun cdv A outer s H vs Q E hr h => ?_)
  · obtain ⟨S, a, kvs, m, rfl, _⟩ := h
    rfl
  · obtain ⟨S, a, kvs, m, rfl, f, sa, ha, oi, ok, q⟩ := h
    refine ⟨_, (pss_cons (ps_set (i := 1) sc_goods_of.nd rfl (Or.inr rfl) (pe_lst pa_nil))
    (pss_cons (ps_lock (ps_for (passes_of rfl) rfl (pi_values (pv 0)) (pg_name (i := 2) sc_goods_of.nd rfl (.inl rfl)) (pss_one (ps_expr (pe_bm PySem.F.plainAttrs_list PySem.F.slot_list_extend PySem.F.type_list_extend mt_extend (pv 1) (pa_cons (pe_lock (pe_lc (own := [("good", 3)]) rfl sc_goods_of.nd (pi_keys (pe_fld (pv 2) rfl)) (blkOk_by (N := ["orders", "found", "order", "good"]) (sc := defScope s_goods_of) (by decide +kernel)) (fun _ _ _ _ _ => (pg_name (i := 3) sc_goods_of.nd rfl (.inl rfl))) (fun _ _ _ _ _ => (pts_one (pt_cmpR (show OpR _ _ (rIn K true) from op_notIn_seq) (pv 3) (pv 1) (by rfl)))) (fun _ _ _ _ _ => (pv 3)))) pa_nil))))))
    (pss_one (ps_ret (pe_callB call_sortX (by rfl) T.b_sorted (by decide +kernel) (pa_cons (pv 1) pa_nil)))))), ?_⟩
    walk_at "go"
    refine ⟨by rw [sizeLine_eq]; exact Nat.zero_le _, fun F hF => ?_⟩
    walk_at "go"
    have naF : a ≠ F := fun z => by rw [z, hF] at ha; cases ha
    have ha1 : (upd H F (.lst [])) a = some (.dK kvs) := by rw [upd_ne naF]; exact ha
    refine x_lock ha1 fun od => ?_
    walk_at "go"
    refine i_dv upd_same ?_
    have f1 : Ex S (upd H F (.lst [])) := f.trans (Ex.new hF)
    have f2 : Ex S (upd (upd H F (.lst [])) a (.frz od (.dK kvs))) := (Gr.mut (L := [a]) f1 sa (by simp)).i
    have sF : S F = none := fresh_back f hF
    have ml : (ogs K m).length = m.length := List.length_map ..
    have Fl : (upd (upd H F (.lst [])) a (.frz od (.dK kvs))) F = some (.lst []) := by rw [upd_ne (Ne.symm naF), upd_same]
    generalize hH2 : upd (upd H F (.lst [])) a (.frz od (.dK kvs)) = H2 at f2 Fl ⊢
    have ha2 : H2 a = some (.frz od (.dK kvs)) := by rw [← hH2, upd_same]
    refine i_forVals (S := S) oi.k oi.d (fun i σ H' => ∃ x y, σ = [some (.ref a), some (.ref F), x, y] ∧ Gr [F] S H2 S H' ∧ H' F = some (.lst ((goodsL (m.take i)).map V.str))) ?_ ?_ ?_ ?_
    · exact ⟨_, _, rfl, Gr.refl f2, Fl⟩
    · rintro i σ H' _ ⟨x, y, rfl, g, _⟩
      exact g.h _ _ (nmem1 (Ne.symm naF)) ha2
    · rintro i σ H3 x p hp dvx ⟨x0, y0, rfl, g3, hF3⟩
      unfold ogs at hp
      rw [List.getElem?_map] at hp
      cases hm : m[i]? with
      | none => rw [hm] at hp; cases hp
      | some nr =>
      rw [hm] at hp
      cases hp
      obtain ⟨nm, r⟩ := nr
      have rok := ok.ok _ (List.mem_of_getElem? hm)
      obtain ⟨oa, dx, p, rfl, h1, h2⟩ := ord_inv dvx
      have hp3 := g3.i _ _ h2
      have ho3 := g3.i _ _ h1
      have nop : oa ≠ p := fun z => by rw [z, h2] at h1; cases h1
      have npF : F ≠ p := fun z => by rw [← z, hF3] at hp3; cases hp3
      have f0 : Ex (fun _ => none) H3 := fun _ _ z => by cases z
      have tl : (told r.bun).length ≤ 20 := Nat.le_trans (told_len _) rok.b.2.1
      walk_at "go"
      refine ⟨i_tyL hF3, ?_⟩
      walk_at "go"
      refine i_lockE hp3 fun od2 => ?_
      walk_at "go"
      refine ⟨oa, _, dx, _, _, rfl, by rw [upd_ne nop]; exact ho3, T.cl_Order, T.na_Order_own_bundle, rfl, ?_⟩
      refine ⟨p, od2, rfl, .inl ⟨_, upd_same, fun D hD => ?_⟩⟩
      refine i_lcK0 (K := K) (lock_ex f0) upd_same (keepS fun z => !(goodsL (m.take i)).contains z) (by unfold bkv; rw [List.length_map]; omega) ?_ hD ?_
      · intro j k v S1 Hc Qe Nx hj g q1 q2
        obtain ⟨⟨z, n⟩, hz, e⟩ := List.mem_map.mp (List.mem_of_getElem? hj)
        cases e
        have hFc := g.nil_h F _ (by rw [upd_ne npF]; exact hF3)
        walk_at "go"
        refine ⟨rfl, ?_⟩
        walk_at "go"
        refine i_notInL (s := z) hFc ?_
        cases hc : (goodsL (m.take i)).contains z with
        | true =>
          walk_at "go"
          exact q2 S1 _ (Gr.refl g.i) (keepS_no (by dsimp only; rw [hc]; rfl))
        | false =>
          walk_at "go"
          exact q1 S1 _ _ (.str z) (Gr.refl g.i) (.str z) (keepS_yes (by dsimp only; rw [hc]; rfl))
      · intro S' H' xs g s' hl' dv
        have ex : xs = ((keys (told r.bun)).filter fun g => !(goodsL (m.take i)).contains g).map V.str := by
          rw [bkv_keys, keepS_fm] at dv
          exact dvAll_strs_inv dv
        obtain ⟨b1, b2, b3, b4⟩ := lock_back (L := []) f0 hp3 (by simp) g
        have nDp : D ≠ p := fun z => by rw [z, upd_same] at hD; cases hD
        walk_at "go"
        refine ⟨b1, ?_⟩
        walk_at "go"
        refine ⟨F, D, _, _, rfl, rfl, b3.nil_h _ _ hF3, by rw [upd_ne nDp, hl', ex], ?_, ?_⟩
        · have z1 := goodsL_few (m := m.take i) (n := 20) fun p hp => Nat.le_trans (told_len _) (ok.ok p (List.mem_of_mem_take hp)).b.2.1
          have z2 : (m.take i).length ≤ 12 := by rw [List.length_take]; have := ok.few; omega
          have z3 := List.length_filter_le (fun g => !(goodsL (m.take i)).contains g) (keys (told r.bun))
          have z4 : (keys (told r.bun)).length = (told r.bun).length := List.length_map ..
          rw [List.length_map, List.length_map, sizeLine_eq]
          omega
        · walk_at "go"
          refine ⟨_, _, rfl, ?_, ?_⟩
          · exact (g3.then (Gr.same g3.i b3.nil_h)).trans (Gr.mut (L := [F]) (g3.then (Gr.same g3.i b3.nil_h)).i sF (by simp)) fun z hz => .inl hz
          · rw [upd_same, List.take_add_one, hm, ← List.map_append]
            show _ = some (HO.lst ((goodsL (m.take i ++ [(nm, r)])).map V.str))
            rw [goodsL_snoc]
            rfl
    · rintro σ H3 ⟨x, y, rfl, g3, hF3⟩
      rw [ml, List.take_length] at hF3
      refine ⟨g3.h _ _ (nmem1 (Ne.symm naF)) ha2, ?_⟩
      walk_at "go"
      refine .inl ⟨F, goodsL m, rfl, sq_of (by rw [upd_ne (Ne.symm naF)]; exact hF3), by have := ok.gs; omega, fun ys p pm so hp => ?_⟩
      cases srt_one pm so
      have np : p ≠ a := fun z => by rw [z, upd_same] at hp; cases hp
      have eH : Ex H (upd H3 a (.dK kvs)) := fun c o z => by
        by_cases ca : c = a
        · rw [ca, upd_same, ← ha, ← ca]; exact z
        · rw [upd_ne ca]
          have cF : c ≠ F := fun e => by rw [e, hF] at z; cases z
          exact g3.h c o (nmem1 (Ne.symm cF)) (by rw [← hH2, upd_ne ca, upd_ne cF]; exact z)
      exact q p _ (fresh_back eH hp) (eH.trans (Ex.new hp)) upd_same
end
end K31

set_option Elab.async false
set_option linter.all false
set_option maxRecDepth 100000
set_option maxHeartbeats 4000000
/-! K31D: the class Round: made, asked. -/
namespace K31
open PySem PySem.Spec PyProof.Rows L2 Gd
open Evl (Ex Ex.refl Ex.trans Ex.new Ex.mut ex_t ex_l sq_of st_of fresh_back)

local macro_rules | `(tactic| walk_at "st") => `(tactic| first
  | with_reducible refine x_seq ?_ | with_reducible refine x_ret ?_ | with_reducible refine x_retN ?_ | with_reducible refine x_next ?_ | with_reducible refine x_drop ?_ | with_reducible refine x_if ?_ | with_reducible refine x_asg ?_
  | with_reducible refine x_par ?_ | with_reducible refine x_par3 ?_ | with_reducible refine x_sfld ?_ | ((with_reducible show tVar _ _ _ _); refine x_var rfl ?_) | with_reducible refine x_c ?_ | with_reducible refine x_op ?_ | with_reducible refine x_un ?_
  | with_reducible refine x_chain ?_ | with_reducible refine x_andV ?_ | with_reducible refine x_orV ?_ | with_reducible refine x_notV ?_ | with_reducible refine x_ifE ?_ | with_reducible refine x_nil ?_ | with_reducible refine x_cons ?_ | with_reducible refine x_star ?_
  | with_reducible refine x_tup ?_ | with_reducible refine x_lst ?_ | with_reducible refine x_cb ?_ | with_reducible refine x_call ?_ | with_reducible refine x_meth ?_ | with_reducible refine x_make ?_ | with_reducible refine x_fld ?_ | with_reducible refine x_bm0 ?_ | with_reducible refine x_bm ?_
  | with_reducible refine x_sl ?_ | with_reducible refine x_no ?_ | with_reducible refine x_part ?_ | with_reducible refine x_rev ?_ | with_reducible refine x_fmtD ?_ | with_reducible refine x_test ?_ | with_reducible refine x_tB ?_ | with_reducible refine x_and ?_ | with_reducible refine x_or ?_ | with_reducible refine x_not ?_ | with_reducible refine x_yes ?_
  | with_reducible refine x_gname ?_ | with_reducible refine x_gtup ?_ | with_reducible refine x_gnil ?_ | with_reducible refine x_gcons ?_ | with_reducible refine x_gsub ?_ | with_reducible refine x_iList ?_ | with_reducible refine x_iStr ?_ | with_reducible refine x_iRng1 ?_ | with_reducible refine x_iEnumQ ?_
  | with_reducible refine x_lc ?_ | with_reducible refine x_dc ?_ | with_reducible refine x_iKeys ?_ | with_reducible refine x_iVals ?_ | with_reducible refine x_iItems ?_ | with_reducible refine x_forW ?_ | with_reducible refine x_iSeq ?_ | with_reducible refine x_ixO ?_
  | with_reducible refine i_I0 ?_ | with_reducible refine i_U ?_ | with_reducible refine iteT ?_ | with_reducible refine iteF ?_ | with_reducible refine iteNT ?_ | with_reducible refine iteNF ?_ | with_reducible refine x_bl ?_ | with_reducible refine x_int ?_ | with_reducible refine i_add ?_ | with_reducible refine i_int1 ?_ | with_reducible refine i_abs ?_ | with_reducible refine i_max ?_ | with_reducible refine i_min ?_)
local macro_rules | `(tactic| walk_at "go") => `(tactic| repeat (first | walk_at "st" | dsimp only [Bool.not_true, Bool.not_false, List.nil_append, List.cons_append]))

def rdF (K : PySem.W.Frag) (m : Ms) : List (Str × Dt) := [("own_orders", .dK (ogs K (srtM m))), ("own_goods", .lst ((goodsM m).map Dt.str))]
def rdD (K : PySem.W.Frag) (m : Ms) : Dt := .ins (CR K) (rdF K m)
section
variable {P : Program} {w : World} {K : PySem.W.Frag} {mg : Str → Option Value} {base : Heap}
section
variable {S H : Hp}
theorem rd_inv {v : V} {m : Ms} (h : Dv K S v (rdD K m)) : ∃ a dx p g kvs, v = .ref a ∧ S a = some (.ins (CR K) dx [("own_orders", .ref p), ("own_goods", .ref g)]) ∧ S p = some (.dK kvs) ∧ OrdIn K (Gd.minus S p) kvs (srtM m) ∧ S g = some (.lst ((goodsM m).map V.str)) := by
  obtain ⟨a, dx, fs, rfl, h1, h2, h3⟩ := h.ins_inv
  match fs, h2, h3 with
  | [(x, v1), (y, v2)], h2, h3 =>
    simp only [rdF, List.map_cons, List.map_nil, List.cons.injEq, and_true] at h2
    obtain ⟨rfl, rfl⟩ := h2
    cases h3 with
    | cons d1 h3 => cases h3 with
      | cons d2 h3 =>
        obtain ⟨p, kvs, rfl, hp, hk, hd⟩ := d1.dK_inv
        obtain ⟨g, xs, rfl, hg, hx⟩ := d2.lst_inv
        rw [dvAll_strs_inv hx] at hg
        exact ⟨a, dx, p, g, kvs, rfl, h1, hp, ⟨hk, hd⟩, hg⟩
theorem OrdIn.mono {S S' : Hp} {kvs : List (Key × V)} {m : Ms} (h : OrdIn K S kvs m) (e : Ex S S') : OrdIn K S' kvs m := ⟨h.k, h.d.mono e⟩
theorem OrdIn.all {S : Hp} {a : Addr} {kvs : List (Key × V)} {m : Ms} (h : OrdIn K (Gd.minus S a) kvs m) : OrdIn K S kvs m := h.mono minus_ex
theorem OrdIn.len {kvs : List (Key × V)} {m : Ms} (h : OrdIn K S kvs m) : kvs.length = m.length := by
  have := congrArg List.length h.k
  rw [List.length_map, List.length_map] at this
  rw [this]
  exact List.length_map ..
theorem ogs_find (m : Ms) (z : Str) : ((ogs K m).find? fun p => decide (p.1 = Sum.inr z)).map (·.2) = (look m z).map (ordD K) := by
  unfold ogs look
  induction m with
  | nil => rfl
  | cons p r ih =>
    rw [List.map_cons]
    by_cases c : p.1 = z
    · rw [List.find?_cons_of_pos (by simp [c]), List.find?_cons_of_pos (by simp [c])]
      rfl
    · rw [List.find?_cons_of_neg (by simp [c]), List.find?_cons_of_neg (by simp [c])]
      exact ih
theorem OrdIn.val {kvs : List (Key × V)} {m : Ms} {z : Str} {r : Row} (h : OrdIn K S kvs m) (hr : look m z = some r) : ∃ v, valV kvs (.inr z) = some v ∧ Dv K S v (ordD K r) := by
  have e := ogs_find (K := K) m z
  rw [hr] at e
  rcases val_at h.k h.d (.inr z) with ⟨x, g, h1, h2, h3⟩ | ⟨_, h2⟩
  · rw [e] at h2
    cases h2
    exact ⟨x, h1, h3⟩
  · rw [h2] at e
    cases e
theorem OrdIn.no {kvs : List (Key × V)} {m : Ms} {z : Str} (h : OrdIn K S kvs m) (hr : look m z = none) : valV kvs (.inr z) = none := by
  have e := ogs_find (K := K) m z
  rw [hr] at e
  rcases val_at h.k h.d (.inr z) with ⟨x, g, h1, h2, h3⟩ | ⟨h1, _⟩
  · rw [e] at h2
    cases h2
  · exact h1
theorem OrdIn.some {kvs : List (Key × V)} {m : Ms} (h : OrdIn K S kvs m) (z : Str) : (valV kvs (.inr z)).isSome = decide (z ∈ keys m) := by
  by_cases c : z ∈ keys m
  · obtain ⟨r, hr⟩ := look_key c
    obtain ⟨v, hv, _⟩ := h.val hr
    rw [hv, decide_eq_true c]
    rfl
  · rw [h.no (look_no c), decide_eq_false c]
    rfl
theorem srtM_ogs (m : Ms) : (srt (keys m)).filterMap (fun k => (look m k).map fun r => ((Sum.inr k : Key), ordD K r)) = ogs K (srtM m) := by
  unfold ogs srtM
  rw [List.map_filterMap]
  congr 1
  funext k
  cases look m k <;> rfl
end
theorem MsOk.srt {m : Ms} (h : MsOk m) : MsOk (srtM m) where
  nd := by rw [srtM_keys]; exact srt_nd h.nd
  nm := fun p hp => h.nm p ((srtM_mem h.nd).mp hp)
  ok := fun p hp => h.ok p ((srtM_mem h.nd).mp hp)
  few := by rw [srtM_len]; exact h.few
  gs := by
    have e : goodsM (srtM m) = goodsM m := goodsM_one (fun p hp => (h.ok p hp).b.1) (goodsL_nd fun p hp => (h.ok p ((srtM_mem h.nd).mp hp)).b.1) fun k => by
      rw [goodsL_mem fun p hp => (h.ok p ((srtM_mem h.nd).mp hp)).b.1]
      exact ⟨fun ⟨p, hp, z⟩ => ⟨p, (srtM_mem h.nd).mp hp, z⟩, fun ⟨p, hp, z⟩ => ⟨p, (srtM_mem h.nd).mpr hp, z⟩⟩
    have := congrArg List.length e
    unfold goodsM at this
    rw [srt_len, srt_len] at this
    rw [this]
    exact h.gs
theorem MsOk.goods {m : Ms} (h : MsOk m) : goodsM (srtM m) = goodsM m := goodsM_one (fun p hp => (h.ok p hp).b.1) (goodsL_nd fun p hp => (h.ok p ((srtM_mem h.nd).mp hp)).b.1) fun k => by
  rw [goodsL_mem fun p hp => (h.ok p ((srtM_mem h.nd).mp hp)).b.1]
  exact ⟨fun ⟨p, hp, z⟩ => ⟨p, (srtM_mem h.nd).mp hp, z⟩, fun ⟨p, hp, z⟩ => ⟨p, (srtM_mem h.nd).mpr hp, z⟩⟩
/-! ### want_order -/
def spWant (K : PySem.W.Frag) : Sp := fun vs H Q _ => ∃ S v m z, vs = [v, .str z] ∧ Ex S H ∧ Dv K S v (rdD K m) ∧ MsOk m ∧ z ∈ keys m ∧ ∀ H', Ex H H' → Q .non H'
theorem b_want_order (T : Txt K mg) : Binds K (fdOf K (d_want_order.at_ K)) ["deals", "value"] [] := T.f_want_order.bindsN fun _ _ _ _ _ _ us hl => match us, hl with | [_, _], _ => rfl
theorem ok_want_order (T : Txt K mg) : FO P w K mg base 2 d_want_order ["deals", "value"] (spWant K) := by
  have G_is_name := ok_is_name (P := P) (w := w) (base := base) T
  refine T.f_want_order.ok sc_want_order (fun vs H Q E h => ?_) (fun cdv A outer s H vs Q E hr h => ?_)
  · obtain ⟨S, v, m, z, rfl, _⟩ := h
    rfl
  · obtain ⟨S, v, m, z, rfl, f, dv, ok, hz, q⟩ := h
    obtain ⟨a, dx, p, g, kvs, rfl, h1, h2, oi, h3⟩ := rd_inv dv
    obtain ⟨nz, hnz, ez⟩ := List.mem_map.mp hz
    obtain ⟨n1, n2⟩ := ok.nm _ hnz
    rw [ez] at n1 n2
    refine ⟨_, (pss_one (ps_if (PW.pt (pw_or (pt_not (pt_val (pe_call G_is_name (hr.mono (by decide)) rfl T.g_is_name T.f_is_name.kp (b_is_name T) .nil pass0 (pa_cons (pv 1) pa_nil)))) (pw_or1 (pt_cmpR (op_notInD (units1 hr)) (pv 1) (pe_fld (pv 0) rfl) (by rfl))))) pss_never pss_nil)), ?_⟩
    walk_at "go"
    refine ⟨z, rfl, by omega, fun H1 e1 => ?_⟩
    rw [n1]
    walk_at "go"
    refine ⟨a, _, dx, _, _, rfl, e1 _ _ (f _ _ h1), T.cl_Round, T.na_Round_own_orders, rfl, ?_⟩
    refine i_inDk (k := .inr z) (.inl (e1 _ _ (f _ _ h2))) ?_
    rw [if_pos rfl, oi.all.some, decide_eq_true (by rw [srtM_keys, srt_mem]; exact hz)]
    walk_at "go"
    exact q H1 e1
/-! ### __init__ -/
def spRd (K : PySem.W.Frag) : Sp := fun vs H Q _ => ∃ (S : Hp) (x a dx : Addr) (kvs : List (Key × V)) (m : Ms), vs = [.ref x, .ref a] ∧ Ex S H ∧ S x = none ∧ H x = some (.ins (CR K) dx []) ∧ H a = some (.dK kvs) ∧ OrdIn K S kvs m ∧ MsOk m ∧
  ∀ S' H', Gr [x] S H S' H' → Dv K S' (.ref x) (rdD K m) → Q .non H'
theorem ok_Round_init (T : Txt K mg) (B : Tabs K) : FO P w K mg base 3 d_Round_init ["self", "orders"] (spRd K) := by
  have G_is_dict_of_names := ok_is_dict_of_names (P := P) (w := w) (base := base) T
  have G_goods_of := ok_goods_of (P := P) (w := w) (base := base) T
  refine T.f_Round_init.ok sc_Round_init (fun vs H Q E h => ?_) (fun cdv A outer s H vs Q E hr h => ?_)
  · obtain ⟨S, x, a, dx, kvs, m, rfl, _⟩ := h
    rfl
  · obtain ⟨S, x, a, dx, kvs, m, rfl, f, sx, hx, ha, oi, ok, q⟩ := h
    have hu := units1 hr
    have kz : kvs.map (·.1) = (keys m).map Sum.inr := by rw [oi.k, ogs_keys]
    have lz : (keys m).length = m.length := List.length_map ..
    have few := ok.few
    have nax : a ≠ x := fun z => by rw [z, hx] at ha; cases ha
    refine ⟨_, (pss_cons (ps_if (pt_not (pt_val (pe_call G_is_dict_of_names (hr.mono (by decide)) rfl T.g_is_dict_of_names T.f_is_dict_of_names.kp (b_is_dict_of_names T) .nil pass0 (pa_cons (pv 1) pa_nil)))) pss_never pss_nil)
    (pss_cons (ps_for (passes_of rfl) rfl (pi_list (pe_callB (call_sortD rfl) (by rfl) T.b_sorted (by decide +kernel) (pa_cons (pv 1) pa_nil))) (pg_name (i := 2) sc_Round_init.nd rfl (.inl rfl)) (pss_one (ps_if (pt_not (pt_val (pe_callB call_isi (by rfl) T.b_isinstance (by decide +kernel) (pa_cons (pe_ix (show IxR _ (rIxY K) from ix_Y (units1 hr)) (pv 1) (pv 2) (fun _ _ => rfl)) (pa_cons (pe_glob (v := .ref (He.ga K "Order")) rfl T.g_Order rfl) pa_nil))))) pss_never pss_nil)))
    (pss_cons (ps_fld (pv 0) (pe_dc (own := [("name", 2)]) rfl sc_Round_init.nd (pi_list (pe_callB (call_sortD rfl) (by rfl) T.b_sorted (by decide +kernel) (pa_cons (pv 1) pa_nil))) (blkOk_by (N := ["self", "orders", "name"]) (sc := defScope s_Round_init) (by decide +kernel)) (fun _ _ _ _ _ => (pg_name (i := 2) sc_Round_init.nd rfl (.inl rfl))) (fun _ _ _ _ _ => pts_nil) (fun _ _ _ _ _ => (pv 2)) (fun _ _ _ _ _ => (pe_ix (show IxR _ (rIxY K) from ix_Y (units1 hr)) (pv 1) (pv 2) (fun _ _ => rfl)))) rfl)
    (pss_cons (ps_fld (pv 0) (pe_call G_goods_of (hr.mono (by decide)) rfl T.g_goods_of T.f_goods_of.kp (b_goods_of T) .nil pass0 (pa_cons (pe_fld (pv 0) rfl) pa_nil)) rfl)
    (pss_cons (ps_if (pt_cmpR op_gt (pe_callB Gd.call_lenD (by rfl) T.b_len (by decide +kernel) (pa_cons (pe_fld (pv 0) rfl) pa_nil)) (pe_glob (v := .int 12) rfl T.c_MOST_ORDERS.choose_spec ⟨_, rfl⟩) (nomark _)) pss_never pss_nil)
    (pss_one (ps_if (pt_cmpR op_gt (pe_callB call_lenX (by rfl) T.b_len (by decide +kernel) (pa_cons (pe_fld (pv 0) rfl) pa_nil)) (pe_glob (v := .int 4) rfl T.c_MOST_GOODS.choose_spec ⟨_, rfl⟩) (nomark _)) pss_never pss_nil))))))), ?_⟩
    walk_at "go"
    refine ⟨a, kvs, keys m, rfl, ha, kz, by omega, fun k hk => ?_, fun H1 e1 => ?_⟩
    · obtain ⟨p, hp, rfl⟩ := List.mem_map.mp hk
      have := ok.nm p hp
      exact ⟨this.1, by omega⟩
    walk_at "go"
    have ha1 := e1 _ _ ha
    have f1 : Ex S H1 := f.trans e1
    refine ⟨a, kvs, keys m, rfl, .inl ha1, kz, by omega, fun ys l pm so hl => ?_⟩
    cases srt_one pm so
    have sl : S l = none := fresh_back f1 hl
    have g2 : Gr [] S H1 (upd S l (.lst ((srt (keys m)).map V.str))) (upd H1 l (.lst ((srt (keys m)).map V.str))) := Gr.newF f1 hl
    have ha2 := g2.nil_h _ _ ha1
    have hx2 := g2.nil_h _ _ (e1 _ _ hx)
    have f2 := g2.i
    have el2 : Ex (upd S l (.lst ((srt (keys m)).map V.str))) (upd H1 l (.lst ((srt (keys m)).map V.str))) := f2
    have oi2 := oi.mono g2.s
    have dl : Dv K (upd S l (.lst ((srt (keys m)).map V.str))) (.ref l) (.lst ((srt (keys m)).map Dt.str)) := dv_lst_new sl (dvAll_strs _)
    have sx2 : (upd S l (.lst ((srt (keys m)).map V.str))) x = none := by
      rw [upd_ne fun z => by rw [← z, e1 _ _ hx] at hl; cases hl]
      exact sx
    have g12 : Gr [x] S H (upd S l (.lst ((srt (keys m)).map V.str))) (upd H1 l (.lst ((srt (keys m)).map V.str))) := (Gr.same f e1).then g2
    generalize upd S l (.lst ((srt (keys m)).map V.str)) = S2 at f2 oi2 dl sx2 g12
    generalize upd H1 l (.lst ((srt (keys m)).map V.str)) = H2 at ha2 hx2 f2 g12 ⊢
    clear g2 el2
    refine i_forL f2 dl (fun i σ H' => ∃ y, σ = [some (.ref x), some (.ref a), y] ∧ H' = H2) ⟨_, rfl, rfl⟩ ?_ ?_ ?_
    · rintro i σ H' _ ⟨y, rfl, rfl⟩
      exact f2
    · rintro i σ H' u d hd du ⟨y, rfl, rfl⟩
      obtain ⟨z, hz, rfl⟩ := map_at hd
      cases du.str_inv
      have hzm := srt_mem.mp (List.mem_of_getElem? hz)
      obtain ⟨r, hr'⟩ := look_key hzm
      obtain ⟨v, hv, dv⟩ := oi2.val hr'
      obtain ⟨oa, dox, p, rfl, h1, h2⟩ := ord_inv dv
      walk_at "go"
      refine i_ixDk (k := .inr z) (.inl ha2) hv ?_
      walk_at "go"
      refine ⟨_, _, _, _, true, rfl, .own _, B.oc.ty _ _ _ _ (f2 _ _ h1), ?_, ?_⟩
      · unfold PySem.W.kitOne
        rw [if_pos (by simp)]
      walk_at "go"
      exact ⟨_, rfl, rfl⟩
    · rintro σ H' ⟨y, rfl, rfl⟩
      walk_at "go"
      refine ⟨a, kvs, keys m, rfl, .inl ha2, kz, by omega, fun ys l2 pm so hl2 => ?_⟩
      cases srt_one pm so
      have g3 : Gr [] S2 H' (upd S2 l2 (.lst ((srt (keys m)).map V.str))) (upd H' l2 (.lst ((srt (keys m)).map V.str))) := Gr.newF f2 hl2
      have sl2 := fresh_back f2 hl2
      have xl2 : x ≠ l2 := fun z => by rw [← z, hx2] at hl2; cases hl2
      have g13 := g12.then g3
      have ha3 := g3.nil_h _ _ ha2
      have hx3 := g3.nil_h _ _ hx2
      have sx3 : (upd S2 l2 (.lst ((srt (keys m)).map V.str))) x = none := by rw [upd_ne xl2]; exact sx2
      have oi3 := oi2.mono g3.s
      have w := walk_listD (K := K) (S := upd S2 l2 (.lst ((srt (keys m)).map V.str))) upd_same (dvAll_strs (srt (keys m)))
      rw [List.length_map] at w
      have f3 := g3.i
      refine ⟨l2, rfl, ⟨_, sq_of upd_same⟩, fun D hD => ?_⟩
      clear g3
      generalize upd S2 l2 (.lst ((srt (keys m)).map V.str)) = S3 at oi3 g13 f3 sx3 w
      generalize upd H' l2 (.lst ((srt (keys m)).map V.str)) = H3 at g13 f3 ha3 hx3 hD ⊢
      refine dc_E (K := K) w (fun k => (look m k).map fun r => ((Sum.inr k : Key), ordD K r)) f3 hD (by rw [srt_len]; omega) (fun S1 Hc g => g.s.trans g.i) ?_ ?_ ?_
      · rw [srtM_ogs, ogs_keys, srtM_keys]
        exact List.Pairwise.map _ (fun a b h e => h (Sum.inr.inj e)) (srt_nd ok.nd)
      · rintro i k u S1 Hc Hc' Qe Nx hk g ⟨rfl, d, hd, du⟩ q1 q2
        rw [List.getElem?_map, hk] at hd
        cases hd
        cases du.str_inv
        obtain ⟨r, hr'⟩ := look_key (srt_mem.mp (List.mem_of_getElem? hk))
        obtain ⟨v, hv, dv⟩ := oi3.val hr'
        walk_at "go"
        refine ⟨rfl, ?_⟩
        walk_at "go"
        refine i_ixDk (k := .inr k) (.inl (g.nil_h _ _ ha3)) hv ?_
        exact q1 S1 Hc' (.inr k) v (ordD K r) (Gr.refl g.i) (dv.mono g.s) (by rw [hr']; rfl)
      · intro S4 H4 kvs4 g4 s4 hl4 hk4 dv4
        rw [srtM_ogs] at hk4 dv4
        have hx4 := g4.nil_h _ _ hx3
        have sx4 := (g4.own (by simp) hx3 sx3).2
        have nDx : D ≠ x := fun z => by rw [z, hx3] at hD; cases hD
        walk_at "go"
        refine ⟨x, _, dx, _, rfl, hx4, T.cl_Round, T.na_Round_own_orders, by decide, ?_⟩
        walk_at "go"
        have g5 : Gr [x] S H S4 (upd H4 x (.ins (CR K) dx [("own_orders", .ref D)])) := (g13.then g4).trans (Gr.mut (L := [x]) g4.i sx4 (by simp)) fun z hz => .inl hz
        refine ⟨x, _, dx, _, _, rfl, upd_same, T.cl_Round, T.na_Round_own_orders, rfl, ?_⟩
        walk_at "go"
        refine ⟨S4, D, kvs4, srtM m, rfl, g5.i, s4, by rw [upd_ne nDx]; exact hl4, ⟨hk4, dv4⟩, ok.srt, fun g H6 hg e6 h6 => ?_⟩
        rw [ok.goods] at h6
        have hx6 := e6 _ _ upd_same
        have hD6 : H6 D = some (.dK kvs4) := e6 _ _ (by rw [upd_ne nDx]; exact hl4)
        have nxg : x ≠ g := fun z => by rw [← z, upd_same] at hg; cases hg
        have nDg : D ≠ g := fun z => by rw [← z, upd_ne nDx, hl4] at hg; cases hg
        have g6 : Gr [x] S H S4 H6 := g5.then (Gr.same g5.i e6)
        have hgH : H g = none := by
          cases hh : H g with
          | none => rfl
          | some o => cases (g5.h g o (nmem1 nxg) hh).symm.trans hg
        have hDH : H D = none := by
          cases hh : H D with
          | none => rfl
          | some o => cases (g13.h D o (nmem1 (Ne.symm nDx)) hh).symm.trans hD
        walk_at "go"
        refine ⟨x, _, dx, _, rfl, hx6, T.cl_Round, T.na_Round_own_goods, (by show 1 < 1000; decide), ?_⟩
        have g7 : Gr [x] S H S4 (upd H6 x (.ins (CR K) dx [("own_orders", .ref D), ("own_goods", .ref g)])) := g6.trans (Gr.mut (L := [x]) g6.i sx4 (by simp)) fun z hz => .inl hz
        have hD7 : (upd H6 x (.ins (CR K) dx [("own_orders", .ref D), ("own_goods", .ref g)])) D = some (.dK kvs4) := by rw [upd_ne nDx]; exact hD6
        have hg7 : (upd H6 x (.ins (CR K) dx [("own_orders", .ref D), ("own_goods", .ref g)])) g = some (.lst ((goodsM m).map V.str)) := by rw [upd_ne (Ne.symm nxg)]; exact h6
        walk_at "go"
        refine ⟨x, _, dx, _, _, rfl, upd_same, T.cl_Round, T.na_Round_own_orders, rfl, ?_⟩
        have kl : kvs4.length = m.length := by
          have := OrdIn.len ⟨hk4, dv4⟩
          rw [this, srtM_len]
        refine ⟨D, kvs4, rfl, .inl hD7, ?_⟩
        walk_at "go"
        rw [decide_eq_false (show ¬ (12 : Int) < (kvs4.length : Int) by omega)]
        walk_at "go"
        refine ⟨x, _, dx, _, _, rfl, upd_same, T.cl_Round, T.na_Round_own_goods, rfl, ?_⟩
        walk_at "go"
        refine i_lenL hg7 ?_
        walk_at "go"
        have gl : ((goodsM m).map V.str).length ≤ 4 := by
          rw [List.length_map]
          unfold goodsM
          rw [srt_len]
          exact ok.gs
        rw [decide_eq_false (show ¬ (4 : Int) < (((goodsM m).map V.str).length : Int) by omega)]
        walk_at "go"
        have sg : S4 g = none := fresh_back g5.i hg
        have g8 := g7.frzN hDH s4 hD7
        have sg8 : (upd S4 D (.dK kvs4)) g = none := by rw [upd_ne (Ne.symm nDg)]; exact sg
        have g9 := g8.frzN hgH sg8 hg7
        have sx9 : (upd (upd S4 D (.dK kvs4)) g (.lst ((goodsM m).map V.str))) x = none := by rw [upd_ne nxg, upd_ne (Ne.symm nDx)]; exact sx4
        have g10 := g9.trans (Gr.frz (L := [x]) g9.i sx9 upd_same (by simp)) (fun z hz => .inl hz)
        refine q _ _ g10 (.ins upd_same sx9 (Ex.new sx9) rfl (.cons ?_ (.cons ?_ .nil)))
        · exact (dv_dK_new s4 hk4 dv4).mono (Ex.new sg8)
        · exact dv_lst_new sg8 (dvAll_strs _)
end
end K31

set_option Elab.async false
set_option linter.all false
set_option maxRecDepth 100000
set_option maxHeartbeats 4000000
/-! K31F: the class Round: orders, goods, [], in, of_house, len. -/
namespace K31
open PySem PySem.Spec PyProof.Rows L2 Gd
open Evl (Ex Ex.refl Ex.trans Ex.new Ex.mut ex_t ex_l sq_of st_of fresh_back)

local macro_rules | `(tactic| walk_at "st") => `(tactic| first
  | with_reducible refine x_seq ?_ | with_reducible refine x_ret ?_ | with_reducible refine x_retN ?_ | with_reducible refine x_next ?_ | with_reducible refine x_drop ?_ | with_reducible refine x_if ?_ | with_reducible refine x_asg ?_
  | with_reducible refine x_par ?_ | with_reducible refine x_par3 ?_ | with_reducible refine x_sfld ?_ | ((with_reducible show tVar _ _ _ _); refine x_var rfl ?_) | with_reducible refine x_c ?_ | with_reducible refine x_op ?_ | with_reducible refine x_un ?_
  | with_reducible refine x_chain ?_ | with_reducible refine x_andV ?_ | with_reducible refine x_orV ?_ | with_reducible refine x_notV ?_ | with_reducible refine x_ifE ?_ | with_reducible refine x_nil ?_ | with_reducible refine x_cons ?_ | with_reducible refine x_star ?_
  | with_reducible refine x_tup ?_ | with_reducible refine x_lst ?_ | with_reducible refine x_cb ?_ | with_reducible refine x_call ?_ | with_reducible refine x_meth ?_ | with_reducible refine x_make ?_ | with_reducible refine x_fld ?_ | with_reducible refine x_bm0 ?_ | with_reducible refine x_bm ?_
  | with_reducible refine x_sl ?_ | with_reducible refine x_no ?_ | with_reducible refine x_part ?_ | with_reducible refine x_rev ?_ | with_reducible refine x_fmtD ?_ | with_reducible refine x_test ?_ | with_reducible refine x_tB ?_ | with_reducible refine x_and ?_ | with_reducible refine x_or ?_ | with_reducible refine x_not ?_ | with_reducible refine x_yes ?_
  | with_reducible refine x_gname ?_ | with_reducible refine x_gtup ?_ | with_reducible refine x_gnil ?_ | with_reducible refine x_gcons ?_ | with_reducible refine x_gsub ?_ | with_reducible refine x_iList ?_ | with_reducible refine x_iStr ?_ | with_reducible refine x_iRng1 ?_ | with_reducible refine x_iEnumQ ?_
  | with_reducible refine x_lc ?_ | with_reducible refine x_dc ?_ | with_reducible refine x_iKeys ?_ | with_reducible refine x_iVals ?_ | with_reducible refine x_iItems ?_ | with_reducible refine x_forW ?_ | with_reducible refine x_iSeq ?_ | with_reducible refine x_ixO ?_
  | with_reducible refine i_I0 ?_ | with_reducible refine i_U ?_ | with_reducible refine iteT ?_ | with_reducible refine iteF ?_ | with_reducible refine iteNT ?_ | with_reducible refine iteNF ?_ | with_reducible refine x_bl ?_ | with_reducible refine x_int ?_ | with_reducible refine i_add ?_ | with_reducible refine i_int1 ?_ | with_reducible refine i_abs ?_ | with_reducible refine i_max ?_ | with_reducible refine i_min ?_)
local macro_rules | `(tactic| walk_at "go") => `(tactic| repeat (first | walk_at "st" | dsimp only [Bool.not_true, Bool.not_false, List.nil_append, List.cons_append]))

theorem FnOk.or {P : Program} {w : World} {K : PySem.W.Frag} {mg : Str → Option Value} {base : Heap} {CX : CXT} {k : Nat} {f : Addr} {fd : FuncData} {ps : List Str} {sp sp' : Sp} (F : FnOk P w K mg base CX k f fd ps sp) (G : FnOk P w K mg base CX k f fd ps sp') :
    FnOk P w K mg base CX k f fd ps (fun vs H Q E => sp vs H Q E ∨ sp' vs H Q E) :=
  ⟨fun vs H Q E h => h.elim (F.len vs H Q E) (G.len vs H Q E), fun A outer s H args us vs Q E hr he hb hv hs => hs.elim (F.run A outer s H args us vs Q E hr he hb hv) (G.run A outer s H args us vs Q E hr he hb hv)⟩
/-- names of kinds that are no text -/
def odds : List String := ["NoneType", "bool", "int", "list", "tuple", "dict"]
section
variable {P : Program} {w : World} {K : PySem.W.Frag} {mg : Str → Option Value} {base : Heap}
/-! ### is_name of what is no text -/
def spIsNameO (K : PySem.W.Frag) : Sp := fun vs H Q _ => ∃ (v : V) (t : String), vs = [v] ∧ t ∈ odds ∧ TyX K H v (.type t) ∧ Q (.bl false) H
theorem kit_odd {t : String} (h : t ∈ odds) : kitB t "str" = some false := by
  unfold odds at h
  simp only [List.mem_cons, List.not_mem_nil, or_false] at h
  rcases h with rfl | rfl | rfl | rfl | rfl | rfl <;> decide +kernel
theorem ok_is_nameO (T : Txt K mg) : FO P w K mg base 1 d_is_name ["value"] (spIsNameO K) := by
  refine T.f_is_name.ok sc_is_name (fun vs H Q E h => ?_) (fun cdv A outer s H vs Q E hr h => ?_)
  · obtain ⟨i, t, rfl, _⟩ := h
    rfl
  · obtain ⟨v, t, rfl, ht, ty, q⟩ := h
    refine ⟨_, (pss_cons (ps_if (PW.pt (pw_or (pt_not (pt_val (pe_callB call_isi (by rfl) T.b_isinstance (by decide +kernel) (pa_cons (pv 0) (pa_cons (pe_bltn (v := .ty "str") rfl T.b_str (by decide +kernel) rfl) pa_nil))))) (pw_or1 (pt_not (pt_chain op_le op_le pe_int (pe_callB call_lenX (by rfl) T.b_len (by decide +kernel) (pa_cons (pv 0) pa_nil)) (pe_glob (v := .int 8) rfl T.c_MOST_LETTERS.choose_spec ⟨_, rfl⟩)))))) (pss_one (ps_ret pe_bl)) pss_nil)
    (pss_one (ps_ret (pe_callB (cr_all rfl) (by rfl) T.b_all (by decide +kernel) (pa_cons (pe_lc (own := [("letter", 1)]) rfl sc_is_name.nd (pi_str (pv 0)) (blkOk_by (N := ["value", "letter"]) (sc := defScope s_is_name) (by decide +kernel)) (fun _ _ _ _ _ => (pg_name (i := 1) sc_is_name.nd rfl (.inl rfl))) (fun _ _ _ _ _ => pts_nil) (fun _ _ _ _ _ => (pe_cmpR op_in_sign (pv 1) (pe_glob (v := .str "abcdefghijklmnopqrstuvwxyz") rfl T.c_LETTERS.choose_spec ⟨_, rfl⟩) (by rfl)))) pa_nil))))), ?_⟩
    walk_at "go"
    refine i_isi ty (b := false) (kit_odd ht) ?_
    walk_at "go"
    exact q
/-! ### orders -/
def spOrds (K : PySem.W.Frag) : Sp := fun vs H Q _ => ∃ S v m, vs = [v] ∧ Ex S H ∧ Dv K S v (rdD K m) ∧ ∀ p kvs, H p = none → OrdIn K S kvs (srtM m) → Q (.ref p) (upd H p (.dK kvs))
theorem b_Round_orders (T : Txt K mg) : Binds K (fdOf K (d_Round_orders.at_ K)) ["self"] [] := T.f_Round_orders.bindsN fun _ _ _ _ _ _ us hl => match us, hl with | [_], _ => rfl
theorem ok_Round_orders (T : Txt K mg) : FO P w K mg base 1 d_Round_orders ["self"] (spOrds K) := by
  refine T.f_Round_orders.ok sc_Round_orders (fun vs H Q E h => ?_) (fun cdv A outer s H vs Q E hr h => ?_)
  · obtain ⟨S, v, m, rfl, _⟩ := h
    rfl
  · obtain ⟨S, v, m, rfl, f, dv, q⟩ := h
    obtain ⟨a, dx, p, g, kvs, rfl, h1, h2, oi, h3⟩ := rd_inv dv
    refine ⟨_, (pss_one (ps_ret (pe_callTy call_dictD' (by rfl) T.b_dict (by decide +kernel) (pa_cons (pe_fld (pv 0) rfl) pa_nil)))), ?_⟩
    walk_at "go"
    refine ⟨a, _, dx, _, _, rfl, f _ _ h1, T.cl_Round, T.na_Round_own_orders, rfl, ?_⟩
    walk_at "go"
    exact ⟨p, kvs, rfl, .inl (f _ _ h2), fun D hD => q D kvs hD oi.all⟩
/-! ### goods -/
def spGds (K : PySem.W.Frag) : Sp := fun vs H Q _ => ∃ S v m, vs = [v] ∧ Ex S H ∧ Dv K S v (rdD K m) ∧ ∀ p, H p = none → Q (.ref p) (upd H p (.lst ((goodsM m).map V.str)))
theorem b_Round_goods (T : Txt K mg) : Binds K (fdOf K (d_Round_goods.at_ K)) ["self"] [] := T.f_Round_goods.bindsN fun _ _ _ _ _ _ us hl => match us, hl with | [_], _ => rfl
theorem ok_Round_goods (T : Txt K mg) : FO P w K mg base 1 d_Round_goods ["self"] (spGds K) := by
  refine T.f_Round_goods.ok sc_Round_goods (fun vs H Q E h => ?_) (fun cdv A outer s H vs Q E hr h => ?_)
  · obtain ⟨S, v, m, rfl, _⟩ := h
    rfl
  · obtain ⟨S, v, m, rfl, f, dv, q⟩ := h
    obtain ⟨a, dx, p, g, kvs, rfl, h1, h2, oi, h3⟩ := rd_inv dv
    refine ⟨_, (pss_one (ps_ret (pe_callTy call_listX (by rfl) T.b_list (by decide +kernel) (pa_cons (pe_fld (pv 0) rfl) pa_nil)))), ?_⟩
    walk_at "go"
    refine ⟨a, _, dx, _, _, rfl, f _ _ h1, T.cl_Round, T.na_Round_own_goods, rfl, ?_⟩
    walk_at "go"
    exact i_listO (f _ _ h3) q
/-! ### [] -/
def spGet (K : PySem.W.Frag) : Sp := fun vs H Q _ => ∃ S v m z r, vs = [v, .str z] ∧ Ex S H ∧ Dv K S v (rdD K m) ∧ MsOk m ∧ look m z = some r ∧ ∀ u H', Ex H H' → Dv K S u (ordD K r) → Q u H'
theorem b_Round_getitem (T : Txt K mg) : Binds K (fdOf K (d_Round_getitem.at_ K)) ["self", "name"] [] := T.f_Round_getitem.bindsN fun _ _ _ _ _ _ us hl => match us, hl with | [_, _], _ => rfl
theorem ok_Round_getitem (T : Txt K mg) : FO P w K mg base 3 d_Round_getitem ["self", "name"] (spGet K) := by
  have G_want_order := ok_want_order (P := P) (w := w) (base := base) T
  refine T.f_Round_getitem.ok sc_Round_getitem (fun vs H Q E h => ?_) (fun cdv A outer s H vs Q E hr h => ?_)
  · obtain ⟨S, v, m, z, r, rfl, _⟩ := h
    rfl
  · obtain ⟨S, v, m, z, r, rfl, f, dv, ok, hz, q⟩ := h
    obtain ⟨a, dx, p, g, kvs, rfl, h1, h2, oi, h3⟩ := rd_inv dv
    obtain ⟨u, hv, du⟩ := oi.all.val ((srtM_look ok.nd z).trans hz)
    refine ⟨_, (pss_cons (ps_expr (pe_call G_want_order (hr.mono (by decide)) rfl T.g_want_order T.f_want_order.kp (b_want_order T) .nil pass0 (pa_cons (pv 0) (pa_cons (pv 1) pa_nil))))
    (pss_one (ps_ret (pe_ix (show IxR _ (rIxY K) from ix_Y (units1 hr)) (pe_fld (pv 0) rfl) (pv 1) (fun _ _ => rfl))))), ?_⟩
    walk_at "go"
    refine ⟨S, _, m, z, rfl, f, dv, ok, List.mem_map.mpr ⟨_, look_in hz, rfl⟩, fun H1 e1 => ?_⟩
    walk_at "go"
    refine ⟨a, _, dx, _, _, rfl, e1 _ _ (f _ _ h1), T.cl_Round, T.na_Round_own_orders, rfl, ?_⟩
    walk_at "go"
    refine i_ixDk (k := .inr z) (.inl (e1 _ _ (f _ _ h2))) hv ?_
    exact q u H1 e1 du
/-! ### in -/
def spIn (K : PySem.W.Frag) : Sp := fun vs H Q _ => ∃ S v m y, vs = [v, y] ∧ Ex S H ∧ Dv K S v (rdD K m) ∧ ((∃ z, y = .str z ∧ z.length ≤ 10000 ∧ ∀ H', Ex H H' → Q (.bl (nameB z && decide (z ∈ keys m))) H') ∨ ∃ t ∈ odds, TyX K H y (.type t) ∧ Q (.bl false) H)
theorem b_Round_contains (T : Txt K mg) : Binds K (fdOf K (d_Round_contains.at_ K)) ["self", "value"] [] := T.f_Round_contains.bindsN fun _ _ _ _ _ _ us hl => match us, hl with | [_, _], _ => rfl
theorem ok_Round_contains (T : Txt K mg) : FO P w K mg base 2 d_Round_contains ["self", "value"] (spIn K) := by
  have G_is_name := FnOk.or (ok_is_name (P := P) (w := w) (base := base) T) (ok_is_nameO (P := P) (w := w) (base := base) T)
  refine T.f_Round_contains.ok sc_Round_contains (fun vs H Q E h => ?_) (fun cdv A outer s H vs Q E hr h => ?_)
  · obtain ⟨S, v, m, y, rfl, _⟩ := h
    rfl
  · obtain ⟨S, v, m, y, rfl, f, dv, h⟩ := h
    obtain ⟨a, dx, p, g, kvs, rfl, h1, h2, oi, h3⟩ := rd_inv dv
    refine ⟨_, (pss_one (ps_ret (pe_and (pe_call G_is_name (hr.mono (by decide)) rfl T.g_is_name T.f_is_name.kp (b_is_name T) .nil pass0 (pa_cons (pv 1) pa_nil)) (pe_one (pe_cmpR (op_inD (units1 hr)) (pv 1) (pe_fld (pv 0) rfl) (by rfl)))))), ?_⟩
    walk_at "go"
    rcases h with ⟨z, rfl, hz, q⟩ | ⟨t, ht, ty, q⟩
    · refine .inl ⟨z, rfl, hz, fun H1 e1 => ?_⟩
      walk_at "go"
      cases h : nameB z
      · rw [h, Bool.false_and] at q
        walk_at "go"
        exact q H1 e1
      · rw [h, Bool.true_and] at q
        walk_at "go"
        refine ⟨a, _, dx, _, _, rfl, e1 _ _ (f _ _ h1), T.cl_Round, T.na_Round_own_orders, rfl, ?_⟩
        refine i_inDk (k := .inr z) (.inl (e1 _ _ (f _ _ h2))) ?_
        rw [if_neg (by decide), oi.all.some, srtM_keys, show decide (z ∈ srt (keys m)) = decide (z ∈ keys m) from decide_eq_decide.mpr srt_mem]
        exact q H1 e1
    · refine .inr ⟨y, t, rfl, ht, ty, ?_⟩
      walk_at "go"
      exact q
/-! ### len -/
def spLen (K : PySem.W.Frag) : Sp := fun vs H Q _ => ∃ S v m, vs = [v] ∧ Ex S H ∧ Dv K S v (rdD K m) ∧ Q (.int m.length) H
theorem b_Round_len (T : Txt K mg) : Binds K (fdOf K (d_Round_len.at_ K)) ["self"] [] := T.f_Round_len.bindsN fun _ _ _ _ _ _ us hl => match us, hl with | [_], _ => rfl
theorem ok_Round_len (T : Txt K mg) : FO P w K mg base 1 d_Round_len ["self"] (spLen K) := by
  refine T.f_Round_len.ok sc_Round_len (fun vs H Q E h => ?_) (fun cdv A outer s H vs Q E hr h => ?_)
  · obtain ⟨S, v, m, rfl, _⟩ := h
    rfl
  · obtain ⟨S, v, m, rfl, f, dv, q⟩ := h
    obtain ⟨a, dx, p, g, kvs, rfl, h1, h2, oi, h3⟩ := rd_inv dv
    refine ⟨_, (pss_one (ps_ret (pe_callB Gd.call_lenD (by rfl) T.b_len (by decide +kernel) (pa_cons (pe_fld (pv 0) rfl) pa_nil)))), ?_⟩
    walk_at "go"
    refine ⟨a, _, dx, _, _, rfl, f _ _ h1, T.cl_Round, T.na_Round_own_orders, rfl, ?_⟩
    refine ⟨p, kvs, rfl, .inl (f _ _ h2), ?_⟩
    rw [oi.all.len, srtM_len]
    exact q
/-! ### of_house -/
def houseD : Dt → Str
  | .ins _ ((_, .str h) :: _) => h
  | _ => Str.empty
/-- the names of the orders of a house -/
def nameOf (z : Str) (p : Key × Dt) : Option Dt := if houseD p.2 = z then (match p.1 with
  | .inr n => some (.str n)
  | .inl _ => none) else none
theorem nameOf_fm {K : PySem.W.Frag} (z : Str) (m : Ms) : (ogs K m).filterMap (nameOf z) = (((m.filter fun p => decide (p.2.house = z)).map (·.1))).map Dt.str := by
  unfold ogs
  induction m with
  | nil => rfl
  | cons p r ih =>
    rw [List.map_cons, List.filterMap_cons, List.filter_cons, ih]
    have e : nameOf z (Sum.inr p.1, ordD K p.2) = if p.2.house = z then some (.str p.1) else none := rfl
    rw [e]
    by_cases c : p.2.house = z
    · rw [if_pos c, decide_eq_true c, if_pos rfl]
      rfl
    · rw [if_neg c, decide_eq_false c, if_neg (by decide)]
def ofH (m : Ms) (h : Str) : List Str := ((srtM m).filter fun p => decide (p.2.house = h)).map (·.1)
def spOfH (K : PySem.W.Frag) : Sp := fun vs H Q _ => ∃ S v m z, vs = [v, .str z] ∧ Ex S H ∧ Dv K S v (rdD K m) ∧ m.length ≤ 12 ∧ nameB z = true ∧ z.length ≤ 10000 ∧ ∀ p H', H p = none → Ex H H' → H' p = some (.lst ((ofH m z).map V.str)) → Q (.ref p) H'
theorem b_Round_of_house (T : Txt K mg) : Binds K (fdOf K (d_Round_of_house.at_ K)) ["self", "house"] [] := T.f_Round_of_house.bindsN fun _ _ _ _ _ _ us hl => match us, hl with | [_, _], _ => rfl
theorem ok_Round_of_house (T : Txt K mg) : FO P w K mg base 2 d_Round_of_house ["self", "house"] (spOfH K) := by
  have G_is_name := ok_is_name (P := P) (w := w) (base := base) T
  refine T.f_Round_of_house.ok sc_Round_of_house (fun vs H Q E h => ?_) (fun cdv A outer s H vs Q E hr h => ?_)
  · obtain ⟨S, v, m, z, rfl, _⟩ := h
    rfl
  · obtain ⟨S, v, m, z, rfl, f, dv, few, nz, hz, q⟩ := h
    obtain ⟨a, dx, p, g, kvs, rfl, h1, h2, oi, h3⟩ := rd_inv dv
    refine ⟨_, (pss_cons (ps_if (pt_not (pt_val (pe_call G_is_name (hr.mono (by decide)) rfl T.g_is_name T.f_is_name.kp (b_is_name T) .nil pass0 (pa_cons (pv 1) pa_nil)))) pss_never pss_nil)
    (pss_one (ps_ret (pe_lock (pe_lc (own := [("name", 2), ("order", 3)]) rfl sc_Round_of_house.nd (pi_items (pe_fld (pv 0) rfl)) (blkOk_by (N := ["self", "house", "name", "order"]) (sc := defScope s_Round_of_house) (by decide +kernel)) (fun _ _ _ _ _ => (show PG _ _ (gTup K 2 _) from (pg_tup rfl (pgs_cons (pg_name (i := 2) sc_Round_of_house.nd rfl (.inl rfl)) (pgs_cons (pg_name (i := 3) sc_Round_of_house.nd rfl (.inl rfl)) pgs_nil))))) (fun _ _ _ _ _ => (pts_one (pt_cmpR op_eq (show PE _ _ (tFld K _ _) from pe_fld (pv 3) rfl) (pv 1) (nomark _)))) (fun _ _ _ _ _ => (pv 2))))))), ?_⟩
    walk_at "go"
    refine ⟨z, rfl, hz, fun H1 e1 => ?_⟩
    rw [nz]
    walk_at "go"
    have f1 := f.trans e1
    have hp := f1 _ _ h2
    have nap : a ≠ p := fun e => by rw [e, h2] at h1; cases h1
    refine i_lockE hp fun od => ?_
    walk_at "go"
    refine ⟨a, _, dx, _, _, rfl, by rw [upd_ne nap]; exact f1 _ _ h1, T.cl_Round, T.na_Round_own_orders, rfl, ?_⟩
    refine ⟨p, od, kvs, rfl, upd_same, fun D hD => ?_⟩
    refine i_lcI (K := K) (gs := ogs K (srtM m)) (lock_ex f1) upd_same oi.k oi.d (nameOf z) (by unfold ogs; rw [List.length_map, srtM_len]; omega) ?_ hD ?_
    · intro i p' u T1 S1 Hc Qe Nx hi g du q1 q2
      obtain ⟨⟨n, r⟩, hp', rfl⟩ := List.mem_map.mp (List.mem_of_getElem? hi)
      obtain ⟨oa, dox, pb, rfl, k1, k2⟩ := ord_inv du
      walk_at "go"
      refine i_pair ?_
      walk_at "go"
      refine ⟨rfl, ?_⟩
      walk_at "go"
      refine ⟨oa, _, dox, _, _, rfl, g.i _ _ k1, T.cl_Order, T.na_Order_own_house, rfl, ?_⟩
      walk_at "go"
      refine ⟨rfl, ?_⟩
      rw [show decide (V.str r.house = V.str z) = decide (r.house = z) by by_cases h : r.house = z <;> simp [h]]
      by_cases c : r.house = z
      · rw [decide_eq_true c]
        walk_at "go"
        exact q1 S1 _ _ (.str n) (Gr.refl g.i) (.str n) (by show (if r.house = z then _ else _) = _; rw [if_pos c])
      · rw [decide_eq_false c]
        walk_at "go"
        exact q2 S1 _ (Gr.refl g.i) (by show (if r.house = z then _ else _) = _; rw [if_neg c])
    · intro S' H' xs g s' hl' dv
      rw [nameOf_fm] at dv
      rw [dvAll_strs_inv dv] at hl'
      obtain ⟨b1, b2, b3, b4⟩ := lock_back (L := []) f1 hp (by simp) g
      have nDp : D ≠ p := fun z => by rw [z, upd_same] at hD; cases hD
      refine ⟨b1, ?_⟩
      have hD1 : H1 D = none := by rwa [upd_ne nDp] at hD
      exact q D _ (fresh_back e1 hD1) (e1.trans b3.nil_h) (by rw [upd_ne nDp]; exact hl')
end
end K31

set_option Elab.async false
set_option linter.all false
set_option maxRecDepth 100000
set_option maxHeartbeats 4000000
/-! K31G: the class Round: with_order, without. -/
namespace K31
open PySem PySem.Spec PyProof.Rows L2 Gd
open Evl (Ex Ex.refl Ex.trans Ex.new Ex.mut ex_t ex_l sq_of st_of fresh_back)

local macro_rules | `(tactic| walk_at "st") => `(tactic| first
  | with_reducible refine x_seq ?_ | with_reducible refine x_ret ?_ | with_reducible refine x_retN ?_ | with_reducible refine x_next ?_ | with_reducible refine x_drop ?_ | with_reducible refine x_if ?_ | with_reducible refine x_asg ?_
  | with_reducible refine x_par ?_ | with_reducible refine x_par3 ?_ | with_reducible refine x_sfld ?_ | ((with_reducible show tVar _ _ _ _); refine x_var rfl ?_) | with_reducible refine x_c ?_ | with_reducible refine x_op ?_ | with_reducible refine x_un ?_
  | with_reducible refine x_chain ?_ | with_reducible refine x_andV ?_ | with_reducible refine x_orV ?_ | with_reducible refine x_notV ?_ | with_reducible refine x_ifE ?_ | with_reducible refine x_nil ?_ | with_reducible refine x_cons ?_ | with_reducible refine x_star ?_
  | with_reducible refine x_tup ?_ | with_reducible refine x_lst ?_ | with_reducible refine x_cb ?_ | with_reducible refine x_call ?_ | with_reducible refine x_meth ?_ | with_reducible refine x_make ?_ | with_reducible refine x_fld ?_ | with_reducible refine x_bm0 ?_ | with_reducible refine x_bm ?_
  | with_reducible refine x_sl ?_ | with_reducible refine x_no ?_ | with_reducible refine x_part ?_ | with_reducible refine x_rev ?_ | with_reducible refine x_fmtD ?_ | with_reducible refine x_test ?_ | with_reducible refine x_tB ?_ | with_reducible refine x_and ?_ | with_reducible refine x_or ?_ | with_reducible refine x_not ?_ | with_reducible refine x_yes ?_
  | with_reducible refine x_gname ?_ | with_reducible refine x_gtup ?_ | with_reducible refine x_gnil ?_ | with_reducible refine x_gcons ?_ | with_reducible refine x_gsub ?_ | with_reducible refine x_iList ?_ | with_reducible refine x_iStr ?_ | with_reducible refine x_iRng1 ?_ | with_reducible refine x_iEnumQ ?_
  | with_reducible refine x_lc ?_ | with_reducible refine x_dc ?_ | with_reducible refine x_iKeys ?_ | with_reducible refine x_iVals ?_ | with_reducible refine x_iItems ?_ | with_reducible refine x_forW ?_ | with_reducible refine x_iSeq ?_ | with_reducible refine x_ixO ?_
  | with_reducible refine i_I0 ?_ | with_reducible refine i_U ?_ | with_reducible refine iteT ?_ | with_reducible refine iteF ?_ | with_reducible refine iteNT ?_ | with_reducible refine iteNF ?_ | with_reducible refine x_bl ?_ | with_reducible refine x_int ?_ | with_reducible refine i_add ?_ | with_reducible refine i_int1 ?_ | with_reducible refine i_abs ?_ | with_reducible refine i_max ?_ | with_reducible refine i_min ?_)
local macro_rules | `(tactic| walk_at "go") => `(tactic| repeat (first | walk_at "st" | dsimp only [Bool.not_true, Bool.not_false, List.nil_append, List.cons_append]))

section
variable {K : PySem.W.Frag} {S H H1 : Hp} {Q : VK} {E : XK} {a : Addr}
theorem i_mkRd {kvs : List (Key × V)} {m : Ms} (f : Ex S H1) (ha : H1 a = some (.dK kvs)) (oi : OrdIn K S kvs m) (ok : MsOk m) (q : ∀ S' H' u, Gr [] S H1 S' H' → Dv K S' u (rdD K m) → Q u H') :
    ∀ x dx, H1 x = none → H1 dx = none → dx ≠ x → spRd K [.ref x, .ref a] (upd (upd H1 dx (.own x)) x (.ins (CR K) dx [])) (fun v H2 => v = .non ∧ Q (.ref x) H2) E := by
  intro x dx hx hdx ne
  have hx' : (upd H1 dx (.own x)) x = none := by rw [upd_ne (Ne.symm ne)]; exact hx
  have g1 : Gr [] S H1 S (upd (upd H1 dx (.own x)) x (.ins (CR K) dx [])) := (Gr.newO (o := .own x) f hdx).then (Gr.newO (Gr.newO (L := []) f hdx).i hx')
  refine ⟨S, x, a, dx, kvs, m, rfl, g1.i, fresh_back f hx, upd_same, g1.nil_h _ _ ha, oi, ok, fun S' H' g dv => ⟨rfl, q S' H' _ (g1.trans g fun z hz => .inr ?_) dv⟩⟩
  rw [List.mem_singleton.mp hz]
  exact hx
theorem i_mkOrd {r : Row} (f : Ex S H1) (ha : H1 a = some (.dK (bkv r.bun))) (ok : RowOk r) (q : ∀ S' H' u, Gr [] S H1 S' H' → Dv K S' u (ordD K r) → Q u H') :
    ∀ x dx, H1 x = none → H1 dx = none → dx ≠ x → spOrd (K := K) [.ref x, .str r.house, .ref a, .int r.lim, .int r.most] (upd (upd H1 dx (.own x)) x (.ins (CO K) dx [])) (fun v H2 => v = .non ∧ Q (.ref x) H2) E := by
  intro x dx hx hdx ne
  have hx' : (upd H1 dx (.own x)) x = none := by rw [upd_ne (Ne.symm ne)]; exact hx
  have g1 : Gr [] S H1 S (upd (upd H1 dx (.own x)) x (.ins (CO K) dx [])) := (Gr.newO (o := .own x) f hdx).then (Gr.newO (Gr.newO (L := []) f hdx).i hx')
  refine ⟨S, x, a, dx, r, rfl, g1.i, fresh_back f hx, upd_same, g1.nil_h _ _ ha, ok, fun S' H' g dv => ⟨rfl, q S' H' _ (g1.trans g fun z hz => .inr ?_) dv⟩⟩
  rw [List.mem_singleton.mp hz]
  exact hx
theorem nodup_len {α : Type} : ∀ {A B : List α}, A.Nodup → (∀ a ∈ A, a ∈ B) → A.length ≤ B.length
  | [], B, _, _ => Nat.zero_le _
  | a :: r, B, nd, h => by
    obtain ⟨n1, n2⟩ := List.nodup_cons.mp nd
    obtain ⟨s, t, rfl⟩ := List.append_of_mem (h a (.head _))
    have ih : r.length ≤ (s ++ t).length := nodup_len n2 fun b hb => by
      have := h b (.tail _ hb)
      rw [List.mem_append, List.mem_cons] at this
      rcases this with z | z | z
      · exact List.mem_append.mpr (.inl z)
      · exact absurd (z ▸ hb) n1
      · exact List.mem_append.mpr (.inr z)
    rw [List.length_append] at ih
    rw [List.length_cons, List.length_append, List.length_cons]
    omega
theorem MsOk.filter {m : Ms} (h : MsOk m) (c : Str × Row → Bool) : MsOk (m.filter c) where
  nd := by
    have s : (m.filter c).Sublist m := List.filter_sublist
    exact (s.map _).nodup h.nd
  nm := fun p hp => h.nm p (List.mem_filter.mp hp).1
  ok := fun p hp => h.ok p (List.mem_filter.mp hp).1
  few := Nat.le_trans (List.length_filter_le _ _) h.few
  gs := by
    refine Nat.le_trans (nodup_len (goodsL_nd fun p hp => (h.ok p (List.mem_filter.mp hp).1).b.1) fun k hk => ?_) h.gs
    rw [goodsL_mem fun p hp => (h.ok p (List.mem_filter.mp hp).1).b.1] at hk
    obtain ⟨p, hp, z⟩ := hk
    exact (goodsL_mem (fun p hp => (h.ok p hp).b.1) k).mpr ⟨p, (List.mem_filter.mp hp).1, z⟩
theorem ogs_put {m : Ms} {z : Str} {r : Row} (h : z ∉ keys m) : putG (ogs K m) (.inr z) (ordD K r) = ogs K (m ++ [(z, r)]) := by
  unfold putG
  have e : ((ogs K m).any fun p => decide (p.1 = Sum.inr z)) = false := by
    rw [List.any_eq_false]
    intro p hp c
    obtain ⟨q, hq, rfl⟩ := List.mem_map.mp hp
    have : q.1 = z := Sum.inr.inj (of_decide_eq_true c)
    exact h (List.mem_map.mpr ⟨q, hq, this⟩)
  rw [e, if_neg (by decide)]
  unfold ogs
  rw [List.map_append]
  rfl
/-- the entries that are left -/
def leftG (ns : List Str) (p : Key × Dt) : Option (Key × Dt) := match p.1 with
  | .inr n => if ns.contains n = true then none else some p
  | .inl _ => none
theorem leftG_fm (ns : List Str) (m : Ms) : (ogs K m).filterMap (leftG ns) = ogs K (m.filter fun p => !ns.contains p.1) := by
  unfold ogs
  induction m with
  | nil => rfl
  | cons p r ih =>
    rw [List.map_cons, List.filterMap_cons, List.filter_cons, ih]
    have e : leftG ns (Sum.inr p.1, ordD K p.2) = if ns.contains p.1 = true then none else some (Sum.inr p.1, ordD K p.2) := rfl
    rw [e]
    cases c : ns.contains p.1 with
    | true => rw [if_pos rfl, if_neg (by decide)]
    | false => rw [if_neg (by decide), if_pos (by decide)]; rfl
theorem rd_congr {m t : Ms} (ok : MsOk m) (p : t.Perm m) : rdD K t = rdD K m := by
  have e1 : srtM t = srtM m := srtM_congr ok.nd p
  have e2 : goodsM t = goodsM m := goodsM_one (fun p hp => (ok.ok p hp).b.1) (goodsL_nd fun q hq => (ok.ok q (p.mem_iff.mp hq)).b.1) fun k => by
    rw [goodsL_mem fun q hq => (ok.ok q (p.mem_iff.mp hq)).b.1]
    exact ⟨fun ⟨q, hq, z⟩ => ⟨q, p.mem_iff.mp hq, z⟩, fun ⟨q, hq, z⟩ => ⟨q, p.mem_iff.mpr hq, z⟩⟩
  unfold rdD rdF
  rw [e1, e2]
theorem MsOk.perm {m t : Ms} (h : MsOk m) (p : t.Perm m) : MsOk t where
  nd := (p.map _).nodup_iff.mpr h.nd
  nm := fun q hq => h.nm q (p.mem_iff.mp hq)
  ok := fun q hq => h.ok q (p.mem_iff.mp hq)
  few := by rw [p.length_eq]; exact h.few
  gs := by
    have e : goodsM t = goodsM m := goodsM_one (fun p hp => (h.ok p hp).b.1) (goodsL_nd fun q hq => (h.ok q (p.mem_iff.mp hq)).b.1) fun k => by
      rw [goodsL_mem fun q hq => (h.ok q (p.mem_iff.mp hq)).b.1]
      exact ⟨fun ⟨q, hq, z⟩ => ⟨q, p.mem_iff.mp hq, z⟩, fun ⟨q, hq, z⟩ => ⟨q, p.mem_iff.mpr hq, z⟩⟩
    have := congrArg List.length e
    unfold goodsM at this
    rw [srt_len, srt_len] at this
    rw [this]
    exact h.gs
theorem srtM_perm (m : Ms) (nd : (keys m).Nodup) : (srtM m).Perm m := by
  have n1 : (keys (srtM m)).Nodup := by rw [srtM_keys]; exact srt_nd nd
  exact sub_perm ((List.pairwise_map.mp n1).imp fun h e => h (congrArg Prod.fst e)) (fun a ha => (srtM_mem nd).mp ha) (srtM_len m)
theorem srtM_filter {m : Ms} (nd : (keys m).Nodup) (c : Str × Row → Bool) : ((srtM m).filter c).Perm (m.filter c) := (srtM_perm m nd).filter c
theorem rd_ne {p : Addr} {kvs : List (Key × V)} {o u : HO} (hp : H p = some (.dK kvs)) (h : Rd H a o) (n : ∀ k, o ≠ .dK k) : Rd (upd H p u) a o := by
  have na : a ≠ p := fun e => by
    subst e
    rcases h with h | ⟨o', h⟩
    · rw [hp] at h
      cases h
      exact n _ rfl
    · rw [hp] at h
      cases h
  rcases h with h | ⟨o', h⟩
  · exact .inl (by rw [upd_ne na]; exact h)
  · exact .inr ⟨o', by rw [upd_ne na]; exact h⟩
theorem sq_ne {p : Addr} {kvs : List (Key × V)} {xs : List V} {u : HO} (hp : H p = some (.dK kvs)) (h : SqL K H a xs ∨ SqT K H a xs) : SqL K (upd H p u) a xs ∨ SqT K (upd H p u) a xs := by
  rcases h with (h | h) | (h | h)
  · exact .inl (.inl (rd_ne hp h fun k e => by cases e))
  · exact .inl (.inr h)
  · exact .inr (.inl (rd_ne hp h fun k e => by cases e))
  · exact .inr (.inr h)
/-- for z in names, a list or a tuple of texts -/
theorem i_forTx {σ : L2.St} {D : Ends} {g : TG} {tb : TS} {ns : List Str} (h : SqL K H a (ns.map V.str) ∨ SqT K H a (ns.map V.str)) (Pv : Nat → L2.St → Hp → Prop) (h0 : Pv 0 σ H) (hG : ∀ i σ H', i ≤ ns.length → Pv i σ H' → Ex H H')
    (hs : ∀ i σ H' z, ns[i]? = some z → Pv i σ H' → g (.str z) σ H' fun σ2 H2 => tb { D with nx := Pv (i + 1), ct := Pv (i + 1), bk := D.nx } σ2 H2) (hd : ∀ σ H', Pv ns.length σ H' → D.nx σ H') :
    ∃ b, V.ref a = .ref b ∧ (((∃ xs, SqL K H b xs) ∧ ForW (Itl K b) g tb D σ H) ∨ ((∃ xs, SqT K H b xs) ∧ ForW (Itt K b) g tb D σ H)) := by
  refine ⟨a, rfl, ?_⟩
  have lm : (ns.map V.str).length = ns.length := List.length_map ..
  rcases h with h | h
  · refine .inl ⟨⟨_, h⟩, ?_⟩
    refine for_it walk_list Pv h0 (fun i σ H' hi p => ex_l (hG i σ H' (by omega) p) h) ?_ (fun σ H' p => hd σ H' (by rwa [lm] at p))
    rintro i x σ H' H'' hi pv ⟨rfl, y⟩
    rw [List.getElem?_map] at y
    cases q : ns[i]? with
    | none => rw [q] at y; cases y
    | some z =>
      rw [q] at y
      cases y
      exact hs i σ _ z q pv
  · refine .inr ⟨⟨_, h⟩, ?_⟩
    refine for_it walk_tup Pv h0 (fun i σ H' hi p => ex_t (hG i σ H' (by omega) p) h) ?_ (fun σ H' p => hd σ H' (by rwa [lm] at p))
    rintro i x σ H' H'' hi pv ⟨rfl, y⟩
    rw [List.getElem?_map] at y
    cases q : ns[i]? with
    | none => rw [q] at y; cases y
    | some z =>
      rw [q] at y
      cases y
      exact hs i σ _ z q pv
end
section
variable {P : Program} {w : World} {K : PySem.W.Frag} {mg : Str → Option Value} {base : Heap}
theorem b_Round_init (T : Txt K mg) : Binds K (fdOf K (d_Round_init.at_ K)) ["self", "orders"] [] := T.f_Round_init.bindsN fun _ _ _ _ _ _ us hl => match us, hl with | [_, _], _ => rfl
theorem b_Order_init (T : Txt K mg) : Binds K (fdOf K (d_Order_init.at_ K)) ["self", "house", "bundle", "limit", "most"] [] := T.f_Order_init.bindsN fun _ _ _ _ _ _ us hl => match us, hl with | [_, _, _, _, _], _ => rfl
/-! ### with_order -/
def spWith (K : PySem.W.Frag) : Sp := fun vs H Q _ => ∃ S v m z o r, vs = [v, .str z, o] ∧ Ex S H ∧ Dv K S v (rdD K m) ∧ Dv K S o (ordD K r) ∧ MsOk m ∧ z ∉ keys m ∧ nameB z = true ∧ z.length ≤ 8 ∧ MsOk (m ++ [(z, r)]) ∧
  ∀ S' H' u, Gr [] S H S' H' → Dv K S' u (rdD K (m ++ [(z, r)])) → Q u H'
theorem b_Round_with_order (T : Txt K mg) : Binds K (fdOf K (d_Round_with_order.at_ K)) ["self", "name", "order"] [] := T.f_Round_with_order.bindsN fun _ _ _ _ _ _ us hl => match us, hl with | [_, _, _], _ => rfl
theorem ok_Round_with_order (T : Txt K mg) (B : Tabs K) : FO P w K mg base 5 d_Round_with_order ["self", "name", "order"] (spWith K) := by
  have G_is_name := ok_is_name (P := P) (w := w) (base := base) T
  have G_Round_init := ok_Round_init (P := P) (w := w) (base := base) T B
  refine T.f_Round_with_order.ok sc_Round_with_order (fun vs H Q E h => ?_) (fun cdv A outer s H vs Q E hr h => ?_)
  · obtain ⟨S, v, m, z, o, r, rfl, _⟩ := h
    rfl
  · obtain ⟨S, v, m, z, o, r, rfl, f, dv, du, ok, hz, nz, z8, ok', q⟩ := h
    obtain ⟨a, dx, p, g, kvs, rfl, h1, h2, oi, h3⟩ := rd_inv dv
    obtain ⟨oa, dox, pb, rfl, k1, k2⟩ := ord_inv du
    refine ⟨_, (pss_cons (ps_if (pt_not (pt_val (pe_call G_is_name (hr.mono (by decide)) rfl T.g_is_name T.f_is_name.kp (b_is_name T) .nil pass0 (pa_cons (pv 1) pa_nil)))) pss_never pss_nil)
    (pss_cons (ps_if (pt_not (pt_val (pe_callB call_isi (by rfl) T.b_isinstance (by decide +kernel) (pa_cons (pv 2) (pa_cons (pe_glob (v := .ref (He.ga K "Order")) rfl T.g_Order rfl) pa_nil))))) pss_never pss_nil)
    (pss_cons (ps_if (pt_cmpR (op_inD (units1 hr)) (pv 1) (pe_fld (pv 0) rfl) (by rfl)) pss_never pss_nil)
    (pss_one (ps_ret (pe_make T.mk_Round G_Round_init (hr.mono (by decide)) rfl T.g_Round (b_Round_init T) .nil pass0 (pa_cons (pe_dstar (pe_fld (pv 0) rfl) (pv 1) (pv 2)) pa_nil))))))), ?_⟩
    walk_at "go"
    refine ⟨z, rfl, by omega, fun H1 e1 => ?_⟩
    rw [nz]
    have f1 := f.trans e1
    walk_at "go"
    refine ⟨_, _, _, _, true, rfl, .own _, B.oc.ty _ _ _ _ (f1 _ _ k1), ?_, ?_⟩
    · unfold PySem.W.kitOne
      rw [if_pos (by simp)]
    walk_at "go"
    refine ⟨a, _, dx, _, _, rfl, f1 _ _ h1, T.cl_Round, T.na_Round_own_orders, rfl, ?_⟩
    refine i_inDk (k := .inr z) (.inl (f1 _ _ h2)) ?_
    rw [if_neg (by decide), oi.all.some, srtM_keys, decide_eq_false (fun c => hz (srt_mem.mp c))]
    walk_at "go"
    have few := ok.few
    have hk := oi.all.len
    rw [srtM_len] at hk
    refine x_dstar fun D hD => ?_
    walk_at "go"
    refine ⟨a, _, dx, _, _, rfl, (Ex.new hD) _ _ (f1 _ _ h1), T.cl_Round, T.na_Round_own_orders, rfl, ?_⟩
    have npD : p ≠ D := fun e => by rw [← e, f1 _ _ h2] at hD; cases hD
    refine ⟨p, kvs, rfl, npD, upd_same, .inl ((Ex.new hD) _ _ (f1 _ _ h2)), by omega, fun D2 hD2 => ?_⟩
    have nD2 : D ≠ D2 := fun e => by rw [← e, upd_same] at hD2; cases hD2
    walk_at "go"
    refine ⟨.inr z, rfl, by rw [upd_ne nD2, upd_same], upd_same, ?_⟩
    have eH : Ex H1 (upd (upd (upd (upd (upd H1 D (.dK [])) D (.dK kvs)) D2 (.dK [])) D2 (.dK [(.inr z, .ref oa)])) D (.dK (putK kvs (.inr z) (.ref oa)))) := fun c o hc => by
      have c1 : c ≠ D := fun e => by rw [e, hD] at hc; cases hc
      have c2 : c ≠ D2 := fun e => by
        rw [← e, upd_ne c1, hc] at hD2
        cases hD2
      rw [upd_ne c1, upd_ne c2, upd_ne c2, upd_ne c1, upd_ne c1]
      exact hc
    walk_at "go"
    have zs : z ∉ keys (srtM m) := by
      rw [srtM_keys, srt_mem]
      exact hz
    obtain ⟨o1, o2⟩ := kv_put (k := .inr z) oi.all.k oi.all.d du
    rw [ogs_put zs] at o1 o2
    have pm : (srtM m ++ [(z, r)]).Perm (m ++ [(z, r)]) := (srtM_perm m ok.nd).append_right _
    refine i_mkRd (S := S) (m := srtM m ++ [(z, r)]) (f1.trans eH) upd_same ⟨o1, o2⟩ (ok'.perm pm) fun S' H' u g' dv' => ?_
    rw [rd_congr ok' pm] at dv'
    exact q S' H' u ((Gr.same f (e1.trans eH)).then g') dv'
/-! ### without -/
def spWithout (K : PySem.W.Frag) : Sp := fun vs H Q _ => ∃ S v m a, ∃ ns : List Str, vs = [v, .ref a] ∧ Ex S H ∧ Dv K S v (rdD K m) ∧ (SqL K H a (ns.map V.str) ∨ SqT K H a (ns.map V.str)) ∧ MsOk m ∧ (∀ z ∈ ns, z ∈ keys m) ∧
  ∀ S' H' u, Gr [] S H S' H' → Dv K S' u (rdD K (m.filter fun p => !ns.contains p.1)) → Q u H'
theorem b_Round_without (T : Txt K mg) : Binds K (fdOf K (d_Round_without.at_ K)) ["self", "names"] [] := T.f_Round_without.bindsN fun _ _ _ _ _ _ us hl => match us, hl with | [_, _], _ => rfl
theorem ok_Round_without (T : Txt K mg) (B : Tabs K) : FO P w K mg base 5 d_Round_without ["self", "names"] (spWithout K) := by
  have G_want_order := ok_want_order (P := P) (w := w) (base := base) T
  have G_Round_init := ok_Round_init (P := P) (w := w) (base := base) T B
  refine T.f_Round_without.ok sc_Round_without (fun vs H Q E h => ?_) (fun cdv A outer s H vs Q E hr h => ?_)
  · obtain ⟨S, v, m, a, ns, rfl, _⟩ := h
    rfl
  · obtain ⟨S, v, m, an, ns, rfl, f, dv, hn, ok, hz, q⟩ := h
    obtain ⟨a, dx, p, g, kvs, rfl, h1, h2, oi, h3⟩ := rd_inv dv
    refine ⟨_, (pss_cons (ps_for (passes_of rfl) rfl (pi_seq (pv 1)) (pg_name (i := 2) sc_Round_without.nd rfl (.inl rfl)) (pss_one (ps_expr (pe_call G_want_order (hr.mono (by decide)) rfl T.g_want_order T.f_want_order.kp (b_want_order T) .nil pass0 (pa_cons (pv 0) (pa_cons (pv 2) pa_nil))))))
    (pss_one (ps_ret (pe_make T.mk_Round G_Round_init (hr.mono (by decide)) rfl T.g_Round (b_Round_init T) .nil pass0 (pa_cons (pe_lock (pe_dc (own := [("name", 2), ("order", 3)]) rfl sc_Round_without.nd (pi_items (pe_fld (pv 0) rfl)) (blkOk_by (N := ["self", "names", "name", "order"]) (sc := defScope s_Round_without) (by decide +kernel)) (fun _ _ _ _ _ => (show PG _ _ (gTup K 2 _) from (pg_tup rfl (pgs_cons (pg_name (i := 2) sc_Round_without.nd rfl (.inl rfl)) (pgs_cons (pg_name (i := 3) sc_Round_without.nd rfl (.inl rfl)) pgs_nil))))) (fun _ _ _ _ _ => (pts_one (pt_cmpR (show OpR _ _ (rIn K true) from op_notIn_seq) (pv 2) (pv 1) (by rfl)))) (fun _ _ _ _ _ => (pv 2)) (fun _ _ _ _ _ => (pv 3)))) pa_nil))))), ?_⟩
    walk_at "go"
    refine i_forTx hn (fun i σ H' => ∃ y y2, σ = [some (.ref a), some (.ref an), y, y2] ∧ Ex H H') ⟨_, _, rfl, Ex.refl H⟩ ?_ ?_ ?_
    · rintro i σ H' _ ⟨y, y2, rfl, e⟩
      exact e
    · rintro i σ H' z hzi ⟨y, y2, rfl, e⟩
      walk_at "go"
      refine ⟨S, _, m, z, rfl, f.trans e, dv, ok, hz z (List.mem_of_getElem? hzi), fun H2 e2 => ?_⟩
      walk_at "go"
      exact ⟨_, _, rfl, e.trans e2⟩
    · rintro σ H1 ⟨y, y2, rfl, e1⟩
      have f1 := f.trans e1
      have hp := f1 _ _ h2
      have few := ok.few
      have nap : a ≠ p := fun e => by rw [e, h2] at h1; cases h1
      have hn1 : SqL K H1 an (ns.map V.str) ∨ SqT K H1 an (ns.map V.str) := hn.imp (ex_l e1) (ex_t e1)
      walk_at "go"
      refine i_lockE hp fun od => ?_
      walk_at "go"
      refine ⟨a, _, dx, _, _, rfl, by rw [upd_ne nap]; exact f1 _ _ h1, T.cl_Round, T.na_Round_own_orders, rfl, ?_⟩
      refine ⟨p, od, kvs, rfl, upd_same, fun D hD => ?_⟩
      have hnL : SqL K (upd H1 p (.frz od (.dK kvs))) an (ns.map V.str) ∨ SqT K (upd H1 p (.frz od (.dK kvs))) an (ns.map V.str) := sq_ne hp hn1
      refine dc_E (K := K) (as := ogs K (srtM m)) (walk_itemsD oi.k oi.d) (leftG ns) (lock_ex f1) hD (by unfold ogs; rw [List.length_map, srtM_len]; omega) (fun S1 Hc g => g.nil_h _ _ upd_same) ?_ ?_ ?_
      · rw [leftG_fm, ogs_keys]
        exact List.Pairwise.map _ (fun a b h e => h (Sum.inr.inj e)) (ok.srt.filter _).nd
      · rintro i p' x S1 Hc Hc' Qe Nx hp' g ⟨T1, p'', u, rfl, hT, rfl, hp2, du⟩ q1 q2
        rw [hp'] at hp2
        cases hp2
        obtain ⟨⟨n, r⟩, hpm, rfl⟩ := List.mem_map.mp (List.mem_of_getElem? hp')
        have g2 : Gr [] S1 Hc S1 (upd Hc T1 (.tup [kV (Sum.inr n), u])) := Gr.newO g.i hT
        have hn2 : SqL K (upd Hc T1 (.tup [kV (Sum.inr n), u])) an (ns.map V.str) ∨ SqT K (upd Hc T1 (.tup [kV (Sum.inr n), u])) an (ns.map V.str) := hnL.imp (ex_l (g.then g2).nil_h) (ex_t (g.then g2).nil_h)
        walk_at "go"
        refine i_pair ?_
        walk_at "go"
        refine ⟨rfl, ?_⟩
        walk_at "go"
        refine ⟨an, _, rfl, hn2, rfl, by rw [List.all_map, List.all_eq_true]; exact fun _ _ => rfl, ?_⟩
        rw [show inV (kV (Sum.inr n)) (ns.map V.str) = ns.contains n from inV_str n ns, if_pos rfl]
        have e : leftG ns (Sum.inr n, ordD K r) = if ns.contains n = true then none else some (Sum.inr n, ordD K r) := rfl
        cases c : ns.contains n with
        | true =>
          walk_at "go"
          exact q2 S1 _ g2 (by rw [e, c]; rfl)
        | false =>
          walk_at "go"
          exact q1 S1 _ (.inr n) _ _ g2 (du.mono g.s) (by rw [e, c]; rfl)
      · intro S' H' kvs' g s' hl' hk' dv'
        rw [leftG_fm] at hk' dv'
        obtain ⟨b1, b2, b3, b4⟩ := lock_back (L := []) f1 hp (by simp) g
        have nDp : D ≠ p := fun z => by rw [z, upd_same] at hD; cases hD
        refine ⟨b1, ?_⟩
        walk_at "go"
        have pm := srtM_filter ok.nd (fun p => !ns.contains p.1)
        refine i_mkRd (S := plus S' S p) (m := (srtM m).filter fun p => !ns.contains p.1) b3.i (by rw [upd_ne nDp]; exact hl') ⟨hk', dv'.mono b4⟩ (ok.srt.filter _) fun S2 H2 u g' dv2 => ?_
        rw [rd_congr (ok.filter _) pm] at dv2
        exact q S2 H2 u (((Gr.same f e1).then b3).then g') dv2
end
end K31

set_option Elab.async false
set_option linter.all false
set_option maxRecDepth 100000
set_option maxHeartbeats 4000000
/-! K31Q: the class Round: ==, repr. -/
namespace K31
open PySem PySem.Spec PyProof.Rows L2 Gd
open Evl (Ex Ex.refl Ex.trans Ex.new Ex.mut ex_t ex_l sq_of st_of fresh_back)

local macro_rules | `(tactic| walk_at "st") => `(tactic| first
  | with_reducible refine x_seq ?_ | with_reducible refine x_ret ?_ | with_reducible refine x_retN ?_ | with_reducible refine x_next ?_ | with_reducible refine x_drop ?_ | with_reducible refine x_if ?_ | with_reducible refine x_asg ?_
  | with_reducible refine x_par ?_ | with_reducible refine x_par3 ?_ | with_reducible refine x_sfld ?_ | ((with_reducible show tVar _ _ _ _); refine x_var rfl ?_) | with_reducible refine x_c ?_ | with_reducible refine x_op ?_ | with_reducible refine x_un ?_
  | with_reducible refine x_chain ?_ | with_reducible refine x_andV ?_ | with_reducible refine x_orV ?_ | with_reducible refine x_notV ?_ | with_reducible refine x_ifE ?_ | with_reducible refine x_nil ?_ | with_reducible refine x_cons ?_ | with_reducible refine x_star ?_
  | with_reducible refine x_tup ?_ | with_reducible refine x_lst ?_ | with_reducible refine x_cb ?_ | with_reducible refine x_call ?_ | with_reducible refine x_meth ?_ | with_reducible refine x_make ?_ | with_reducible refine x_fld ?_ | with_reducible refine x_bm0 ?_ | with_reducible refine x_bm ?_
  | with_reducible refine x_sl ?_ | with_reducible refine x_no ?_ | with_reducible refine x_part ?_ | with_reducible refine x_rev ?_ | with_reducible refine x_fmtD ?_ | with_reducible refine x_test ?_ | with_reducible refine x_tB ?_ | with_reducible refine x_and ?_ | with_reducible refine x_or ?_ | with_reducible refine x_not ?_ | with_reducible refine x_yes ?_
  | with_reducible refine x_gname ?_ | with_reducible refine x_gtup ?_ | with_reducible refine x_gnil ?_ | with_reducible refine x_gcons ?_ | with_reducible refine x_gsub ?_ | with_reducible refine x_iList ?_ | with_reducible refine x_iStr ?_ | with_reducible refine x_iRng1 ?_ | with_reducible refine x_iEnumQ ?_
  | with_reducible refine x_lc ?_ | with_reducible refine x_dc ?_ | with_reducible refine x_iKeys ?_ | with_reducible refine x_iVals ?_ | with_reducible refine x_iItems ?_ | with_reducible refine x_forW ?_ | with_reducible refine x_iSeq ?_ | with_reducible refine x_ixO ?_
  | with_reducible refine i_I0 ?_ | with_reducible refine i_U ?_ | with_reducible refine iteT ?_ | with_reducible refine iteF ?_ | with_reducible refine iteNT ?_ | with_reducible refine iteNF ?_ | with_reducible refine x_bl ?_ | with_reducible refine x_int ?_ | with_reducible refine i_add ?_ | with_reducible refine i_int1 ?_ | with_reducible refine i_abs ?_ | with_reducible refine i_max ?_ | with_reducible refine i_min ?_)
local macro_rules | `(tactic| walk_at "go") => `(tactic| repeat (first | walk_at "st" | dsimp only [Bool.not_true, Bool.not_false, List.nil_append, List.cons_append]))

/-! ### what makes rounds equal -/
def can (r : Row) : Row := ⟨r.house, told r.bun, r.lim, r.most⟩
theorem sameB_can (r t : Row) : sameB r t = decide (can r = can t) := by
  unfold sameB can
  rw [Bool.eq_iff_iff, decide_eq_true_eq, Bool.and_eq_true, Bool.and_eq_true, Bool.and_eq_true, decide_eq_true_eq, decide_eq_true_eq, decide_eq_true_eq, decide_eq_true_eq, Row.mk.injEq]
  exact ⟨fun ⟨a, b, c, d⟩ => ⟨a, d, b, c⟩, fun ⟨a, d, b, c⟩ => ⟨a, b, c, d⟩⟩
def canM (m : Ms) : Ms := (srtM m).map fun p => (p.1, can p.2)
def sameM (m t : Ms) : Bool := decide (canM m = canM t)
theorem canM_keys (m : Ms) : keys (canM m) = srt (keys m) := by
  rw [← srtM_keys]
  unfold canM keys
  rw [List.map_map]
  rfl
/-- the answers of the orders' own == -/
def eqR (m t : Ms) (k : Key) : Bool := match k with
  | .inr z => (match look (srtM m) z, look (srtM t) z with
    | some r, some r' => sameB r r'
    | _, _ => true)
  | .inl _ => true
theorem eqR_M {kA kB : List (Key × V)} {m t : Ms} (om : MsOk m) (ot : MsOk t) (hA : kA.map (·.1) = (keys (srtM m)).map Sum.inr) (hB : ∀ z, (valV kB (.inr z)).isSome = decide (z ∈ keys (srtM t))) (lB : kB.length = (srtM t).length) :
    eqKV kA kB (eqR m t) = sameM m t := by
  have ndm : (keys (srtM m)).Nodup := om.srt.nd
  have ndt : (keys (srtM t)).Nodup := ot.srt.nd
  have lA : kA.length = (srtM m).length := by
    have := congrArg List.length hA
    rw [List.length_map, List.length_map] at this
    rw [this]
    exact List.length_map ..
  have e1 : (kA.all fun p => (valV kB p.1).isSome && eqR m t p.1) = (keys (srtM m)).all fun z => (valV kB (.inr z)).isSome && eqR m t (.inr z) := by
    have h1 : (kA.all fun p => (valV kB p.1).isSome && eqR m t p.1) = (kA.map (·.1)).all fun k => (valV kB k).isSome && eqR m t k := by rw [List.all_map]; rfl
    rw [h1, hA, List.all_map]
    rfl
  unfold eqKV sameM
  rw [e1, Bool.eq_iff_iff, Bool.and_eq_true, decide_eq_true_eq, decide_eq_true_eq, List.all_eq_true]
  constructor
  · rintro ⟨hl, h⟩
    refine tab_eq (by rw [canM_keys]; exact srt_nd om.nd) (by rw [canM_keys]; exact srt_nd ot.nd) (by rw [canM_keys]; exact srt_pw _) (by rw [canM_keys]; exact srt_pw _) (by unfold canM; rw [List.length_map, List.length_map]; omega) fun p hp => ?_
    obtain ⟨q, hq, rfl⟩ := List.mem_map.mp hp
    have hz := h q.1 (List.mem_map.mpr ⟨q, hq, rfl⟩)
    rw [Bool.and_eq_true, hB, decide_eq_true_eq] at hz
    obtain ⟨h1, h2⟩ := hz
    obtain ⟨r', hr'⟩ := look_key h1
    have hr : look (srtM m) q.1 = some q.2 := look_mem ndm hq
    unfold eqR at h2
    simp only [hr, hr'] at h2
    rw [sameB_can, decide_eq_true_eq] at h2
    refine List.mem_map.mpr ⟨(q.1, r'), look_in hr', ?_⟩
    rw [h2]
  · intro e
    have ek : keys (srtM m) = keys (srtM t) := by rw [srtM_keys, srtM_keys, ← canM_keys, ← canM_keys, e]
    have el : (srtM m).length = (srtM t).length := by
      have := congrArg List.length ek
      unfold keys at this
      rwa [List.length_map, List.length_map] at this
    refine ⟨by omega, fun z hz => ?_⟩
    obtain ⟨r, hr⟩ := look_key hz
    have hz' : z ∈ keys (srtM t) := by rw [← ek]; exact hz
    obtain ⟨r', hr'⟩ := look_key hz'
    rw [hB, decide_eq_true hz', Bool.true_and]
    unfold eqR
    simp only [hr, hr']
    rw [sameB_can, decide_eq_true_eq]
    have m1 : (z, can r) ∈ canM m := List.mem_map.mpr ⟨_, look_in hr, rfl⟩
    rw [e] at m1
    obtain ⟨q, hq, eq⟩ := List.mem_map.mp m1
    have e1 : q.1 = z := congrArg Prod.fst eq
    have e2 : can q.2 = can r := congrArg Prod.snd eq
    have := look_mem ndt hq
    rw [e1, hr'] at this
    rw [← e2, Option.some.inj this]
theorem bkv_inj : ∀ {A B : Bd}, bkv A = bkv B → A = B
  | [], [], _ => rfl
  | [], _ :: _, h => by cases h
  | _ :: _, [], h => by cases h
  | p :: r, q :: s, h => by
    unfold bkv at h
    rw [List.map_cons, List.map_cons, List.cons.injEq, Prod.mk.injEq] at h
    obtain ⟨⟨h1, h2⟩, h3⟩ := h
    rw [bkv_inj (A := r) (B := s) h3]
    congr 1
    exact Prod.ext (Sum.inr.inj h1) (V.int.inj h2)
section
variable {P : Program} {w : World} {K : PySem.W.Frag} {mg : Str → Option Value} {base : Heap}
/-- an order does not go through a dict that holds an instance -/
theorem ord_minus {S : Hp} {p oa : Addr} {u : V} {r : Row} {kvs : List (Key × V)} {k : Key} (d : Dv K S u (ordD K r)) (hp : S p = some (.dK kvs)) (hk : (k, V.ref oa) ∈ kvs) : Dv K (Gd.minus S p) u (ordD K r) := by
  obtain ⟨a, dx, pb, rfl, h1, h2⟩ := ord_inv d
  have nap : a ≠ p := fun e => by rw [e, hp] at h1; cases h1
  have nbp : pb ≠ p := fun e => by
    rw [e, hp] at h2
    cases h2
    obtain ⟨q, _, hq⟩ := List.mem_map.mp hk
    cases hq
  have nba : pb ≠ a := fun e => by rw [e, h1] at h2; cases h2
  refine .ins (H0 := Gd.minus (Gd.minus S p) a) (minus_some h1 nap) minus_at minus_ex rfl (.cons (.str _) (.cons (bd_of ?_) (.cons (.int _) (.cons (.int _) .nil))))
  exact minus_some (minus_some h2 nbp) nba
/-! ### == -/
def spREq (K : PySem.W.Frag) : Sp := fun vs H Q _ => ∃ S v u m, vs = [v, u] ∧ Ex S H ∧ Dv K S v (rdD K m) ∧ ((∃ t ∈ bases, TyX K H u (.type t) ∧ Q (.bl false) H) ∨ ∃ t, Dv K S u (rdD K t) ∧ MsOk m ∧ MsOk t ∧ ∀ H', Ex H H' → Q (.bl (sameM m t)) H')
theorem b_Round_eq (T : Txt K mg) : Binds K (fdOf K (d_Round_eq.at_ K)) ["self", "other"] [] := T.f_Round_eq.bindsN fun _ _ _ _ _ _ us hl => match us, hl with | [_, _], _ => rfl
theorem ok_Round_eq (T : Txt K mg) (B : Tabs K) : FnG P w K mg base 12 (d_Round_eq.at_ K) (fdOf K (d_Round_eq.at_ K)) ["self", "other"] (spREq K) := by
  have G_Order_eq := ok_Order_eq (P := P) (w := w) (base := base) T B
  refine FnG.mk_of T.f_Round_eq sc_Round_eq (fun vs H Q E h => ?_) (fun cdv A outer s H vs Q E gu hr h => ?_)
  · obtain ⟨S, v, u, m, rfl, _⟩ := h
    rfl
  · obtain ⟨S, v, u, m, rfl, f, dv, h⟩ := h
    obtain ⟨a, dx, p, g, kvs, rfl, h1, h2, oi, h3⟩ := rd_inv dv
    refine ⟨_, (pss_one (ps_ret (pe_and (pe_callB call_isi (by rfl) T.b_isinstance (by decide +kernel) (pa_cons (pv 1) (pa_cons (pe_glob (v := .ref (He.ga K "Round")) rfl T.g_Round rfl) pa_nil))) (pe_one (pe_cmpR (op_eqDO (n := 3) (hr.mono (by decide))) (pe_fld (pv 0) rfl) (pe_fld (pv 1) rfl) (nomark _)))))), ?_⟩
    walk_at "go"
    rcases h with ⟨t, ht, ty, q⟩ | ⟨t, du, om, ot, q⟩
    · refine ⟨_, _, _, _, false, rfl, .own _, ty, B.rc.isi t ht, ?_⟩
      walk_at "go"
      exact q
    · obtain ⟨b, dy, p', g', kvs', rfl, k1, k2, oj, k3⟩ := rd_inv du
      refine ⟨_, _, _, _, true, rfl, .own _, B.rc.ty _ _ _ _ (f _ _ k1), ?_, ?_⟩
      · unfold PySem.W.kitOne
        rw [if_pos (by simp)]
      walk_at "go"
      refine ⟨a, _, dx, _, _, rfl, f _ _ h1, T.cl_Round, T.na_Round_own_orders, rfl, ?_⟩
      walk_at "go"
      refine ⟨b, _, dy, _, _, rfl, f _ _ k1, T.cl_Round, T.na_Round_own_orders, rfl, ?_⟩
      refine ⟨p, p', kvs, kvs', Gd.minus S p, eqR m t, rfl, rfl, minus_at, minus_ex.trans f, f _ _ h2, f _ _ k2, ?_, fun H' e => ?_⟩
      · rintro ⟨k, x⟩ hk y hy
        obtain ⟨i, hi⟩ := List.getElem?_of_mem hk
        obtain ⟨gd, hg, dxx⟩ := kv_at2 oi.k oi.d hi
        obtain ⟨⟨n, r⟩, hn, e⟩ := List.mem_map.mp (List.mem_of_getElem? hg)
        cases e
        have hlr : look (srtM m) n = some r := look_mem om.srt.nd hn
        have hlt : ∃ r', look (srtM t) n = some r' := by
          refine look_key ?_
          have := oj.all.some n
          rw [hy] at this
          exact of_decide_eq_true this.symm
        obtain ⟨r', hlt⟩ := hlt
        obtain ⟨y', hy', dyy⟩ := oj.all.val hlt
        have ey : y = y' := Option.some.inj (hy.symm.trans hy')
        subst ey
        obtain ⟨oa, dox, pa, rfl, a1, a2⟩ := ord_inv dxx
        have dyy' := ord_minus dyy h2 hk
        obtain ⟨ob, doy, pb, rfl, b1, b2⟩ := ord_inv dyy'
        have er : eqR m t (Sum.inr n) = sameB r r' := by
          unfold eqR
          simp only [hlr, hlt]
        rw [er]
        refine EqV.ins gu (FnG.of G_Order_eq) (b_Order_eq T) T.m_Order_eq.at_ T.m_Order_eq.fn B.oc.nfS B.oc.ty a1 b1 ?_ ?_
        · rintro rfl
          rw [a1] at b1
          simp only [Option.some.injEq, HO.ins.injEq, List.cons.injEq, Prod.mk.injEq, V.str.injEq, V.ref.injEq, V.int.injEq, true_and, and_true] at b1
          obtain ⟨_, c1, c2, c3, c4⟩ := b1
          subst c2
          rw [a2] at b2
          have c5 : told r.bun = told r'.bun := bkv_inj (HO.dK.inj (Option.some.inj b2))
          unfold sameB
          rw [decide_eq_true c1, decide_eq_true c3, decide_eq_true c4, decide_eq_true c5]
          rfl
        · intro H5 Q5 f5 q5
          exact ⟨_, _, _, r, rfl, f5, dxx, .inr ⟨r', dyy', (om.srt.ok _ hn).b, (ot.srt.ok _ (look_in hlt)).b, q5⟩⟩
      · rw [eqR_M om ot (oi.k.trans (ogs_keys _)) oj.all.some oj.all.len]
        exact q H' e
end
end K31

set_option Elab.async false
set_option linter.all false
set_option maxRecDepth 100000
set_option maxHeartbeats 4000000
/-! K31T: the text of a round. -/
namespace K31
open PySem PySem.Spec PyProof.Rows L2 Gd
open Evl (Ex Ex.refl Ex.trans Ex.new Ex.mut ex_t ex_l sq_of st_of fresh_back)

local macro_rules | `(tactic| walk_at "st") => `(tactic| first
  | with_reducible refine x_seq ?_ | with_reducible refine x_ret ?_ | with_reducible refine x_retN ?_ | with_reducible refine x_next ?_ | with_reducible refine x_drop ?_ | with_reducible refine x_if ?_ | with_reducible refine x_asg ?_
  | with_reducible refine x_par ?_ | with_reducible refine x_par3 ?_ | with_reducible refine x_sfld ?_ | ((with_reducible show tVar _ _ _ _); refine x_var rfl ?_) | with_reducible refine x_c ?_ | with_reducible refine x_op ?_ | with_reducible refine x_un ?_
  | with_reducible refine x_chain ?_ | with_reducible refine x_andV ?_ | with_reducible refine x_orV ?_ | with_reducible refine x_notV ?_ | with_reducible refine x_ifE ?_ | with_reducible refine x_nil ?_ | with_reducible refine x_cons ?_ | with_reducible refine x_star ?_
  | with_reducible refine x_tup ?_ | with_reducible refine x_lst ?_ | with_reducible refine x_cb ?_ | with_reducible refine x_call ?_ | with_reducible refine x_meth ?_ | with_reducible refine x_make ?_ | with_reducible refine x_fld ?_ | with_reducible refine x_bm0 ?_ | with_reducible refine x_bm ?_
  | with_reducible refine x_sl ?_ | with_reducible refine x_no ?_ | with_reducible refine x_part ?_ | with_reducible refine x_rev ?_ | with_reducible refine x_fmtD ?_ | with_reducible refine x_test ?_ | with_reducible refine x_tB ?_ | with_reducible refine x_and ?_ | with_reducible refine x_or ?_ | with_reducible refine x_not ?_ | with_reducible refine x_yes ?_
  | with_reducible refine x_gname ?_ | with_reducible refine x_gtup ?_ | with_reducible refine x_gnil ?_ | with_reducible refine x_gcons ?_ | with_reducible refine x_gsub ?_ | with_reducible refine x_iList ?_ | with_reducible refine x_iStr ?_ | with_reducible refine x_iRng1 ?_ | with_reducible refine x_iEnumQ ?_
  | with_reducible refine x_lc ?_ | with_reducible refine x_dc ?_ | with_reducible refine x_iKeys ?_ | with_reducible refine x_iVals ?_ | with_reducible refine x_iItems ?_ | with_reducible refine x_forW ?_ | with_reducible refine x_iSeq ?_ | with_reducible refine x_ixO ?_
  | with_reducible refine i_I0 ?_ | with_reducible refine i_U ?_ | with_reducible refine iteT ?_ | with_reducible refine iteF ?_ | with_reducible refine iteNT ?_ | with_reducible refine iteNF ?_ | with_reducible refine x_bl ?_ | with_reducible refine x_int ?_ | with_reducible refine i_add ?_ | with_reducible refine i_int1 ?_ | with_reducible refine i_abs ?_ | with_reducible refine i_max ?_ | with_reducible refine i_min ?_)
local macro_rules | `(tactic| walk_at "go") => `(tactic| repeat (first | walk_at "st" | dsimp only [Bool.not_true, Bool.not_false, List.nil_append, List.cons_append]))

theorem piled_len {B : Nat} : ∀ (ts : List Str), (∀ t ∈ ts, t.length ≤ B) → piled ts ≤ ts.length * (B + 2) := by
  intro ts h
  induction ts with
  | nil => simp [piled]
  | cons t r ih =>
    have h1 := h t (.head _)
    have h2 := ih fun z hz => h z (.tail _ hz)
    unfold piled at h2 ⊢
    simp only [List.map_cons, List.sum_cons, List.length_cons, List.foldl_cons] at h2 ⊢
    rw [Nat.add_mul]
    omega
theorem dictText_len {B : Nat} (ts : List Str) (h : ∀ t ∈ ts, t.length ≤ B) : (dictText ts).length ≤ ts.length * (B + 2) + 2 := by
  unfold dictText
  rw [str_app_len, str_app_len]
  have a1 : (Str.ofString "{").length = 1 := by decide
  have a2 : (Str.ofString "}").length = 1 := by decide
  by_cases e : ts = []
  · subst e
    have : (Str.join ", " []).length = 0 := by decide
    omega
  · have := join_length_add ts e
    have := piled_len ts h
    omega
theorem name_repr {z : Str} (h : nameB z = true) (h8 : z.length ≤ 8) : (reprText z).length ≤ 82 := by
  unfold nameB at h
  rw [Bool.and_eq_true, Bool.and_eq_true, List.all_eq_true] at h
  refine Nat.le_trans (StrLaws.reprText_len z fun c hc => ?_) (by omega)
  have := of_decide_eq_true (h.2.2 c hc)
  have b : ∀ c ∈ letters.cps.toList, c < 16 ^ 8 := by decide +kernel
  exact b c this
/-- the text of an order by its fields -/
def txO : Addr → List (Str × Dt) → Str := fun _ gs => match gs with
  | [(_, .str h), (_, b), (_, .int l), (_, .int m)] => "Order(" ++ reprText h ++ ", " ++ txD tx0 b ++ ", " ++ toString l ++ ", " ++ toString m ++ ")"
  | _ => Str.empty
open Classical in
noncomputable def okO (K : PySem.W.Frag) : Addr → List (Str × Dt) → Bool := fun C gs => decide (∃ r, C = CO K ∧ gs = ordF K r ∧ SmallR r)
theorem okO_yes {K : PySem.W.Frag} {r : Row} (s : SmallR r) : okO K (CO K) (ordF K r) = true := by
  classical
  unfold okO
  exact decide_eq_true ⟨r, rfl, rfl, s⟩
theorem okO_inv {K : PySem.W.Frag} {C : Addr} {gs : List (Str × Dt)} (h : okO K C gs = true) : ∃ r, C = CO K ∧ gs = ordF K r ∧ SmallR r := by
  classical
  unfold okO at h
  exact of_decide_eq_true h
theorem txO_ord (K : PySem.W.Frag) (r : Row) : txO (CO K) (ordF K r) = ordT r := rfl
/-- the texts of a round's orders -/
def entT (p : Str × Row) : Str := reprText p.1 ++ ": " ++ ordT p.2
def rdsT (m : Ms) : Str := dictText ((srtM m).map entT)
def rdT (m : Ms) : Str := "Round(" ++ rdsT m ++ ")"
structure SmallM (m : Ms) : Prop where
  r : ∀ p ∈ m, SmallR p.2
theorem txKv_ogs (K : PySem.W.Frag) (m : Ms) : txKv txO (ogs K m) = m.map entT := by
  unfold ogs
  induction m with
  | nil => rfl
  | cons p r ih =>
    rw [List.map_cons, List.map_cons, txKv, ih]
    rfl
theorem txD_rds (K : PySem.W.Frag) (m : Ms) : txD txO (.dK (ogs K (srtM m))) = rdsT m := by
  rw [txD, txKv_ogs]
  rfl
theorem ordT_len {r : Row} (s : SmallR r) : (ordT r).length ≤ 3600 := by
  unfold ordT
  have c1 : (Str.ofString "Order(").length = 6 := by decide
  have c2 : (Str.ofString ", ").length = 2 := by decide
  have c3 : (Str.ofString ")").length = 1 := by decide
  have := s.h
  have := s.b
  have := s.l2
  have := s.m2
  simp only [str_app_len]
  omega
theorem rdsT_len {m : Ms} (ok : MsOk m) (s : SmallM m) : (rdsT m).length ≤ 100000 := by
  unfold rdsT
  have c2 : (Str.ofString ": ").length = 2 := by decide
  refine Nat.le_trans (dictText_len (B := 3700) _ fun t ht => ?_) ?_
  · obtain ⟨p, hp, rfl⟩ := List.mem_map.mp ht
    have hp' := (srtM_mem ok.nd).mp hp
    have h1 := ordT_len (s.r p hp')
    have h2 := name_repr (ok.nm p hp').1 (ok.nm p hp').2
    unfold entT
    rw [str_app_len, str_app_len]
    omega
  · rw [List.length_map, srtM_len]
    have := ok.few
    omega
theorem okKv_ogs {K : PySem.W.Frag} {m : Ms} (s : ∀ p ∈ m, SmallR p.2) : okKv (okO K) (ogs K m) = true := by
  unfold ogs
  induction m with
  | nil => rfl
  | cons p r ih =>
    rw [List.map_cons, okKv, ih fun q hq => s q (.tail _ hq)]
    have : okD (okO K) (ordD K p.2) = true := by
      unfold ordD
      rw [okD]
      exact okO_yes (s p (.head _))
    rw [this]
    rfl
theorem okD_rds {K : PySem.W.Frag} {m : Ms} (nd : (keys m).Nodup) (s : SmallM m) : okD (okO K) (.dK (ogs K (srtM m))) = true := by
  rw [okD]
  exact okKv_ogs fun p hp => s.r p ((srtM_mem nd).mp hp)
theorem dpt_rds (K : PySem.W.Frag) (m : Ms) : dpt (.dK (ogs K m)) ≤ 1 := by
  rw [dpt]
  have : dptKv (ogs K m) = 0 := by
    unfold ogs
    induction m with
    | nil => simp [dptKv]
    | cons p r ih =>
      rw [List.map_cons, dptKv, ih]
      unfold ordD
      rw [dpt]
      rfl
  omega
section
variable {P : Program} {w : World} {K : PySem.W.Frag} {mg : Str → Option Value} {base : Heap}
theorem insRO {X : Cx} (T : Txt K mg) (hP : X.prog = P) (hw : X.w = w) (hK : X.K = K) (hm : X.mg = mg) (hb : X.base = base) : InsR X 8 txO (okO K) := by
  subst hP hw hK hm hb
  intro S a C gs dv h
  obtain ⟨r, rfl, rfl, s⟩ := okO_inv h
  obtain ⟨a', dx, p, e, h1, h2⟩ := ord_inv dv
  cases e
  exact RpV.ins (ok_Order_repr (P := X.prog) (w := X.w) (base := X.base) T) (b_Order_repr T) T.m_Order_repr.at_ T.m_Order_repr.fn h1 fun g H Q f cl q => ⟨S, _, r, rfl, f, dv, s, cl, q⟩
def spRRepr (K : PySem.W.Frag) (g : List Code) : Sp := fun vs H Q _ => ∃ S v m, vs = [v] ∧ Ex S H ∧ Dv K S v (rdD K m) ∧ MsOk m ∧ SmallM m ∧ (∀ b, dom K S b → Clear g b) ∧ ∀ H', Ex H H' → Q (.str (rdT m)) H'
theorem b_Round_repr (T : Txt K mg) : Binds K (fdOf K (d_Round_repr.at_ K)) ["self"] [] := T.f_Round_repr.bindsN fun _ _ _ _ _ _ us hl => match us, hl with | [_], _ => rfl
theorem ok_Round_repr (T : Txt K mg) : FnGd P w K mg base 16 (d_Round_repr.at_ K) (fdOf K (d_Round_repr.at_ K)) ["self"] (spRRepr K) := by
  refine FnGd.mk_of T.f_Round_repr sc_Round_repr (fun g vs H Q E h => ?_) (fun cdv A g outer s H vs Q E gu hr h => ?_)
  · obtain ⟨S, v, m, rfl, _⟩ := h
    rfl
  · obtain ⟨S, v, m, rfl, f, dv, ok, sm, cl, q⟩ := h
    obtain ⟨a, dx, p, gg, kvs, rfl, h1, h2, oi, h3⟩ := rd_inv dv
    refine ⟨_, (pss_one (ps_ret (pe_joined (PJ.cons pe_str (PJ.cons (Gd.pe_fmtT (n := 8) gu (hr.mono (by decide)) (insRO (K := K) T rfl rfl rfl rfl rfl) (pe_fld (pv 0) rfl)) (PJ.cons pe_str PJ.nil)))))), ?_⟩
    walk_at "go"
    have c1 : (Str.ofString "Round(").length = 6 := by decide
    have c3 : (Str.ofString ")").length = 1 := by decide
    have c0 : Str.empty.length = 0 := rfl
    have l1 := rdsT_len ok sm
    refine x_js ?_
    walk_at "go"
    refine i_js (by simp only [str_app_len]; omega) ?_
    refine x_js ?_
    show tFld _ _ _ _ _ _
    walk_at "go"
    refine ⟨a, _, dx, _, _, rfl, f _ _ h1, T.cl_Round, T.na_Round_own_orders, rfl, ?_⟩
    refine ⟨S, .dK (ogs K (srtM m)), .dK h2 minus_at minus_ex oi.k oi.d, f, okD_rds ok.nd sm, rfl, Nat.le_trans (dpt_rds K _) (by decide), by rw [txD_rds]; omega, cl, fun H1 e1 => ?_⟩
    rw [txD_rds]
    refine i_js (by simp only [str_app_len]; omega) ?_
    refine x_js ?_
    walk_at "go"
    refine i_js (by simp only [str_app_len]; omega) ?_
    refine x_jsN ?_
    rw [str_empty_app]
    exact q H1 e1
end
end K31

set_option Elab.async false
set_option linter.all false
set_option maxRecDepth 100000
set_option maxHeartbeats 4000000
/-! K31L: the pot, mixed, names. -/
namespace K31
open PySem PySem.Spec PyProof.Rows L2 Gd
open Evl (Ex Ex.refl Ex.trans Ex.new Ex.mut ex_t ex_l sq_of st_of fresh_back)

local macro_rules | `(tactic| walk_at "st") => `(tactic| first
  | with_reducible refine x_seq ?_ | with_reducible refine x_ret ?_ | with_reducible refine x_retN ?_ | with_reducible refine x_next ?_ | with_reducible refine x_drop ?_ | with_reducible refine x_if ?_ | with_reducible refine x_asg ?_
  | with_reducible refine x_par ?_ | with_reducible refine x_par3 ?_ | with_reducible refine x_sfld ?_ | ((with_reducible show tVar _ _ _ _); refine x_var rfl ?_) | with_reducible refine x_c ?_ | with_reducible refine x_op ?_ | with_reducible refine x_un ?_
  | with_reducible refine x_chain ?_ | with_reducible refine x_andV ?_ | with_reducible refine x_orV ?_ | with_reducible refine x_notV ?_ | with_reducible refine x_ifE ?_ | with_reducible refine x_nil ?_ | with_reducible refine x_cons ?_ | with_reducible refine x_star ?_
  | with_reducible refine x_tup ?_ | with_reducible refine x_lst ?_ | with_reducible refine x_cb ?_ | with_reducible refine x_call ?_ | with_reducible refine x_meth ?_ | with_reducible refine x_make ?_ | with_reducible refine x_fld ?_ | with_reducible refine x_bm0 ?_ | with_reducible refine x_bm ?_
  | with_reducible refine x_sl ?_ | with_reducible refine x_no ?_ | with_reducible refine x_part ?_ | with_reducible refine x_rev ?_ | with_reducible refine x_fmtD ?_ | with_reducible refine x_test ?_ | with_reducible refine x_tB ?_ | with_reducible refine x_and ?_ | with_reducible refine x_or ?_ | with_reducible refine x_not ?_ | with_reducible refine x_yes ?_
  | with_reducible refine x_gname ?_ | with_reducible refine x_gtup ?_ | with_reducible refine x_gnil ?_ | with_reducible refine x_gcons ?_ | with_reducible refine x_gsub ?_ | with_reducible refine x_iList ?_ | with_reducible refine x_iStr ?_ | with_reducible refine x_iRng1 ?_ | with_reducible refine x_iEnumQ ?_
  | with_reducible refine x_lc ?_ | with_reducible refine x_dc ?_ | with_reducible refine x_iKeys ?_ | with_reducible refine x_iVals ?_ | with_reducible refine x_iItems ?_ | with_reducible refine x_forW ?_ | with_reducible refine x_iSeq ?_ | with_reducible refine x_ixO ?_
  | with_reducible refine i_I0 ?_ | with_reducible refine i_U ?_ | with_reducible refine iteT ?_ | with_reducible refine iteF ?_ | with_reducible refine iteNT ?_ | with_reducible refine iteNF ?_ | with_reducible refine x_bl ?_ | with_reducible refine x_int ?_ | with_reducible refine i_add ?_ | with_reducible refine i_int1 ?_ | with_reducible refine i_abs ?_ | with_reducible refine i_max ?_ | with_reducible refine i_min ?_)
local macro_rules | `(tactic| walk_at "go") => `(tactic| repeat (first | walk_at "st" | dsimp only [Bool.not_true, Bool.not_false, List.nil_append, List.cons_append]))

local macro_rules | `(tactic| walk_at "pot") => `(tactic| (
  refine i_I (by decide) ?_
  walk_at "go"
  refine i_I (.inr (by decide)) ?_
  walk_at "go"
  refine i_I (.inl (by decide)) ?_
  walk_at "go"
  refine i_I (by decide) ?_
  walk_at "go"
  refine ⟨by rw [sizeLine_eq]; show 2 ≤ 16777216; decide, ?_⟩))
section
variable {P : Program} {w : World} {K : PySem.W.Frag} {mg : Str → Option Value} {base : Heap}
/-! ### the pot -/
theorem b_law_pot (T : Txt K mg) : Binds K (fdOf K (d_law_pot.at_ K)) ["script", "k"] [] := T.f_law_pot.bindsN fun _ _ _ _ _ _ us hl => match us, hl with | [_, _], _ => rfl
theorem ok_law_pot (T : Txt K mg) : FO P w K mg base 1 d_law_pot ["script", "k"] (spPot K) := by
  refine T.f_law_pot.ok sc_law_pot (fun vs H Q E h => ?_) (fun cdv A outer s H vs Q E hr h => ?_)
  · obtain ⟨a, ns, k, rfl, _⟩ := h
    rfl
  · obtain ⟨a, ns, k, rfl, sq, hk, q⟩ := h
    have hu := hr.units
    refine ⟨_, (pss_cons (ps_set (i := 2) sc_law_pot.nd rfl (Or.inl rfl) (pe_op op_addX (pe_op op_mul pe_int (pv 1)) pe_int))
    (pss_cons (ps_if (pt_cmpR op_lt (pv 1) (pe_callB call_lenX (by rfl) T.b_len (by decide +kernel) (pa_cons (pv 0) pa_nil)) (nomark _)) (pss_one (ps_set (i := 2) sc_law_pot.nd rfl (Or.inl rfl) (pe_callB call_absX (by rfl) T.b_abs (by decide +kernel) (pa_cons (pe_ix (show IxR _ (rIxY K) from ix_Y (units1 hr)) (pv 0) (pv 1) (fun _ _ => rfl)) pa_nil)))) pss_nil)
    (pss_one (ps_ret (pe_lst (pa_cons (pe_callB (call_maxX rfl) (by rfl) T.b_max (by decide +kernel) (pa_cons pe_int (pa_cons (pe_op op_sub (pv 2) (pe_op op_pow pe_int pe_int)) pa_nil))) (pa_cons (pe_op op_addX (pe_op op_mod (pe_callTy call_intX (by rfl) T.b_int (by decide +kernel) (pa_cons (pe_op op_addX (pe_op op_addX (pe_op op_mul (pe_op op_mod (pe_callTy call_intX (by rfl) T.b_int (by decide +kernel) (pa_cons (pv 2) pa_nil)) pe_int) pe_int) (pe_op op_mul pe_int (pv 1))) pe_int) pa_nil)) pe_int) pe_int) pa_nil))))))), ?_⟩
    walk_at "go"
    refine i_I (.inl (by decide)) ?_
    walk_at "go"
    refine i_lenQ (.inl sq) ?_
    walk_at "go"
    by_cases h : k < ns.length
    · rw [decide_eq_true (show (k : Int) < (((ns.map V.int).length : Nat) : Int) by rw [List.length_map]; omega)]
      walk_at "go"
      refine i_ixY (.inl ⟨a, _, _, .int ns[k], rfl, rfl, sq, atI_nat (by simp [h]), ?_⟩)
      walk_at "go"
      generalize hc : (if ns[k] < 0 then -ns[k] else ns[k]) = c
      have c0 : 0 ≤ c := by rw [← hc]; split <;> omega
      refine i_I ⟨by decide, by decide, by decide⟩ ?_
      walk_at "go"
      walk_at "pot"
      refine fun p hp => q p _ _ hp ?_ ?_ ?_
      · split <;> omega
      · omega
      · omega
    · rw [decide_eq_false (show ¬ (k : Int) < (((ns.map V.int).length : Nat) : Int) by rw [List.length_map]; omega)]
      walk_at "go"
      refine i_I ⟨by decide, by decide, by decide⟩ ?_
      walk_at "go"
      walk_at "pot"
      refine fun p hp => q p _ _ hp ?_ ?_ ?_
      · split <;> omega
      · omega
      · omega
theorem b_law_draw (T : Txt K mg) : Binds K (fdOf K (d_law_draw.at_ K)) ["pot", "many"] [] := T.f_law_draw.bindsN fun _ _ _ _ _ _ us hl => match us, hl with | [_, _], _ => rfl
theorem ok_law_draw (T : Txt K mg) : FO P w K mg base 1 d_law_draw ["pot", "many"] spDraw := by
  refine T.f_law_draw.ok sc_law_draw (fun vs H Q E h => ?_) (fun cdv A outer s H vs Q E hr h => ?_)
  · obtain ⟨S, p, m, rfl, _⟩ := h
    rfl
  · obtain ⟨S, p, m, rfl, f, k, m0, m1, q⟩ := h
    have hu := hr.units
    obtain ⟨a, b, ha, hb, hb2, hp⟩ := k.h
    refine ⟨_, (pss_cons (ps_if (pt_cmpR op_gt (pe_ix (show IxR _ (rIxY K) from ix_Y (units1 hr)) (pv 0) pe_int (fun _ _ => rfl)) pe_int (nomark _)) (pss_cons (ps_asg (pe_callB call_divmodX (by rfl) T.b_divmod (by decide +kernel) (pa_cons (pe_ix (show IxR _ (rIxY K) from ix_Y (units1 hr)) (pv 0) pe_int (fun _ _ => rfl)) (pa_cons (pv 1) pa_nil))) (pg_tup rfl (pgs_cons (pg_sub (pv 0) pe_int set_list) (pgs_cons (pg_name (i := 2) sc_law_draw.nd rfl (.inl rfl)) pgs_nil))))
    (pss_one (ps_ret (pv 2)))) pss_nil)
    (pss_cons (ps_asg (pe_op op_mod (pe_callTy call_intX (by rfl) T.b_int (by decide +kernel) (pa_cons (pe_op op_addX (pe_op op_mul (pe_ix (show IxR _ (rIxY K) from ix_Y (units1 hr)) (pv 0) pe_int (fun _ _ => rfl)) pe_int) pe_int) pa_nil)) pe_int) (pg_sub (pv 0) pe_int set_list))
    (pss_one (ps_ret (pe_op op_mod (pe_callTy call_intX (by rfl) T.b_int (by decide +kernel) (pa_cons (pe_op op_fdiv (pe_op op_mod (pe_callTy call_intX (by rfl) T.b_int (by decide +kernel) (pa_cons (pe_op op_mul (pe_ix (show IxR _ (rIxY K) from ix_Y (units1 hr)) (pv 0) pe_int (fun _ _ => rfl)) (pe_ix (show IxR _ (rIxY K) from ix_Y (units1 hr)) (pv 0) pe_int (fun _ _ => rfl))) pa_nil)) pe_int) pe_int) pa_nil)) (pv 1)))))), ?_⟩
    walk_at "go"
    refine i_ixY (i_ixL (j := 0) hp rfl rfl ?_)
    walk_at "go"
    by_cases h : 0 < a
    · rw [decide_eq_true (show a > 0 from h)]
      walk_at "go"
      refine i_ixY (i_ixL (j := 0) hp rfl rfl ?_)
      walk_at "go"
      refine i_divmod m0 (by omega) fun t ht => ?_
      have hp2 : (upd H t (.tup [.int (a / m), .int (a % m)])) p = some (.lst [.int a, .int b]) := by rw [upd_ne (ne_of_none hp ht)]; exact hp
      refine i_pair ?_
      walk_at "go"
      refine i_setL (j := 0) hp2 rfl (by show 0 < 2; decide) ?_
      walk_at "go"
      have e : a % m = ((a % m).toNat : Int) := (Int.toNat_of_nonneg (Int.emod_nonneg _ (by omega))).symm
      have lt : a % m < m := Int.emod_lt_of_pos _ m0
      have g1 : Gr [p] S H S (upd H t (.tup [.int (a / m), .int (a % m)])) := Gr.newO f ht
      obtain ⟨g2, k2⟩ := pot_set g1.i (k.new ht) (Int.ediv_nonneg ha (by omega)) hb hb2 (a := a / m)
      have := q _ (a % m).toNat (by omega) (g1.trans g2 fun x hx => .inl hx) k2
      rw [← e] at this
      exact this
    · rw [decide_eq_false (show ¬ a > 0 from h)]
      walk_at "go"
      refine i_ixY (i_ixL (j := 1) hp rfl rfl ?_)
      walk_at "go"
      refine i_I (.inr (by decide)) ?_
      walk_at "go"
      refine i_I (by decide) ?_
      walk_at "go"
      refine i_setL (j := 1) hp rfl (by show 1 < 2; decide) ?_
      obtain ⟨g2, k2⟩ := pot_set (b := (b * 40692 + 12101) % 2147483587) f k ha (by omega) (by omega)
      walk_at "go"
      refine i_ixY (i_ixL (j := 1) upd_same rfl rfl ?_)
      walk_at "go"
      refine i_ixY (i_ixL (j := 1) upd_same rfl rfl ?_)
      refine i_I (.inl ?_) ?_
      · have : (2 : Int) ^ 64 = 18446744073709551616 := rfl
        omega
      walk_at "go"
      refine i_I (by decide) ?_
      walk_at "go"
      refine i_I ⟨by decide, by decide⟩ ?_
      walk_at "go"
      refine i_I m0 ?_
      generalize (b * 40692 + 12101) % 2147483587 * ((b * 40692 + 12101) % 2147483587) % 2147483549 / 19 = z
      have e : z % m = ((z % m).toNat : Int) := (Int.toNat_of_nonneg (Int.emod_nonneg _ (by omega))).symm
      have lt : z % m < m := Int.emod_lt_of_pos _ m0
      rw [e]
      exact q _ _ (by omega) g2 k2
theorem b_law_pick (T : Txt K mg) : Binds K (fdOf K (d_law_pick.at_ K)) ["pot", "some"] [] := T.f_law_pick.bindsN fun _ _ _ _ _ _ us hl => match us, hl with | [_, _], _ => rfl
theorem ok_law_pick (T : Txt K mg) : FO P w K mg base 2 d_law_pick ["pot", "some"] (spPick K) := by
  have G_law_draw := ok_law_draw (P := P) (w := w) (base := base) T
  refine T.f_law_pick.ok sc_law_pick (fun vs H Q E h => ?_) (fun cdv A outer s H vs Q E hr h => ?_)
  · obtain ⟨S, p, v, ds, rfl, _⟩ := h
    rfl
  · obtain ⟨S, p, v, ds, rfl, f, k, sd, ne, hz, q⟩ := h
    have l0 : ds.length ≠ 0 := fun z => ne (List.eq_nil_of_length_eq_zero z)
    refine ⟨_, (pss_one (ps_ret (pe_ix (show IxR _ (rIxY K) from ix_Y (units1 hr)) (pv 1) (pe_call G_law_draw (hr.mono (by decide)) rfl T.g_law_draw T.f_law_draw.kp (b_law_draw T) .nil pass0 (pa_cons (pv 0) (pa_cons (pe_callB call_lenX (by rfl) T.b_len (by decide +kernel) (pa_cons (pv 1) pa_nil)) pa_nil))) (fun _ _ => rfl)))), ?_⟩
    walk_at "go"
    refine i_lenD f sd ?_
    refine ⟨S, p, _, rfl, f, k, by omega, by omega, fun H' n hn g k' => ?_⟩
    have hlt : n < ds.length := by omega
    exact i_ixY (i_ixD (d := ds[n]) g.i sd rfl (List.getElem?_eq_getElem hlt) fun u du => q H' n _ u (List.getElem?_eq_getElem hlt) du g k')
/-! ### mixed -/
theorem erase_map {α β : Type} (f : α → β) : ∀ (l : List α) (n : Nat), (l.map f).eraseIdx n = (l.eraseIdx n).map f
  | [], n => by simp
  | a :: r, 0 => by simp
  | a :: r, n + 1 => by simp [erase_map f r n]
theorem erase_perm {α : Type} : ∀ {l : List α} {n : Nat} (h : n < l.length), (l[n] :: l.eraseIdx n).Perm l
  | a :: r, 0, h => by simp
  | a :: r, n + 1, h => by
    have ih := erase_perm (l := r) (n := n) (by simpa using h)
    simp only [List.getElem_cons_succ, List.eraseIdx_cons_succ]
    exact (List.Perm.swap _ _ _).trans (ih.cons a)
theorem PotOk.neq {S H : Hp} {p l : Addr} (k : PotOk S H p) (h : H l = none) : p ≠ l := by
  obtain ⟨a, b, _, _, _, e⟩ := k.h
  exact ne_of_none e h
def spMixed (K : PySem.W.Frag) : Sp := fun vs H Q _ => ∃ S p a, ∃ gs : List Str, vs = [.ref p, .ref a] ∧ Ex S H ∧ PotOk S H p ∧ (SqL K H a (gs.map V.str) ∨ SqT K H a (gs.map V.str)) ∧ gs.length ≤ 1000 ∧ ∀ (H' : Hp) (l : Addr) (gs' : List Str), gs'.Perm gs → Gr [p] S H S H' → PotOk S H' p → H l = none → H' l = some (.lst (gs'.map V.str)) → Q (.ref l) H'
theorem b_law_mixed (T : Txt K mg) : Binds K (fdOf K (d_law_mixed.at_ K)) ["pot", "some"] [] := T.f_law_mixed.bindsN fun _ _ _ _ _ _ us hl => match us, hl with | [_, _], _ => rfl
theorem ok_law_mixed (T : Txt K mg) : FO P w K mg base 2 d_law_mixed ["pot", "some"] (spMixed K) := by
  have G_law_draw := ok_law_draw (P := P) (w := w) (base := base) T
  refine T.f_law_mixed.ok sc_law_mixed (fun vs H Q E h => ?_) (fun cdv A outer s H vs Q E hr h => ?_)
  · obtain ⟨S, p, v, gs, rfl, _⟩ := h
    rfl
  · obtain ⟨S, p, av, gs, rfl, f, k, sq, hz, q⟩ := h
    have hu := hr.units
    refine ⟨_, (pss_cons (ps_par (i := 2) (j := 3) rfl sc_law_mixed.nd rfl rfl (by decide) rfl rfl (pa_cons (pe_callTy call_listX (by rfl) T.b_list (by decide +kernel) (pa_cons (pv 1) pa_nil)) (pa_cons (pe_lst pa_nil) pa_nil)) (by rfl))
    (pss_cons (ps_for (passes_of rfl) rfl (pi_range1 rfl T.b_range (pa_cons (pe_callB call_lenX (by rfl) T.b_len (by decide +kernel) (pa_cons (pv 1) pa_nil)) pa_nil)) (pg_name (i := 4) sc_law_mixed.nd rfl (.inl rfl)) (pss_one (ps_expr (pe_bm PySem.F.plainAttrs_list PySem.F.slot_list_append PySem.F.type_list_append mt_append (pv 3) (pa_cons (pe_bm PySem.F.plainAttrs_list PySem.F.slot_list_pop PySem.F.type_list_pop mt_popAt (pv 2) (pa_cons (pe_call G_law_draw (hr.mono (by decide)) rfl T.g_law_draw T.f_law_draw.kp (b_law_draw T) .nil pass0 (pa_cons (pv 0) (pa_cons (pe_callB call_lenX (by rfl) T.b_len (by decide +kernel) (pa_cons (pv 2) pa_nil)) pa_nil))) pa_nil)) pa_nil)))))
    (pss_one (ps_ret (pv 3))))), ?_⟩
    have z5 : ∀ n, n ≤ 16777216 → n ≤ sizeLine := fun n h => by rw [sizeLine_eq]; exact h
    walk_at "go"
    refine ⟨av, gs.map V.str, rfl, sq, fun l1 h1 => ?_⟩
    have n1 : p ≠ l1 := k.neq h1
    have g1 : Gr [p] S H S (upd H l1 (.lst (gs.map V.str))) := Gr.newO f h1
    have k1 := k.new (o := .lst (gs.map V.str)) h1
    have s1 : S l1 = none := fresh_back f h1
    walk_at "go"
    refine ⟨z5 _ (by show 0 ≤ 16777216; decide), fun l2 h2 => ?_⟩
    have n2 : p ≠ l2 := k1.neq h2
    have n12 : l1 ≠ l2 := fun z => by
      subst z
      rw [upd_same] at h2
      cases h2
    have h2' : H l2 = none := by rw [upd_ne (Ne.symm n12)] at h2; exact h2
    have s2 : S l2 = none := fresh_back f h2'
    have g2 := g1.then (Gr.newO (L := []) (o := .lst []) g1.i h2)
    have k2 := k1.new (o := .lst []) h2
    walk_at "go"
    refine ⟨_, _, rfl, ?_⟩
    walk_at "go"
    refine i_lenQ (sq.imp (ex_l ((Ex.new h1).trans (Ex.new h2))) (ex_t ((Ex.new h1).trans (Ex.new h2)))) ?_
    walk_at "go"
    refine i_forRng (by rw [List.length_map]; omega) (fun i σ H' => ∃ (as bs : List Str) (c : Option V), σ = [some (.ref p), some (.ref av), some (.ref l1), some (.ref l2), c] ∧ Gr [p] S H S H' ∧ PotOk S H' p ∧ H' l1 = some (.lst (as.map V.str)) ∧ H' l2 = some (.lst (bs.map V.str)) ∧ (bs ++ as).Perm gs ∧ as.length + i = gs.length) ?_ ?_ ?_
    · exact ⟨gs, [], _, rfl, g2, k2, by rw [upd_ne n12, upd_same], upd_same, List.Perm.refl _, rfl⟩
    · rintro i σ H3 hi ⟨as, bs, c, rfl, g3, k3, e1, e2, pm, ln⟩
      rw [List.length_map] at hi
      have lb := pm.length_eq
      rw [List.length_append] at lb
      walk_at "go"
      refine ⟨i_tyL e2, ?_⟩
      walk_at "go"
      refine ⟨i_tyL e1, ?_⟩
      walk_at "go"
      refine i_lenL e1 ?_
      rw [List.length_map]
      refine ⟨S, p, _, rfl, g3.i, k3, by omega, by omega, fun H4 n hn g4 k4 => ?_⟩
      have hlt : n < as.length := by omega
      obtain ⟨e1', _⟩ := g4.own (nmem1 n1) e1 s1
      obtain ⟨e2', _⟩ := g4.own (nmem1 n2) e2 s2
      walk_at "go"
      refine i_popAt (y := .str as[n]) e1' (by rw [List.length_map]; omega) (by simp [hlt]) ?_
      have g5 := (g3.trans g4 fun x hx => .inl hx).mutN (o := .lst ((as.map V.str).eraseIdx n)) h1 s1
      have k5 := k4.mut (o := .lst ((as.map V.str).eraseIdx n)) n1
      have e2'' : (upd H4 l1 (.lst ((as.map V.str).eraseIdx n))) l2 = some (.lst (bs.map V.str)) := by rw [upd_ne (Ne.symm n12)]; exact e2'
      walk_at "go"
      refine i_append e2'' (by rw [List.length_map]; omega) ?_
      have g6 := g5.mutN (o := .lst (bs.map V.str ++ [.str as[n]])) h2' s2
      have k6 := k5.mut (o := .lst (bs.map V.str ++ [.str as[n]])) n2
      walk_at "go"
      refine ⟨as.eraseIdx n, bs ++ [as[n]], _, rfl, g6, k6, ?_, ?_, ?_, ?_⟩
      · rw [upd_ne n12, upd_same]
        congr 2
        exact erase_map _ _ _
      · rw [upd_same, List.map_append]
        rfl
      · rw [List.append_assoc]
        exact (List.Perm.append_left bs (erase_perm hlt)).trans pm
      · rw [List.length_eraseIdx, if_pos hlt]
        omega
    · rintro σ H3 ⟨as, bs, c, rfl, g3, k3, e1, e2, pm, ln⟩
      rw [List.length_map] at ln
      have : as = [] := List.eq_nil_of_length_eq_zero (by omega)
      subst this
      rw [List.append_nil] at pm
      walk_at "go"
      exact q H3 l2 bs pm g3 k3 h2' e2
/-! ### names -/
def pool : List Str := ["a", "b", "ab", "order", "z", "zzzzzzzz", "coin", "hall", "m", "outside", "k", "ba"]
structure NamesOk (ns : List Str) : Prop where
  nd : ns.Nodup
  so : ns.Pairwise leS
  mem : ∀ n ∈ ns, n ∈ pool
def spNms (K : PySem.W.Frag) : Sp := fun vs H Q _ => ∃ S p, ∃ n : Nat, vs = [.ref p, .int n] ∧ Ex S H ∧ PotOk S H p ∧ n ≤ 7 ∧ ∀ (H' : Hp) (l : Addr) (ns : List Str), NamesOk ns → ns.length = n → Gr [p] S H S H' → PotOk S H' p → H l = none → H' l = some (.lst (ns.map V.str)) → Q (.ref l) H'
theorem b_law_names (T : Txt K mg) : Binds K (fdOf K (d_law_names.at_ K)) ["pot", "many"] [] := T.f_law_names.bindsN fun _ _ _ _ _ _ us hl => match us, hl with | [_, _], _ => rfl
theorem ok_law_names (T : Txt K mg) : FO P w K mg base 2 d_law_names ["pot", "many"] (spNms K) := by
  have G_law_draw := ok_law_draw (P := P) (w := w) (base := base) T
  refine T.f_law_names.ok sc_law_names (fun vs H Q E h => ?_) (fun cdv A outer s H vs Q E hr h => ?_)
  · obtain ⟨S, p, n, rfl, _⟩ := h
    rfl
  · obtain ⟨S, p, many, rfl, f, k, hz, q⟩ := h
    have hu := hr.units
    refine ⟨_, (pss_cons (ps_par (i := 2) (j := 3) rfl sc_law_names.nd rfl rfl (by decide) rfl rfl (pa_cons (pe_lst (pa_cons pe_str (pa_cons pe_str (pa_cons pe_str (pa_cons pe_str (pa_cons pe_str (pa_cons pe_str (pa_cons pe_str (pa_cons pe_str (pa_cons pe_str (pa_cons pe_str (pa_cons pe_str (pa_cons pe_str pa_nil))))))))))))) (pa_cons (pe_lst pa_nil) pa_nil)) (by rfl))
    (pss_cons (ps_for (passes_of rfl) rfl (pi_range1 rfl T.b_range (pa_cons (pv 1) pa_nil)) (pg_name (i := 4) sc_law_names.nd rfl (.inl rfl)) (pss_one (ps_expr (pe_bm PySem.F.plainAttrs_list PySem.F.slot_list_append PySem.F.type_list_append mt_append (pv 3) (pa_cons (pe_bm PySem.F.plainAttrs_list PySem.F.slot_list_pop PySem.F.type_list_pop mt_popAt (pv 2) (pa_cons (pe_call G_law_draw (hr.mono (by decide)) rfl T.g_law_draw T.f_law_draw.kp (b_law_draw T) .nil pass0 (pa_cons (pv 0) (pa_cons (pe_callB call_lenX (by rfl) T.b_len (by decide +kernel) (pa_cons (pv 2) pa_nil)) pa_nil))) pa_nil)) pa_nil)))))
    (pss_one (ps_ret (pe_callB call_sortX (by rfl) T.b_sorted (by decide +kernel) (pa_cons (pv 3) pa_nil)))))), ?_⟩
    have z5 : ∀ n, n ≤ 16777216 → n ≤ sizeLine := fun n h => by rw [sizeLine_eq]; exact h
    walk_at "go"
    refine ⟨z5 _ (by show 12 ≤ 16777216; decide), fun l1 h1 => ?_⟩
    have n1 : p ≠ l1 := k.neq h1
    have g1 : Gr [p] S H S (upd H l1 (.lst (pool.map V.str))) := Gr.newO f h1
    have k1 := k.new (o := .lst (pool.map V.str)) h1
    have s1 : S l1 = none := fresh_back f h1
    walk_at "go"
    refine ⟨z5 _ (by show 0 ≤ 16777216; decide), fun l2 h2 => ?_⟩
    have n2 : p ≠ l2 := k1.neq h2
    have n12 : l1 ≠ l2 := fun z => by
      subst z
      rw [upd_same] at h2
      cases h2
    have h2' : H l2 = none := by rw [upd_ne (Ne.symm n12)] at h2; exact h2
    have s2 : S l2 = none := fresh_back f h2'
    have g2 := g1.then (Gr.newO (L := []) (o := .lst []) g1.i h2)
    have k2 := k1.new (o := .lst []) h2
    walk_at "go"
    refine ⟨_, _, rfl, ?_⟩
    walk_at "go"
    have pl : pool.length = 12 := rfl
    refine i_forRng (by omega) (fun i σ H' => ∃ (as bs : List Str) (c : Option V), σ = [some (.ref p), some (.int many), some (.ref l1), some (.ref l2), c] ∧ Gr [p] S H S H' ∧ PotOk S H' p ∧ H' l1 = some (.lst (as.map V.str)) ∧ H' l2 = some (.lst (bs.map V.str)) ∧ (bs ++ as).Perm pool ∧ bs.length = i) ?_ ?_ ?_
    · exact ⟨pool, [], _, rfl, g2, k2, by rw [upd_ne n12]; exact upd_same, upd_same, List.Perm.refl _, rfl⟩
    · rintro i σ H3 hi ⟨as, bs, c, rfl, g3, k3, e1, e2, pm, ln⟩
      have lb := pm.length_eq
      rw [List.length_append, pl] at lb
      walk_at "go"
      refine ⟨i_tyL e2, ?_⟩
      walk_at "go"
      refine ⟨i_tyL e1, ?_⟩
      walk_at "go"
      refine i_lenL e1 ?_
      rw [List.length_map]
      refine ⟨S, p, _, rfl, g3.i, k3, by omega, by omega, fun H4 n hn g4 k4 => ?_⟩
      have hlt : n < as.length := by omega
      obtain ⟨e1', _⟩ := g4.own (nmem1 n1) e1 s1
      obtain ⟨e2', _⟩ := g4.own (nmem1 n2) e2 s2
      walk_at "go"
      refine i_popAt (y := .str as[n]) e1' (by rw [List.length_map]; omega) (by simp [hlt]) ?_
      have g5 := (g3.trans g4 fun x hx => .inl hx).mutN (o := .lst ((as.map V.str).eraseIdx n)) h1 s1
      have k5 := k4.mut (o := .lst ((as.map V.str).eraseIdx n)) n1
      have e2'' : (upd H4 l1 (.lst ((as.map V.str).eraseIdx n))) l2 = some (.lst (bs.map V.str)) := by rw [upd_ne (Ne.symm n12)]; exact e2'
      walk_at "go"
      refine i_append e2'' (by rw [List.length_map]; omega) ?_
      have g6 := g5.mutN (o := .lst (bs.map V.str ++ [.str as[n]])) h2' s2
      have k6 := k5.mut (o := .lst (bs.map V.str ++ [.str as[n]])) n2
      walk_at "go"
      refine ⟨as.eraseIdx n, bs ++ [as[n]], _, rfl, g6, k6, ?_, ?_, ?_, ?_⟩
      · rw [upd_ne n12, upd_same]
        congr 2
        exact erase_map _ _ _
      · rw [upd_same, List.map_append]
        rfl
      · rw [List.append_assoc]
        exact (List.Perm.append_left bs (erase_perm hlt)).trans pm
      · rw [List.length_append, ln]
        rfl
    · rintro σ H3 ⟨as, bs, c, rfl, g3, k3, e1, e2, pm, ln⟩
      walk_at "go"
      refine .inl ⟨l2, bs, rfl, sq_of e2, by omega, fun ys o pm2 so ho => ?_⟩
      have pn : pool.Nodup := by decide +kernel
      have bn : bs.Nodup := (List.nodup_append.mp (pm.nodup_iff.mpr pn)).1
      have hoH : H o = none := g3.back ho (nmem1 (k3.neq ho))
      exact q _ o ys ⟨pm2.nodup_iff.mpr bn, sortedS_pw so, fun n hn => pm.mem_iff.mp (List.mem_append_left _ (pm2.mem_iff.mp hn))⟩ (pm2.length_eq.trans ln) (g3.then (Gr.newO g3.i ho)) (k3.new ho) hoH upd_same
end
end K31

set_option Elab.async false
set_option linter.all false
set_option maxRecDepth 100000
set_option maxHeartbeats 4000000
/-! K31V: the law's rows and models, plainly. -/
namespace K31
open PySem PySem.Spec PyProof.Rows L2 Gd
open Evl (Ex Ex.refl Ex.trans Ex.new Ex.mut ex_t ex_l sq_of st_of fresh_back)
def houses : List Str := ["ann", "bob", "a"]
def housesX : List Str := ["ann", "bob", "a", "annx", "bobx", "ax"]
def menus : List (List Str) := [["tea"], ["oil", "tea"], ["a", "b", "c"], ["ax", "b", "corn", "d"]]
def goodsAll : List Str := ["tea", "oil", "a", "b", "c", "ax", "corn", "d", "zz"]
/-- a row of the law -/
structure RowG (gs : List Str) (r : Row) : Prop where
  h : r.house ∈ houses
  nd : (keys r.bun).Nodup
  g : ∀ k ∈ keys r.bun, k ∈ gs
  v : ∀ p ∈ r.bun, p.2.natAbs ≤ 10
  l : r.lim.natAbs ≤ 100
  m : 0 ≤ r.most ∧ r.most ≤ 10
/-- a row that the program takes -/
structure RowB (r : Row) : Prop where
  h : r.house ∈ housesX
  nd : (keys r.bun).Nodup
  g : ∀ k ∈ keys r.bun, k ∈ goodsAll
  few : r.bun.length ≤ 5
  v : ∀ p ∈ r.bun, p.2.natAbs ≤ 200
  l : r.lim.natAbs ≤ 200
  m : 0 ≤ r.most ∧ r.most ≤ 200
theorem menu_all {gs : List Str} (h : gs ∈ menus) : (∀ k ∈ gs, k ∈ goodsAll ∧ k ≠ "zz") ∧ gs.length ≤ 4 ∧ gs.Nodup ∧ gs ≠ [] := by
  have : ∀ gs ∈ menus, (∀ k ∈ gs, k ∈ goodsAll ∧ k ≠ "zz") ∧ gs.length ≤ 4 ∧ gs.Nodup ∧ gs ≠ [] := by decide +kernel
  exact this gs h
theorem goods_ok : ∀ k ∈ goodsAll, goodB k = true ∧ k.length ≤ 8 ∧ (reprText k).length ≤ 82 := by
  have h : ∀ k ∈ goodsAll, nameB k = true ∧ goodB k = true ∧ k.length ≤ 8 := by decide +kernel
  intro k hk
  obtain ⟨a, b, c⟩ := h k hk
  exact ⟨b, c, name_repr a c⟩
theorem houses_ok : ∀ k ∈ housesX, nameB k = true ∧ k.length ≤ 8 := by decide +kernel
theorem int_small {i : Int} (h : i.natAbs ≤ 200) : (Str.ofString (toString i)).length ≤ 5 ∧ i.natAbs.log2 < 1920 := by
  have k : ∀ n : Nat, n < 401 → (Str.ofString (toString ((n : Int) - 200))).length ≤ 5 ∧ ((n : Int) - 200).natAbs.log2 < 1920 := by decide +kernel
  have := k (i + 200).toNat (by omega)
  rwa [show (((i + 200).toNat : Nat) : Int) - 200 = i by omega] at this
theorem RowG.few {gs : List Str} {r : Row} (hg : gs ∈ menus) (h : RowG gs r) : r.bun.length ≤ 4 := by
  have := nodup_len h.nd h.g
  have l : (keys r.bun).length = r.bun.length := List.length_map ..
  have := (menu_all hg).2.1
  omega
theorem RowG.b {gs : List Str} {r : Row} (hg : gs ∈ menus) (h : RowG gs r) : RowB r where
  h := by
    have : ∀ k ∈ houses, k ∈ housesX := by decide +kernel
    exact this _ h.h
  nd := h.nd
  g := fun k hk => ((menu_all hg).1 k (h.g k hk)).1
  few := by have := h.few hg; omega
  v := fun p hp => by have := h.v p hp; omega
  l := by have := h.l; omega
  m := by have := h.m; omega
theorem RowB.bd {r : Row} (h : RowB r) : bdOk r.bun := ⟨h.nd, by have := h.few; omega, fun k hk => by have := goods_ok k (h.g k hk); exact ⟨this.1, this.2.1⟩⟩
theorem RowB.ok {r : Row} (h : RowB r) : RowOk r := ⟨(houses_ok _ h.h).1, (houses_ok _ h.h).2, h.bd, h.m.1⟩
theorem txKv_bgs (b : Bd) : txKv tx0 (bgs b) = b.map fun p => reprText p.1 ++ ": " ++ Str.ofString (toString p.2) := by
  unfold bgs
  induction b with
  | nil => rfl
  | cons p r ih =>
    rw [List.map_cons, List.map_cons, txKv, ih]
    rfl
theorem told_sub {b : Bd} (nd : (keys b).Nodup) {p : Str × Int} (hp : p ∈ told b) : p ∈ b := by
  have := (told_keys_nd nd).2.2 p.1 p.2
  exact look_in (this.mp hp).1
theorem bdT_len {b : Bd} (hk : ∀ p ∈ b, p.1 ∈ goodsAll ∧ p.2.natAbs ≤ 200) (few : b.length ≤ 5) : (bdT b).length ≤ 600 := by
  unfold bdT bdD
  rw [txD, txKv_bgs]
  have c2 : (Str.ofString ": ").length = 2 := by decide
  refine Nat.le_trans (dictText_len (B := 89) _ fun t ht => ?_) ?_
  · obtain ⟨p, hp, rfl⟩ := List.mem_map.mp ht
    have h1 := (goods_ok p.1 (hk p hp).1).2.2
    have h2 := (int_small (hk p hp).2).1
    rw [str_app_len, str_app_len]
    omega
  · rw [List.length_map]
    omega
theorem okKv_bgs {b : Bd} (h : ∀ p ∈ b, p.2.natAbs ≤ 200) : okKv ok0 (bgs b) = true := by
  unfold bgs
  induction b with
  | nil => rfl
  | cons p r ih =>
    rw [List.map_cons, okKv, ih fun q hq => h q (.tail _ hq), okD]
    unfold smallI
    rw [decide_eq_true (int_small (h p (.head _))).2]
    rfl
theorem RowB.told {r : Row} (h : RowB r) : (∀ p ∈ told r.bun, p.1 ∈ goodsAll ∧ p.2.natAbs ≤ 200) ∧ (told r.bun).length ≤ 5 :=
  ⟨fun p hp => ⟨h.g _ (List.mem_map.mpr ⟨p, told_sub h.nd hp, rfl⟩), h.v p (told_sub h.nd hp)⟩, Nat.le_trans (told_len _) h.few⟩
theorem RowB.small {r : Row} (h : RowB r) : SmallR r where
  h := by
    have := houses_ok _ h.h
    have := name_repr this.1 this.2
    omega
  b := by
    have := bdT_len h.told.1 h.told.2
    omega
  bo := by
    unfold bdD
    rw [okD]
    exact okKv_bgs fun p hp => (h.told.1 p hp).2
  l := (int_small h.l).2
  l2 := by have := (int_small h.l).1; exact Nat.le_trans this (by decide)
  m := (int_small (i := r.most) (by have := h.m; omega)).2
  m2 := by have := (int_small (i := r.most) (by have := h.m; omega)).1; exact Nat.le_trans this (by decide)
/-! ### models -/
def poolX : List Str := ["a", "b", "ab", "order", "z", "zzzzzzzz", "coin", "hall", "m", "outside", "k", "ba", "zz", "bb"]
theorem pool_ok : ∀ k ∈ poolX, nameB k = true ∧ k.length ≤ 8 := by decide +kernel
theorem pool_sub : ∀ k ∈ pool, k ∈ poolX ∧ k ≠ "zz" ∧ k ≠ "bb" := by decide +kernel
structure MdB (gs : List Str) (m : Ms) : Prop where
  nd : (keys m).Nodup
  nm : ∀ k ∈ keys m, k ∈ poolX
  r : ∀ p ∈ m, RowB p.2 ∧ ∀ k ∈ keys p.2.bun, k ∈ gs
  few : m.length ≤ 9
theorem MdB.ok {gs : List Str} {m : Ms} (hg : gs ∈ menus) (h : MdB gs m) : MsOk m where
  nd := h.nd
  nm := fun p hp => pool_ok _ (h.nm _ (List.mem_map.mpr ⟨p, hp, rfl⟩))
  ok := fun p hp => (h.r p hp).1.ok
  few := by have := h.few; omega
  gs := by
    refine Nat.le_trans (nodup_len (goodsL_nd fun p hp => (h.r p hp).1.nd) (B := gs) fun k hk => ?_) (menu_all hg).2.1
    obtain ⟨p, hp, z⟩ := (goodsL_mem (fun p hp => (h.r p hp).1.nd) k).mp hk
    obtain ⟨q, hq, rfl⟩ := List.mem_map.mp z
    exact (h.r p hp).2 _ (List.mem_map.mpr ⟨q, told_sub (h.r p hp).1.nd hq, rfl⟩)
theorem MdB.small {gs : List Str} {m : Ms} (h : MdB gs m) : SmallM m := ⟨fun p hp => (h.r p hp).1.small⟩
theorem MdB.filter {gs : List Str} {m : Ms} (h : MdB gs m) (c : Str × Row → Bool) : MdB gs (m.filter c) where
  nd := by
    have s : (m.filter c).Sublist m := List.filter_sublist
    exact (s.map _).nodup h.nd
  nm := fun k hk => by
    obtain ⟨p, hp, rfl⟩ := List.mem_map.mp hk
    exact h.nm _ (List.mem_map.mpr ⟨p, (List.mem_filter.mp hp).1, rfl⟩)
  r := fun p hp => h.r p (List.mem_filter.mp hp).1
  few := Nat.le_trans (List.length_filter_le _ _) h.few
theorem MdB.snoc {gs : List Str} {m : Ms} {n : Str} {r : Row} (h : MdB gs m) (hn : n ∉ keys m) (hx : n ∈ poolX) (hr : RowB r ∧ ∀ k ∈ keys r.bun, k ∈ gs) (z : m.length ≤ 8) : MdB gs (m ++ [(n, r)]) where
  nd := by
    unfold keys
    rw [List.map_append, List.nodup_append]
    refine ⟨h.nd, by simp, fun a ha b hb e => ?_⟩
    have : b = n := by simpa using hb
    rw [e, this] at ha
    exact hn ha
  nm := fun k hk => by
    unfold keys at hk
    rw [List.map_append, List.mem_append] at hk
    rcases hk with hk | hk
    · exact h.nm k hk
    · have : k = n := by simpa using hk
      rw [this]
      exact hx
  r := fun p hp => by
    rcases List.mem_append.mp hp with hp | hp
    · exact h.r p hp
    · have : p = (n, r) := by simpa using hp
      rw [this]
      exact hr
  few := by
    rw [List.length_append]
    simp
    omega
theorem MdB.perm {gs : List Str} {m t : Ms} (h : MdB gs m) (p : t.Perm m) : MdB gs t where
  nd := (p.map _).nodup_iff.mpr h.nd
  nm := fun k hk => h.nm k ((p.map _).mem_iff.mp hk)
  r := fun q hq => h.r q (p.mem_iff.mp hq)
  few := by rw [p.length_eq]; exact h.few
/-! ### tables in the heap -/
def tgs {α : Type} (fD : α → Dt) (m : List (Str × α)) : List (Key × Dt) := m.map fun p => (Sum.inr p.1, fD p.2)
structure TabIn {α : Type} (fD : α → Dt) (K : PySem.W.Frag) (S : Hp) (kvs : List (Key × V)) (m : List (Str × α)) : Prop where
  k : kvs.map (·.1) = (tgs fD m).map (·.1)
  d : DvAll K S (kvs.map (·.2)) ((tgs fD m).map (·.2))
section
variable {α : Type} {fD : α → Dt} {K : PySem.W.Frag} {S S' : Hp} {kvs : List (Key × V)} {m : List (Str × α)}
theorem tgs_keys (m : List (Str × α)) : (tgs fD m).map (·.1) = (keys m).map Sum.inr := by
  unfold tgs keys
  rw [List.map_map, List.map_map]
  rfl
theorem TabIn.mono (h : TabIn fD K S kvs m) (e : Ex S S') : TabIn fD K S' kvs m := ⟨h.k, h.d.mono e⟩
theorem TabIn.len (h : TabIn fD K S kvs m) : kvs.length = m.length := by
  have := congrArg List.length h.k
  rw [List.length_map, List.length_map] at this
  rw [this]
  exact List.length_map ..
theorem tgs_find (m : List (Str × α)) (z : Str) : ((tgs fD m).find? fun p => decide (p.1 = Sum.inr z)).map (·.2) = (look m z).map fD := by
  unfold tgs look
  induction m with
  | nil => rfl
  | cons p r ih =>
    rw [List.map_cons]
    by_cases c : p.1 = z
    · rw [List.find?_cons_of_pos (by simp [c]), List.find?_cons_of_pos (by simp [c])]
      rfl
    · rw [List.find?_cons_of_neg (by simp [c]), List.find?_cons_of_neg (by simp [c])]
      exact ih
theorem TabIn.val {z : Str} {r : α} (h : TabIn fD K S kvs m) (hr : look m z = some r) : ∃ v, valV kvs (.inr z) = some v ∧ Dv K S v (fD r) := by
  have e := tgs_find (fD := fD) m z
  rw [hr] at e
  rcases val_at h.k h.d (.inr z) with ⟨x, g, h1, h2, h3⟩ | ⟨_, h2⟩
  · rw [e] at h2
    cases h2
    exact ⟨x, h1, h3⟩
  · rw [h2] at e
    cases e
end
theorem OrdIn.of_tab {K : PySem.W.Frag} {S : Hp} {kvs : List (Key × V)} {m : Ms} (h : TabIn (ordD K) K S kvs m) : OrdIn K S kvs m := ⟨h.k, h.d⟩
/-- a row as data -/
def rowD (r : Row) : Dt := .tup [.str r.house, bdD r.bun, .int r.lim, .int r.most]
abbrev MdIn (K : PySem.W.Frag) (S : Hp) (kvs : List (Key × V)) (m : Ms) : Prop := TabIn rowD K S kvs m
theorem row_inv {K : PySem.W.Frag} {S : Hp} {v : V} {r : Row} (h : Dv K S v (rowD r)) : ∃ a p, v = .ref a ∧ SqT K S a [.str r.house, .ref p, .int r.lim, .int r.most] ∧ S p = some (.dK (bkv r.bun)) := by
  obtain ⟨a, xs, rfl, h1, h2⟩ := h.tup_inv
  cases h2 with
  | cons d1 h2 => cases h2 with
    | cons d2 h2 => cases h2 with
      | cons d3 h2 => cases h2 with
        | cons d4 h2 =>
          cases h2
          cases d1.str_inv
          cases d3.int_inv
          cases d4.int_inv
          obtain ⟨p, rfl, hp⟩ := bd_inv d2
          exact ⟨a, p, rfl, h1, hp⟩
theorem i_ixT {K : PySem.W.Frag} {H : Hp} {Q : VK} {a : Addr} {xs : List V} {j : Nat} {i : Int} {y : V} (h : SqT K H a xs) (ei : i = (j : Int)) (e : xs[j]? = some y) (q : Q y H) : rIxY K (.ref a) (.int i) H Q := by
  subst ei
  exact .inl (.inr ⟨a, _, _, y, rfl, rfl, h, atI_nat e, q⟩)
/-- a pair laid anew -/
theorem pair_new {K : PySem.W.Frag} {L : List Addr} {S H S1 H1 : Hp} {p : Addr} {x y : V} {dx dy : Dt} (g : Gr L S H S1 H1) (hp : H1 p = none) (d1 : Dv K S1 x dx) (d2 : Dv K S1 y dy) :
    Gr L S H (upd S1 p (.tup [x, y])) (upd H1 p (.tup [x, y])) ∧ Dv K (upd S1 p (.tup [x, y])) (.ref p) (.tup [dx, dy]) :=
  ⟨g.then (Gr.newF g.i hp), dv_tup_new (fresh_back g.i hp) (.cons d1 (.cons d2 .nil))⟩
end K31

set_option Elab.async false
set_option linter.all false
set_option maxRecDepth 100000
set_option maxHeartbeats 4000000
/-! G30: list(d.values()), list(d.items()), d.clear(). -/
namespace Gd
open PySem PySem.Spec PyProof.Rows L2
open Evl (Ex Ex.refl Ex.trans Ex.new Ex.mut ex_t ex_l sq_of st_of fresh_back)
def tListVals (te : TE) : TE := fun σ H Q => te σ H fun x H1 => ∃ (a : Addr) (kvs : List (Key × V)), x = .ref a ∧ H1 a = some (.dK kvs) ∧ ∀ p, H1 p = none → Q (.ref p) (upd H1 p (.lst (kvs.map (·.2))))
theorem x_listVals {te : TE} {σ : L2.St} {H : Hp} {Q : VK} (h : te σ H fun x H1 => ∃ (a : Addr) (kvs : List (Key × V)), x = .ref a ∧ H1 a = some (.dK kvs) ∧ ∀ p, H1 p = none → Q (.ref p) (upd H1 p (.lst (kvs.map (·.2))))) : tListVals te σ H Q := h
theorem x_listItems {te : TE} {σ : L2.St} {H : Hp} {Q : VK} (h : te σ H fun x H1 => LiI.rItemsL x H1 Q) : LiI.tListItems te σ H Q := h
theorem kv_vals : ∀ {kvs : List (Key × V)} {vs : List (Key × Value)}, KV kvs vs → Vals (kvs.map (·.2)) (vs.map (·.2))
  | [], _, h => by
    cases h
    exact .nil
  | p :: r, _, h => by
    cases h with
    | cons h1 h2 => exact .cons h1.2 (kv_vals h2)
section
variable {X : Cx} {e : Expr} {te : TE} {p apos cpos pos : Pos}
/-- list(e.values()) -/
theorem pe_listVals (hc : X.calm = true) (he : PE X e te) (hg : Gl X "list") (hm : X.mg "list" = none) (hv : bootBuiltins "list" = some (.type "list")) (hbase : attributeBase e "values" X.env (eval e X.env) = eval e X.env := by rfl) (hline : (apos.endLine == cpos.line) = true := by rfl)
    (hs : starEach [.Call (.Attribute e "values" apos) [] [] cpos] X.env = (false, eval (.Call (.Attribute e "values" apos) [] [] cpos) X.env) :: starEach [] X.env := by rfl) :
    PE X (.Call (.Name "list" p) [.Call (.Attribute e "values" apos) [] [] cpos] [] pos) (tListVals te) := by
  constructor
  intro pins s σ H Q I hq
  refine wpAny_Call_Name_kw (ld_blt I hg hm hv ?_)
  refine PyProof.Rows.callWith_type1 ?_ hs rfl
  rw [hs]
  show wpAny _ _ (spliced ((false, eval (.Call (.Attribute e "values" apos) [] [] cpos) X.env) :: backTo pos (starEach [] X.env))) _ _ s
  refine Calls.spliced_cons ?_
  refine wpAny_Call_method (T := "dict") (id := "dict.values") hbase rfl hline PySem.F.plainAttrs_dict PySem.F.slot_dict_values PySem.F.type_dict_values (thn (he.run pins s σ H _ I hq) ?_)
  rintro u s1 ⟨x, H1, I1, rx, d, kvs, rfl, hd, q⟩
  obtain rfl : u = Value.ref d := rx
  obtain ⟨hz, hs0, vs, kv, hdo⟩ := I1.hok d _ hd
  obtain ⟨ep, hat⟩ := hdo.dictAt
  have lk : kvs.length = vs.length := Paired.length kv
  have I2 : Inv X pins σ H1 { s1 with heap := s1.heap.push { cls := .type "dict_values", data := .fields #[.ref d] } } := I1.kept (t' := s1.toks) fun b ob q => Heap.get?_push_of_some _ q
  refine ⟨hdo.typeIs, hdo.mapOf.noDict, ?_⟩
  show wpAny _ _ (callWith cpos (.builtin "dict.values") [.ref d] [] []) _ X.xe s1
  refine method_meetsIn PySem.F.slot_dict_values PySem.F.entry_dict_values rfl (PySem.evalArgs_none ⟨rfl, hdo.typeIs, PySem.F.args_dict_values_1 _, _, meets_dict_values (mixKind X.prog X.w) d hs0, ⟨vs, hdo⟩, ?_⟩)
  refine Calls.spliced_nil ?_
  refine PySem.W.kdl_call (PySem.W.kdl_values (knd := mixKind X.prog X.w) (kvs := vs) (ep := ep)) (I1.ok.hd hc) ⟨⟨_, Heap.get?_push_size _ rfl, rfl, rfl⟩, hat.push _⟩ (by omega) ?_
  intro h' tk acc c hk hS hacc
  have ev : acc.toList = vs.map (·.2) := PySem.W.kdl_vals_eq acc.toList (by rw [Array.length_toList]; exact hacc.1) fun j v hj => hacc.2 j v (by rw [← Array.getElem?_toList]; exact hj)
  refine ⟨.ref _, upd H1 _ (.lst (kvs.map (·.2))), I2.laid (t' := tk) hk (Nat.le_refl _) (show ObjOk X.prog X.w _ _ _ (.lst (kvs.map (·.2))) from ⟨by rw [List.length_map]; exact hz, acc.toList, c, ?_, ?_⟩), rfl, q _ (I2.hok.fresh (Nat.le_refl _))⟩
  · rw [ev]
    exact kv_vals kv
  · rw [Array.toArray_toList]
    exact hS
end
section
variable {K : PySem.W.Frag} {S H : Hp} {Q : VK} {L : List Addr}
/-- list(d.items()) as data -/
theorem i_listItems {a : Addr} {kvs : List (Key × V)} {gs : List (Key × Dt)} (f : Ex S H) (ha : H a = some (.dK kvs)) (hk : kvs.map (·.1) = gs.map (·.1)) (dv : DvAll K S (kvs.map (·.2)) (gs.map (·.2)))
    (q : ∀ S' H' p xs, Gr L S H S' H' → H p = none → S' p = none → H' p = some (.lst xs) → DvAll K S' xs (gs.map fun g => .tup [keyD g.1, g.2]) → Q (.ref p) H') : LiI.rItemsL (.ref a) H Q := by
  refine ⟨a, kvs, rfl, ha, ?_⟩
  intro H' p ts e hp ht hpt hl pr
  -- the tuples are frozen
  let S' : Hp := fun b => if b ∈ ts then H' b else S b
  have sp : ∀ t ∈ ts, S t = none := fun t h => fresh_back f (ht t h)
  have eS : Ex S S' := fun b o z => by
    show (if b ∈ ts then H' b else S b) = some o
    by_cases c : b ∈ ts
    · rw [sp b c] at z
      cases z
    · rw [if_neg c]
      exact z
  have iS : Ex S' H' := fun b o z => by
    have z' : (if b ∈ ts then H' b else S b) = some o := z
    by_cases c : b ∈ ts
    · rwa [if_pos c] at z'
    · rw [if_neg c] at z'
      exact e _ _ (f _ _ z')
  have hS : ∀ t ∈ ts, S' t = H' t := fun t h => if_pos h
  have g : Gr L S H S' H' := ⟨eS, iS, fun b o _ z => e _ _ z, fun b o _ z y => by
    show (if b ∈ ts then H' b else S b) = none
    by_cases c : b ∈ ts
    · rw [ht b c] at z
      cases z
    · rw [if_neg c]
      exact y⟩
  refine q S' H' p _ g hp ?_ hl ?_
  · show (if p ∈ ts then H' p else S p) = none
    rw [if_neg hpt]
    exact fresh_back f hp
  · have main : ∀ {ts' : List Addr} {kvs' : List (Key × V)} {gs' : List (Key × Dt)}, (∀ t ∈ ts', t ∈ ts) → Paired (fun (t : Addr) (q : Key × V) => H' t = some (.tup [kV q.1, q.2])) ts' kvs' → kvs'.map (·.1) = gs'.map (·.1) → DvAll K S (kvs'.map (·.2)) (gs'.map (·.2)) →
        DvAll K S' (ts'.map V.ref) (gs'.map fun g => .tup [keyD g.1, g.2]) := by
      intro ts' kvs' gs' sub pr' hk' dv'
      induction pr' generalizing gs' with
      | nil =>
        cases gs' with
        | nil => exact .nil
        | cons _ _ => cases hk'
      | @cons t kv ts2 kvs2 h1 h2 ih =>
        cases gs' with
        | nil => cases hk'
        | cons g gs2 =>
          rw [List.map_cons, List.map_cons] at hk'
          injection hk' with k1 k2
          rw [List.map_cons, List.map_cons] at dv'
          cases dv' with
          | cons d1 d2 =>
            refine .cons ?_ (ih (fun z hz => sub z (.tail _ hz)) k2 d2)
            have m1 := sub t (.head _)
            refine .tup (H0 := S) (.inl (.inl ((hS t m1).trans h1))) (sp t m1) eS (.cons ?_ (.cons d1 .nil))
            rw [k1]
            cases g.1 with
            | inl i => exact .int i
            | inr x => exact .str x
    exact main (fun _ h => h) pr hk dv
end
end Gd

set_option Elab.async false
set_option linter.all false
set_option maxRecDepth 100000
set_option maxHeartbeats 4000000
/-! K31W: an order as plain data. -/
namespace K31
open PySem PySem.Spec PyProof.Rows L2 Gd
open Evl (Ex Ex.refl Ex.trans Ex.new Ex.mut ex_t ex_l sq_of st_of fresh_back)

local macro_rules | `(tactic| walk_at "st") => `(tactic| first
  | with_reducible refine x_seq ?_ | with_reducible refine x_ret ?_ | with_reducible refine x_retN ?_ | with_reducible refine x_next ?_ | with_reducible refine x_drop ?_ | with_reducible refine x_if ?_ | with_reducible refine x_asg ?_
  | with_reducible refine x_par ?_ | with_reducible refine x_par3 ?_ | with_reducible refine x_sfld ?_ | ((with_reducible show tVar _ _ _ _); refine x_var rfl ?_) | with_reducible refine x_c ?_ | with_reducible refine x_op ?_ | with_reducible refine x_un ?_
  | with_reducible refine x_chain ?_ | with_reducible refine x_andV ?_ | with_reducible refine x_orV ?_ | with_reducible refine x_notV ?_ | with_reducible refine x_ifE ?_ | with_reducible refine x_nil ?_ | with_reducible refine x_cons ?_ | with_reducible refine x_star ?_
  | with_reducible refine x_tup ?_ | with_reducible refine x_lst ?_ | with_reducible refine x_cb ?_ | with_reducible refine x_call ?_ | with_reducible refine x_meth ?_ | with_reducible refine x_make ?_ | with_reducible refine x_fld ?_ | with_reducible refine x_bm0 ?_ | with_reducible refine x_bm ?_
  | with_reducible refine x_sl ?_ | with_reducible refine x_no ?_ | with_reducible refine x_part ?_ | with_reducible refine x_rev ?_ | with_reducible refine x_fmtD ?_ | with_reducible refine x_test ?_ | with_reducible refine x_tB ?_ | with_reducible refine x_and ?_ | with_reducible refine x_or ?_ | with_reducible refine x_not ?_ | with_reducible refine x_yes ?_
  | with_reducible refine x_gname ?_ | with_reducible refine x_gtup ?_ | with_reducible refine x_gnil ?_ | with_reducible refine x_gcons ?_ | with_reducible refine x_gsub ?_ | with_reducible refine x_iList ?_ | with_reducible refine x_iStr ?_ | with_reducible refine x_iRng1 ?_ | with_reducible refine x_iEnumQ ?_
  | with_reducible refine x_lc ?_ | with_reducible refine x_dc ?_ | with_reducible refine x_iKeys ?_ | with_reducible refine x_iVals ?_ | with_reducible refine x_iItems ?_ | with_reducible refine x_forW ?_ | with_reducible refine x_iSeq ?_ | with_reducible refine x_ixO ?_
  | with_reducible refine x_listVals ?_ | with_reducible refine x_listItems ?_ | with_reducible refine i_I0 ?_ | with_reducible refine i_U ?_ | with_reducible refine iteT ?_ | with_reducible refine iteF ?_ | with_reducible refine iteNT ?_ | with_reducible refine iteNF ?_ | with_reducible refine x_bl ?_ | with_reducible refine x_int ?_ | with_reducible refine i_add ?_ | with_reducible refine i_int1 ?_ | with_reducible refine i_abs ?_ | with_reducible refine i_max ?_ | with_reducible refine i_min ?_)
local macro_rules | `(tactic| walk_at "go") => `(tactic| repeat (first | walk_at "st" | dsimp only [Bool.not_true, Bool.not_false, List.nil_append, List.cons_append]))

local macro_rules | `(tactic| walk_at "sn") => `(tactic| first
  | with_reducible refine x_seq ?_ | with_reducible refine x_ret ?_ | with_reducible refine x_retN ?_ | with_reducible refine x_next ?_ | with_reducible refine x_drop ?_ | with_reducible refine x_asg ?_
  | with_reducible refine x_par ?_ | with_reducible refine x_par3 ?_ | with_reducible refine x_sfld ?_ | ((with_reducible show tVar _ _ _ _); refine x_var rfl ?_) | with_reducible refine x_c ?_ | with_reducible refine x_op ?_ | with_reducible refine x_un ?_
  | with_reducible refine x_chain ?_ | with_reducible refine x_andV ?_ | with_reducible refine x_orV ?_ | with_reducible refine x_notV ?_ | with_reducible refine x_ifE ?_ | with_reducible refine x_nil ?_ | with_reducible refine x_cons ?_ | with_reducible refine x_star ?_
  | with_reducible refine x_tup ?_ | with_reducible refine x_lst ?_ | with_reducible refine x_cb ?_ | with_reducible refine x_call ?_ | with_reducible refine x_meth ?_ | with_reducible refine x_make ?_ | with_reducible refine x_fld ?_ | with_reducible refine x_bm0 ?_ | with_reducible refine x_bm ?_
  | with_reducible refine x_sl ?_ | with_reducible refine x_no ?_ | with_reducible refine x_part ?_ | with_reducible refine x_rev ?_ | with_reducible refine x_fmtD ?_ | with_reducible refine x_test ?_ | with_reducible refine x_tB ?_ | with_reducible refine x_and ?_ | with_reducible refine x_or ?_ | with_reducible refine x_not ?_ | with_reducible refine x_yes ?_
  | with_reducible refine x_gname ?_ | with_reducible refine x_gtup ?_ | with_reducible refine x_gnil ?_ | with_reducible refine x_gcons ?_ | with_reducible refine x_gsub ?_ | with_reducible refine x_iList ?_ | with_reducible refine x_iStr ?_ | with_reducible refine x_iRng1 ?_ | with_reducible refine x_iEnumQ ?_
  | with_reducible refine x_lc ?_ | with_reducible refine x_dc ?_ | with_reducible refine x_iKeys ?_ | with_reducible refine x_iVals ?_ | with_reducible refine x_iItems ?_ | with_reducible refine x_forW ?_ | with_reducible refine x_iSeq ?_ | with_reducible refine x_ixO ?_
  | with_reducible refine x_listVals ?_ | with_reducible refine x_listItems ?_ | with_reducible refine i_I0 ?_ | with_reducible refine i_U ?_ | with_reducible refine iteT ?_ | with_reducible refine iteF ?_ | with_reducible refine iteNT ?_ | with_reducible refine iteNF ?_ | with_reducible refine x_bl ?_ | with_reducible refine x_int ?_ | with_reducible refine i_add ?_ | with_reducible refine i_int1 ?_ | with_reducible refine i_abs ?_ | with_reducible refine i_max ?_ | with_reducible refine i_min ?_)
local macro_rules | `(tactic| walk_at "gn") => `(tactic| repeat (first | walk_at "sn" | dsimp only [Bool.not_true, Bool.not_false, List.nil_append, List.cons_append]))

theorem x_iZip {K : PySem.W.Frag} {ta : TA} {σ : L2.St} {H : Hp} {R : It → Hp → Prop} (h : ta σ H fun vs H1 => ∃ a b xs ys, vs = [.ref a, .ref b] ∧ SqL K H1 a xs ∧ SqL K H1 b ys ∧ R (Itz K a b) H1) : iZip K ta σ H R := h
theorem map_atA {α β : Type} {f : α → β} {l : List α} {i : Nat} {y : β} (h : (l.map f)[i]? = some y) : ∃ a, l[i]? = some a ∧ y = f a := by
  rw [List.getElem?_map] at h
  cases q : l[i]? with
  | none => rw [q] at h; cases h
  | some a =>
    rw [q] at h
    cases h
    exact ⟨a, rfl, rfl⟩
/-- a statement with one end for all its ways -/
theorem seq_fin {t : TS} {N : L2.St → Hp → Prop} {R : VK} {B C : L2.St → Hp → Prop} {σ : L2.St} {H : Hp} (Pre : L2.St → Hp → Prop) (fin : ∀ σ' H', Pre σ' H' → N σ' H') (go : ∀ N', (∀ σ' H', Pre σ' H' → N' σ' H') → t ⟨N', R, B, C⟩ σ H) : t ⟨N, R, B, C⟩ σ H := go N fin
def tupB (p : Str × Int) : Dt := .tup [.str p.1, .int p.2]
section
variable {K : PySem.W.Frag} {S H : Hp} {Q : VK} {a : Addr}
theorem tupB_bgs (b : Bd) : (bgs b).map (fun g => Dt.tup [keyD g.1, g.2]) = b.map tupB := by
  unfold bgs
  rw [List.map_map]
  rfl
theorem bgs_merge {b : Bd} (nd : (keys b).Nodup) : mergeG [] (bgs b) = bgs b := by
  rw [mergeG_nd]
  · rfl
  · rw [List.nil_append, bgs_keys]
    exact List.Pairwise.map _ (fun a b h e => h (Sum.inr.inj e)) nd
/-- dict(pairs) of a bundle -/
theorem i_dictB {b : Bd} {xs : List V} (nd : (keys b).Nodup) (f : Ex S H) (h : H a = some (.lst xs)) (d : DvAll K S xs (b.map tupB)) (q : ∀ p, H p = none → Q (.ref p) (upd H p (.dK (bkv b)))) : rDictP K [.ref a] H Q := by
  rw [← tupB_bgs] at d
  refine i_dictP f h d fun p kvs hp hk dv => ?_
  rw [bgs_merge nd] at hk dv
  rw [bkv_inv hk dv]
  exact q p hp
/-- a list of ints laid anew -/
theorem dvAll_ints {S : Hp} : ∀ (is : List Int), DvAll K S (is.map V.int) (is.map Dt.int)
  | [] => .nil
  | i :: r => .cons (.int i) (dvAll_ints r)
theorem newI {L : List Addr} {S0 H0 : Hp} {p : Addr} (g : Gr L S0 H0 S H) (hp : H p = none) (is : List Int) : Gr L S0 H0 (upd S p (.lst (is.map V.int))) (upd H p (.lst (is.map V.int))) ∧ SqD K (upd S p (.lst (is.map V.int))) (.ref p) (is.map Dt.int) ∧ Ex S (upd S p (.lst (is.map V.int))) := by
  obtain ⟨g1, d1, e1⟩ := newLD (K := K) g hp (dvAll_ints is)
  exact ⟨g1, .l d1, e1⟩
theorem potS {S H : Hp} {p l : Addr} {o : HO} (k : PotOk S H p) (hl : H l = none) : PotOk (upd S l o) (upd H l o) p := (k.new hl).frz (k.neq hl)
end
theorem sum_abs {B : Nat} : ∀ (l : List Int), (∀ i ∈ l, i.natAbs ≤ B) → l.sum.natAbs ≤ B * l.length
  | [], _ => by simp
  | i :: r, h => by
    have h1 := h i (.head _)
    have h2 := sum_abs r fun j hj => h j (.tail _ hj)
    rw [List.sum_cons, List.length_cons, Nat.mul_add, Nat.mul_one]
    omega
section
variable {P : Program} {w : World} {K : PySem.W.Frag} {mg : Str → Option Value} {base : Heap}
def spLOrd (K : PySem.W.Frag) : Sp := fun vs H Q _ => ∃ S p v gs, vs = [.ref p, v] ∧ Ex S H ∧ PotOk S H p ∧ Dv K S v (.lst (gs.map Dt.str)) ∧ gs ∈ menus ∧ ∀ S' H' u r, RowG gs r → Gr [p] S H S' H' → PotOk S' H' p → Dv K S' u (rowD r) → Q u H'
theorem b_law_order (T : Txt K mg) : Binds K (fdOf K (d_law_order.at_ K)) ["pot", "goods"] [] := T.f_law_order.bindsN fun _ _ _ _ _ _ us hl => match us, hl with | [_, _], _ => rfl
theorem ok_law_order (T : Txt K mg) : FO P w K mg base 3 d_law_order ["pot", "goods"] (spLOrd K) := by
  have G_law_draw := ok_law_draw (P := P) (w := w) (base := base) T
  have G_law_pick := ok_law_pick (P := P) (w := w) (base := base) T
  have G_law_mixed := ok_law_mixed (P := P) (w := w) (base := base) T
  refine T.f_law_order.ok sc_law_order (fun vs H Q E h => ?_) (fun cdv A outer s H vs Q E hr h => ?_)
  · obtain ⟨S, p, v, gs, rfl, _⟩ := h
    rfl
  · obtain ⟨S, p, v, gs, rfl, f, k, dg, hg, q⟩ := h
    have hu := hr.units
    obtain ⟨mg1, mg2, mg3, mg4⟩ := menu_all hg
    refine ⟨_, (pss_cons (ps_par (i := 2) (j := 3) rfl sc_law_order.nd rfl rfl (by decide) rfl rfl (pa_cons pe_dnewK (pa_cons (pe_call G_law_draw (hr.mono (by decide)) rfl T.g_law_draw T.f_law_draw.kp (b_law_draw T) .nil pass0 (pa_cons (pv 0) (pa_cons pe_int pa_nil))) pa_nil)) (by rfl))
    (pss_cons (ps_if (pt_cmpR op_lt (pv 3) pe_int (nomark _)) (pss_one (ps_set (i := 2) sc_law_order.nd rfl (Or.inl rfl) (pe_callTy (show CallR _ _ (rDictP K) from call_dictP' rfl) (by rfl) T.b_dict (by decide +kernel) (pa_cons (pe_lc (own := [("good", 6)]) rfl sc_law_order.nd (pi_list (pv 1)) (blkOk_by (N := ["pot", "goods", "bundle", "way", "limit", "many", "good", "sign"]) (sc := defScope s_law_order) (by decide +kernel)) (fun _ _ _ _ _ => (pg_name (i := 6) sc_law_order.nd rfl (.inl rfl))) (fun _ _ _ _ _ => pts_nil) (fun _ _ _ _ _ => (pe_tup (pa_cons (pv 6) (pa_cons (pe_call G_law_pick (hr.mono (by decide)) rfl T.g_law_pick T.f_law_pick.kp (b_law_pick T) .nil pass0 (pa_cons (pv 0) (pa_cons (pe_lst (pa_cons pe_int (pa_cons (pe_un un_neg pe_int) (pa_cons pe_int (pa_cons pe_int (pa_cons (pe_un un_neg pe_int) pa_nil)))))) pa_nil))) pa_nil))))) pa_nil)))) (pss_one (ps_if (pt_cmpR op_lt (pv 3) pe_int (nomark _)) (pss_one (ps_asg (pe_call G_law_pick (hr.mono (by decide)) rfl T.g_law_pick T.f_law_pick.kp (b_law_pick T) .nil pass0 (pa_cons (pv 0) (pa_cons (pe_lst (pa_cons pe_int (pa_cons (pe_un un_neg pe_int) (pa_cons pe_int (pa_cons (pe_un un_neg pe_int) (pa_cons pe_int (pa_cons (pe_un un_neg pe_int) (pa_cons pe_int pa_nil)))))))) pa_nil))) (pg_sub (pv 2) (pe_call G_law_pick (hr.mono (by decide)) rfl T.g_law_pick T.f_law_pick.kp (b_law_pick T) .nil pass0 (pa_cons (pv 0) (pa_cons (pv 1) pa_nil))) (set_dict (units1 hr))))) (pss_one (ps_if (pt_cmpR op_eq (pv 3) pe_int (nomark _)) (pss_one (ps_set (i := 2) sc_law_order.nd rfl (Or.inl rfl) (pe_callTy (show CallR _ _ (rDictP K) from call_dictP' rfl) (by rfl) T.b_dict (by decide +kernel) (pa_cons (pe_lc (own := [("good", 6), ("sign", 7)]) rfl sc_law_order.nd (pi_zip rfl T.b_zip (pa_cons (pe_call G_law_mixed (hr.mono (by decide)) rfl T.g_law_mixed T.f_law_mixed.kp (b_law_mixed T) .nil pass0 (pa_cons (pv 0) (pa_cons (pv 1) pa_nil))) (pa_cons (pe_lst (pa_cons pe_int (pa_cons (pe_un un_neg pe_int) pa_nil))) pa_nil))) (blkOk_by (N := ["pot", "goods", "bundle", "way", "limit", "many", "good", "sign"]) (sc := defScope s_law_order) (by decide +kernel)) (fun _ _ _ _ _ => (show PG _ _ (gTup K 2 _) from (pg_tup rfl (pgs_cons (pg_name (i := 6) sc_law_order.nd rfl (.inl rfl)) (pgs_cons (pg_name (i := 7) sc_law_order.nd rfl (.inl rfl)) pgs_nil))))) (fun _ _ _ _ _ => pts_nil) (fun _ _ _ _ _ => (pe_tup (pa_cons (pv 6) (pa_cons (pe_op op_mul (pv 7) (pe_op (show OpR _ _ (rAddX K) from op_addX) pe_int (pe_call G_law_draw (hr.mono (by decide)) rfl T.g_law_draw T.f_law_draw.kp (b_law_draw T) .nil pass0 (pa_cons (pv 0) (pa_cons pe_int pa_nil))))) pa_nil))))) pa_nil)))) pss_nil)))))
    (pss_cons (ps_par (i := 4) (j := 5) rfl sc_law_order.nd rfl rfl (by decide) rfl rfl (pa_cons (pe_op op_sub pe_int (pe_call G_law_draw (hr.mono (by decide)) rfl T.g_law_draw T.f_law_draw.kp (b_law_draw T) .nil pass0 (pa_cons (pv 0) (pa_cons pe_int pa_nil)))) (pa_cons (pe_callB (cr_sum rfl) (by rfl) T.b_sum (by decide +kernel) (pa_cons (pe_listVals rfl (pv 2) (by rfl) T.b_list (by decide +kernel)) pa_nil)) pa_nil)) (by rfl))
    (pss_cons (ps_if (pt_cmpR op_gt (pe_call G_law_draw (hr.mono (by decide)) rfl T.g_law_draw T.f_law_draw.kp (b_law_draw T) .nil pass0 (pa_cons (pv 0) (pa_cons pe_int pa_nil))) pe_int (nomark _)) (pss_one (ps_set (i := 4) sc_law_order.nd rfl (Or.inl rfl) (pe_op (show OpR _ _ (rAddX K) from op_addX) (pe_op op_mul (pv 5) (pe_call G_law_draw (hr.mono (by decide)) rfl T.g_law_draw T.f_law_draw.kp (b_law_draw T) .nil pass0 (pa_cons (pv 0) (pa_cons pe_int pa_nil)))) (pe_call G_law_pick (hr.mono (by decide)) rfl T.g_law_pick T.f_law_pick.kp (b_law_pick T) .nil pass0 (pa_cons (pv 0) (pa_cons (pe_lst (pa_cons pe_int (pa_cons pe_int (pa_cons pe_int (pa_cons (pe_un un_neg pe_int) (pa_cons pe_int (pa_cons (pe_un un_neg pe_int) pa_nil))))))) pa_nil)))))) pss_nil)
    (pss_one (ps_ret (pe_tup (pa_cons (pe_call G_law_pick (hr.mono (by decide)) rfl T.g_law_pick T.f_law_pick.kp (b_law_pick T) .nil pass0 (pa_cons (pv 0) (pa_cons (pe_lst (pa_cons pe_str (pa_cons pe_str (pa_cons pe_str pa_nil)))) pa_nil))) (pa_cons (pv 2) (pa_cons (pv 4) (pa_cons (pe_call G_law_pick (hr.mono (by decide)) rfl T.g_law_pick T.f_law_pick.kp (b_law_pick T) .nil pass0 (pa_cons (pv 0) (pa_cons (pe_lst (pa_cons pe_int (pa_cons pe_int (pa_cons pe_int (pa_cons pe_int (pa_cons pe_int (pa_cons pe_int pa_nil))))))) pa_nil))) pa_nil))))))))))), ?_⟩
    have z5 : ∀ n, n ≤ 16777216 → n ≤ sizeLine := fun n h => by rw [sizeLine_eq]; exact h
    obtain ⟨ga, gx, rfl, ha, hx⟩ := dg.lst_inv
    cases dvAll_strs_inv hx
    have gl : (gs.map Dt.str).length = gs.length := List.length_map ..
    walk_at "gn"
    refine fun b hb => ?_
    have nb : p ≠ b := k.neq hb
    have g0 : Gr [p] S H S (upd H b (.dK [])) := Gr.newO f hb
    have k0 := k.new (o := .dK []) hb
    have sb : S b = none := fresh_back f hb
    walk_at "gn"
    refine ⟨S, p, _, rfl, g0.i, k0, by decide, by decide, fun H1 way hw g1' k1 => ?_⟩
    have g1 := g0.trans g1' fun x hx => .inl hx
    have hb1 : H1 b = some (.dK []) := g1'.h _ _ (nmem1 nb) upd_same
    walk_at "gn"
    refine ⟨_, _, rfl, ?_⟩
    walk_at "gn"
    have f1 := g1.i
    refine seq_fin (fun σ' H' => ∃ S' b bd w, σ' = [some (.ref p), some (.ref ga), some (.ref b), w, none, none, none, none] ∧ Gr [p] S H S' H' ∧ PotOk S' H' p ∧ S' b = none ∧ H b = none ∧ H' b = some (.dK (bkv bd)) ∧
      (keys bd).Nodup ∧ (∀ k ∈ keys bd, k ∈ gs) ∧ ∀ q ∈ bd, q.2.natAbs ≤ 4) ?_ ?_
    · rintro σ' H2 ⟨S2, b, bd, w, rfl, g2, k2, sb, hb, hb2, nd, kg, vb⟩
      have nb : p ≠ b := k.neq hb
      have bz : bd.length ≤ 4 := by
        have := nodup_len nd kg
        have l : (keys bd).length = bd.length := List.length_map ..
        omega
      walk_at "gn"
      refine ⟨S2, p, _, rfl, g2.i, k2, by decide, by decide, fun H3 n hn g3 k3 => ?_⟩
      have hb3 := g3.h _ _ (nmem1 nb) hb2
      walk_at "gn"
      refine ⟨b, bkv bd, rfl, hb3, fun l hl => ?_⟩
      have ev : (bkv bd).map (·.2) = (bd.map (·.2)).map V.int := by
        unfold bkv
        rw [List.map_map, List.map_map]
        rfl
      walk_at "gn"
      refine ⟨l, bd.map (·.2), rfl, sq_of (by rw [upd_same, ev]), ?_⟩
      have g4 := (g2.trans g3 fun x hx => .inl hx).then (Gr.newO (o := .lst ((bkv bd).map fun q => q.2)) g3.i hl)
      have k4 := k3.new (o := .lst ((bkv bd).map fun q => q.2)) hl
      have hb4 : (upd H3 l (.lst ((bkv bd).map fun q => q.2))) b = some (.dK (bkv bd)) := by
        rw [upd_ne fun e => by rw [← e, hb3] at hl; cases hl]
        exact hb3
      have many : (List.map (fun (q : Str × Int) => q.2) bd).sum.natAbs ≤ 16 := by
        have := sum_abs (B := 4) (List.map (fun (q : Str × Int) => q.2) bd) fun i hi => by
          obtain ⟨q, hq, rfl⟩ := List.mem_map.mp hi
          exact vb q hq
        rw [List.length_map] at this
        omega
      generalize (List.map (fun (q : Str × Int) => q.2) bd).sum = mn at many ⊢
      walk_at "gn"
      refine ⟨_, _, rfl, ?_⟩
      walk_at "gn"
      refine seq_fin (fun σ' H' => ∃ S' lim, σ' = [some (.ref p), some (.ref ga), some (.ref b), w, some (.int lim), some (.int mn), none, none] ∧ Gr [p] S H S' H' ∧ PotOk S' H' p ∧ S' b = none ∧ H' b = some (.dK (bkv bd)) ∧ lim.natAbs ≤ 100) ?_ ?_
      · rintro σ' H5 ⟨S5, lim, rfl, g5, k5, sb5, hb5, l5⟩
        walk_at "go"
        refine ⟨z5 _ (by show 3 ≤ 16777216; decide), fun l1 hl1 => ?_⟩
        obtain ⟨g6, d6, e6⟩ := newLD (K := K) (L := [p]) g5 hl1 (dvAll_strs (K := K) houses)
        have k6 := potS (o := .lst (houses.map V.str)) k5 hl1
        have nb1 : b ≠ l1 := fun e => by rw [← e, hb5] at hl1; cases hl1
        walk_at "go"
        refine ⟨_, p, _, _, rfl, g6.i, k6, .l d6, by simp [houses], by show 3 < 1000000; decide, fun H7 j dd u hj du g7 k7 => ?_⟩
        obtain ⟨ho, hho, rfl⟩ := map_at hj
        cases du.str_inv
        have g67 := g6.trans g7 fun x hx => .inl hx
        have hb7 := g7.h _ _ (nmem1 nb) (show (upd H5 l1 (.lst (houses.map V.str))) b = _ by rw [upd_ne nb1]; exact hb5)
        walk_at "go"
        refine ⟨z5 _ (by show 6 ≤ 16777216; decide), fun l2 hl2 => ?_⟩
        obtain ⟨g8, d8, e8⟩ := newI (K := K) (L := [p]) g67 hl2 [1, 2, 3, 1, 5, 0]
        have k8 := potS (o := .lst (([1, 2, 3, 1, 5, 0] : List Int).map V.int)) k7 hl2
        have nb2 : b ≠ l2 := fun e => by rw [← e, hb7] at hl2; cases hl2
        walk_at "go"
        refine ⟨_, p, _, _, rfl, g8.i, k8, d8, by simp, by show 6 < 1000000; decide, fun H9 j2 dd2 u2 hj2 du2 g9 k9 => ?_⟩
        obtain ⟨mo, hmo, rfl⟩ := map_at hj2
        cases du2.int_inv
        have m10 : 0 ≤ mo ∧ mo ≤ 10 := by
          have : ∀ n ∈ ([1, 2, 3, 1, 5, 0] : List Int), 0 ≤ n ∧ n ≤ 10 := by decide
          exact this mo (List.mem_of_getElem? hmo)
        have g89 := g8.trans g9 fun x hx => .inl hx
        have hb9 := g9.h _ _ (nmem1 nb) (show (upd H7 l2 (.lst (([1, 2, 3, 1, 5, 0] : List Int).map V.int))) b = _ by rw [upd_ne nb2]; exact hb7)
        have sb9 : (upd (upd S5 l1 (.lst (houses.map V.str))) l2 (.lst (([1, 2, 3, 1, 5, 0] : List Int).map V.int))) b = none := by rw [upd_ne nb2, upd_ne nb1]; exact sb5
        walk_at "go"
        refine ⟨z5 _ (by show 4 ≤ 16777216; decide), fun t ht => ?_⟩
        have nbt : b ≠ t := fun e => by rw [← e, hb9] at ht; cases ht
        have g10 := g89.frzN hb sb9 hb9
        have k10 := k9.frz (o := .dK (bkv bd)) nb
        have g11 := g10.then (Gr.newF (o := .tup [.str ho, .ref b, .int lim, .int mo]) g10.i ht)
        refine q _ _ _ ⟨ho, bd, lim, mo⟩ ⟨List.mem_of_getElem? hho, nd, kg, fun q hq => by have := vb q hq; omega, l5, m10⟩ g11 (potS k10 ht) ?_
        refine dv_tup_new (fresh_back g10.i ht) (.cons (.str _) (.cons ?_ (.cons (.int _) (.cons (.int _) .nil))))
        exact bd_of upd_same
      · intro N fin
        walk_at "go"
        refine ⟨S2, p, _, rfl, g4.i, k4, by decide, by decide, fun H5 n5 hn5 g5 k5 => ?_⟩
        have hb5 := g5.h _ _ (nmem1 nb) hb4
        have g45 := g4.trans g5 fun x hx => .inl hx
        walk_at "go"
        by_cases c : 0 < (n5 : Int)
        · rw [decide_eq_true c]
          walk_at "go"
          refine ⟨S2, p, _, rfl, g45.i, k5, by decide, by decide, fun H6 n6 hn6 g6 k6 => ?_⟩
          have hb6 := g6.h _ _ (nmem1 nb) hb5
          have g46 := g45.trans g6 fun x hx => .inl hx
          walk_at "go"
          refine i_I (.inl (by omega)) ?_
          walk_at "go"
          refine ⟨z5 _ (by show 6 ≤ 16777216; decide), fun l7 hl7 => ?_⟩
          obtain ⟨g7, d7, e7⟩ := newI (K := K) (L := [p]) g46 hl7 [0, 0, 1, -1, 3, -5]
          have k7 := potS (o := .lst (([0, 0, 1, -1, 3, -5] : List Int).map V.int)) k6 hl7
          have nb7 : b ≠ l7 := fun e => by rw [← e, hb6] at hl7; cases hl7
          walk_at "go"
          refine ⟨_, p, _, _, rfl, g7.i, k7, d7, by simp, by show 6 < 1000000; decide, fun H8 j dd u hj du g8 k8 => ?_⟩
          obtain ⟨n8, hn8, rfl⟩ := map_at hj
          cases du.int_inv
          have b8 : n8.natAbs ≤ 5 := by
            have : ∀ n ∈ ([0, 0, 1, -1, 3, -5] : List Int), n.natAbs ≤ 5 := by decide
            exact this n8 (List.mem_of_getElem? hn8)
          walk_at "go"
          have lm : (mn * (n6 : Int) + n8).natAbs ≤ 100 := by
            have a1 : (mn * (n6 : Int)).natAbs = mn.natAbs * n6 := by rw [Int.natAbs_mul]; rfl
            have a2 : mn.natAbs * n6 ≤ 16 * 5 := Nat.mul_le_mul many (by omega)
            omega
          exact fin _ _ ⟨_, _, rfl, g7.trans g8 fun x hx => .inl hx, k8, by rw [upd_ne nb7]; exact sb, g8.h _ _ (nmem1 nb) (by rw [upd_ne nb7]; exact hb6), lm⟩
        · rw [decide_eq_false c]
          walk_at "go"
          exact fin _ _ ⟨S2, _, rfl, g45, k5, sb, hb5, by omega⟩
    · intro N fin
      walk_at "go"
      by_cases w2 : (way : Int) < 2
      · rw [decide_eq_true w2]
        walk_at "go"
        refine ⟨ga, rfl, ⟨_, sq_of (f1 _ _ ha)⟩, fun D hD => ?_⟩
        have nD : p ≠ D := k1.neq hD
        refine lc_G (K := K) (L := [p]) (walk_listD (S := S) ha hx) (fun i ds S1 Hc => PotOk S1 Hc p ∧ ∃ bd : Bd, ds = bd.map tupB ∧ keys bd = gs.take i ∧ ∀ q ∈ bd, q.2.natAbs ≤ 4) f1 hD (nmem1 nD) (by rw [gl]; omega) ?_ ?_ ?_ ?_ ?_
        · exact ⟨k1.new hD, [], rfl, by simp [keys], fun q hq => nomatch hq⟩
        · rintro i ds S1 Hc o ⟨k', bd, e, kb, vb⟩ s1
          exact ⟨k'.mut nD, bd, e, kb, vb⟩
        · rintro i ds S1 Hc g _
          exact g.s.trans g.i
        · rintro i x ds S1 Hc Hc' Qe Nx hi g ⟨k2, bd, rfl, kb, vb⟩ ⟨rfl, d, hd, dx⟩ q1 q2
          obtain ⟨z, hz, rfl⟩ := map_at hd
          cases dx.str_inv
          walk_at "go"
          refine ⟨rfl, ?_⟩
          walk_at "go"
          refine ⟨z5 _ (by show 5 ≤ 16777216; decide), fun l hl => ?_⟩
          obtain ⟨g3, d3, e3⟩ := newI (K := K) (L := [p]) (Gr.refl g.i) hl [1, -1, 0, 2, -2]
          have k3 := potS (o := .lst (([1, -1, 0, 2, -2] : List Int).map V.int)) k2 hl
          walk_at "go"
          refine ⟨_, p, _, _, rfl, g3.i, k3, d3, by simp, by show 5 < 1000000; decide, fun H4 j dd u hj du g4 k4 => ?_⟩
          obtain ⟨n, hn, rfl⟩ := map_at hj
          cases du.int_inv
          have n4 : n.natAbs ≤ 4 := by
            have : ∀ n ∈ ([1, -1, 0, 2, -2] : List Int), n.natAbs ≤ 4 := by decide
            exact this n (List.mem_of_getElem? hn)
          walk_at "go"
          refine ⟨z5 _ (by show 2 ≤ 16777216; decide), fun t ht => ?_⟩
          obtain ⟨g5, d5⟩ := pair_new (K := K) (g3.trans g4 fun x hx => .inl hx) ht (.str z) (.int n)
          refine q1 _ _ _ (tupB (z, n)) g5 d5 ⟨potS k4 ht, bd ++ [(z, n)], by rw [List.map_append]; rfl, ?_, fun q hq => ?_⟩
          · unfold keys at kb ⊢
            rw [List.map_append, kb, List.take_add_one, hz]
            rfl
          · rcases List.mem_append.mp hq with h | h
            · exact vb q h
            · have : q = (z, n) := by simpa using h
              rw [this]
              exact n4
        · rintro S2 H2 xs ds g2 s2 hl2 dv2 ⟨k2, bd, rfl, kb, vb⟩
          rw [gl, List.take_length] at kb
          have nd : (keys bd).Nodup := by rw [kb]; exact mg3
          walk_at "go"
          refine i_dictB nd g2.i hl2 dv2 fun b2 hb2 => ?_
          walk_at "go"
          have g3 := g1.trans g2 fun x hx => .inl hx
          refine fin _ _ ⟨S2, b2, bd, _, rfl, g3.then (Gr.newO g3.i hb2), k2.new hb2, fresh_back g3.i hb2, g3.back hb2 (nmem1 (k2.neq hb2)), upd_same, nd, fun k hk => by rwa [kb] at hk, vb⟩
      · rw [decide_eq_false w2]
        walk_at "go"
        by_cases w7 : (way : Int) < 7
        · rw [decide_eq_true w7]
          walk_at "go"
          refine ⟨z5 _ (by show 7 ≤ 16777216; decide), fun l hl => ?_⟩
          obtain ⟨g3, d3, e3⟩ := newI (K := K) (L := [p]) g1 hl [1, -1, 1, -1, 2, -2, 3]
          have k3 := potS (o := .lst (([1, -1, 1, -1, 2, -2, 3] : List Int).map V.int)) k1 hl
          have nlb : b ≠ l := fun e => by rw [← e, hb1] at hl; cases hl
          walk_at "go"
          refine ⟨_, p, _, _, rfl, g3.i, k3, d3, by simp, by show 7 < 1000000; decide, fun H4 j dd u hj du g4 k4 => ?_⟩
          obtain ⟨n, hn, rfl⟩ := map_at hj
          cases du.int_inv
          have n4 : n.natAbs ≤ 4 := by
            have : ∀ n ∈ ([1, -1, 1, -1, 2, -2, 3] : List Int), n.natAbs ≤ 4 := by decide
            exact this n (List.mem_of_getElem? hn)
          walk_at "go"
          have g34 := g3.trans g4 fun x hx => .inl hx
          refine ⟨_, p, _, _, rfl, g34.i, k4, .l (dg.mono e3), by intro e; exact mg4 (List.map_eq_nil_iff.mp e), by rw [gl]; omega, fun H5 j2 dd2 u2 hj2 du2 g5 k5 => ?_⟩
          obtain ⟨z, hz, rfl⟩ := map_at hj2
          cases du2.str_inv
          have hb5 : H5 b = some (.dK []) := g5.h _ _ (nmem1 nb) (g4.h _ _ (nmem1 nb) (by rw [upd_ne nlb]; exact hb1))
          walk_at "go"
          refine i_put (k := .inr z) hb5 (by simp) ?_
          have g35 := g34.trans g5 fun x hx => .inl hx
          have sb5 : (upd S l (.lst (([1, -1, 1, -1, 2, -2, 3] : List Int).map V.int))) b = none := by rw [upd_ne nlb]; exact sb
          refine fin _ _ ⟨_, b, [(z, n)], _, rfl, g35.mutN hb sb5, k5.mut nb, sb5, hb, upd_same, by simp [keys], fun k hk => ?_, fun q hq => ?_⟩
          · have : k = z := by simpa [keys] using hk
            rw [this]
            exact List.mem_of_getElem? hz
          · have : q = (z, n) := by simpa using hq
            rw [this]
            exact n4
        · rw [decide_eq_false w7]
          walk_at "go"
          by_cases w8 : (way : Int) = 7
          · refine x_sameI (b := true) (decide_eq_true w8) ?_
            walk_at "go"
            refine x_iZip ?_
            walk_at "go"
            refine ⟨S, p, ga, gs, rfl, f1, k1, .inl (sq_of (f1 _ _ ha)), by omega, fun H2 l gs' pm g2 k2 hl0 hl => ?_⟩
            have g12 := g1.trans g2 fun x hx => .inl hx
            walk_at "go"
            refine ⟨z5 _ (by show 2 ≤ 16777216; decide), fun l2 hl2 => ?_⟩
            obtain ⟨g3, d3, e3⟩ := newI (K := K) (L := [p]) g12 hl2 [1, -1]
            have k3 := potS (o := .lst (([1, -1] : List Int).map V.int)) k2 hl2
            have nll : l ≠ l2 := fun e => by rw [← e, hl] at hl2; cases hl2
            have hl3 : (upd H2 l2 (.lst (([1, -1] : List Int).map V.int))) l = some (.lst (gs'.map V.str)) := by rw [upd_ne nll]; exact hl
            have hl23 : (upd H2 l2 (.lst (([1, -1] : List Int).map V.int))) l2 = some (.lst (([1, -1] : List Int).map V.int)) := upd_same
            have npl : p ≠ l := k1.neq hl0
            have npl2 : p ≠ l2 := k2.neq hl2
            have gz : gs'.length = gs.length := pm.length_eq
            walk_at "go"
            refine ⟨l, l2, gs'.map V.str, ([1, -1] : List Int).map V.int, rfl, sq_of hl3, sq_of hl23, fun D hD => ?_⟩
            have nD : p ≠ D := k3.neq hD
            refine lc_G (K := K) (L := [p]) (walk_zip (xs := gs'.map V.str) (ys := ([1, -1] : List Int).map V.int) (n := min gs'.length 2) (by rw [List.length_map]; rfl)) (fun i ds S1 Hc => PotOk S1 Hc p ∧ ∃ bd : Bd, ds = bd.map tupB ∧ keys bd = gs'.take i ∧ ∀ q ∈ bd, q.2.natAbs ≤ 4) g3.i hD (nmem1 nD) (by omega) ?_ ?_ ?_ ?_ ?_
            · exact ⟨k3.new hD, [], rfl, by simp [keys], fun q hq => nomatch hq⟩
            · rintro i ds S1 Hc o ⟨k', bd, e, kb, vb⟩ s1
              exact ⟨k'.mut nD, bd, e, kb, vb⟩
            · rintro i ds S1 Hc g _
              exact ⟨sq_of (g.h _ _ (nmem1 npl) hl3), sq_of (g.h _ _ (nmem1 npl2) hl23)⟩
            · rintro i x ds S1 Hc Hc' Qe Nx hi g ⟨k4, bd, rfl, kb, vb⟩ ⟨T1, x', y', rfl, hT, rfl, ex, ey⟩ q1 q2
              obtain ⟨z, hz, rfl⟩ := map_atA (show (gs'.map V.str)[i]? = some x' from ex)
              obtain ⟨sg, hsg, rfl⟩ := map_atA (show (([1, -1] : List Int).map V.int)[i]? = some y' from ey)
              have sg1 : sg.natAbs = 1 := by
                have : ∀ n ∈ ([1, -1] : List Int), n.natAbs = 1 := by decide
                exact this sg (List.mem_of_getElem? hsg)
              refine i_pair ?_
              walk_at "go"
              refine ⟨rfl, ?_⟩
              have g4 : Gr [p] S1 Hc S1 (upd Hc T1 (.tup [.str z, .int sg])) := Gr.newO g.i hT
              have k5 := k4.new (o := .tup [.str z, .int sg]) hT
              walk_at "go"
              refine ⟨S1, p, _, rfl, g4.i, k5, by decide, by decide, fun H5 n hn g5 k6 => ?_⟩
              walk_at "go"
              refine i_I (.inl (by omega)) ?_
              walk_at "go"
              refine ⟨z5 _ (by show 2 ≤ 16777216; decide), fun t ht => ?_⟩
              obtain ⟨g6, d6⟩ := pair_new (K := K) (g4.trans g5 fun x hx => .inl hx) ht (.str z) (.int (sg * (1 + (n : Int))))
              have n4 : (sg * (1 + (n : Int))).natAbs ≤ 4 := by
                rw [Int.natAbs_mul, sg1]
                omega
              refine q1 _ _ _ (tupB (z, sg * (1 + (n : Int)))) g6 d6 ⟨potS k6 ht, bd ++ [(z, sg * (1 + (n : Int)))], by rw [List.map_append]; rfl, ?_, fun q hq => ?_⟩
              · unfold keys at kb ⊢
                rw [List.map_append, kb, List.take_add_one, hz]
                rfl
              · rcases List.mem_append.mp hq with h | h
                · exact vb q h
                · have : q = (z, sg * (1 + (n : Int))) := by simpa using h
                  rw [this]
                  exact n4
            · rintro S4 H4 xs ds g4 s4 hl4 dv4 ⟨k4, bd, rfl, kb, vb⟩
              have nd : (keys bd).Nodup := by
                rw [kb]
                exact (List.take_sublist _ _).nodup (pm.nodup_iff.mpr mg3)
              walk_at "go"
              refine i_dictB nd g4.i hl4 dv4 fun b2 hb2 => ?_
              walk_at "go"
              have g5 := g3.trans g4 fun x hx => .inl hx
              refine fin _ _ ⟨S4, b2, bd, _, rfl, g5.then (Gr.newO g5.i hb2), k4.new hb2, fresh_back g5.i hb2, g5.back hb2 (nmem1 (k4.neq hb2)), upd_same, nd, fun k hk => ?_, vb⟩
              rw [kb] at hk
              exact pm.mem_iff.mp (List.mem_of_mem_take hk)
          · refine x_sameI (b := false) (decide_eq_false w8) ?_
            walk_at "go"
            exact fin _ _ ⟨S, b, [], _, rfl, g1, k1, sb, hb, hb1, by simp [keys], fun k hk => by simp [keys] at hk, fun q hq => nomatch hq⟩
end
end K31

set_option Elab.async false
set_option linter.all false
set_option maxRecDepth 100000
set_option maxHeartbeats 4000000
/-! K31X: models, bundles, texts of the law. -/
namespace K31
open PySem PySem.Spec PyProof.Rows L2 Gd
open Evl (Ex Ex.refl Ex.trans Ex.new Ex.mut ex_t ex_l sq_of st_of fresh_back)

local macro_rules | `(tactic| walk_at "st") => `(tactic| first
  | with_reducible refine x_seq ?_ | with_reducible refine x_ret ?_ | with_reducible refine x_retN ?_ | with_reducible refine x_next ?_ | with_reducible refine x_drop ?_ | with_reducible refine x_if ?_ | with_reducible refine x_asg ?_
  | with_reducible refine x_par ?_ | with_reducible refine x_par3 ?_ | with_reducible refine x_sfld ?_ | ((with_reducible show tVar _ _ _ _); refine x_var rfl ?_) | with_reducible refine x_c ?_ | with_reducible refine x_op ?_ | with_reducible refine x_un ?_
  | with_reducible refine x_chain ?_ | with_reducible refine x_andV ?_ | with_reducible refine x_orV ?_ | with_reducible refine x_notV ?_ | with_reducible refine x_ifE ?_ | with_reducible refine x_nil ?_ | with_reducible refine x_cons ?_ | with_reducible refine x_star ?_
  | with_reducible refine x_tup ?_ | with_reducible refine x_lst ?_ | with_reducible refine x_cb ?_ | with_reducible refine x_call ?_ | with_reducible refine x_meth ?_ | with_reducible refine x_make ?_ | with_reducible refine x_fld ?_ | with_reducible refine x_bm0 ?_ | with_reducible refine x_bm ?_
  | with_reducible refine x_sl ?_ | with_reducible refine x_no ?_ | with_reducible refine x_part ?_ | with_reducible refine x_rev ?_ | with_reducible refine x_fmtD ?_ | with_reducible refine x_test ?_ | with_reducible refine x_tB ?_ | with_reducible refine x_and ?_ | with_reducible refine x_or ?_ | with_reducible refine x_not ?_ | with_reducible refine x_yes ?_
  | with_reducible refine x_gname ?_ | with_reducible refine x_gtup ?_ | with_reducible refine x_gnil ?_ | with_reducible refine x_gcons ?_ | with_reducible refine x_gsub ?_ | with_reducible refine x_iList ?_ | with_reducible refine x_iStr ?_ | with_reducible refine x_iRng1 ?_ | with_reducible refine x_iEnumQ ?_
  | with_reducible refine x_lc ?_ | with_reducible refine x_dc ?_ | with_reducible refine x_iKeys ?_ | with_reducible refine x_iVals ?_ | with_reducible refine x_iItems ?_ | with_reducible refine x_forW ?_ | with_reducible refine x_iSeq ?_ | with_reducible refine x_ixO ?_
  | with_reducible refine x_listVals ?_ | with_reducible refine x_listItems ?_ | with_reducible refine i_I0 ?_ | with_reducible refine i_U ?_ | with_reducible refine iteT ?_ | with_reducible refine iteF ?_ | with_reducible refine iteNT ?_ | with_reducible refine iteNF ?_ | with_reducible refine x_bl ?_ | with_reducible refine x_int ?_ | with_reducible refine i_add ?_ | with_reducible refine i_int1 ?_ | with_reducible refine i_abs ?_ | with_reducible refine i_max ?_ | with_reducible refine i_min ?_)
local macro_rules | `(tactic| walk_at "go") => `(tactic| repeat (first | walk_at "st" | dsimp only [Bool.not_true, Bool.not_false, List.nil_append, List.cons_append]))

section
variable {K : PySem.W.Frag} {S H : Hp} {Q : VK} {a : Addr} {α : Type} {fD : α → Dt}
/-- dict(pairs) of a table -/
theorem tgs_nd {m : List (Str × α)} (nd : (keys m).Nodup) : ((tgs fD m).map (·.1)).Nodup := by
  rw [tgs_keys]
  exact List.Pairwise.map _ (fun a b h e => h (Sum.inr.inj e)) nd
theorem i_dictM {m : List (Str × α)} {xs : List V} (nd : (keys m).Nodup) (f : Ex S H) (h : H a = some (.lst xs)) (d : DvAll K S xs (m.map fun p => .tup [.str p.1, fD p.2])) (q : ∀ p kvs, H p = none → TabIn fD K S kvs m → Q (.ref p) (upd H p (.dK kvs))) : rDictP K [.ref a] H Q := by
  have e : (m.map fun p => Dt.tup [.str p.1, fD p.2]) = (tgs fD m).map fun g => .tup [keyD g.1, g.2] := by
    unfold tgs
    rw [List.map_map]
    rfl
  rw [e] at d
  refine i_dictP f h d fun p kvs hp hk dv => ?_
  rw [mergeG_nd (by rw [List.nil_append]; exact tgs_nd nd), List.nil_append] at hk dv
  exact q p kvs hp ⟨hk, dv⟩
end
def dbl (b : Bd) : Bd := b.map fun p => (p.1, p.2 * 2)
section
variable {P : Program} {w : World} {K : PySem.W.Frag} {mg : Str → Option Value} {base : Heap}
/-! ### model -/
def spModel (K : PySem.W.Frag) : Sp := fun vs H Q _ => ∃ S p v gs, vs = [.ref p, .int 7, v] ∧ Ex S H ∧ PotOk S H p ∧ Dv K S v (.lst (gs.map Dt.str)) ∧ gs ∈ menus ∧
  ∀ S' H' a kvs m, NamesOk (keys m) → (∀ q ∈ m, RowG gs q.2) → m.length ≤ 7 → Gr [p] S H S' H' → PotOk S' H' p → H a = none → S' a = none → H' a = some (.dK kvs) → MdIn K S' kvs m → Q (.ref a) H'
theorem b_law_model (T : Txt K mg) : Binds K (fdOf K (d_law_model.at_ K)) ["pot", "most", "goods"] [] := T.f_law_model.bindsN fun _ _ _ _ _ _ us hl => match us, hl with | [_, _, _], _ => rfl
theorem ok_law_model (T : Txt K mg) : FO P w K mg base 4 d_law_model ["pot", "most", "goods"] (spModel K) := by
  have G_law_draw := ok_law_draw (P := P) (w := w) (base := base) T
  have G_law_names := ok_law_names (P := P) (w := w) (base := base) T
  have G_law_order := ok_law_order (P := P) (w := w) (base := base) T
  refine T.f_law_model.ok sc_law_model (fun vs H Q E h => ?_) (fun cdv A outer s H vs Q E hr h => ?_)
  · obtain ⟨S, p, v, gs, rfl, _⟩ := h
    rfl
  · obtain ⟨S, p, v, gs, rfl, f, k, dg, hg, q⟩ := h
    have hu := hr.units
    have z5 : ∀ n, n ≤ 16777216 → n ≤ sizeLine := fun n h => by rw [sizeLine_eq]; exact h
    refine ⟨_, (pss_one (ps_ret (pe_callTy (show CallR _ _ (rDictP K) from call_dictP' rfl) (by rfl) T.b_dict (by decide +kernel) (pa_cons (pe_lc (own := [("name", 3)]) rfl sc_law_model.nd (pi_list (pe_call G_law_names (hr.mono (by decide)) rfl T.g_law_names T.f_law_names.kp (b_law_names T) .nil pass0 (pa_cons (pv 0) (pa_cons (pe_call G_law_draw (hr.mono (by decide)) rfl T.g_law_draw T.f_law_draw.kp (b_law_draw T) .nil pass0 (pa_cons (pv 0) (pa_cons (pe_op (show OpR _ _ (rAddX K) from op_addX) (pv 1) pe_int) pa_nil))) pa_nil)))) (blkOk_by (N := ["pot", "most", "goods", "name"]) (sc := defScope s_law_model) (by decide +kernel)) (fun _ _ _ _ _ => (pg_name (i := 3) sc_law_model.nd rfl (.inl rfl))) (fun _ _ _ _ _ => pts_nil) (fun _ _ _ _ _ => (pe_tup (pa_cons (pv 3) (pa_cons (pe_call G_law_order (hr.mono (by decide)) rfl T.g_law_order T.f_law_order.kp (b_law_order T) .nil pass0 (pa_cons (pv 0) (pa_cons (pv 2) pa_nil))) pa_nil))))) pa_nil)))), ?_⟩
    walk_at "go"
    refine ⟨S, p, _, rfl, f, k, by decide, by decide, fun H1 n hn g1 k1 => ?_⟩
    walk_at "go"
    refine ⟨S, p, n, rfl, g1.i, k1, by omega, fun H2 l ns no ln g2 k2 hl0 hl => ?_⟩
    have g12 := g1.trans g2 fun x hx => .inl hx
    have npl : p ≠ l := k1.neq hl0
    refine ⟨l, rfl, ⟨_, sq_of hl⟩, fun D hD => ?_⟩
    have nD : p ≠ D := k2.neq hD
    have w := walk_list (K := K) (a := l) (xs := ns.map V.str)
    rw [List.length_map] at w
    refine lc_G (K := K) (L := [p]) w (fun i ds S1 Hc => PotOk S1 Hc p ∧ ∃ m : Ms, ds = m.map (fun q => .tup [.str q.1, rowD q.2]) ∧ keys m = ns.take i ∧ ∀ q ∈ m, RowG gs q.2) g12.i hD (nmem1 nD) (by omega) ?_ ?_ ?_ ?_ ?_
    · exact ⟨k2.new hD, [], rfl, by simp [keys], fun q hq => nomatch hq⟩
    · rintro i ds S1 Hc o ⟨k', m, e, kb, vb⟩ s1
      exact ⟨k'.mut nD, m, e, kb, vb⟩
    · rintro i ds S1 Hc g _
      exact sq_of (g.h _ _ (nmem1 npl) hl)
    · rintro i x ds S1 Hc Hc' Qe Nx hi g ⟨k3, m, rfl, kb, vb⟩ ⟨rfl, hx⟩ q1 q2
      obtain ⟨z, hz, rfl⟩ := map_atA hx
      walk_at "go"
      refine ⟨rfl, ?_⟩
      walk_at "go"
      refine ⟨S1, p, _, gs, rfl, g.i, k3, (dg.mono g.s), hg, fun S4 H4 u r hr g4 k4 du => ?_⟩
      walk_at "go"
      refine ⟨z5 _ (by show 2 ≤ 16777216; decide), fun t ht => ?_⟩
      obtain ⟨g5, d5⟩ := pair_new (K := K) g4 ht (.str z) du
      refine q1 _ _ _ (.tup [.str z, rowD r]) g5 d5 ⟨potS k4 ht, m ++ [(z, r)], by rw [List.map_append]; rfl, ?_, fun q hq => ?_⟩
      · unfold keys at kb ⊢
        rw [List.map_append, kb, List.take_add_one, hz]
        rfl
      · rcases List.mem_append.mp hq with h | h
        · exact vb q h
        · have : q = (z, r) := by simpa using h
          rw [this]
          exact hr
    · rintro S3 H3 xs ds g3 s3 hl3 dv3 ⟨k3, m, rfl, kb, vb⟩
      rw [List.take_of_length_le (Nat.le_refl _)] at kb
      have g13 := g12.trans g3 fun x hx => .inl hx
      walk_at "go"
      refine i_dictM (by rw [kb]; exact no.nd) g3.i hl3 dv3 fun a kvs ha ti => ?_
      have lm : m.length = ns.length := by rw [← kb]; exact (List.length_map ..).symm
      exact q S3 _ a kvs m (by rw [kb]; exact no) vb (by omega) (g13.then (Gr.newO g13.i ha)) (k3.new ha) (g13.back ha (nmem1 (k3.neq ha))) (fresh_back g13.i ha) upd_same ti
/-! ### bundle -/
def spLBun (K : PySem.W.Frag) : Sp := fun vs H Q _ => ∃ S v r, vs = [v] ∧ Ex S H ∧ Dv K S v (rowD r) ∧ RowB r ∧ ∀ S' H' a, Gr [] S H S' H' → H a = none → S' a = none → H' a = some (.dK (bkv (told r.bun))) → Q (.ref a) H'
theorem b_law_bundle (T : Txt K mg) : Binds K (fdOf K (d_law_bundle.at_ K)) ["row"] [] := T.f_law_bundle.bindsN fun _ _ _ _ _ _ us hl => match us, hl with | [_], _ => rfl
def toldP (b : Bd) (k : Str) : Option Dt := match look b k with
  | some i => if i = 0 then none else some (tupB (k, i))
  | none => none
theorem toldP_fm (b : Bd) : (srt (keys b)).filterMap (toldP b) = (told b).map tupB := by
  unfold told
  rw [List.map_filterMap]
  congr 1
  funext k
  unfold toldP
  cases look b k with
  | none => rfl
  | some i =>
    by_cases z : i = 0
    · simp [z]
    · simp [z]
theorem ok_law_bundle (T : Txt K mg) : FO P w K mg base 1 d_law_bundle ["row"] (spLBun K) := by
  refine T.f_law_bundle.ok sc_law_bundle (fun vs H Q E h => ?_) (fun cdv A outer s H vs Q E hr h => ?_)
  · obtain ⟨S, v, r, rfl, _⟩ := h
    rfl
  · obtain ⟨S, v, r, rfl, f, dv, ok, q⟩ := h
    have hu := units1 hr
    have z5 : ∀ n, n ≤ 16777216 → n ≤ sizeLine := fun n h => by rw [sizeLine_eq]; exact h
    obtain ⟨a, b, rfl, sa, hb⟩ := row_inv dv
    have bz := ok.few
    have kz : (keys r.bun).length = r.bun.length := List.length_map ..
    refine ⟨_, (pss_one (ps_ret (pe_callTy (show CallR _ _ (rDictP K) from call_dictP' rfl) (by rfl) T.b_dict (by decide +kernel) (pa_cons (pe_lc (own := [("good", 1)]) rfl sc_law_bundle.nd (pi_list (pe_callB (call_sortD rfl) (by rfl) T.b_sorted (by decide +kernel) (pa_cons (pe_ix (show IxR _ (rIxY K) from ix_Y (units1 hr)) (pv 0) pe_int (fun _ _ => rfl)) pa_nil))) (blkOk_by (N := ["row", "good"]) (sc := defScope s_law_bundle) (by decide +kernel)) (fun _ _ _ _ _ => (pg_name (i := 1) sc_law_bundle.nd rfl (.inl rfl))) (fun _ _ _ _ _ => (pts_one (pt_cmpR op_ne (pe_ix (show IxR _ (rIxY K) from ix_Y (units1 hr)) (pe_ix (show IxR _ (rIxY K) from ix_Y (units1 hr)) (pv 0) pe_int (fun _ _ => rfl)) (pv 1) (fun _ _ => rfl)) pe_int (nomark _)))) (fun _ _ _ _ _ => (pe_tup (pa_cons (pv 1) (pa_cons (pe_ix (show IxR _ (rIxY K) from ix_Y (units1 hr)) (pe_ix (show IxR _ (rIxY K) from ix_Y (units1 hr)) (pv 0) pe_int (fun _ _ => rfl)) (pv 1) (fun _ _ => rfl)) pa_nil))))) pa_nil)))), ?_⟩
    walk_at "go"
    refine i_ixT (j := 1) (sqT_mono f sa) rfl rfl ?_
    walk_at "go"
    refine ⟨b, bkv r.bun, keys r.bun, rfl, .inl (f _ _ hb), bkv_keys _, by omega, fun ys l pm so hl => ?_⟩
    cases srt_one pm so
    have g2 : Gr [] S H (upd S l (.lst ((srt (keys r.bun)).map V.str))) (upd H l (.lst ((srt (keys r.bun)).map V.str))) := Gr.newF f hl
    have sa2 : SqT K (upd S l (.lst ((srt (keys r.bun)).map V.str))) a [.str r.house, .ref b, .int r.lim, .int r.most] := sqT_mono g2.s sa
    have hb2 := g2.s _ _ hb
    have w := walk_listD (K := K) (S := upd S l (.lst ((srt (keys r.bun)).map V.str))) upd_same (dvAll_strs (srt (keys r.bun)))
    rw [List.length_map] at w
    refine ⟨l, rfl, ⟨_, sq_of upd_same⟩, fun D hD => ?_⟩
    have f2 := g2.i
    generalize upd S l (.lst ((srt (keys r.bun)).map V.str)) = S2 at *
    generalize upd H l (.lst ((srt (keys r.bun)).map V.str)) = H2 at *
    refine lc_E (K := K) w (toldP r.bun) f2 hD (by rw [srt_len]; omega) (fun S1 Hc g => g.s.trans g.i) ?_ ?_
    · rintro i k x S1 Hc Hc' Qe Nx hk g ⟨rfl, d, hd, dx⟩ q1 q2
      obtain ⟨z, hz, rfl⟩ := map_at hd
      rw [hk] at hz
      cases hz
      cases dx.str_inv
      obtain ⟨n, hn⟩ := look_key (srt_mem.mp (List.mem_of_getElem? hk))
      have vv : valV (bkv r.bun) (Sum.inr k) = some (.int n) := by rw [bkv_val, hn]; rfl
      have e1 : Ex S2 Hc' := g.s.trans g.i
      walk_at "go"
      refine ⟨rfl, ?_⟩
      walk_at "go"
      refine i_ixT (j := 1) (sqT_mono e1 sa2) rfl rfl ?_
      walk_at "go"
      refine i_ixDk (k := .inr k) (.inl (e1 _ _ hb2)) vv ?_
      walk_at "go"
      refine ⟨rfl, ?_⟩
      rw [show decide (V.int n = V.int 0) = decide (n = 0) by by_cases h : n = 0 <;> simp [h]]
      by_cases c : n = 0
      · rw [decide_eq_true c]
        walk_at "go"
        exact q2 S1 _ (Gr.refl g.i) (by unfold toldP; rw [hn]; simp [c])
      · rw [decide_eq_false c]
        walk_at "go"
        refine i_ixT (j := 1) (sqT_mono e1 sa2) rfl rfl ?_
        walk_at "go"
        refine i_ixDk (k := .inr k) (.inl (e1 _ _ hb2)) vv ?_
        walk_at "go"
        refine ⟨z5 _ (by show 2 ≤ 16777216; decide), fun t ht => ?_⟩
        obtain ⟨g5, d5⟩ := pair_new (K := K) (Gr.refl (L := []) g.i) ht (.str k) (.int n)
        exact q1 _ _ _ (tupB (k, n)) g5 d5 (by unfold toldP; rw [hn]; simp [c])
    · intro S3 H3 xs g3 s3 hl3 dv3
      rw [toldP_fm] at dv3
      have g13 := g2.then g3
      walk_at "go"
      refine i_dictB (told_keys_nd ok.nd).1 g3.i hl3 dv3 fun p hp => ?_
      exact q S3 _ p (g13.then (Gr.newO g13.i hp)) (g13.back hp (by simp)) (fresh_back g13.i hp) upd_same
/-! ### doubled -/
def spDbl (K : PySem.W.Frag) : Sp := fun vs H Q _ => ∃ S v r, vs = [v] ∧ Ex S H ∧ Dv K S v (rowD r) ∧ RowB r ∧ ∀ H' a, Ex H H' → H a = none → H' a = some (.dK (bkv (dbl r.bun))) → Q (.ref a) H'
theorem b_law_doubled (T : Txt K mg) : Binds K (fdOf K (d_law_doubled.at_ K)) ["row"] [] := T.f_law_doubled.bindsN fun _ _ _ _ _ _ us hl => match us, hl with | [_], _ => rfl
theorem dbl_keys (b : Bd) : keys (dbl b) = keys b := by
  unfold dbl keys
  rw [List.map_map]
  rfl
def dblP (b : Bd) (k : Key) : Option Dt := match k with
  | .inr z => (look b z).map fun n => tupB (z, n * 2)
  | .inl _ => none
theorem dblP_fm {b : Bd} (nd : (keys b).Nodup) : ((keys b).map Sum.inr).filterMap (dblP b) = (dbl b).map tupB := by
  have h : ∀ l : Bd, (∀ p ∈ l, p ∈ b) → ((keys l).map Sum.inr).filterMap (dblP b) = (dbl l).map tupB := by
    intro l
    induction l with
    | nil => intro _; rfl
    | cons p r ih =>
      intro hl
      show (Sum.inr p.1 :: (keys r).map Sum.inr).filterMap (dblP b) = tupB (p.1, p.2 * 2) :: (dbl r).map tupB
      rw [List.filterMap_cons, ← ih fun q hq => hl q (.tail _ hq)]
      have : dblP b (Sum.inr p.1) = some (tupB (p.1, p.2 * 2)) := by
        show (look b p.1).map _ = _
        rw [look_mem nd (hl p (.head _))]
        rfl
      rw [this]
  exact h b fun _ h => h
theorem sqT_ne {H : Hp} {a p : Addr} {kvs : List (Key × V)} {xs : List V} {u : HO} (hp : H p = some (.dK kvs)) (h : SqT K H a xs) : SqT K (upd H p u) a xs := by
  rcases h with h | h
  · exact .inl (rd_ne hp h fun k e => by cases e)
  · exact .inr h
theorem ok_law_doubled (T : Txt K mg) : FO P w K mg base 1 d_law_doubled ["row"] (spDbl K) := by
  refine T.f_law_doubled.ok sc_law_doubled (fun vs H Q E h => ?_) (fun cdv A outer s H vs Q E hr h => ?_)
  · obtain ⟨S, v, r, rfl, _⟩ := h
    rfl
  · obtain ⟨S, v, r, rfl, f, dv, ok, q⟩ := h
    have hu := units1 hr
    have z5 : ∀ n, n ≤ 16777216 → n ≤ sizeLine := fun n h => by rw [sizeLine_eq]; exact h
    obtain ⟨a, b, rfl, sa, hb⟩ := row_inv dv
    have bz := ok.few
    refine ⟨_, (pss_one (ps_ret (pe_callTy (show CallR _ _ (rDictP K) from call_dictP' rfl) (by rfl) T.b_dict (by decide +kernel) (pa_cons (pe_lock (pe_lc (own := [("good", 1)]) rfl sc_law_doubled.nd (pi_keys (pe_ix (show IxR _ (rIxY K) from ix_Y (units1 hr)) (pv 0) pe_int (fun _ _ => rfl))) (blkOk_by (N := ["row", "good"]) (sc := defScope s_law_doubled) (by decide +kernel)) (fun _ _ _ _ _ => (pg_name (i := 1) sc_law_doubled.nd rfl (.inl rfl))) (fun _ _ _ _ _ => pts_nil) (fun _ _ _ _ _ => (pe_tup (pa_cons (pv 1) (pa_cons (pe_op op_mul (pe_ix (show IxR _ (rIxY K) from ix_Y (units1 hr)) (pe_ix (show IxR _ (rIxY K) from ix_Y (units1 hr)) (pv 0) pe_int (fun _ _ => rfl)) (pv 1) (fun _ _ => rfl)) pe_int) pa_nil)))))) pa_nil)))), ?_⟩
    walk_at "go"
    have hb1 := f _ _ hb
    refine i_lockE hb1 fun od => ?_
    have f0 : Ex (fun _ => none) H := fun _ _ z => by cases z
    have saL : ∀ o, SqT K (upd H b o) a [.str r.house, .ref b, .int r.lim, .int r.most] := fun o => sqT_ne hb1 (sqT_mono f sa)
    walk_at "go"
    refine i_ixT (j := 1) (saL _) rfl rfl ?_
    refine ⟨b, od, rfl, .inl ⟨_, upd_same, fun D hD => ?_⟩⟩
    refine i_lcK0 (K := K) (lock_ex f0) upd_same (dblP r.bun) (by unfold bkv; rw [List.length_map]; omega) ?_ hD ?_
    · intro j k v S1 Hc Qe Nx hj g q1 q2
      obtain ⟨⟨z, n⟩, hz, e⟩ := List.mem_map.mp (List.mem_of_getElem? hj)
      cases e
      have e1 := g.nil_h
      have hlz : look r.bun z = some n := look_mem ok.nd hz
      have vv : valV (bkv r.bun) (Sum.inr z) = some (.int n) := by rw [bkv_val, hlz]; rfl
      walk_at "go"
      refine ⟨rfl, ?_⟩
      walk_at "go"
      refine i_ixT (j := 1) (ex_t e1 (saL _)) rfl rfl ?_
      walk_at "go"
      refine i_ixDk (k := .inr z) (.inr ⟨od, e1 _ _ upd_same⟩) vv ?_
      walk_at "go"
      refine i_I (.inr (by decide)) ?_
      walk_at "go"
      refine ⟨z5 _ (by show 2 ≤ 16777216; decide), fun t ht => ?_⟩
      obtain ⟨g5, d5⟩ := pair_new (K := K) (Gr.refl (L := []) g.i) ht (.str z) (.int (n * 2))
      exact q1 _ _ _ (tupB (z, n * 2)) g5 d5 (by show (look r.bun z).map _ = _; rw [hlz]; rfl)
    · intro S' H' xs g s' hl' dv
      rw [bkv_keys, dblP_fm ok.nd] at dv
      obtain ⟨b1, b2, b3, b4⟩ := lock_back (L := []) f0 hb1 (by simp) g
      have nDb : D ≠ b := fun z => by rw [z, upd_same] at hD; cases hD
      walk_at "go"
      refine ⟨b1, ?_⟩
      walk_at "go"
      refine i_dictB (by rw [dbl_keys]; exact ok.nd) b3.i (by rw [upd_ne nDb]; exact hl') (dv.mono b4) fun p hp => ?_
      exact q _ p (b3.nil_h.trans (Ex.new hp)) (fresh_back b3.nil_h hp) upd_same
/-! ### shown -/
def spShown (K : PySem.W.Frag) : Sp := fun vs H Q _ => ∃ S v r, vs = [v] ∧ Ex S H ∧ Dv K S v (rowD r) ∧ RowB r ∧ ∀ H', Ex H H' → Q (.str (ordT r)) H'
theorem b_law_shown (T : Txt K mg) : Binds K (fdOf K (d_law_shown.at_ K)) ["row"] [] := T.f_law_shown.bindsN fun _ _ _ _ _ _ us hl => match us, hl with | [_], _ => rfl
def rReprS : List V → Hp → VK → Prop := fun xs H Q => ∃ a : Str, xs = [.str a] ∧ (reprText a).length ≤ 1000000 ∧ Q (.str (reprText a)) H
theorem call_reprS {X : Cx} : CallR X (.builtin "repr") rReprS := by
  intro pins s σ H xs us Q I r h
  obtain ⟨a, rfl, hz, q⟩ := h
  obtain ⟨u, rfl, t, rfl⟩ := vals1 r
  exact PySem.P.repr_of_str ⟨.str _, H, I.tok _, ⟨_, rfl⟩, q⟩ (Nat.le_trans hz (by rw [sizeLine_eq]; decide))
theorem ok_law_shown (T : Txt K mg) : FnG P w K mg base 12 (d_law_shown.at_ K) (fdOf K (d_law_shown.at_ K)) ["row"] (spShown K) := by
  have G_law_bundle := ok_law_bundle (P := P) (w := w) (base := base) T
  refine FnG.mk_of T.f_law_shown sc_law_shown (fun vs H Q E h => ?_) (fun cdv A outer s H vs Q E gu hr h => ?_)
  · obtain ⟨S, v, r, rfl, _⟩ := h
    rfl
  · obtain ⟨S, v, r, rfl, f, dv, ok, q⟩ := h
    have hu := units1 hr
    obtain ⟨a, b, rfl, sa, hb⟩ := row_inv dv
    have sm := ok.small
    refine ⟨_, (pss_one (ps_ret (pe_op (show OpR _ _ (rAddX K) from op_addX) (pe_op (show OpR _ _ (rAddX K) from op_addX) (pe_op (show OpR _ _ (rAddX K) from op_addX) (pe_op (show OpR _ _ (rAddX K) from op_addX) (pe_op (show OpR _ _ (rAddX K) from op_addX) (pe_op (show OpR _ _ (rAddX K) from op_addX) (pe_op (show OpR _ _ (rAddX K) from op_addX) (pe_op (show OpR _ _ (rAddX K) from op_addX) pe_str (pe_callB call_reprS (by rfl) T.b_repr (by decide +kernel) (pa_cons (pe_ix (show IxR _ (rIxY K) from ix_Y (units1 hr)) (pv 0) pe_int (fun _ _ => rfl)) pa_nil))) pe_str) (pe_callB (call_reprT (n := 0) gu (hr.mono (by decide)) (insR0 _ 0)) (by rfl) T.b_repr (by decide +kernel) (pa_cons (pe_call G_law_bundle (hr.mono (by decide)) rfl T.g_law_bundle T.f_law_bundle.kp (b_law_bundle T) .nil pass0 (pa_cons (pv 0) pa_nil)) pa_nil))) pe_str) (pe_callTy call_str_int (by rfl) T.b_str (by decide +kernel) (pa_cons (pe_ix (show IxR _ (rIxY K) from ix_Y (units1 hr)) (pv 0) pe_int (fun _ _ => rfl)) pa_nil))) pe_str) (pe_callTy call_str_int (by rfl) T.b_str (by decide +kernel) (pa_cons (pe_ix (show IxR _ (rIxY K) from ix_Y (units1 hr)) (pv 0) pe_int (fun _ _ => rfl)) pa_nil))) pe_str))), ?_⟩
    have c1 : (Str.ofString "Order(").length = 6 := by decide
    have c2 : (Str.ofString ", ").length = 2 := by decide
    have c3 : (Str.ofString ")").length = 1 := by decide
    have l1 := sm.h
    have l2 := sm.b
    have l3 := sm.l2
    have l4 := sm.m2
    walk_at "go"
    refine i_ixT (j := 0) (sqT_mono f sa) rfl rfl ?_
    walk_at "go"
    refine ⟨_, rfl, by omega, ?_⟩
    refine i_addS (by omega) ?_
    walk_at "go"
    refine i_addS (by simp only [str_app_len]; omega) ?_
    walk_at "go"
    refine ⟨S, _, r, rfl, f, dv, ok, fun S1 H1 p g1 hp sp h1 => ?_⟩
    have g2 := g1.frzN (o := .dK (bkv (told r.bun))) hp sp h1
    walk_at "go"
    refine ⟨_, .ref p, bdD (told r.bun), rfl, bd_of upd_same, g2.i, sm.bo, rfl, Nat.le_trans (dpt_bd _) (by decide), Nat.le_trans l2 (by decide), fun b _ => Clear.nil b, fun H2 e2 => ?_⟩
    have l2' : (txD tx0 (bdD (told r.bun))).length ≤ 2000 := l2
    refine i_addS (by simp only [str_app_len]; omega) ?_
    walk_at "go"
    refine i_addS (by simp only [str_app_len]; omega) ?_
    walk_at "go"
    have e3 := g1.nil_h.trans e2
    have sa3 := sqT_mono (f.trans e3) sa
    refine i_ixT (j := 2) sa3 rfl rfl ?_
    walk_at "go"
    refine ⟨_, rfl, sm.l, ?_⟩
    refine i_addS (by simp only [str_app_len]; omega) ?_
    walk_at "go"
    refine i_addS (by simp only [str_app_len]; omega) ?_
    walk_at "go"
    refine i_ixT (j := 3) sa3 rfl rfl ?_
    walk_at "go"
    refine ⟨_, rfl, sm.m, ?_⟩
    refine i_addS (by simp only [str_app_len]; omega) ?_
    walk_at "go"
    refine i_addS (by simp only [str_app_len]; omega) ?_
    exact q H2 e3
end
/-- a new instance, with what is asked of it behind -/
def MkG (C : Addr) (sp : Sp) (Q : VK) (vs : List V) (H : Hp) : Prop := ∀ x dx, H x = none → H dx = none → dx ≠ x → sp (.ref x :: vs) (upd (upd H dx (.own x)) x (.ins C dx [])) (fun v H2 => v = .non ∧ Q (.ref x) H2) E0
theorem x_makeG {C : Addr} {sp : Sp} {σ : L2.St} {H : Hp} {dvs : List V} {ar : TA} {Q : VK} (h : ar σ H fun vs H1 => MkG C sp Q (vs ++ dvs) H1) : tMake C sp dvs E0 ar σ H Q := h
section
variable {K : PySem.W.Frag} {S H1 : Hp} {Q : VK} {a : Addr}
theorem g_mkRd {kvs : List (Key × V)} {m : Ms} (f : Ex S H1) (ha : H1 a = some (.dK kvs)) (oi : OrdIn K S kvs m) (ok : MsOk m) (q : ∀ S' H' u, Gr [] S H1 S' H' → Dv K S' u (rdD K m) → Q u H') : MkG (CR K) (spRd K) Q [.ref a] H1 :=
  i_mkRd f ha oi ok q
theorem g_mkOrd {r : Row} (f : Ex S H1) (ha : H1 a = some (.dK (bkv r.bun))) (ok : RowOk r) (q : ∀ S' H' u, Gr [] S H1 S' H' → Dv K S' u (ordD K r) → Q u H') : MkG (CO K) (spOrd (K := K)) Q [.str r.house, .ref a, .int r.lim, .int r.most] H1 :=
  i_mkOrd f ha ok q
end
end K31

set_option Elab.async false
set_option linter.all false
set_option maxRecDepth 100000
set_option maxHeartbeats 4000000
/-! K31Y: rounds made of models, their goods. -/
namespace K31
open PySem PySem.Spec PyProof.Rows L2 Gd
open Evl (Ex Ex.refl Ex.trans Ex.new Ex.mut ex_t ex_l sq_of st_of fresh_back)

local macro_rules | `(tactic| walk_at "st") => `(tactic| first
  | with_reducible refine x_seq ?_ | with_reducible refine x_ret ?_ | with_reducible refine x_retN ?_ | with_reducible refine x_next ?_ | with_reducible refine x_drop ?_ | with_reducible refine x_if ?_ | with_reducible refine x_asg ?_
  | with_reducible refine x_par ?_ | with_reducible refine x_par3 ?_ | with_reducible refine x_sfld ?_ | ((with_reducible show tVar _ _ _ _); refine x_var rfl ?_) | with_reducible refine x_c ?_ | with_reducible refine x_op ?_ | with_reducible refine x_un ?_
  | with_reducible refine x_chain ?_ | with_reducible refine x_andV ?_ | with_reducible refine x_orV ?_ | with_reducible refine x_notV ?_ | with_reducible refine x_ifE ?_ | with_reducible refine x_nil ?_ | with_reducible refine x_cons ?_ | with_reducible refine x_star ?_
  | with_reducible refine x_tup ?_ | with_reducible refine x_lst ?_ | with_reducible refine x_cb ?_ | with_reducible refine x_call ?_ | with_reducible refine x_meth ?_ | with_reducible refine x_makeG ?_ | with_reducible refine x_fld ?_ | with_reducible refine x_bm0 ?_ | with_reducible refine x_bm ?_
  | with_reducible refine x_sl ?_ | with_reducible refine x_no ?_ | with_reducible refine x_part ?_ | with_reducible refine x_rev ?_ | with_reducible refine x_fmtD ?_ | with_reducible refine x_test ?_ | with_reducible refine x_tB ?_ | with_reducible refine x_and ?_ | with_reducible refine x_or ?_ | with_reducible refine x_not ?_ | with_reducible refine x_yes ?_
  | with_reducible refine x_gname ?_ | with_reducible refine x_gtup ?_ | with_reducible refine x_gnil ?_ | with_reducible refine x_gcons ?_ | with_reducible refine x_gsub ?_ | with_reducible refine x_iList ?_ | with_reducible refine x_iStr ?_ | with_reducible refine x_iRng1 ?_ | with_reducible refine x_iEnumQ ?_
  | with_reducible refine x_lc ?_ | with_reducible refine x_dc ?_ | with_reducible refine x_iKeys ?_ | with_reducible refine x_iVals ?_ | with_reducible refine x_iItems ?_ | with_reducible refine x_forW ?_ | with_reducible refine x_iSeq ?_ | with_reducible refine x_ixO ?_
  | with_reducible refine x_listVals ?_ | with_reducible refine x_listItems ?_ | with_reducible refine i_I0 ?_ | with_reducible refine i_U ?_ | with_reducible refine iteT ?_ | with_reducible refine iteF ?_ | with_reducible refine iteNT ?_ | with_reducible refine iteNF ?_ | with_reducible refine x_bl ?_ | with_reducible refine x_int ?_ | with_reducible refine i_add ?_ | with_reducible refine i_int1 ?_ | with_reducible refine i_abs ?_ | with_reducible refine i_max ?_ | with_reducible refine i_min ?_)
local macro_rules | `(tactic| walk_at "go") => `(tactic| repeat (first | walk_at "st" | dsimp only [Bool.not_true, Bool.not_false, List.nil_append, List.cons_append]))

/-- a model where it stands -/
structure MdAt (K : PySem.W.Frag) (S H : Hp) (a : Addr) (m : Ms) : Prop where
  s : S a = none
  h : ∃ kvs, H a = some (.dK kvs) ∧ MdIn K S kvs m
theorem MdAt.gr {K : PySem.W.Frag} {L : List Addr} {S H S' H' : Hp} {a : Addr} {m : Ms} (h : MdAt K S H a m) (g : Gr L S H S' H') (n : a ∉ L) : MdAt K S' H' a m := by
  obtain ⟨kvs, h1, h2⟩ := h.h
  obtain ⟨e1, e2⟩ := g.own n h1 h.s
  exact ⟨e2, kvs, e1, h2.mono g.s⟩
/-- the goods that a model's rows name -/
def fnd (m : Ms) : List Str := m.flatMap fun p => (p.2.bun.filter fun q => !decide (q.2 = 0)).map (·.1)
theorem fnd_mem {m : Ms} (hb : ∀ p ∈ m, (keys p.2.bun).Nodup) (k : Str) : k ∈ fnd m ↔ ∃ p ∈ m, k ∈ keys (told p.2.bun) := by
  unfold fnd
  rw [List.mem_flatMap]
  refine exists_congr fun p => and_congr_right fun hp => ?_
  rw [List.mem_map]
  constructor
  · rintro ⟨q, hq, rfl⟩
    obtain ⟨h1, h2⟩ := List.mem_filter.mp hq
    have := ((told_keys_nd (hb p hp)).2.2 q.1 q.2).mpr ⟨look_mem (hb p hp) h1, by simpa using h2⟩
    exact List.mem_map.mpr ⟨_, this, rfl⟩
  · intro h
    obtain ⟨q, hq, rfl⟩ := List.mem_map.mp h
    have := ((told_keys_nd (hb p hp)).2.2 q.1 q.2).mp hq
    exact ⟨q, List.mem_filter.mpr ⟨look_in this.1, by simp [this.2]⟩, rfl⟩
theorem fnd_snoc (m : Ms) (p : Str × Row) : fnd (m ++ [p]) = fnd m ++ (p.2.bun.filter fun q => !decide (q.2 = 0)).map (·.1) := by
  unfold fnd
  rw [List.flatMap_append]
  simp
theorem fnd_len : ∀ {m : Ms}, (∀ p ∈ m, p.2.bun.length ≤ 5) → (fnd m).length ≤ 5 * m.length
  | [], _ => by simp [fnd]
  | p :: r, h => by
    have ih := fnd_len (m := r) fun q hq => h q (.tail _ hq)
    have h1 := h p (.head _)
    have h2 := List.length_filter_le (fun q : Str × Int => !decide (q.2 = 0)) p.2.bun
    unfold fnd at ih ⊢
    rw [List.flatMap_cons, List.length_append, List.length_map, List.length_cons]
    omega
def anyP (p : Key × Dt) : Option Dt := match p.1, p.2 with
  | .inr n, .int i => if i = 0 then none else some (.str n)
  | _, _ => none
theorem anyP_fm (b : Bd) : (bgs b).filterMap anyP = ((b.filter fun q => !decide (q.2 = 0)).map (·.1)).map Dt.str := by
  unfold bgs
  induction b with
  | nil => rfl
  | cons p r ih =>
    rw [List.map_cons, List.filterMap_cons, List.filter_cons, ih]
    have e : anyP (Sum.inr p.1, Dt.int p.2) = if p.2 = 0 then none else some (.str p.1) := rfl
    rw [e]
    by_cases c : p.2 = 0
    · rw [if_pos c, decide_eq_true c, if_neg (by decide)]
    · rw [if_neg c, decide_eq_false c, if_pos (by decide)]
      rfl
section
variable {P : Program} {w : World} {K : PySem.W.Frag} {mg : Str → Option Value} {base : Heap}
/-! ### made -/
def spMade (K : PySem.W.Frag) : Sp := fun vs H Q _ => ∃ S a m gs, vs = [.ref a] ∧ Ex S H ∧ MdAt K S H a m ∧ MdB gs m ∧ gs ∈ menus ∧ ∀ S' H' u, Gr [] S H S' H' → Dv K S' u (rdD K m) → Q u H'
theorem b_law_made (T : Txt K mg) : Binds K (fdOf K (d_law_made.at_ K)) ["model"] [] := T.f_law_made.bindsN fun _ _ _ _ _ _ us hl => match us, hl with | [_], _ => rfl
theorem ok_law_made (T : Txt K mg) (B : Tabs K) : FO P w K mg base 6 d_law_made ["model"] (spMade K) := by
  have G_Round_init := ok_Round_init (P := P) (w := w) (base := base) T B
  have G_Order_init := ok_Order_init (P := P) (w := w) (base := base) T B
  refine T.f_law_made.ok sc_law_made (fun vs H Q E h => ?_) (fun cdv A outer s H vs Q E hr h => ?_)
  · obtain ⟨S, a, m, gs, rfl, _⟩ := h
    rfl
  · obtain ⟨S, a, m, gs, rfl, f, md, mb, hg, q⟩ := h
    have hu := units1 hr
    have z5 : ∀ n, n ≤ 16777216 → n ≤ sizeLine := fun n h => by rw [sizeLine_eq]; exact h
    obtain ⟨kvs, ha, ti⟩ := md.h
    have sa := md.s
    have few := mb.few
    refine ⟨_, (pss_one (ps_ret (pe_make T.mk_Round G_Round_init (hr.mono (by decide)) rfl T.g_Round (b_Round_init T) .nil pass0 (pa_cons (pe_callTy (show CallR _ _ (rDictP K) from call_dictP' rfl) (by rfl) T.b_dict (by decide +kernel) (pa_cons (pe_lock (pe_lc (own := [("name", 1)]) rfl sc_law_made.nd (pi_keys (pv 0)) (blkOk_by (N := ["model", "name"]) (sc := defScope s_law_made) (by decide +kernel)) (fun _ _ _ _ _ => (pg_name (i := 1) sc_law_made.nd rfl (.inl rfl))) (fun _ _ _ _ _ => pts_nil) (fun _ _ _ _ _ => (pe_tup (pa_cons (pv 1) (pa_cons (pe_make T.mk_Order G_Order_init (hr.mono (by decide)) rfl T.g_Order (b_Order_init T) .nil pass0 (pa_cons (pe_ix (show IxR _ (rIxY K) from ix_Y (units1 hr)) (pe_ix (show IxR _ (rIxY K) from ix_Y (units1 hr)) (pv 0) (pv 1) (fun _ _ => rfl)) pe_int (fun _ _ => rfl)) (pa_cons (pe_ix (show IxR _ (rIxY K) from ix_Y (units1 hr)) (pe_ix (show IxR _ (rIxY K) from ix_Y (units1 hr)) (pv 0) (pv 1) (fun _ _ => rfl)) pe_int (fun _ _ => rfl)) (pa_cons (pe_ix (show IxR _ (rIxY K) from ix_Y (units1 hr)) (pe_ix (show IxR _ (rIxY K) from ix_Y (units1 hr)) (pv 0) (pv 1) (fun _ _ => rfl)) pe_int (fun _ _ => rfl)) (pa_cons (pe_ix (show IxR _ (rIxY K) from ix_Y (units1 hr)) (pe_ix (show IxR _ (rIxY K) from ix_Y (units1 hr)) (pv 0) (pv 1) (fun _ _ => rfl)) pe_int (fun _ _ => rfl)) pa_nil))))) pa_nil)))))) pa_nil)) pa_nil)))), ?_⟩
    walk_at "go"
    refine i_lockE ha fun od => ?_
    walk_at "go"
    refine ⟨a, od, rfl, .inl ⟨_, upd_same, fun D hD => ?_⟩⟩
    have w := walk_keysD (K := K) (S := S) (a := a) (od := od) ti.k ti.d
    have tl : (tgs rowD m).length = m.length := List.length_map ..
    rw [tl] at w
    have f1 : Ex S (upd H a (.frz od (.dK kvs))) := by
      have := lock_ex (od := od) (kvs := kvs) (a := a) f
      rwa [minus_self sa] at this
    refine lc_E (K := K) (as := m) w (fun p => some (.tup [.str p.1, ordD K p.2])) f1 hD (by omega) (fun S1 Hc g => g.nil_h _ _ upd_same) ?_ ?_
    · rintro i p x S1 Hc Hc' Qe Nx hp g ⟨rfl, p', hp', rfl⟩ q1 q2
      obtain ⟨p2, hp2, rfl⟩ := map_atA hp'
      rw [hp] at hp2
      cases hp2
      obtain ⟨n, r⟩ := p
      have hpm := List.mem_of_getElem? hp
      obtain ⟨v, hv, dv⟩ := ti.val (look_mem mb.nd hpm)
      obtain ⟨ra, pb, rfl, r1, r2⟩ := row_inv dv
      have e1 : Ex S Hc' := g.s.trans g.i
      have rd : Rd Hc' a (.dK kvs) := .inr ⟨od, g.nil_h _ _ upd_same⟩
      have s1 := sqT_mono e1 r1
      walk_at "go"
      refine ⟨rfl, ?_⟩
      walk_at "go"
      refine i_ixDk (k := .inr n) rd hv ?_
      walk_at "go"
      refine i_ixT (j := 0) s1 rfl rfl ?_
      walk_at "go"
      refine i_ixDk (k := .inr n) rd hv ?_
      walk_at "go"
      refine i_ixT (j := 1) s1 rfl rfl ?_
      walk_at "go"
      refine i_ixDk (k := .inr n) rd hv ?_
      walk_at "go"
      refine i_ixT (j := 2) s1 rfl rfl ?_
      walk_at "go"
      refine i_ixDk (k := .inr n) rd hv ?_
      walk_at "go"
      refine i_ixT (j := 3) s1 rfl rfl ?_
      walk_at "go"
      refine g_mkOrd (S := S1) (r := r) g.i (e1 _ _ r2) (mb.r _ hpm).1.ok fun S2 H2 u g2 du => ?_
      walk_at "go"
      refine ⟨z5 _ (by show 2 ≤ 16777216; decide), fun t ht => ?_⟩
      obtain ⟨g5, d5⟩ := pair_new (K := K) g2 ht (.str n) du
      exact q1 _ _ _ _ g5 d5 rfl
    · intro S3 H3 xs g3 s3 hl3 dv3
      rw [fm_some (h' := fun (p : Str × Row) => Dt.tup [.str p.1, ordD K p.2]) fun _ _ => rfl] at dv3
      rw [← minus_self sa] at g3
      obtain ⟨b1, b2, b3, b4⟩ := lock_back (L := []) f ha (by simp) g3
      have nDa : D ≠ a := fun z => by rw [z, upd_same] at hD; cases hD
      refine ⟨b1, ?_⟩
      walk_at "go"
      refine i_dictM (m := m) mb.nd b3.i (by rw [upd_ne nDa]; exact hl3) (dv3.mono b4) fun p kvs2 hp2 ti2 => ?_
      walk_at "go"
      have g4 := b3.then (Gr.newO (o := .dK kvs2) b3.i hp2)
      refine g_mkRd (m := m) g4.i upd_same (OrdIn.of_tab ti2) (mb.ok hg) fun S5 H5 u g5 du => ?_
      exact q S5 H5 u (g4.then g5) du
/-! ### goods -/
def spLGds (K : PySem.W.Frag) : Sp := fun vs H Q _ => ∃ S a m gs, vs = [.ref a] ∧ Ex S H ∧ MdAt K S H a m ∧ MdB gs m ∧ gs ∈ menus ∧ ∀ H' p, Ex H H' → H p = none → H' p = some (.lst ((goodsM m).map V.str)) → Q (.ref p) H'
theorem b_law_goods (T : Txt K mg) : Binds K (fdOf K (d_law_goods.at_ K)) ["model"] [] := T.f_law_goods.bindsN fun _ _ _ _ _ _ us hl => match us, hl with | [_], _ => rfl
theorem ok_law_goods (T : Txt K mg) : FO P w K mg base 1 d_law_goods ["model"] (spLGds K) := by
  refine T.f_law_goods.ok sc_law_goods (fun vs H Q E h => ?_) (fun cdv A outer s H vs Q E hr h => ?_)
  · obtain ⟨S, a, m, gs, rfl, _⟩ := h
    rfl
  · obtain ⟨S, a, m, gs, rfl, f, md, mb, hg, q⟩ := h
    have hu := units1 hr
    have z5 : ∀ n, n ≤ 16777216 → n ≤ sizeLine := fun n h => by rw [sizeLine_eq]; exact h
    obtain ⟨kvs, ha, ti⟩ := md.h
    have sa := md.s
    have few := mb.few
    refine ⟨_, (pss_cons (ps_set (i := 1) sc_law_goods.nd rfl (Or.inl rfl) (pe_lst pa_nil))
    (pss_cons (ps_lock (ps_for (passes_of rfl) rfl (pi_keys (pv 0)) (pg_name (i := 2) sc_law_goods.nd rfl (.inl rfl)) (pss_one (ps_expr (pe_bm PySem.F.plainAttrs_list PySem.F.slot_list_extend PySem.F.type_list_extend mt_extend (pv 1) (pa_cons (pe_lock (pe_lc (own := [("good", 3), ("many", 4)]) rfl sc_law_goods.nd (pi_items (pe_ix (show IxR _ (rIxY K) from ix_Y (units1 hr)) (pe_ix (show IxR _ (rIxY K) from ix_Y (units1 hr)) (pv 0) (pv 2) (fun _ _ => rfl)) pe_int (fun _ _ => rfl))) (blkOk_by (N := ["model", "found", "name", "good", "many"]) (sc := defScope s_law_goods) (by decide +kernel)) (fun _ _ _ _ _ => (show PG _ _ (gTup K 2 _) from (pg_tup rfl (pgs_cons (pg_name (i := 3) sc_law_goods.nd rfl (.inl rfl)) (pgs_cons (pg_name (i := 4) sc_law_goods.nd rfl (.inl rfl)) pgs_nil))))) (fun _ _ _ _ _ => (pts_one (pt_cmpR op_ne (pv 4) pe_int (nomark _)))) (fun _ _ _ _ _ => (pv 3)))) pa_nil))))))
    (pss_one (ps_ret (pe_callB (call_sortTx rfl) (by rfl) T.b_sorted (by decide +kernel) (pa_cons (pe_callTy (call_setTx rfl) (by rfl) T.b_set (by decide +kernel) (pa_cons (pv 1) pa_nil)) pa_nil)))))), ?_⟩
    walk_at "go"
    refine ⟨z5 _ (Nat.zero_le _), fun F hF => ?_⟩
    walk_at "go"
    have naF : a ≠ F := fun z => by rw [z, hF] at ha; cases ha
    have ha1 : (upd H F (.lst [])) a = some (.dK kvs) := by rw [upd_ne naF]; exact ha
    refine x_lock ha1 fun od => ?_
    walk_at "go"
    refine ⟨a, od, rfl, .inl ⟨kvs, upd_same, ?_⟩⟩
    have f1 : Ex S (upd H F (.lst [])) := f.trans (Ex.new hF)
    have f2 : Ex S (upd (upd H F (.lst [])) a (.frz od (.dK kvs))) := (Gr.mut (L := [a]) f1 sa (by simp)).i
    have sF : S F = none := fresh_back f hF
    have tl : (tgs rowD m).length = m.length := List.length_map ..
    have Fl : (upd (upd H F (.lst [])) a (.frz od (.dK kvs))) F = some (.lst []) := by rw [upd_ne (Ne.symm naF), upd_same]
    generalize hH2 : upd (upd H F (.lst [])) a (.frz od (.dK kvs)) = H2 at f2 Fl ⊢
    have ha2 : H2 a = some (.frz od (.dK kvs)) := by rw [← hH2, upd_same]
    refine i_forKeys (S := S) ti.k ti.d (fun i σ H' => ∃ x y z, σ = [some (.ref a), some (.ref F), x, y, z] ∧ Gr [F] S H2 S H' ∧ H' F = some (.lst ((fnd (m.take i)).map V.str))) ?_ ?_ ?_ ?_
    · exact ⟨_, _, _, rfl, Gr.refl f2, Fl⟩
    · rintro i σ H' _ ⟨x, y, z, rfl, g, _⟩
      exact g.h _ _ (nmem1 (Ne.symm naF)) ha2
    · rintro i σ H3 p hp ⟨x0, y0, z0, rfl, g3, hF3⟩
      obtain ⟨⟨n, r⟩, hm, rfl⟩ := map_atA hp
      have hpm := List.mem_of_getElem? hm
      have rok := mb.r _ hpm
      obtain ⟨v, hv, dv⟩ := ti.val (look_mem mb.nd hpm)
      obtain ⟨ra, pb, rfl, r1, r2⟩ := row_inv dv
      have ha3 := g3.h _ _ (nmem1 (Ne.symm naF)) ha2
      have hp3 := g3.i _ _ r2
      have npF : F ≠ pb := fun e => by rw [← e, hF3] at hp3; cases hp3
      have npa : a ≠ pb := fun e => by rw [← e, ha3] at hp3; cases hp3
      have f0 : Ex (fun _ => none) H3 := fun _ _ z => by cases z
      have bl := rok.1.few
      walk_at "go"
      refine ⟨i_tyL hF3, ?_⟩
      walk_at "go"
      refine i_lockE hp3 fun od2 => ?_
      walk_at "go"
      refine i_ixDk (k := .inr n) (.inr ⟨od, by rw [upd_ne npa]; exact ha3⟩) hv ?_
      walk_at "go"
      refine i_ixT (j := 1) (sqT_ne hp3 (sqT_mono g3.i r1)) rfl rfl ?_
      refine ⟨pb, od2, _, rfl, upd_same, fun D hD => ?_⟩
      refine i_lcI (K := K) (gs := bgs r.bun) (lock_ex f0) upd_same (by rw [bkv_keys, bgs_keys]) (bkv_dv r.bun) anyP (by unfold bgs; rw [List.length_map]; exact Nat.lt_of_le_of_lt bl (by decide)) ?_ hD ?_
      · intro j p' u T1 S1 Hc Qe Nx hj g du q1 q2
        obtain ⟨⟨z, k⟩, hz, rfl⟩ := List.mem_map.mp (List.mem_of_getElem? hj)
        cases du.int_inv
        walk_at "go"
        refine i_pair ?_
        walk_at "go"
        refine ⟨rfl, ?_⟩
        walk_at "go"
        refine ⟨rfl, ?_⟩
        rw [show decide (V.int k = V.int 0) = decide (k = 0) by by_cases h : k = 0 <;> simp [h]]
        have e : anyP (Sum.inr z, Dt.int k) = if k = 0 then none else some (.str z) := rfl
        by_cases c : k = 0
        · rw [decide_eq_true c]
          walk_at "go"
          exact q2 S1 _ (Gr.refl g.i) (by rw [e, if_pos c])
        · rw [decide_eq_false c]
          walk_at "go"
          exact q1 S1 _ _ (.str z) (Gr.refl g.i) (.str z) (by rw [e, if_neg c])
      · intro S' H' xs g s' hl' dv'
        rw [anyP_fm] at dv'
        rw [dvAll_strs_inv dv'] at hl'
        obtain ⟨b1, b2, b3, b4⟩ := lock_back (L := []) f0 hp3 (by simp) g
        have nDp : D ≠ pb := fun z => by rw [z, upd_same] at hD; cases hD
        walk_at "go"
        refine ⟨b1, ?_⟩
        walk_at "go"
        refine ⟨F, D, _, _, rfl, rfl, b3.nil_h _ _ hF3, by rw [upd_ne nDp, hl'], ?_, ?_⟩
        · have z1 := fnd_len (m := m.take i) fun p hp => (mb.r p (List.mem_of_mem_take hp)).1.few
          have z2 : (m.take i).length ≤ 9 := by rw [List.length_take]; omega
          have z3 := List.length_filter_le (fun q : Str × Int => !decide (q.2 = 0)) r.bun
          rw [List.length_map, List.length_map, List.length_map, sizeLine_eq]
          have : r.bun.length ≤ 5 := bl
          omega
        · walk_at "go"
          refine ⟨_, _, _, rfl, ?_, ?_⟩
          · exact (g3.then (Gr.same g3.i b3.nil_h)).trans (Gr.mut (L := [F]) (g3.then (Gr.same g3.i b3.nil_h)).i sF (by simp)) fun z hz => .inl hz
          · rw [upd_same, List.take_add_one, hm, ← List.map_append]
            show _ = some (HO.lst ((fnd (m.take i ++ [(n, r)])).map V.str))
            rw [fnd_snoc]
    · rintro σ H3 ⟨x, y, z, rfl, g3, hF3⟩
      rw [tl, List.take_length] at hF3
      refine ⟨g3.h _ _ (nmem1 (Ne.symm naF)) ha2, ?_⟩
      have fl := fnd_len (m := m) fun p hp => (mb.r p hp).1.few
      walk_at "go"
      refine ⟨F, fnd m, rfl, sq_of (by rw [upd_ne (Ne.symm naF)]; exact hF3), by omega, fun p2 L nd mem ln hp2 => ?_⟩
      walk_at "go"
      refine ⟨p2, L, rfl, upd_same, by omega, fun ys p pm so hp => ?_⟩
      cases srt_one pm so
      have eH : Ex H (upd H3 a (.dK kvs)) := fun c o z => by
        by_cases ca : c = a
        · rw [ca, upd_same, ← ha, ← ca]; exact z
        · rw [upd_ne ca]
          have cF : c ≠ F := fun e => by rw [e, hF] at z; cases z
          exact g3.h c o (nmem1 (Ne.symm cF)) (by rw [← hH2, upd_ne ca, upd_ne cF]; exact z)
      have eH2 := eH.trans (Ex.new (o := TxO P w p2 L) hp2)
      have bn : ∀ p ∈ m, (keys p.2.bun).Nodup := fun p hp => (mb.r p hp).1.nd
      refine q _ p (eH2.trans (Ex.new hp)) (fresh_back eH2 hp) ?_
      rw [upd_same, goodsM_one bn nd fun k => (mem k).trans (fnd_mem bn k)]
end
end K31

set_option Elab.async false
set_option linter.all false
set_option maxRecDepth 100000
set_option maxHeartbeats 4000000
/-! G31: x not in a list of texts, x no text. -/
namespace Gd
open PySem PySem.Spec PyProof.Rows L2
open PySem.SeqAt PySem.MeetsSeq
open Evl (Ex Ex.refl Ex.trans Ex.new Ex.mut ex_t ex_l sq_of st_of fresh_back)
theorem str_eq_dict (b : Str) (u : Tok) (l : Addr) (o : Obj) (hc : o.cls = .type "dict") {es : Array DictEntry} {ep : Nat} (hd : o.data = .dict es ep) :
    Meets (Builtin.«str.__eq__» ⟨[.str b u, .ref l], []⟩) (fun _ R s => s.heap.get? l = some o ∧ R (.ok (.ret .notImplemented)) s) :=
  .of_wp fun prog w A R s h => by
    obtain ⟨hp, g, d, tk, os⟩ := s
    obtain ⟨hl, h⟩ := h
    obtain ⟨cls, dd, data, sl⟩ := o
    simp only at hc hd
    subst hc
    subst hd
    have f1 := F.sub_dict_str
    wp_walk using AutoSeq1.wpAny_loadPart' hl, wpAny_load hl
    exact ⟨_, rfl, h⟩
theorem dict_eq_str (b : Str) (u : Tok) (l : Addr) (o : Obj) (hc : o.cls = .type "dict") :
    Meets (Builtin.«dict.__eq__» ⟨[.ref l, .str b u], []⟩) (fun _ R s => s.heap.get? l = some o ∧ R (.ok (.ret .notImplemented)) s) :=
  .of_wp fun prog w A R s h => by
    obtain ⟨hp, g, d, tk, os⟩ := s
    obtain ⟨hl, h⟩ := h
    obtain ⟨cls, dd, data, sl⟩ := o
    simp only at hc
    subst hc
    have f1 := F.sub_str_dict
    wp_walk using AutoSeq1.wpAny_loadPart' hl, wpAny_load hl
    exact ⟨_, rfl, h⟩
theorem eqAt_str_dict {A : Around} {s : Shared} {l : Addr} {o : Obj} (b : Str) (u : Tok) (ho : s.heap.get? l = some o) (hc : o.cls = .type "dict") {es : Array DictEntry} {ep : Nat} (hd : o.data = .dict es ep) (hu : A.units < cLine) : EqAt A s (.str b u) (.ref l) false := fun prog w E Q h => by
  unfold eqBool
  refine wpAny_holding ?_
  refine wpAny_ite_split (fun hab => absurd (eq_of_beq hab) nofun) (fun _ => ?_)
  refine wpAny_bind ?_
  refine rc_eq_decline_or (k := false) (typeIs_str s b u) ⟨_, ho, hc⟩ (by decide) F.sub_dict_str F.slot_str_eq F.slot_dict_eq_refl
    (fun _ hq => call_meets F.slot_str_eq (typeIs_str s b u) F.entry_str_eq (F.args_str_eq_2 _ _) (str_eq_dict b u l o hc hd) ⟨ho, hq⟩)
    (fun _ hq => call_meets F.slot_dict_eq_refl ⟨_, ho, hc⟩ F.entry_dict_eq (F.args_dict_eq_2 _ _) (dict_eq_str b u l o hc) ⟨ho, hq⟩)
    (fun _ hq => wpAny_of_eq (rfl : isSame (.str b u) (.ref l) = pure false) hq) (.inr hu) (wpAny_truthy_bool h)
inductive OddV (K : PySem.W.Frag) (H : Hp) : V → Prop where
  | non : OddV K H .non
  | int (i : Int) : OddV K H (.int i)
  | lst {a : Addr} {xs : List V} (h : SqL K H a xs) : OddV K H (.ref a)
  | tup {a : Addr} {xs : List V} (h : SqT K H a xs) : OddV K H (.ref a)
  | dK {a : Addr} {kvs : List (Key × V)} (h : H a = some (.dK kvs)) : OddV K H (.ref a)
def rNotInOdd (K : PySem.W.Frag) : R2 := fun x y H Q => ∃ a, ∃ gs : List Str, y = .ref a ∧ SqL K H a (gs.map V.str) ∧ OddV K H x ∧ Q (.bl true) H
theorem odd_eqAt {X : Cx} {pins : List (Addr × Obj)} {σ : L2.St} {H : Hp} {s : Shared} {x : V} {v : Value} {A : Around} (I : Inv X pins σ H s) (rx : RelV x v) (o : OddV X.K H x) (hu : A.units < cLine) (b : Str) (u : Tok) : EqAt A s (.str b u) v false := by
  cases o with
  | non =>
    obtain rfl : v = Value.none := rx
    exact EqAt.str_none b u
  | int i =>
    obtain ⟨t, rfl⟩ := rx
    exact EqAt.str_int b u i t
  | lst h =>
    cases rx
    obtain ⟨its, r, pl, hz⟩ := I.list h
    exact EqAt.str_list b u pl.isList hu
  | tup h =>
    cases rx
    obtain ⟨its, r, pl, hz⟩ := I.tuple h
    exact EqAt.str_tuple b u pl hu
  | dK h =>
    cases rx
    obtain ⟨hz, hs0, vs, kv, hdo⟩ := I.hok _ _ h
    obtain ⟨ob, es, ep, ho, hc, hd, _⟩ := hdo
    exact eqAt_str_dict b u ho hc.1 hd hu
theorem op_notInOdd {X : Cx} (hu : X.A.units + 64 < cLine) : OpR X (compareOp .NotIn) (rNotInOdd X.K) := by
  intro pins s σ H x y v u Q I rx ry h
  obtain ⟨p, gs, rfl, hq, ox, q⟩ := h
  cases ry
  obtain ⟨its, r, pl, hz⟩ := I.list hq
  have hs := r.strs
  refine SeqAt.notIn_listAt (fun _ => false) pl.isList (fun w hw => ?_) ⟨.bl _, H, I, rfl, ?_⟩
  · obtain ⟨i, hi⟩ := List.getElem?_of_mem (show w ∈ its by simpa using hw)
    obtain ⟨t, e⟩ := tx_at hs i w hi
    rw [e]
    exact odd_eqAt I rx ox (by show X.A.units + 1 < cLine; omega) _ _
  · rw [show its.toArray.any (fun _ => false) = false by simp]
    exact q
end Gd

set_option Elab.async false
set_option linter.all false
set_option maxRecDepth 100000
set_option maxHeartbeats 4000000
/-! K31I: a round is what a model says. -/
namespace K31
open PySem PySem.Spec PyProof.Rows L2 Gd
open Evl (Ex Ex.refl Ex.trans Ex.new Ex.mut ex_t ex_l sq_of st_of fresh_back)

theorem x_M1 {r : V → List V → Hp → VK → Prop} {to te : TE} {σ : L2.St} {H : Hp} {Q : VK} (h : to σ H fun x H1 => (∃ a, x = .str a) ∧ te σ H1 fun y H2 => r x [y] H2 Q) : tM1 r to te σ H Q := h
local macro_rules | `(tactic| walk_at "st") => `(tactic| first
  | with_reducible refine x_seq ?_ | with_reducible refine x_ret ?_ | with_reducible refine x_retN ?_ | with_reducible refine x_next ?_ | with_reducible refine x_drop ?_ | with_reducible refine x_if ?_ | with_reducible refine x_asg ?_
  | with_reducible refine x_par ?_ | with_reducible refine x_par3 ?_ | with_reducible refine x_sfld ?_ | ((with_reducible show tVar _ _ _ _); refine x_var rfl ?_) | with_reducible refine x_c ?_ | with_reducible refine x_op ?_ | with_reducible refine x_un ?_
  | with_reducible refine x_chain ?_ | with_reducible refine x_andV ?_ | with_reducible refine x_orV ?_ | with_reducible refine x_notV ?_ | with_reducible refine x_ifE ?_ | with_reducible refine x_nil ?_ | with_reducible refine x_cons ?_ | with_reducible refine x_star ?_
  | with_reducible refine x_tup ?_ | with_reducible refine x_lst ?_ | with_reducible refine x_cb ?_ | with_reducible refine x_call ?_ | with_reducible refine x_meth ?_ | with_reducible refine x_methN ?_ | with_reducible refine x_makeG ?_ | with_reducible refine x_fld ?_ | with_reducible refine x_bm0 ?_ | with_reducible refine x_bm ?_
  | with_reducible refine x_sl ?_ | with_reducible refine x_no ?_ | with_reducible refine x_part ?_ | with_reducible refine x_rev ?_ | with_reducible refine x_fmtD ?_ | with_reducible refine x_test ?_ | with_reducible refine x_tB ?_ | with_reducible refine x_and ?_ | with_reducible refine x_or ?_ | with_reducible refine x_not ?_ | with_reducible refine x_yes ?_
  | with_reducible refine x_gname ?_ | with_reducible refine x_gtup ?_ | with_reducible refine x_gnil ?_ | with_reducible refine x_gcons ?_ | with_reducible refine x_gsub ?_ | with_reducible refine x_iList ?_ | with_reducible refine x_iStr ?_ | with_reducible refine x_iRng1 ?_ | with_reducible refine x_iEnumQ ?_
  | with_reducible refine x_lc ?_ | with_reducible refine x_dc ?_ | with_reducible refine x_iKeys ?_ | with_reducible refine x_iVals ?_ | with_reducible refine x_iItems ?_ | with_reducible refine x_forW ?_ | with_reducible refine x_iSeq ?_ | with_reducible refine x_ixO ?_
  | with_reducible refine x_M1 ?_ | with_reducible refine x_listVals ?_ | with_reducible refine x_listItems ?_ | with_reducible refine i_I0 ?_ | with_reducible refine i_U ?_ | with_reducible refine iteT ?_ | with_reducible refine iteF ?_ | with_reducible refine iteNT ?_ | with_reducible refine iteNF ?_ | with_reducible refine x_bl ?_ | with_reducible refine x_int ?_ | with_reducible refine i_add ?_ | with_reducible refine i_int1 ?_ | with_reducible refine i_abs ?_ | with_reducible refine i_max ?_ | with_reducible refine i_min ?_)
local macro_rules | `(tactic| walk_at "go") => `(tactic| repeat (first | walk_at "st" | dsimp only [Bool.not_true, Bool.not_false, List.nil_append, List.cons_append]))

theorem ne_self (x : V) : (!decide (x = x)) = false := by simp
theorem sameB_self (r : Row) : sameB r r = true := by rw [sameB_can]; simp
theorem kV_names {K : PySem.W.Frag} {S : Hp} {kvs : List (Key × V)} {m : Ms} (h : OrdIn K S kvs m) : (kvs.map fun kv => kV kv.1) = (keys m).map V.str := by
  have e : (kvs.map fun kv => kV kv.1) = (kvs.map (·.1)).map kV := by rw [List.map_map]; rfl
  rw [e, h.k, ogs_keys, List.map_map]
  rfl
theorem ord_new {K : PySem.W.Frag} {S H : Hp} {p : Addr} {kvs : List (Key × V)} {m : Ms} (f : Ex S H) (hp : H p = none) (oi : OrdIn K S kvs m) : Dv K (upd S p (.dK kvs)) (.ref p) (.dK (ogs K m)) := dv_dK_new (fresh_back f hp) oi.k oi.d
def entO (m : Ms) (k : Str) : Option Dt := (look m k).map fun r => .str (entT (k, r))
theorem entO_fm (m : Ms) : (srt (keys m)).filterMap (entO m) = ((srtM m).map entT).map Dt.str := by
  unfold srtM
  rw [List.map_filterMap, List.map_filterMap]
  congr 1
  funext k
  unfold entO
  cases look m k <;> rfl
def dueO (m : Ms) (h k : Str) : Option Dt := match look m k with
  | some r => if r.house = h then some (.str k) else none
  | none => none
theorem dueO_fm (m : Ms) (h : Str) : (srt (keys m)).filterMap (dueO m h) = (ofH m h).map Dt.str := by
  unfold ofH srtM
  generalize srt (keys m) = l
  induction l with
  | nil => rfl
  | cons k l ih =>
    rw [List.filterMap_cons, List.filterMap_cons]
    cases q : look m k with
    | none =>
      rw [show dueO m h k = none by unfold dueO; rw [q]]
      exact ih
    | some r =>
      by_cases c : r.house = h
      · rw [show dueO m h k = some (.str k) by unfold dueO; rw [q]; exact if_pos c]
        show Dt.str k :: _ = List.map Dt.str (List.map _ (List.filter _ ((k, r) :: _)))
        rw [ih, List.filter_cons, if_pos (by simpa using c)]
        rfl
      · rw [show dueO m h k = none by unfold dueO; rw [q]; exact if_neg c]
        show List.filterMap (dueO m h) l = List.map Dt.str (List.map _ (List.filter _ ((k, r) :: _)))
        rw [ih, List.filter_cons, if_neg (by simpa using c)]
theorem ofH_sub {m : Ms} {h k : Str} (hk : k ∈ ofH m h) : k ∈ keys m := by
  obtain ⟨p, hp, rfl⟩ := List.mem_map.mp hk
  have : p.1 ∈ keys (srtM m) := List.mem_map.mpr ⟨p, (List.mem_filter.mp hp).1, rfl⟩
  rwa [srtM_keys, srt_mem] at this
section
variable {K : PySem.W.Frag} {S H : Hp} {Q : VK} {a b : Addr}
theorem strs_shaped {l : List Str} (h : ∀ z ∈ l, PyData.strOk z = true) : SeqAt.shaped (.list (l.map PyData.str)) = true := by
  have c : PyData.canLayAll0 (l.map PyData.str) = true := canLayAll_map fun a ha => by simp [PyData.canLay0, h a ha]
  have d : PyData.depthAll (l.map PyData.str) ≤ 0 := depthAll_map fun a _ => by simp [PyData.depth]
  have e : decide (PyData.depthAll (l.map PyData.str) + 1 ≤ 64) = true := decide_eq_true (by omega)
  simp [SeqAt.shaped, PyData.canLay0, PyData.depth, c, e]
  all_goals omega
theorem strs_dp {l : List Str} (h : H a = some (.lst (l.map V.str))) : Dp K H (.ref a) (.list (l.map PyData.str)) := by
  have d : Dv K (upd (fun _ => none) a (.lst (l.map V.str))) (.ref a) (.lst (l.map Dt.str)) := dv_lst_new rfl (dvAll_strs l)
  have e : Ex (upd (fun _ => none) a (.lst (l.map V.str))) H := fun c o z => by
    by_cases q : c = a
    · subst q
      rw [upd_same] at z
      rw [h]
      exact z
    · rw [upd_ne q] at z
      cases z
  have p : plainD (.lst (l.map Dt.str)) = true := by
    simp only [plainD, plainAll_eq, List.all_map, List.all_eq_true]
    exact fun _ _ => rfl
  have r := (d.mono e).dp p
  have q : pyD (.lst (l.map Dt.str)) = .list (l.map PyData.str) := by
    simp only [pyD, pyAll_eq, List.map_map]
    rfl
  rwa [q] at r
theorem i_neL {l l' : List Str} (ha : H a = some (.lst (l.map V.str))) (hb : H b = some (.lst (l'.map V.str))) (h1 : ∀ z ∈ l, PyData.strOk z = true) (h2 : ∀ z ∈ l', PyData.strOk z = true) (q : Q (.bl (!decide (l = l'))) H) : rNeD K (.ref a) (.ref b) H Q := by
  refine ⟨_, _, strs_dp ha, strs_dp hb, strs_shaped h1, strs_shaped h2, ?_⟩
  rw [show PyData.eqv (.list (l.map PyData.str)) (.list (l'.map PyData.str)) = decide (l = l') by simp only [PyData.eqv]; exact eqvAll_map eqv_str l l']
  exact q
/-- for z in names, an own list of texts -/
theorem i_forTL {σ : L2.St} {D : Ends} {g : TG} {tb : TS} {ns : List Str} (h : H a = some (.lst (ns.map V.str))) (Pv : Nat → L2.St → Hp → Prop) (h0 : Pv 0 σ H) (hG : ∀ i σ H', i ≤ ns.length → Pv i σ H' → Ex H H')
    (hs : ∀ i σ H' z, ns[i]? = some z → Pv i σ H' → g (.str z) σ H' fun σ2 H2 => tb { D with nx := Pv (i + 1), ct := Pv (i + 1), bk := D.nx } σ2 H2) (hd : ∀ σ H', Pv ns.length σ H' → D.nx σ H') :
    ∃ b, V.ref a = .ref b ∧ (∃ xs, SqL K H b xs) ∧ ForW (Itl K b) g tb D σ H := by
  have lm : (ns.map V.str).length = ns.length := List.length_map ..
  refine ⟨a, rfl, ⟨_, sq_of h⟩, ?_⟩
  refine for_it walk_list Pv h0 (fun i σ H' hi p => sq_of (hG i σ H' (by omega) p _ _ h)) ?_ (fun σ H' p => hd σ H' (by rwa [lm] at p))
  rintro i x σ H' H'' hi pv ⟨rfl, y⟩
  obtain ⟨z, hz, rfl⟩ := map_atA y
  exact hs i σ _ z hz pv
end
theorem pool_str : ∀ k ∈ poolX, PyData.strOk k = true := by decide +kernel
theorem goods_str : ∀ k ∈ goodsAll, PyData.strOk k = true := by decide +kernel
theorem MdB.goods_in {gs : List Str} {m : Ms} (h : MdB gs m) : ∀ k ∈ goodsM m, k ∈ goodsAll := by
  intro k hk
  have := (goodsL_mem (fun p hp => (h.r p hp).1.nd) k).mp (srt_mem.mp hk)
  obtain ⟨p, hp, z⟩ := this
  obtain ⟨q, hq, rfl⟩ := List.mem_map.mp z
  exact ((h.r p hp).1.told.1 q hq).1
section
variable {P : Program} {w : World} {K : PySem.W.Frag} {mg : Str → Option Value} {base : Heap}
theorem kb_Round_of_house (T : Txt K mg) : KBn K (fdOf K (d_Round_of_house.at_ K)) ["self", "house"] 1 ["house"] (fun us ws => us ++ ws) (fun vs zs => vs ++ zs) :=
  kbn_app T.f_Round_of_house 1 ["house"] fun _ _ _ _ _ _ us ws h1 h2 => match us, ws, h1, h2 with | [_], [_], _, _ => rfl
def spIs (K : PySem.W.Frag) : Sp := fun vs H Q _ => ∃ S v a m gs, vs = [v, .ref a] ∧ Ex S H ∧ Dv K S v (rdD K m) ∧ MdAt K S H a m ∧ MdB gs m ∧ gs ∈ menus ∧ ∀ H', Ex H H' → Q (.bl true) H'
theorem b_law_is (T : Txt K mg) : Binds K (fdOf K (d_law_is.at_ K)) ["made", "model"] [] := T.f_law_is.bindsN fun _ _ _ _ _ _ us hl => match us, hl with | [_, _], _ => rfl
theorem ok_law_is (T : Txt K mg) (B : Tabs K) : FnG P w K mg base 24 (d_law_is.at_ K) (fdOf K (d_law_is.at_ K)) ["made", "model"] (spIs K) := by
  have G_Round_len := ok_Round_len (P := P) (w := w) (base := base) T
  have G_Round_goods := ok_Round_goods (P := P) (w := w) (base := base) T
  have G_Round_orders := ok_Round_orders (P := P) (w := w) (base := base) T
  have G_Round_of_house := ok_Round_of_house (P := P) (w := w) (base := base) T
  have G_Round_getitem := ok_Round_getitem (P := P) (w := w) (base := base) T
  have G_Round_contains := ok_Round_contains (P := P) (w := w) (base := base) T
  have G_Round_repr := (ok_Round_repr (P := P) (w := w) (base := base) T).toG
  have G_Order_init := ok_Order_init (P := P) (w := w) (base := base) T B
  have G_Order_eq := ok_Order_eq (P := P) (w := w) (base := base) T B
  have G_law_goods := ok_law_goods (P := P) (w := w) (base := base) T
  have G_law_shown := ok_law_shown (P := P) (w := w) (base := base) T
  refine FnG.mk_of T.f_law_is sc_law_is (fun vs H Q E h => ?_) (fun cdv A outer s H vs Q E gu hr h => ?_)
  · obtain ⟨S, v, a, m, gs, rfl, _⟩ := h
    rfl
  · obtain ⟨S, v, am, m, gs, rfl, f, dv, md, mb, hg, q⟩ := h
    have hu := hr.units
    have z5 : ∀ n, n ≤ 16777216 → n ≤ sizeLine := fun n h => by rw [sizeLine_eq]; exact h
    refine ⟨_, (pss_cons (ps_set (i := 2) sc_law_is.nd rfl (Or.inr rfl) (pe_callB (call_sortD rfl) (by rfl) T.b_sorted (by decide +kernel) (pa_cons (pv 1) pa_nil)))
    (pss_cons (ps_if (PW.pt (pw_or (pt_cmpR op_ne (pe_callB (call_len_o gu (FnG.of G_Round_len) (hr.mono (by decide)) (b_Round_len T) T.m_Round_len.at_ T.m_Round_len.fn) (by rfl) T.b_len (by decide +kernel) (pa_cons (pv 0) pa_nil)) (pe_callB Gd.call_lenD (by rfl) T.b_len (by decide +kernel) (pa_cons (pv 1) pa_nil)) (nomark _)) (pw_or (pt_cmpR (op_neD hu) (pe_meth0 (pv 0) T.cl_Round T.m_Round_goods G_Round_goods (hr.mono (by decide)) (b_Round_goods T) .nil pass0) (pe_call G_law_goods (hr.mono (by decide)) rfl T.g_law_goods T.f_law_goods.kp (b_law_goods T) .nil pass0 (pa_cons (pv 1) pa_nil)) (nomark _)) (pw_or1 (pt_cmpR (op_neD hu) (pe_callTy (call_listD' rfl) (by rfl) T.b_list (by decide +kernel) (pa_cons (pe_meth0 (pv 0) T.cl_Round T.m_Round_orders G_Round_orders (hr.mono (by decide)) (b_Round_orders T) .nil pass0) pa_nil)) (pv 2) (nomark _)))))) (pss_one (ps_ret pe_bl)) pss_nil)
    (pss_cons (ps_set (i := 4) sc_law_is.nd rfl (Or.inl rfl) (pe_op (show OpR _ _ (rAddX K) from op_addX) (pe_op (show OpR _ _ (rAddX K) from op_addX) pe_str (pe_join pe_str (pe_lc (own := [("name", 3)]) rfl sc_law_is.nd (pi_list (pv 2)) (blkOk_by (N := ["made", "model", "names", "name", "shown", "row", "house", "due", "odd", "thing"]) (sc := defScope s_law_is) (by decide +kernel)) (fun _ _ _ _ _ => (pg_name (i := 3) sc_law_is.nd rfl (.inl rfl))) (fun _ _ _ _ _ => pts_nil) (fun _ _ _ _ _ => (pe_op (show OpR _ _ (rAddX K) from op_addX) (pe_op (show OpR _ _ (rAddX K) from op_addX) (pe_callB call_reprS (by rfl) T.b_repr (by decide +kernel) (pa_cons (pv 3) pa_nil)) pe_str) (pe_callG G_law_shown gu (hr.mono (by decide)) rfl T.g_law_shown T.f_law_shown.kp (b_law_shown T) .nil (pa_cons (pe_ix (show IxR _ (rIxY K) from ix_Y (units1 hr)) (pv 1) (pv 3) (fun _ _ => rfl)) pa_nil))))))) pe_str))
    (pss_cons (ps_if (PW.pt (pw_or (pt_cmpR op_ne (pe_callB (call_reprT (n := 8) gu (hr.mono (by decide)) (insRO (K := K) T rfl rfl rfl rfl rfl)) (by rfl) T.b_repr (by decide +kernel) (pa_cons (pe_meth0 (pv 0) T.cl_Round T.m_Round_orders G_Round_orders (hr.mono (by decide)) (b_Round_orders T) .nil pass0) pa_nil)) (pv 4) (nomark _)) (pw_or1 (pt_cmpR op_ne (pe_callB (call_repr_o gu G_Round_repr (hr.mono (by decide)) (b_Round_repr T) T.m_Round_repr.at_ T.m_Round_repr.fn) (by rfl) T.b_repr (by decide +kernel) (pa_cons (pv 0) pa_nil)) (pe_op (show OpR _ _ (rAddX K) from op_addX) (pe_op (show OpR _ _ (rAddX K) from op_addX) pe_str (pv 4)) pe_str) (nomark _))))) (pss_one (ps_ret pe_bl)) pss_nil)
    (pss_cons (ps_for (passes_of rfl) rfl (pi_list (pv 2)) (pg_name (i := 3) sc_law_is.nd rfl (.inl rfl)) (pss_cons (ps_set (i := 5) sc_law_is.nd rfl (Or.inl rfl) (pe_ix (show IxR _ (rIxY K) from ix_Y (units1 hr)) (pv 1) (pv 3) (fun _ _ => rfl)))
    (pss_one (ps_if (PW.pt (pw_or (pt_cmpR (op_neO gu (FnG.of G_Order_eq) (hr.mono (by decide)) (b_Order_eq T) B.oc.ob B.oc.ne T.m_Order_eq.at_ T.m_Order_eq.fn) (pe_ixO gu (FnG.of G_Round_getitem) (hr.mono (by decide)) (b_Round_getitem T) (Gd.FunD.fnIn T.f_Round_getitem) T.m_Round_getitem.at_ T.m_Round_getitem.fn (pv 0) (pv 3)) (pe_make T.mk_Order G_Order_init (hr.mono (by decide)) rfl T.g_Order (b_Order_init T) .nil pass0 (pa_cons (pe_ix (show IxR _ (rIxY K) from ix_Y (units1 hr)) (pv 5) pe_int (fun _ _ => rfl)) (pa_cons (pe_ix (show IxR _ (rIxY K) from ix_Y (units1 hr)) (pv 5) pe_int (fun _ _ => rfl)) (pa_cons (pe_ix (show IxR _ (rIxY K) from ix_Y (units1 hr)) (pv 5) pe_int (fun _ _ => rfl)) (pa_cons (pe_ix (show IxR _ (rIxY K) from ix_Y (units1 hr)) (pv 5) pe_int (fun _ _ => rfl)) pa_nil))))) (nomark _)) (pw_or1 (pt_cmpR (op_notInO gu (FnG.of G_Round_contains) (hr.mono (by decide)) (b_Round_contains T) T.m_Round_contains.at_ T.m_Round_contains.fn) (pv 3) (pv 0) (by rfl))))) (pss_one (ps_ret pe_bl)) pss_nil))))
    (pss_cons (ps_for (passes_of rfl) rfl (pi_list (pe_lst (pa_cons pe_str (pa_cons pe_str (pa_cons pe_str (pa_cons pe_str (pa_cons pe_str pa_nil))))))) (pg_name (i := 6) sc_law_is.nd rfl (.inr rfl)) (pss_cons (ps_setLc (i := 7) (own := [("name", 3)]) rfl sc_law_is.nd rfl rfl (sw_true rfl rfl (by decide) (by decide +kernel)) (pi_list (pv 2)) (blkOk_by (N := ["made", "model", "names", "name", "shown", "row", "house", "due", "odd", "thing"]) (sc := defScope s_law_is) (by decide +kernel)) (fun _ _ _ _ _ => (pg_name (i := 3) sc_law_is.nd rfl (.inl rfl))) (fun _ _ _ _ _ => (pts_one (pt_cmpR op_eq (pe_ix (show IxR _ (rIxY K) from ix_Y (units1 hr)) (pe_ix (show IxR _ (rIxY K) from ix_Y (units1 hr)) (pv 1) (pv 3) (fun _ _ => rfl)) pe_int (fun _ _ => rfl)) (pv 6) (nomark _)))) (fun _ _ _ _ _ => (pv 3)))
    (pss_one (ps_if (PW.pt (pw_or (pt_cmpR (op_neD hu) (pe_meth (pv 0) T.cl_Round T.m_Round_of_house G_Round_of_house (hr.mono (by decide)) (b_Round_of_house T) .nil pass0 (pa_cons (pv 6) pa_nil)) (pv 7) (nomark _)) (pw_or1 (pt_cmpR (op_neD hu) (pe_methK0 (pv 0) T.cl_Round T.m_Round_of_house G_Round_of_house (hr.mono (by decide)) (kb_Round_of_house T) pass0 (pk_cons (pv 6) pk_nil)) (pv 7) (nomark _))))) (pss_one (ps_ret pe_bl)) pss_nil))))
    (pss_cons (ps_set (i := 8) sc_law_is.nd rfl (Or.inl rfl) (pe_lst (pa_cons pe_str (pa_cons pe_str (pa_cons pe_non (pa_cons pe_int (pa_cons (pe_tup (pa_cons pe_str pa_nil)) (pa_cons (pe_lst (pa_cons pe_str pa_nil)) (pa_cons pe_dnewK (pa_cons pe_str pa_nil))))))))))
    (pss_one (ps_ret (pe_not (pe_callB (cr_any rfl) (by rfl) T.b_any (by decide +kernel) (pa_cons (pe_lc (own := [("thing", 9)]) rfl sc_law_is.nd (pi_list (pv 8)) (blkOk_by (N := ["made", "model", "names", "name", "shown", "row", "house", "due", "odd", "thing"]) (sc := defScope s_law_is) (by decide +kernel)) (fun _ _ _ _ _ => (pg_name (i := 9) sc_law_is.nd rfl (.inl rfl))) (fun _ _ _ _ _ => (pts_one (pt_cmpR (show OpR _ _ (fun x y H Q => rIn K true x y H Q ∨ rNotInOdd K x y H Q) from OpR.or op_notIn_seq (op_notInOdd hu)) (pv 9) (pv 2) (by rfl)))) (fun _ _ _ _ _ => (pe_cmpR (show OpR _ _ (rInO (CR K) (spIn K) false) from op_inO gu (FnG.of G_Round_contains) (hr.mono (by decide)) (b_Round_contains T) T.m_Round_contains.at_ T.m_Round_contains.fn) (pv 9) (pv 0) (by rfl)))) pa_nil)))))))))))), ?_⟩
    obtain ⟨ra, dxr, po, pg, kvs0, rfl, h1, h2, oi, h3⟩ := rd_inv dv
    obtain ⟨kvs, ha, ti⟩ := md.h
    have ok := mb.ok hg
    have few := mb.few
    have lk : (keys m).length = m.length := List.length_map ..
    have kst : ∀ z ∈ srt (keys m), PyData.strOk z = true := fun z hz => pool_str z (mb.nm z (srt_mem.mp hz))
    have gst : ∀ z ∈ goodsM m, PyData.strOk z = true := fun z hz => goods_str z (mb.goods_in z hz)
    walk_at "go"
    refine ⟨am, kvs, keys m, rfl, .inl ha, ti.k.trans (tgs_keys m), by omega, fun ys l pm so hl => ?_⟩
    cases srt_one pm so
    have e1 : Ex H (upd H l (.lst ((srt (keys m)).map V.str))) := Ex.new hl
    have hl1 : (upd H l (.lst ((srt (keys m)).map V.str))) l = some (.lst ((srt (keys m)).map V.str)) := upd_same
    generalize upd H l (.lst ((srt (keys m)).map V.str)) = H1 at e1 hl1 ⊢
    have f1 := f.trans e1
    walk_at "go"
    refine ⟨ra, dxr, _, rfl, f1 _ _ h1, S, _, m, rfl, f1, dv, (m.length : Int), rfl, by omega, ?_, ?_⟩
    · have : (2 : Int) ^ 62 = 4611686018427387904 := rfl
      omega
    walk_at "go"
    refine ⟨am, kvs, rfl, .inl (e1 _ _ ha), ?_⟩
    rw [ti.len]
    refine ⟨rfl, ?_⟩
    rw [ne_self]
    walk_at "go"
    refine ⟨ra, dxr, _, rfl, f1 _ _ h1, rfl, ?_⟩
    walk_at "go"
    refine ⟨S, _, m, rfl, f1, dv, fun g hg1 => ?_⟩
    have e2 := e1.trans (Ex.new (o := .lst ((goodsM m).map V.str)) hg1)
    walk_at "go"
    refine ⟨S, am, m, gs, rfl, f.trans e2, ⟨md.s, kvs, e2 _ _ ha, ti⟩, mb, hg, fun H3 p3 e3 hp3 hl3 => ?_⟩
    refine i_neL (e3 _ _ upd_same) hl3 gst gst ?_
    rw [decide_eq_true (rfl : goodsM m = goodsM m)]
    walk_at "go"
    have e4 := e2.trans e3
    have e14 := (Ex.new (o := .lst ((goodsM m).map V.str)) hg1).trans e3
    have f4 := f.trans e4
    refine ⟨ra, dxr, _, rfl, f4 _ _ h1, rfl, ?_⟩
    walk_at "go"
    refine ⟨S, _, m, rfl, f4, dv, fun p5 kvs5 hp5 oi5 => ?_⟩
    walk_at "go"
    refine ⟨p5, kvs5, rfl, .inl upd_same, fun l6 hl6 => ?_⟩
    have e56 := (Ex.new (o := .dK kvs5) hp5).trans (Ex.new (o := .lst (kvs5.map fun kv => kV kv.1)) hl6)
    walk_at "go"
    refine i_neL (l := srt (keys m)) (l' := srt (keys m)) (by rw [upd_same, kV_names oi5, srtM_keys]) (e56 _ _ (e14 _ _ hl1)) kst kst ?_
    rw [decide_eq_true (rfl : srt (keys m) = srt (keys m))]
    have e7 := e4.trans e56
    have hl7 := e56 _ _ (e14 _ _ hl1)
    generalize upd (upd H3 p5 (.dK kvs5)) l6 (.lst (kvs5.map fun kv => kV kv.1)) = H7 at e7 hl7 ⊢
    clear e56 e14 e4 f4 e2 f1
    have f7 := f.trans e7
    walk_at "go"
    refine ⟨⟨_, rfl⟩, ?_⟩
    walk_at "go"
    refine ⟨l, rfl, ⟨_, sq_of hl7⟩, fun D hD => ?_⟩
    have wk := walk_list (K := K) (a := l) (xs := (srt (keys m)).map V.str)
    rw [List.length_map] at wk
    have c2 : (Str.ofString ": ").length = 2 := by decide
    refine lc_E (K := K) wk (entO m) f7 hD (by rw [srt_len]; omega) (fun S1 Hc g => sq_of (g.nil_h _ _ hl7)) ?_ ?_
    · rintro i k x S1 Hc Hc' Qe Nx hk g ⟨rfl, hx⟩ q1 q2
      obtain ⟨k', hk', rfl⟩ := map_atA hx
      rw [hk] at hk'
      cases hk'
      have hkm := srt_mem.mp (List.mem_of_getElem? hk)
      obtain ⟨r, hr'⟩ := look_key hkm
      have hpm := look_in hr'
      obtain ⟨v, hv, dvv⟩ := ti.val hr'
      have ntx : (reprText k).length ≤ 82 := name_repr (ok.nm _ hpm).1 (ok.nm _ hpm).2
      have otx : (ordT r).length ≤ 3600 := ordT_len (mb.r _ hpm).1.small
      walk_at "go"
      refine ⟨rfl, ?_⟩
      walk_at "go"
      refine ⟨k, rfl, by omega, ?_⟩
      walk_at "go"
      refine i_addS (by omega) ?_
      walk_at "go"
      refine i_ixDk (k := .inr k) (.inl (g.nil_h _ _ (e7 _ _ ha))) hv ?_
      walk_at "go"
      refine ⟨S1, v, r, rfl, g.i, dvv.mono g.s, (mb.r _ hpm).1, fun H8 e8 => ?_⟩
      refine i_addS (by rw [str_app_len]; omega) ?_
      exact q1 S1 H8 _ _ (Gr.same g.i e8) (.str _) (by unfold entO; rw [hr']; rfl)
    · intro S8 H8 xs g8 s8 hl8 dv8
      rw [entO_fm] at dv8
      rw [dvAll_strs_inv dv8] at hl8
      have ents : ∀ t ∈ (srtM m).map entT, t.length ≤ 3700 := fun t ht => by
        obtain ⟨p, hp, rfl⟩ := List.mem_map.mp ht
        have hp' := (srtM_mem ok.nd).mp hp
        have a1 := ordT_len (mb.r p hp').1.small
        have a2 := name_repr (ok.nm p hp').1 (ok.nm p hp').2
        unfold entT
        rw [str_app_len, str_app_len]
        omega
      have entl : ((srtM m).map entT).length ≤ 9 := by rw [List.length_map, srtM_len]; omega
      have sums : ∀ (l : List Str), (∀ t ∈ l, t.length ≤ 3700) → (l.map (·.length)).sum ≤ l.length * 3700 := by
        intro l
        induction l with
        | nil => intro _; simp
        | cons t r ih =>
          intro h
          have a1 := h t (.head _)
          have a2 := ih fun z hz => h z (.tail _ hz)
          rw [List.map_cons, List.sum_cons, List.length_cons, Nat.add_mul]
          omega
      refine ⟨_, D, (srtM m).map entT, rfl, rfl, .inl (sq_of hl8), ?_, ?_⟩
      · have := sums _ ents
        have c3 : (Str.ofString ", ").length = 2 := by decide
        rw [c3]
        omega
      have ej : Txt.join (Str.ofString ", ") ((srtM m).map entT) = Str.join ", " ((srtM m).map entT) := eq_of_beq (join_plain_closes _ _)
      rw [ej]
      have tl : (Str.ofString "{" ++ Str.join ", " ((srtM m).map entT) ++ Str.ofString "}") = rdsT m := rfl
      have tz := rdsT_len ok mb.small
      rw [← tl, str_app_len, str_app_len] at tz
      refine i_addS (by omega) ?_
      walk_at "go"
      refine i_addS (by rw [str_app_len]; omega) ?_
      rw [tl]
      have tz' := rdsT_len ok mb.small
      have e8 := e7.trans g8.nil_h
      have hl9 := g8.nil_h _ _ hl7
      have f8 := f.trans e8
      walk_at "go"
      refine ⟨ra, dxr, _, rfl, f8 _ _ h1, rfl, ?_⟩
      walk_at "go"
      refine ⟨S, _, m, rfl, f8, dv, fun p9 kvs9 hp9 oi9 => ?_⟩
      walk_at "go"
      have g9 : Gr [] S H8 (upd S p9 (.dK kvs9)) (upd H8 p9 (.dK kvs9)) := Gr.newF f8 hp9
      refine ⟨_, .ref p9, .dK (ogs K (srtM m)), rfl, ord_new f8 hp9 oi9, g9.i, okD_rds ok.nd mb.small, rfl, Nat.le_trans (dpt_rds K _) (by decide), by rw [txD_rds]; omega, fun b _ => Clear.nil b, fun H10 e10 => ?_⟩
      rw [txD_rds]
      walk_at "go"
      refine ⟨rfl, ?_⟩
      rw [ne_self]
      have e10' := (e8.trans g9.nil_h).trans e10
      have hl10 := e10 _ _ (g9.nil_h _ _ hl9)
      have f10 := f.trans e10'
      walk_at "go"
      refine ⟨ra, dxr, _, rfl, f10 _ _ h1, S, _, m, rfl, f10, dv, ok, mb.small, fun b _ => Clear.nil b, fun H11 e11 => ⟨_, rfl, ?_⟩⟩
      have c6 : (Str.ofString "Round(").length = 6 := by decide
      have c1 : (Str.ofString ")").length = 1 := by decide
      walk_at "go"
      refine i_addS (by omega) ?_
      walk_at "go"
      refine i_addS (by rw [str_app_len]; omega) ?_
      refine ⟨rfl, ?_⟩
      rw [show V.str (rdT m) = V.str (Str.ofString "Round(" ++ rdsT m ++ Str.ofString ")") from rfl, ne_self]
      have e11' := e10'.trans e11
      have hl11 := e11 _ _ hl10
      walk_at "go"
      have f11 := f.trans e11'
      refine i_forTL hl11 (fun i σ H' => ∃ y z, σ = [some (.ref ra), some (.ref am), some (.ref l), y, some (.str (rdsT m)), z, none, none, none, none] ∧ Ex H11 H') ⟨_, _, rfl, Ex.refl _⟩ ?_ ?_ ?_
      · rintro i σ H' _ ⟨y, z, rfl, e⟩
        exact e
      · rintro i σ H' k hk ⟨y, z, rfl, e12⟩
        have hkm := srt_mem.mp (List.mem_of_getElem? hk)
        obtain ⟨r, hr'⟩ := look_key hkm
        have hpm := look_in hr'
        obtain ⟨v, hv, dvv⟩ := ti.val hr'
        obtain ⟨rra, rpb, rfl, r1, r2⟩ := row_inv dvv
        have rok := (mb.r _ hpm).1
        have f12 := f11.trans e12
        walk_at "go"
        refine i_ixDk (k := .inr k) (.inl (e12 _ _ (e11' _ _ ha))) hv ?_
        walk_at "go"
        refine ⟨ra, dxr, _, rfl, f12 _ _ h1, S, _, m, k, r, rfl, f12, dv, ok, hr', fun u1 H13 e13 du1 => ?_⟩
        have f13 := f12.trans e13
        have s13 := sqT_mono f13 r1
        walk_at "go"
        refine i_ixT (j := 0) s13 rfl rfl ?_
        walk_at "go"
        refine i_ixT (j := 1) s13 rfl rfl ?_
        walk_at "go"
        refine i_ixT (j := 2) s13 rfl rfl ?_
        walk_at "go"
        refine i_ixT (j := 3) s13 rfl rfl ?_
        walk_at "go"
        refine g_mkOrd (S := S) (r := r) f13 (f13 _ _ r2) rok.ok fun S14 H14 u2 g14 du2 => ?_
        have du1' := du1.mono g14.s
        obtain ⟨o1, x1, b1, rfl, i1, j1⟩ := ord_inv du1'
        obtain ⟨o2, x2, b2, rfl, i2, j2⟩ := ord_inv du2
        refine ⟨o1, x1, _, _, rfl, g14.i _ _ i1, B.oc.ty _ _ _ _ (g14.i _ _ i2), B.oc.nfS, S14, _, _, r, rfl, g14.i, du1', .inr ⟨r, du2, rok.bd, rok.bd, fun H15 e15 => ⟨_, rfl, ?_⟩⟩⟩
        rw [sameB_self]
        walk_at "go"
        have e15' := (e13.trans g14.nil_h).trans e15
        have f15 := f12.trans e15'
        refine ⟨ra, dxr, _, rfl, f15 _ _ h1, S, _, m, _, rfl, f15, dv, .inl ⟨k, rfl, by have := (ok.nm _ hpm).2; exact Nat.le_trans this (by decide), fun H16 e16 => ⟨_, rfl, ?_⟩⟩⟩
        rw [(ok.nm _ hpm).1, decide_eq_true hkm]
        rw [show (if true = true then !(true && true) else (true && true)) = false from rfl]
        walk_at "go"
        exact ⟨_, _, rfl, e12.trans (e15'.trans e16)⟩
      · rintro σ H12 ⟨y, z, rfl, e12⟩
        have e12' := e11'.trans e12
        have f12 := f.trans e12'
        have hl12 := e12 _ _ hl11
        walk_at "go"
        refine ⟨z5 _ (by show 5 ≤ 16777216; decide), fun l3 hl3 => ?_⟩
        have e13 := Ex.new (o := .lst ((["ann", "bob", "a", "none", "coin"] : List Str).map V.str)) hl3
        have hl3' : (upd H12 l3 (.lst ((["ann", "bob", "a", "none", "coin"] : List Str).map V.str))) l3 = some (.lst ((["ann", "bob", "a", "none", "coin"] : List Str).map V.str)) := upd_same
        refine i_forTL (H := upd H12 l3 (.lst ((["ann", "bob", "a", "none", "coin"] : List Str).map V.str))) hl3' (fun i σ H' => ∃ y z a b, σ = [some (.ref ra), some (.ref am), some (.ref l), y, some (.str (rdsT m)), z, a, b, none, none] ∧ Ex (upd H12 l3 (.lst ((["ann", "bob", "a", "none", "coin"] : List Str).map V.str))) H') ⟨_, _, _, _, rfl, Ex.refl _⟩ ?_ ?_ ?_
        · rintro i σ H' _ ⟨y, z, a, b, rfl, e⟩
          exact e
        · rintro i σ H' ho hho ⟨y, z, a, b, rfl, e14⟩
          have hok : ∀ ho ∈ (["ann", "bob", "a", "none", "coin"] : List Str), nameB ho = true ∧ ho.length ≤ 8 := by decide +kernel
          obtain ⟨ho1, ho2⟩ := hok ho (List.mem_of_getElem? hho)
          have e14' := e13.trans e14
          have f14 := f12.trans e14'
          have hl14 := e14' _ _ hl12
          have ha14 := e14' _ _ (e12' _ _ ha)
          walk_at "go"
          refine ⟨l, rfl, ⟨_, sq_of hl14⟩, fun D2 hD2 => ?_⟩
          refine lc_E (K := K) wk (dueO m ho) f14 hD2 (by rw [srt_len]; omega) (fun S1 Hc g => sq_of (g.nil_h _ _ hl14)) ?_ ?_
          · rintro i k x S1 Hc Hc' Qe Nx hk g ⟨rfl, hx⟩ q1 q2
            obtain ⟨k', hk', rfl⟩ := map_atA hx
            rw [hk] at hk'
            cases hk'
            have hkm := srt_mem.mp (List.mem_of_getElem? hk)
            obtain ⟨r, hr'⟩ := look_key hkm
            obtain ⟨v, hv, dvv⟩ := ti.val hr'
            obtain ⟨rra, rpb, rfl, r1, r2⟩ := row_inv dvv
            walk_at "go"
            refine ⟨rfl, ?_⟩
            walk_at "go"
            refine i_ixDk (k := .inr k) (.inl (g.nil_h _ _ ha14)) hv ?_
            walk_at "go"
            refine i_ixT (j := 0) (sqT_mono (g.s.trans g.i) r1) rfl rfl ?_
            walk_at "go"
            refine ⟨rfl, ?_⟩
            rw [show decide (V.str r.house = V.str ho) = decide (r.house = ho) by by_cases h : r.house = ho <;> simp [h]]
            by_cases c : r.house = ho
            · rw [decide_eq_true c]
              walk_at "go"
              exact q1 S1 _ _ (.str k) (Gr.refl g.i) (.str k) (by unfold dueO; rw [hr']; exact if_pos c)
            · rw [decide_eq_false c]
              walk_at "go"
              exact q2 S1 _ (Gr.refl g.i) (by unfold dueO; rw [hr']; exact if_neg c)
          · intro S15 H15 xs2 g15 s15 hl15 dv15
            rw [dueO_fm] at dv15
            rw [dvAll_strs_inv dv15] at hl15
            have hst : ∀ z ∈ ofH m ho, PyData.strOk z = true := fun z hz => pool_str z (mb.nm z (ofH_sub hz))
            have e15' := e14'.trans g15.nil_h
            have f15 := f12.trans e15'
            walk_at "go"
            refine ⟨ra, dxr, _, rfl, f15 _ _ h1, rfl, ?_⟩
            walk_at "go"
            refine ⟨S, _, m, ho, rfl, f15, dv, ok.few, ho1, Nat.le_trans ho2 (by decide), fun p16 H16 hp16 e16 hl16 => ?_⟩
            walk_at "go"
            refine i_neL hl16 (e16 _ _ hl15) hst hst ?_
            rw [decide_eq_true (rfl : ofH m ho = ofH m ho)]
            have f16 := f15.trans e16
            walk_at "go"
            refine ⟨ra, dxr, _, rfl, f16 _ _ h1, rfl, ?_⟩
            walk_at "go"
            refine ⟨rfl, ?_⟩
            refine ⟨S, _, m, ho, rfl, f16, dv, ok.few, ho1, Nat.le_trans ho2 (by decide), fun p17 H17 hp17 e17 hl17 => ?_⟩
            walk_at "go"
            refine i_neL hl17 (e17 _ _ (e16 _ _ hl15)) hst hst ?_
            rw [decide_eq_true (rfl : ofH m ho = ofH m ho)]
            walk_at "go"
            exact ⟨_, _, _, _, rfl, ((e14.trans g15.nil_h).trans e16).trans e17⟩
        · rintro σ H14 ⟨y, z, a, b, rfl, e14⟩
          have e14' := e13.trans e14
          have f14 := f12.trans e14'
          have hl14 := e14' _ _ hl12
          walk_at "go"
          refine ⟨z5 _ (by show 1 ≤ 16777216; decide), fun t ht => ?_⟩
          have e15 := Ex.new (o := .tup [V.str "a"]) ht
          walk_at "go"
          refine ⟨z5 _ (by show 1 ≤ 16777216; decide), fun l5 hl5 => ?_⟩
          have e16 := Ex.new (o := .lst [V.str "a"]) hl5
          walk_at "go"
          refine fun d hd => ?_
          have e17 := Ex.new (o := .dK []) hd
          walk_at "go"
          refine ⟨z5 _ (by show 8 ≤ 16777216; decide), fun lo hlo => ?_⟩
          have e18 := Ex.new (o := .lst [V.str "none", V.str "", V.non, V.int 0, V.ref t, V.ref l5, V.ref d, V.str "A"]) hlo
          have ht18 := e18 _ _ (e17 _ _ (e16 _ _ (show (upd H14 t (.tup [V.str "a"])) t = _ from upd_same)))
          have hl18 := e18 _ _ (e17 _ _ (show (upd (upd H14 t (.tup [V.str "a"])) l5 (.lst [V.str "a"])) l5 = _ from upd_same))
          have hd18 := e18 _ _ (show (upd (upd (upd H14 t (.tup [V.str "a"])) l5 (.lst [V.str "a"])) d (.dK [])) d = _ from upd_same)
          have ho18 := show (upd (upd (upd (upd H14 t (.tup [V.str "a"])) l5 (.lst [V.str "a"])) d (.dK [])) lo (.lst [V.str "none", V.str "", V.non, V.int 0, V.ref t, V.ref l5, V.ref d, V.str "A"])) lo = _ from upd_same
          have e14s := ((e15.trans e16).trans e17).trans e18
          walk_at "go"
          refine ⟨lo, rfl, ⟨_, sq_of ho18⟩, fun D3 hD3 => ?_⟩
          have hD3' := hD3
          have ln18 := e14s _ _ hl14
          have f18 := f14.trans e14s
          have e18' := e12'.trans (e14'.trans e14s)
          generalize upd (upd (upd (upd H14 t (.tup [V.str "a"])) l5 (.lst [V.str "a"])) d (.dK [])) lo (.lst [V.str "none", V.str "", V.non, V.int 0, V.ref t, V.ref l5, V.ref d, V.str "A"]) = H18 at ht18 hl18 hd18 ho18 hD3' ln18 f18 e18' ⊢
          have no_in : ∀ z : Str, z ∉ poolX → z ∉ keys m := fun z hz h => hz (mb.nm z h)
          have thing : ∀ x ∈ [V.str "none", V.str "", V.non, V.int 0, V.ref t, V.ref l5, V.ref d, V.str "A"], (∃ z : Str, x = .str z ∧ z.length ≤ 100 ∧ z ∉ poolX) ∨ ∀ Hc, Ex H18 Hc → OddV K Hc x ∧ ∃ t ∈ odds, TyX K Hc x (.type t) := by
            intro x hx
            simp only [List.mem_cons, List.not_mem_nil, or_false] at hx
            rcases hx with rfl | rfl | rfl | rfl | rfl | rfl | rfl | rfl
            · exact .inl ⟨"none", rfl, by decide, by decide +kernel⟩
            · exact .inl ⟨"", rfl, by decide, by decide +kernel⟩
            · exact .inr fun Hc e => ⟨.non, "NoneType", by decide, ty_non⟩
            · exact .inr fun Hc e => ⟨.int 0, "int", by decide, ty_int⟩
            · exact .inr fun Hc e => ⟨.tup (st_of (e _ _ ht18)), "tuple", by decide, .base (.tup (e _ _ ht18))⟩
            · exact .inr fun Hc e => ⟨.lst (sq_of (e _ _ hl18)), "list", by decide, .base (.lst (e _ _ hl18))⟩
            · exact .inr fun Hc e => ⟨.dK (e _ _ hd18), "dict", by decide, .base (.dK (e _ _ hd18))⟩
            · exact .inl ⟨"A", rfl, by decide, by decide +kernel⟩
          have wo := walk_list (K := K) (a := lo) (xs := [V.str "none", V.str "", V.non, V.int 0, V.ref t, V.ref l5, V.ref d, V.str "A"])
          refine lc_G (K := K) (L := []) wo (fun i ds S1 Hc => ∃ bs : List Bool, ds = bs.map Dt.bl ∧ bs.any id = false) f18 hD3' (by simp) (by show 8 < 1000000; decide) ⟨[], rfl, rfl⟩ (fun _ _ _ _ _ h _ => h) (fun _ _ S1 Hc g _ => sq_of (g.nil_h _ _ ho18)) ?_ ?_
          · rintro i x ds S1 Hc Hc' Qe Nx hi g ⟨bs, rfl, hbs⟩ ⟨rfl, hx⟩ q1 q2
            have lnc := g.nil_h _ _ ln18
            have fc : Ex S Hc' := g.s.trans g.i
            have no_names : ∀ z : Str, z ∉ poolX → (srt (keys m)).contains z = false := fun z hz => by
              rw [List.contains_eq_mem, decide_eq_false_iff_not, srt_mem]
              exact no_in z hz
            walk_at "go"
            refine ⟨rfl, ?_⟩
            walk_at "go"
            rcases thing x (List.mem_of_getElem? hx) with ⟨z, rfl, hz, hzp⟩ | od
            · refine .inl (i_notInL (s := z) lnc ?_)
              rw [no_names z hzp]
              walk_at "go"
              refine ⟨ra, dxr, _, rfl, fc _ _ h1, S, _, m, _, rfl, fc, dv, .inl ⟨z, rfl, Nat.le_trans hz (by decide), fun H20 e20 => ⟨_, rfl, ?_⟩⟩⟩
              rw [decide_eq_false (no_in z hzp), Bool.and_false, if_neg (by decide)]
              exact q1 S1 H20 _ _ (Gr.same g.i e20) (.bl false) ⟨bs ++ [false], by rw [List.map_append]; rfl, by rw [List.any_append, hbs]; rfl⟩
            · obtain ⟨o1, o2⟩ := od Hc' g.nil_h
              obtain ⟨ty, hty, tyx⟩ := o2
              refine .inr ⟨l, _, rfl, sq_of lnc, o1, ?_⟩
              walk_at "go"
              refine ⟨ra, dxr, _, rfl, fc _ _ h1, S, _, m, _, rfl, fc, dv, .inr ⟨ty, hty, tyx, ⟨_, rfl, ?_⟩⟩⟩
              rw [if_neg (by decide)]
              exact q1 S1 _ _ _ (Gr.refl g.i) (.bl false) ⟨bs ++ [false], by rw [List.map_append]; rfl, by rw [List.any_append, hbs]; rfl⟩
          · rintro S19 H19 xs3 ds g19 s19 hl19 dv19 ⟨bs, rfl, hbs⟩
            walk_at "go"
            refine ⟨D3, bs, rfl, sq_of (by rw [hl19, dvAll_bls_inv dv19]), ?_⟩
            rw [hbs]
            walk_at "go"
            exact q H19 (e18'.trans g19.nil_h)
end
end K31

set_option Elab.async false
set_option linter.all false
set_option maxRecDepth 100000
set_option maxHeartbeats 4000000
/-! G32: != of dicts. -/
namespace Gd
open PySem PySem.Spec PyProof.Rows L2
open Evl (Ex Ex.refl Ex.trans Ex.new Ex.mut ex_t ex_l sq_of st_of fresh_back)
section
variable {X : Cx} {n : Nat}
def rNeDO (X : Cx) (n : Nat) : R2 := fun x y H Q => ∃ a b kA kB S0 e, x = .ref a ∧ y = .ref b ∧ S0 a = none ∧ Ex S0 H ∧ H a = some (.dK kA) ∧ H b = some (.dK kB) ∧ (∀ p ∈ kA, ∀ y, valV kB p.1 = some y → EqV X n S0 p.2 y (e p.1)) ∧ ∀ H', Ex H H' → Q (.bl (!eqKV kA kB e)) H'
theorem op_neDO (hr : Room (n + 2) X.A) : OpR X (compareOp .NotEq) (rNeDO X n) := by
  intro pins s σ H x y v u Q I rx ry h
  obtain ⟨a, b, kA, kB, S0, e, rfl, rfl, s0, x0, ha, hb, he, q⟩ := h
  obtain rfl : v = Value.ref a := rx
  obtain rfl : u = Value.ref b := ry
  have ty : ∀ {c : Addr} {k : List (Key × V)}, H c = some (.dK k) → s.TypeIs (.ref c) "dict" := by
    intro c k hc
    obtain ⟨hz, hs, vs, kv, o, es, ep, ho2, ex, _⟩ := (show ObjOk X.prog X.w H s.heap c (.dK k) from I.hok c _ hc)
    exact ⟨o, ho2, ex.1⟩
  refine PySem.wpAny_richCompare_same_room (op := .NotEq) (ty ha) (ty hb) PySem.F.slot_dict_ne (wpAny_call_entry PySem.F.slot_dict_ne (ty ha) PySem.F.entry_dict_ne ?_ (PySem.F.args_dict_ne_2 _ _)) hr.units0
  show wpAny _ _ (Builtin.Dict.dictSlotArgs "__ne__" ⟨[.ref a, .ref b], []⟩ >>= _) _ _ s
  unfold Builtin.Dict.dictSlotArgs
  refine wpAny_bind (wpAny_bind (wpAny_notOrdered_dict (ty ha) ?_))
  show wpAny _ _ (pure (Value.ref a, Value.ref b)) _ _ s
  refine wpAny_pure (wpAny_bind (wpAny_isInstance (T := "dict") (ty hb) PySem.F.sub_dict_dict ?_))
  simp only [Bool.not_true, Bool.false_eq_true, if_false]
  refine wpAny_bind (wpAny_pure (wpAny_bind (wpAny_pure (wpAny_bind ?_))))
  obtain ⟨od, I1⟩ := I.lock ha trivial
  have nf := I.nofrz ha trivial
  have xL : ∀ {H' : Hp}, Ex (upd H a (.frz od (.dK kA))) H' → Ex H (upd H' a (.dK kA)) := fun x b o z => by
    by_cases q : b = a
    · subst q
      rw [upd_same, ← ha]
      exact z
    · rw [upd_ne q]
      exact x _ _ (by rw [upd_ne q]; exact z)
  have x1 : Ex S0 (upd H a (.frz od (.dK kA))) := fun b o z => by
    rw [upd_ne (fun q => by rw [q, s0] at z; cases z)]
    exact x0 _ _ z
  have lb : RdK (upd H a (.frz od (.dK kA))) b kB := by
    by_cases q : b = a
    · subst q
      rw [ha] at hb
      cases hb
      exact .inr ⟨od, upd_same⟩
    · exact .inl (by rw [upd_ne q]; exact hb)
  refine samePairs_O (S0 := S0) (n := n) (A := X.A.in1) rfl rfl ((Room.in1 hr).mono (by omega)) I1 x1 upd_same lb he fun s' H' J xJ => wpAny_pure ⟨_, rfl, fun z => (by cases z), ?_⟩
  have U := J.unlock (xJ _ _ upd_same) nf
  have := q _ (xL xJ)
  exact ⟨.bl (!eqKV kA kB e), _, U, (by show Value.bool (eqKV kA kB e == false) = Value.bool (!eqKV kA kB e); cases eqKV kA kB e <;> rfl), this⟩
end
end Gd

set_option Elab.async false
set_option linter.all false
set_option maxRecDepth 100000
set_option maxHeartbeats 4000000
/-! K31J: == of orders and rounds; bundles bent; rounds spoilt. -/
namespace K31
open PySem PySem.Spec PyProof.Rows L2 Gd
open Evl (Ex Ex.refl Ex.trans Ex.new Ex.mut ex_t ex_l sq_of st_of fresh_back)

theorem x_prop {C : Addr} {sp : Sp} {dvs : List V} {E : XK} {ta : TE} {σ : L2.St} {H : Hp} {Q : VK} (h : ta σ H fun x H1 => ∃ a dx fs, x = .ref a ∧ H1 a = some (.ins C dx fs) ∧ sp (.ref a :: dvs) H1 Q E) : tProp C sp dvs E ta σ H Q := h
theorem x_makeKO {C : Addr} {m : Nat} {sp : Sp} {σ : L2.St} {H : Hp} {tk : TA} {Q : VK} (h : tk σ H fun zs H2 => ([] : List V).length = 0 ∧ zs.length = m ∧ MkG C sp Q zs.reverse H2) : tMakeK C 0 m sp (fun vs zs => vs ++ zs.reverse) E0 tNil tk σ H Q := h
local macro_rules | `(tactic| walk_at "st") => `(tactic| first
  | with_reducible refine x_seq ?_ | with_reducible refine x_ret ?_ | with_reducible refine x_retN ?_ | with_reducible refine x_next ?_ | with_reducible refine x_drop ?_ | with_reducible refine x_if ?_ | with_reducible refine x_asg ?_
  | with_reducible refine x_par ?_ | with_reducible refine x_par3 ?_ | with_reducible refine x_sfld ?_ | ((with_reducible show tVar _ _ _ _); refine x_var rfl ?_) | with_reducible refine x_c ?_ | with_reducible refine x_op ?_ | with_reducible refine x_un ?_
  | with_reducible refine x_chain ?_ | with_reducible refine x_andV ?_ | with_reducible refine x_orV ?_ | with_reducible refine x_notV ?_ | with_reducible refine x_ifE ?_ | with_reducible refine x_nil ?_ | with_reducible refine x_cons ?_ | with_reducible refine x_star ?_
  | with_reducible refine x_tup ?_ | with_reducible refine x_lst ?_ | with_reducible refine x_cb ?_ | with_reducible refine x_call ?_ | with_reducible refine x_meth ?_ | with_reducible refine x_methN ?_ | with_reducible refine x_makeG ?_ | with_reducible refine x_fld ?_ | with_reducible refine x_bm0 ?_ | with_reducible refine x_bm ?_
  | with_reducible refine x_sl ?_ | with_reducible refine x_no ?_ | with_reducible refine x_part ?_ | with_reducible refine x_rev ?_ | with_reducible refine x_fmtD ?_ | with_reducible refine x_test ?_ | with_reducible refine x_tB ?_ | with_reducible refine x_and ?_ | with_reducible refine x_or ?_ | with_reducible refine x_not ?_ | with_reducible refine x_yes ?_
  | with_reducible refine x_gname ?_ | with_reducible refine x_gtup ?_ | with_reducible refine x_gnil ?_ | with_reducible refine x_gcons ?_ | with_reducible refine x_gsub ?_ | with_reducible refine x_iList ?_ | with_reducible refine x_iStr ?_ | with_reducible refine x_iRng1 ?_ | with_reducible refine x_iEnumQ ?_
  | with_reducible refine x_lc ?_ | with_reducible refine x_dc ?_ | with_reducible refine x_iKeys ?_ | with_reducible refine x_iVals ?_ | with_reducible refine x_iItems ?_ | with_reducible refine x_forW ?_ | with_reducible refine x_iSeq ?_ | with_reducible refine x_ixO ?_
  | with_reducible refine x_prop ?_ | with_reducible refine x_makeKO ?_ | with_reducible refine x_M1 ?_ | with_reducible refine x_listVals ?_ | with_reducible refine x_listItems ?_ | with_reducible refine i_I0 ?_ | with_reducible refine i_U ?_ | with_reducible refine iteT ?_ | with_reducible refine iteF ?_ | with_reducible refine iteNT ?_ | with_reducible refine iteNF ?_ | with_reducible refine x_bl ?_ | with_reducible refine x_int ?_ | with_reducible refine i_add ?_ | with_reducible refine i_int1 ?_ | with_reducible refine i_abs ?_ | with_reducible refine i_max ?_ | with_reducible refine i_min ?_)
local macro_rules | `(tactic| walk_at "go") => `(tactic| repeat (first | walk_at "st" | dsimp only [Bool.not_true, Bool.not_false, List.nil_append, List.cons_append]))

theorem kbn_rev {K : PySem.W.Frag} {x qual : Str} {params : Arguments} {body : List Stmt} {scope : Scope} {kws : List (Str × V)} {f : Addr} {fd : FuncData} {ps : List Str} (F : FunD K x qual params body scope [] kws f fd) (n : Nat) (ks : List Str)
    (h : ∀ (kV doc pm : Value) (an : Option Addr) (cdv ct : Value) (us ws : List Value), us.length = n → ws.length = ks.length → bindArgs (PySem.W.fnOf x qual params body scope .none kV doc pm an cdv ct) ⟨us, ks.zip ws⟩ = pure (ps.zip (us ++ ws.reverse))) : KBn K fd ps n ks (fun us ws => us ++ ws.reverse) (fun vs zs => vs ++ zs.reverse) := by
  obtain ⟨oc, od, dV, kV, doc, pm, an, cdv, ct, osl, rfl, lk, hcd, hD, hK⟩ := F.ex
  rcases hD with ⟨_, rfl⟩ | ⟨e, _⟩
  · exact ⟨fun s us ws _ l1 l2 => .of_eq (h kV doc pm an cdv ct us ws l1 l2), fun r1 r2 => r1.append r2.reverse⟩
  · exact absurd rfl e
section
variable {K : PySem.W.Frag} {S H : Hp} {Q : VK} {v u : V}
theorem q_eqO (oc : OwnC K (CO K)) {r t : Row} (f : Ex S H) (d1 : Dv K S v (ordD K r)) (d2 : Dv K S u (ordD K t)) (b1 : bdOk r.bun) (b2 : bdOk t.bun) (q : ∀ H', Ex H H' → Q (.bl (sameB r t)) H') : rEqO K (CO K) (spOEq (K := K)) v u H Q := by
  obtain ⟨a, dx, p, rfl, ha, _⟩ := ord_inv d1
  obtain ⟨b, dy, p', rfl, hb, _⟩ := ord_inv d2
  exact ⟨a, dx, _, _, rfl, f _ _ ha, oc.ty _ _ _ _ (f _ _ hb), oc.nfS, S, _, _, r, rfl, f, d1, .inr ⟨t, d2, b1, b2, fun H' e => ⟨_, rfl, q H' e⟩⟩⟩
theorem q_neO (oc : OwnC K (CO K)) {r t : Row} (f : Ex S H) (d1 : Dv K S v (ordD K r)) (d2 : Dv K S u (ordD K t)) (b1 : bdOk r.bun) (b2 : bdOk t.bun) (q : ∀ H', Ex H H' → Q (.bl (!sameB r t)) H') : rNeO K (CO K) (spOEq (K := K)) v u H Q := by
  obtain ⟨a, dx, p, rfl, ha, _⟩ := ord_inv d1
  obtain ⟨b, dy, p', rfl, hb, _⟩ := ord_inv d2
  exact ⟨a, dx, _, _, rfl, f _ _ ha, oc.ty _ _ _ _ (f _ _ hb), oc.nfS, S, _, _, r, rfl, f, d1, .inr ⟨t, d2, b1, b2, fun H' e => ⟨_, rfl, q H' e⟩⟩⟩
theorem q_eqOT (oc : OwnC K (CO K)) {r : Row} {t : String} (f : Ex S H) (d1 : Dv K S v (ordD K r)) (ht : t ∈ bases) (ty : TyX K H u (.type t)) (q : Q (.bl false) H) : rEqO K (CO K) (spOEq (K := K)) v u H Q := by
  obtain ⟨a, dx, p, rfl, ha, _⟩ := ord_inv d1
  exact ⟨a, dx, _, _, rfl, f _ _ ha, ty, oc.nf t ht, S, _, _, r, rfl, f, d1, .inl ⟨t, ht, ty, _, rfl, q⟩⟩
theorem q_eqR (rc : OwnC K (CR K)) {m t : Ms} (f : Ex S H) (d1 : Dv K S v (rdD K m)) (d2 : Dv K S u (rdD K t)) (b1 : MsOk m) (b2 : MsOk t) (q : ∀ H', Ex H H' → Q (.bl (sameM m t)) H') : rEqO K (CR K) (spREq K) v u H Q := by
  obtain ⟨a, dx, p, g, kvs, rfl, ha, _⟩ := rd_inv d1
  obtain ⟨b, dy, p', g', kvs', rfl, hb, _⟩ := rd_inv d2
  exact ⟨a, dx, _, _, rfl, f _ _ ha, rc.ty _ _ _ _ (f _ _ hb), rc.nfS, S, _, _, m, rfl, f, d1, .inr ⟨t, d2, b1, b2, fun H' e => ⟨_, rfl, q H' e⟩⟩⟩
theorem q_neR (rc : OwnC K (CR K)) {m t : Ms} (f : Ex S H) (d1 : Dv K S v (rdD K m)) (d2 : Dv K S u (rdD K t)) (b1 : MsOk m) (b2 : MsOk t) (q : ∀ H', Ex H H' → Q (.bl (!sameM m t)) H') : rNeO K (CR K) (spREq K) v u H Q := by
  obtain ⟨a, dx, p, g, kvs, rfl, ha, _⟩ := rd_inv d1
  obtain ⟨b, dy, p', g', kvs', rfl, hb, _⟩ := rd_inv d2
  exact ⟨a, dx, _, _, rfl, f _ _ ha, rc.ty _ _ _ _ (f _ _ hb), rc.nfS, S, _, _, m, rfl, f, d1, .inr ⟨t, d2, b1, b2, fun H' e => ⟨_, rfl, q H' e⟩⟩⟩
theorem q_eqRT (rc : OwnC K (CR K)) {m : Ms} {t : String} (f : Ex S H) (d1 : Dv K S v (rdD K m)) (ht : t ∈ bases) (ty : TyX K H u (.type t)) (q : Q (.bl false) H) : rEqO K (CR K) (spREq K) v u H Q := by
  obtain ⟨a, dx, p, g, kvs, rfl, ha, _⟩ := rd_inv d1
  exact ⟨a, dx, _, _, rfl, f _ _ ha, ty, rc.nf t ht, S, _, _, m, rfl, f, d1, .inl ⟨t, ht, ty, _, rfl, q⟩⟩
/-- what was frozen since, forgotten -/
theorem Gr.drop {L : List Addr} {S H S' H' : Hp} (g : Gr L S H S' H') : Gr L S H S H' := ⟨Ex.refl S, g.s.trans g.i, g.h, fun _ _ _ _ z => z⟩
theorem PotOk.drop {S H S' H' : Hp} {p : Addr} (k : PotOk S' H' p) (s : S p = none) : PotOk S H' p := ⟨s, k.h⟩
end
/-! ### bundles bent -/
theorem told_ext {b c : Bd} (nb : (keys b).Nodup) (nc : (keys c).Nodup) (h : ∀ k i, i ≠ 0 → (look b k = some i ↔ look c k = some i)) : told b = told c := by
  obtain ⟨b1, b2, b3⟩ := told_keys_nd nb
  obtain ⟨c1, c2, c3⟩ := told_keys_nd nc
  have m : ∀ p, p ∈ told b ↔ p ∈ told c := fun p => by
    rw [b3 p.1 p.2, c3 p.1 p.2]
    exact ⟨fun ⟨x, y⟩ => ⟨(h _ _ y).mp x, y⟩, fun ⟨x, y⟩ => ⟨(h _ _ y).mpr x, y⟩⟩
  have nB : (told b).Nodup := (List.pairwise_map.mp b1).imp fun h e => h (congrArg Prod.fst e)
  have nC : (told c).Nodup := (List.pairwise_map.mp c1).imp fun h e => h (congrArg Prod.fst e)
  exact tab_eq b1 c1 b2 c2 (Nat.le_antisymm (nodup_len nB fun a ha => (m a).mp ha) (nodup_len nC fun a ha => (m a).mpr ha)) fun p hp => (m p).mp hp
theorem look_perm {b c : Bd} (nb : (keys b).Nodup) (p : c.Perm b) (k : Str) : look c k = look b k := by
  have nc : (keys c).Nodup := (p.map _).nodup_iff.mpr nb
  cases q : look b k with
  | some i => exact look_mem nc (p.mem_iff.mpr (look_in q))
  | none =>
    refine look_no fun h => ?_
    obtain ⟨x, hx⟩ := look_key ((p.map (·.1)).mem_iff.mp h)
    rw [hx] at q
    cases q
theorem told_perm {b c : Bd} (nb : (keys b).Nodup) (p : c.Perm b) : told c = told b := told_ext ((p.map _).nodup_iff.mpr nb) nb fun k i _ => by rw [look_perm nb p k]
theorem snoc_nd {b : Bd} {z : Str} {i : Int} (nb : (keys b).Nodup) (hz : z ∉ keys b) : (keys (b ++ [(z, i)])).Nodup := by
  unfold keys at *
  rw [List.map_append, List.nodup_append]
  refine ⟨nb, by simp, fun a ha c hc e => ?_⟩
  have : c = z := by simpa using hc
  rw [e, this] at ha
  exact hz ha
theorem look_snoc {b : Bd} {z : Str} {i : Int} (nb : (keys b).Nodup) (hz : z ∉ keys b) (k : Str) : look (b ++ [(z, i)]) k = if k = z then some i else look b k := by
  by_cases c : k = z
  · rw [if_pos c, c]
    exact look_mem (snoc_nd nb hz) (List.mem_append_right _ (by simp))
  · rw [if_neg c]
    cases q : look b k with
    | some j => exact look_mem (snoc_nd nb hz) (List.mem_append_left _ (look_in q))
    | none =>
      refine look_no fun h => ?_
      unfold keys at h
      rw [List.map_append, List.mem_append] at h
      rcases h with h | h
      · obtain ⟨x, hx⟩ := look_key (m := b) h
        rw [hx] at q
        cases q
      · exact c (by simpa using h)
theorem told_zero {b : Bd} {z : Str} (nb : (keys b).Nodup) (hz : z ∉ keys b) : told (b ++ [(z, 0)]) = told b := told_ext (snoc_nd nb hz) nb fun k i hi => by
  rw [look_snoc nb hz]
  by_cases c : k = z
  · rw [if_pos c, c, look_no hz]
    exact ⟨fun h => absurd (Option.some.inj h).symm hi, fun h => by cases h⟩
  · rw [if_neg c]
theorem told_more {b : Bd} {z : Str} {i : Int} (nb : (keys b).Nodup) (hz : z ∉ keys b) (hi : i ≠ 0) : told b ≠ told (b ++ [(z, i)]) := fun e => by
  have h1 := ((told_keys_nd (snoc_nd (i := i) nb hz)).2.2 z i).mpr ⟨by rw [look_snoc nb hz, if_pos rfl], hi⟩
  rw [← e] at h1
  exact hz (List.mem_map.mpr ⟨_, told_sub nb h1, rfl⟩)
theorem look_dbl (b : Bd) (k : Str) : look (dbl b) k = (look b k).map (· * 2) := by
  unfold dbl look
  induction b with
  | nil => rfl
  | cons p r ih =>
    rw [List.map_cons]
    by_cases c : p.1 = k
    · rw [List.find?_cons_of_pos (by simp [c]), List.find?_cons_of_pos (by simp [c])]
      rfl
    · rw [List.find?_cons_of_neg (by simp [c]), List.find?_cons_of_neg (by simp [c])]
      exact ih
theorem told_dbl {b : Bd} (nb : (keys b).Nodup) (h : told b ≠ []) : told b ≠ told (dbl b) := fun e => by
  obtain ⟨⟨k, i⟩, hp⟩ := List.exists_mem_of_ne_nil _ h
  have h1 := ((told_keys_nd nb).2.2 k i).mp hp
  have nd : (keys (dbl b)).Nodup := by rw [dbl_keys]; exact nb
  have h2 := ((told_keys_nd nd).2.2 k (i * 2)).mpr ⟨by rw [look_dbl, h1.1]; rfl, by have := h1.2; omega⟩
  rw [← e] at h2
  have h3 := ((told_keys_nd nb).2.2 k (i * 2)).mp h2
  have h4 : i = i * 2 := Option.some.inj (h1.1.symm.trans h3.1)
  have := h1.2
  omega
theorem sameB_no {r t : Row} (h : r.house ≠ t.house ∨ r.lim ≠ t.lim ∨ r.most ≠ t.most ∨ told r.bun ≠ told t.bun) : sameB r t = false := by
  rw [sameB_can, decide_eq_false_iff_not]
  intro e
  unfold can at e
  rw [Row.mk.injEq] at e
  obtain ⟨a, b, c, d⟩ := e
  rcases h with h | h | h | h
  · exact h a
  · exact h c
  · exact h d
  · exact h b
section
variable {P : Program} {w : World} {K : PySem.W.Frag} {mg : Str → Option Value} {base : Heap}
theorem kb_Order (T : Txt K mg) : KBn K (fdOf K (d_Order_init.at_ K)) ["self", "house", "bundle", "limit", "most"] 1 ["most", "limit", "bundle", "house"] (fun us ws => us ++ ws.reverse) (fun vs zs => vs ++ zs.reverse) :=
  kbn_rev T.f_Order_init 1 ["most", "limit", "bundle", "house"] fun _ _ _ _ _ _ us ws h1 h2 => match us, ws, h1, h2 with | [_], [_, _, _, _], _, _ => rfl
/-! ### spoilt -/
def spSpoilt (K : PySem.W.Frag) : Sp := fun vs H Q _ => ∃ S v m, vs = [v] ∧ Ex S H ∧ Dv K S v (rdD K m) ∧ MsOk m ∧ ∀ H', Ex H H' → Q v H'
theorem b_law_spoilt (T : Txt K mg) : Binds K (fdOf K (d_law_spoilt.at_ K)) ["made"] [] := T.f_law_spoilt.bindsN fun _ _ _ _ _ _ us hl => match us, hl with | [_], _ => rfl
theorem ok_law_spoilt (T : Txt K mg) : FO P w K mg base 3 d_law_spoilt ["made"] (spSpoilt K) := by
  have G_Round_goods := ok_Round_goods (P := P) (w := w) (base := base) T
  have G_Round_orders := ok_Round_orders (P := P) (w := w) (base := base) T
  have G_Round_of_house := ok_Round_of_house (P := P) (w := w) (base := base) T
  refine T.f_law_spoilt.ok sc_law_spoilt (fun vs H Q E h => ?_) (fun cdv A outer s H vs Q E hr h => ?_)
  · obtain ⟨S, v, m, rfl, _⟩ := h
    rfl
  · obtain ⟨S, v, m, rfl, f, dv, ok, q⟩ := h
    obtain ⟨ra, dxr, po, pg, kvs0, rfl, h1, h2, oi, h3⟩ := rd_inv dv
    refine ⟨_, (pss_cons (ps_expr (L2.pe_dclear (pe_meth0 (pv 0) T.cl_Round T.m_Round_orders G_Round_orders (hr.mono (by decide)) (b_Round_orders T) .nil pass0)))
    (pss_cons (ps_expr (pe_bm PySem.F.plainAttrs_list PySem.F.slot_list_append PySem.F.type_list_append mt_append (pe_meth0 (pv 0) T.cl_Round T.m_Round_goods G_Round_goods (hr.mono (by decide)) (b_Round_goods T) .nil pass0) (pa_cons pe_str pa_nil)))
    (pss_cons (ps_expr (pe_bm PySem.F.plainAttrs_list PySem.F.slot_list_append PySem.F.type_list_append mt_append (pe_meth (pv 0) T.cl_Round T.m_Round_of_house G_Round_of_house (hr.mono (by decide)) (b_Round_of_house T) .nil pass0 (pa_cons pe_str pa_nil)) (pa_cons pe_str pa_nil)))
    (pss_one (ps_ret (pv 0)))))), ?_⟩
    walk_at "go"
    refine ⟨ra, dxr, _, rfl, f _ _ h1, rfl, ?_⟩
    walk_at "go"
    refine ⟨S, _, m, rfl, f, dv, fun p1 kvs1 hp1 oi1 => ?_⟩
    refine ⟨.inr (.inr (.inl ⟨rfl, .inl ⟨_, upd_same⟩⟩)), p1, kvs1, rfl, rfl, upd_same, ?_⟩
    have e1 : Ex H (upd (upd H p1 (.dK kvs1)) p1 (.dK [])) := fun c o z => by
      have : c ≠ p1 := fun e => by rw [e, hp1] at z; cases z
      rw [upd_ne this, upd_ne this]
      exact z
    generalize upd (upd H p1 (.dK kvs1)) p1 (.dK []) = H1 at e1 ⊢
    have f1 := f.trans e1
    walk_at "go"
    refine ⟨ra, dxr, _, rfl, f1 _ _ h1, rfl, ?_⟩
    walk_at "go"
    refine ⟨S, _, m, rfl, f1, dv, fun p2 hp2 => ?_⟩
    refine ⟨i_tyL upd_same, ?_⟩
    walk_at "go"
    refine i_append upd_same ?_ ?_
    · rw [List.length_map]
      unfold goodsM
      rw [srt_len]
      exact Nat.le_trans ok.gs (by decide)
    have e2 : Ex H (upd (upd H1 p2 (.lst ((goodsM m).map V.str))) p2 (.lst ((goodsM m).map V.str ++ [.str "zz"]))) := fun c o z => by
      have z1 := e1 _ _ z
      have : c ≠ p2 := fun e => by rw [e, hp2] at z1; cases z1
      rw [upd_ne this, upd_ne this]
      exact z1
    generalize upd (upd H1 p2 (.lst ((goodsM m).map V.str))) p2 (.lst ((goodsM m).map V.str ++ [.str "zz"])) = H2 at e2 ⊢
    have f2 := f.trans e2
    walk_at "go"
    refine ⟨ra, dxr, _, rfl, f2 _ _ h1, rfl, ?_⟩
    walk_at "go"
    refine ⟨S, _, m, "ann", rfl, f2, dv, ok.few, by decide +kernel, by decide, fun p3 H3 hp3 e3 hl3 => ?_⟩
    refine ⟨i_tyL hl3, ?_⟩
    walk_at "go"
    have lo : (ofH m "ann").length ≤ 12 := by
      unfold ofH
      rw [List.length_map]
      refine Nat.le_trans (List.length_filter_le _ _) ?_
      rw [srtM_len]
      exact ok.few
    refine i_append hl3 (by rw [List.length_map]; omega) ?_
    walk_at "go"
    refine q _ fun c o z => ?_
    have z2 := e2 _ _ z
    have : c ≠ p3 := fun e => by rw [e, hp3] at z2; cases z2
    rw [upd_ne this]
    exact e3 _ _ z2
end
end K31

set_option Elab.async false
set_option linter.all false
set_option maxRecDepth 100000
set_option maxHeartbeats 4000000
/-! K31O: an order is right. -/
namespace K31
open PySem PySem.Spec PyProof.Rows L2 Gd
open Evl (Ex Ex.refl Ex.trans Ex.new Ex.mut ex_t ex_l sq_of st_of fresh_back)

local macro_rules | `(tactic| walk_at "st") => `(tactic| first
  | with_reducible refine x_seq ?_ | with_reducible refine x_ret ?_ | with_reducible refine x_retN ?_ | with_reducible refine x_next ?_ | with_reducible refine x_drop ?_ | with_reducible refine x_if ?_ | with_reducible refine x_asg ?_
  | with_reducible refine x_par ?_ | with_reducible refine x_par3 ?_ | with_reducible refine x_sfld ?_ | ((with_reducible show tVar _ _ _ _); refine x_var rfl ?_) | with_reducible refine x_c ?_ | with_reducible refine x_op ?_ | with_reducible refine x_un ?_
  | with_reducible refine x_chain ?_ | with_reducible refine x_andV ?_ | with_reducible refine x_orV ?_ | with_reducible refine x_notV ?_ | with_reducible refine x_ifE ?_ | with_reducible refine x_nil ?_ | with_reducible refine x_cons ?_ | with_reducible refine x_star ?_
  | with_reducible refine x_tup ?_ | with_reducible refine x_lst ?_ | with_reducible refine x_cb ?_ | with_reducible refine x_call ?_ | with_reducible refine x_meth ?_ | with_reducible refine x_methN ?_ | with_reducible refine x_makeG ?_ | with_reducible refine x_fld ?_ | with_reducible refine x_bm0 ?_ | with_reducible refine x_bm ?_
  | with_reducible refine x_sl ?_ | with_reducible refine x_no ?_ | with_reducible refine x_part ?_ | with_reducible refine x_rev ?_ | with_reducible refine x_fmtD ?_ | with_reducible refine x_test ?_ | with_reducible refine x_tB ?_ | with_reducible refine x_and ?_ | with_reducible refine x_or ?_ | with_reducible refine x_not ?_ | with_reducible refine x_yes ?_
  | with_reducible refine x_gname ?_ | with_reducible refine x_gtup ?_ | with_reducible refine x_gnil ?_ | with_reducible refine x_gcons ?_ | with_reducible refine x_gsub ?_ | with_reducible refine x_iList ?_ | with_reducible refine x_iStr ?_ | with_reducible refine x_iRng1 ?_ | with_reducible refine x_iEnumQ ?_
  | with_reducible refine x_lc ?_ | with_reducible refine x_dc ?_ | with_reducible refine x_iKeys ?_ | with_reducible refine x_iVals ?_ | with_reducible refine x_iItems ?_ | with_reducible refine x_forW ?_ | with_reducible refine x_iSeq ?_ | with_reducible refine x_ixO ?_
  | with_reducible refine x_prop ?_ | with_reducible refine x_makeKO ?_ | with_reducible refine x_M1 ?_ | with_reducible refine x_listVals ?_ | with_reducible refine x_listItems ?_ | with_reducible refine i_I0 ?_ | with_reducible refine i_U ?_ | with_reducible refine iteT ?_ | with_reducible refine iteF ?_ | with_reducible refine iteNT ?_ | with_reducible refine iteNF ?_ | with_reducible refine x_bl ?_ | with_reducible refine x_int ?_ | with_reducible refine i_add ?_ | with_reducible refine i_int1 ?_ | with_reducible refine i_abs ?_ | with_reducible refine i_max ?_ | with_reducible refine i_min ?_)
local macro_rules | `(tactic| walk_at "go") => `(tactic| repeat (first | walk_at "st" | dsimp only [Bool.not_true, Bool.not_false, List.nil_append, List.cons_append]))

local macro_rules | `(tactic| walk_at "sn") => `(tactic| first
  | with_reducible refine x_seq ?_ | with_reducible refine x_ret ?_ | with_reducible refine x_retN ?_ | with_reducible refine x_next ?_ | with_reducible refine x_drop ?_ | with_reducible refine x_asg ?_
  | with_reducible refine x_par ?_ | with_reducible refine x_par3 ?_ | with_reducible refine x_sfld ?_ | ((with_reducible show tVar _ _ _ _); refine x_var rfl ?_) | with_reducible refine x_c ?_ | with_reducible refine x_op ?_ | with_reducible refine x_un ?_
  | with_reducible refine x_chain ?_ | with_reducible refine x_andV ?_ | with_reducible refine x_orV ?_ | with_reducible refine x_notV ?_ | with_reducible refine x_ifE ?_ | with_reducible refine x_nil ?_ | with_reducible refine x_cons ?_ | with_reducible refine x_star ?_
  | with_reducible refine x_tup ?_ | with_reducible refine x_lst ?_ | with_reducible refine x_cb ?_ | with_reducible refine x_call ?_ | with_reducible refine x_meth ?_ | with_reducible refine x_methN ?_ | with_reducible refine x_makeG ?_ | with_reducible refine x_fld ?_ | with_reducible refine x_bm0 ?_ | with_reducible refine x_bm ?_
  | with_reducible refine x_sl ?_ | with_reducible refine x_no ?_ | with_reducible refine x_part ?_ | with_reducible refine x_rev ?_ | with_reducible refine x_fmtD ?_ | with_reducible refine x_test ?_ | with_reducible refine x_tB ?_ | with_reducible refine x_and ?_ | with_reducible refine x_or ?_ | with_reducible refine x_not ?_ | with_reducible refine x_yes ?_
  | with_reducible refine x_gname ?_ | with_reducible refine x_gtup ?_ | with_reducible refine x_gnil ?_ | with_reducible refine x_gcons ?_ | with_reducible refine x_gsub ?_ | with_reducible refine x_iList ?_ | with_reducible refine x_iStr ?_ | with_reducible refine x_iRng1 ?_ | with_reducible refine x_iEnumQ ?_
  | with_reducible refine x_lc ?_ | with_reducible refine x_dc ?_ | with_reducible refine x_iKeys ?_ | with_reducible refine x_iVals ?_ | with_reducible refine x_iItems ?_ | with_reducible refine x_forW ?_ | with_reducible refine x_iSeq ?_ | with_reducible refine x_ixO ?_
  | with_reducible refine x_prop ?_ | with_reducible refine x_makeKO ?_ | with_reducible refine x_M1 ?_ | with_reducible refine x_listVals ?_ | with_reducible refine x_listItems ?_ | with_reducible refine i_I0 ?_ | with_reducible refine i_U ?_ | with_reducible refine iteT ?_ | with_reducible refine iteF ?_ | with_reducible refine iteNT ?_ | with_reducible refine iteNF ?_ | with_reducible refine x_bl ?_ | with_reducible refine x_int ?_ | with_reducible refine i_add ?_ | with_reducible refine i_int1 ?_ | with_reducible refine i_abs ?_ | with_reducible refine i_max ?_ | with_reducible refine i_min ?_)
local macro_rules | `(tactic| walk_at "gn") => `(tactic| repeat (first | walk_at "sn" | dsimp only [Bool.not_true, Bool.not_false, List.nil_append, List.cons_append]))

theorem RowG.nozz {gs : List Str} {r : Row} (hg : gs ∈ menus) (h : RowG gs r) : (Str.ofString "zz") ∉ keys r.bun := fun z => ((menu_all hg).1 _ (h.g _ z)).2 rfl
/-- the pairs of a bundle, by its goods in some sequence -/
def mixB (b : Bd) (l : List Str) : Bd := l.filterMap fun k => (look b k).map fun i => (k, i)
theorem mixB_keys {b : Bd} : ∀ {l : List Str}, (∀ k ∈ l, k ∈ keys b) → keys (mixB b l) = l
  | [], _ => rfl
  | k :: l, h => by
    obtain ⟨x, hx⟩ := look_key (h k (.head _))
    unfold mixB
    rw [List.filterMap_cons, hx]
    show k :: keys (mixB b l) = k :: l
    rw [mixB_keys fun z hz => h z (.tail _ hz)]
theorem mixB_perm {b : Bd} {l : List Str} (nb : (keys b).Nodup) (p : l.Perm (keys b)) : (mixB b l).Perm b := by
  have hk := mixB_keys (b := b) (l := l) fun k hk => p.mem_iff.mp hk
  have nk : (keys (mixB b l)).Nodup := by rw [hk]; exact p.nodup_iff.mpr nb
  refine sub_perm ((List.pairwise_map.mp nk).imp fun h e => h (congrArg Prod.fst e)) (fun a ha => ?_) ?_
  · obtain ⟨k, _, h⟩ := List.mem_filterMap.mp ha
    cases q : look b k with
    | none => rw [q] at h; cases h
    | some i =>
      rw [q] at h
      cases h
      exact look_in q
  · have a1 : (keys (mixB b l)).length = (mixB b l).length := List.length_map ..
    have a2 : (keys b).length = b.length := List.length_map ..
    rw [← a1, hk, p.length_eq, a2]
theorem mixB_tup (b : Bd) (l : List Str) : l.filterMap (fun k => (look b k).map fun i => tupB (k, i)) = (mixB b l).map tupB := by
  unfold mixB
  rw [List.map_filterMap]
  congr 1
  funext k
  cases look b k <;> rfl
theorem ordD_told {K : PySem.W.Frag} {r t : Row} (h : r.house = t.house) (b : told r.bun = told t.bun) (l : r.lim = t.lim) (m : r.most = t.most) : ordD K r = ordD K t := by
  unfold ordD ordF
  rw [h, b, l, m]
def pairP (p : Str × Int) : PyData := .tuple [.str p.1, .int p.2]
theorem eqv_pair (p q : Str × Int) : PyData.eqv (pairP p) (pairP q) = decide (p = q) := by
  unfold pairP
  simp only [PyData.eqv, PyData.eqvAll, Bool.and_true]
  rw [Bool.eq_iff_iff, Bool.and_eq_true, decide_eq_true_eq, beq_iff_eq, beq_iff_eq]
  exact ⟨fun ⟨a, b⟩ => Prod.ext a b, fun e => ⟨congrArg Prod.fst e, congrArg Prod.snd e⟩⟩
theorem listText_len {B : Nat} (ts : List Str) (h : ∀ t ∈ ts, t.length ≤ B) : (listText ts).length ≤ ts.length * (B + 2) + 2 := by
  rw [listText_eq_join, str_app_len, str_app_len]
  have a1 : (Str.ofString "[").length = 1 := by decide
  have a2 : (Str.ofString "]").length = 1 := by decide
  by_cases e : ts = []
  · subst e
    have : (Str.join ", " []).length = 0 := by decide
    omega
  · have := join_length_add ts e
    have := piled_len ts h
    omega
theorem ty_tupQ {K : PySem.W.Frag} {H : Hp} {a : Addr} {xs : List V} (h : SqT K H a xs) : TyX K H (.ref a) (.type "tuple") := by
  rcases h with (h | ⟨o, h⟩) | ⟨o, its, n, h1, h2, _⟩
  · exact .base (.tup h)
  · exact .fTuple h
  · exact .kTuple h1 h2
/-- what an order tells, in a list -/
def fourD (r : Row) : Dt := .lst [.str r.house, .int r.lim, .int r.most, bdD (told r.bun)]
theorem fourD_ok {r : Row} (s : SmallR r) : okD ok0 (fourD r) = true ∧ (txD tx0 (fourD r)).length ≤ 1000000 ∧ dpt (fourD r) ≤ 5 := by
  refine ⟨?_, ?_, ?_⟩
  · unfold fourD
    rw [okD, okAll, okAll, okAll, okAll, okAll, okD, okD, okD, s.bo]
    unfold smallI
    rw [decide_eq_true s.l, decide_eq_true s.m]
    rfl
  · unfold fourD
    rw [txD]
    refine Nat.le_trans (listText_len (B := 2000) _ ?_) ?_
    · intro t ht
      rw [txAll, txAll, txAll, txAll, txAll] at ht
      simp only [List.mem_cons, List.not_mem_nil, or_false] at ht
      have h1 := s.h
      have h2 := s.b
      have h3 := s.l2
      have h4 := s.m2
      rcases ht with rfl | rfl | rfl | rfl
      · rw [txD]; omega
      · rw [txD]; exact Nat.le_trans h3 (by decide)
      · rw [txD]; exact Nat.le_trans h4 (by decide)
      · exact h2
    · rw [txAll, txAll, txAll, txAll, txAll]
      show 4 * (2000 + 2) + 2 ≤ 1000000
      decide
  · unfold fourD
    have := dpt_bd (told r.bun)
    rw [dpt, dptAll, dptAll, dptAll, dptAll, dptAll, dpt, dpt, dpt]
    omega
theorem four_dv {K : PySem.W.Frag} {L : List Addr} {S0 H0 S H : Hp} {b l : Addr} {r : Row} (g : Gr L S0 H0 S H) (hb : H b = none) (hl : (upd H b (.dK (bkv (told r.bun)))) l = none) :
    Gr L S0 H0 (upd (upd S b (.dK (bkv (told r.bun)))) l (.lst [.str r.house, .int r.lim, .int r.most, .ref b])) (upd (upd H b (.dK (bkv (told r.bun)))) l (.lst [.str r.house, .int r.lim, .int r.most, .ref b])) ∧
      Dv K (upd (upd S b (.dK (bkv (told r.bun)))) l (.lst [.str r.house, .int r.lim, .int r.most, .ref b])) (.ref l) (fourD r) := by
  have g1 := g.then (Gr.newF (o := .dK (bkv (told r.bun))) g.i hb)
  have g2 := g1.then (Gr.newF (o := .lst [.str r.house, .int r.lim, .int r.most, .ref b]) g1.i hl)
  exact ⟨g2, dv_lst_new (fresh_back g1.i hl) (.cons (.str _) (.cons (.int _) (.cons (.int _) (.cons (bd_of upd_same) .nil))))⟩
theorem pairs_self (b : Bd) : PyData.eqv (.list (b.map pairP)) (.list (b.map pairP)) = true := by
  simp only [PyData.eqv]
  rw [eqvAll_map eqv_pair]
  simp
theorem py_pairs (b : Bd) : pyD (.lst (b.map tupB)) = .list (b.map pairP) := by
  simp only [pyD, pyAll_eq, List.map_map]
  congr 1
theorem pl_pairs (b : Bd) : plainD (.lst (b.map tupB)) = true := by
  simp only [plainD, plainAll_eq, List.all_map, List.all_eq_true]
  intro p _
  rfl
theorem sh_pairs {b : Bd} (h : ∀ p ∈ b, p.1 ∈ goodsAll) : SeqAt.shaped (.list (b.map pairP)) = true := by
  have c : PyData.canLayAll0 (b.map pairP) = true := canLayAll_map fun a ha => by simp [pairP, PyData.canLay0, PyData.canLayAll0, goods_str a.1 (h a ha)]
  have d : PyData.depthAll (b.map pairP) ≤ 1 := depthAll_map fun a _ => by simp [pairP, PyData.depth, PyData.depthAll]
  have e : decide (PyData.depthAll (b.map pairP) + 1 ≤ 64) = true := decide_eq_true (by omega)
  simp [SeqAt.shaped, PyData.canLay0, PyData.depth, c, e]
  all_goals omega
theorem RowG.x {gs : List Str} {r : Row} (hg : gs ∈ menus) (h : RowG gs r) : RowB ⟨r.house ++ "x", r.bun, r.lim, r.most⟩ where
  h := by
    have : ∀ k ∈ houses, k ++ Str.ofString "x" ∈ housesX := by decide +kernel
    exact this _ h.h
  nd := (h.b hg).nd
  g := (h.b hg).g
  few := (h.b hg).few
  v := (h.b hg).v
  l := (h.b hg).l
  m := (h.b hg).m
theorem RowG.l1 {gs : List Str} {r : Row} (hg : gs ∈ menus) (h : RowG gs r) : RowB ⟨r.house, r.bun, r.lim + 1, r.most⟩ where
  h := (h.b hg).h
  nd := (h.b hg).nd
  g := (h.b hg).g
  few := (h.b hg).few
  v := (h.b hg).v
  l := by
    have := h.l
    show (r.lim + 1).natAbs ≤ 200
    omega
  m := (h.b hg).m
theorem RowG.m1 {gs : List Str} {r : Row} (hg : gs ∈ menus) (h : RowG gs r) : RowB ⟨r.house, r.bun, r.lim, r.most + 1⟩ where
  h := (h.b hg).h
  nd := (h.b hg).nd
  g := (h.b hg).g
  few := (h.b hg).few
  v := (h.b hg).v
  l := (h.b hg).l
  m := by
    have := h.m
    show 0 ≤ r.most + 1 ∧ r.most + 1 ≤ 200
    omega
theorem RowG.zz {gs : List Str} {r : Row} {i : Int} (hg : gs ∈ menus) (h : RowG gs r) (hi : i.natAbs ≤ 1) : RowB ⟨r.house, r.bun ++ [(Str.ofString "zz", i)], r.lim, r.most⟩ where
  h := (h.b hg).h
  nd := snoc_nd h.nd (h.nozz hg)
  g := fun k hk => by
    have hk' : k ∈ keys (r.bun ++ [(Str.ofString "zz", i)]) := hk
    unfold keys at hk'
    rw [List.map_append, List.mem_append] at hk'
    rcases hk' with hk' | hk'
    · exact (h.b hg).g k hk'
    · have : k = Str.ofString "zz" := by simpa using hk'
      rw [this]
      decide +kernel
  few := by
    have := h.few hg
    show (r.bun ++ [(Str.ofString "zz", i)]).length ≤ 5
    rw [List.length_append]
    simp
    omega
  v := fun p hp => by
    have hp' : p ∈ r.bun ++ [(Str.ofString "zz", i)] := hp
    rcases List.mem_append.mp hp' with hp' | hp'
    · exact (h.b hg).v p hp'
    · have : p = (Str.ofString "zz", i) := by simpa using hp'
      rw [this]
      show i.natAbs ≤ 200
      omega
  l := (h.b hg).l
  m := (h.b hg).m
theorem RowG.dbl {gs : List Str} {r : Row} (hg : gs ∈ menus) (h : RowG gs r) : RowB ⟨r.house, dbl r.bun, r.lim, r.most⟩ where
  h := (h.b hg).h
  nd := by
    show (keys (K31.dbl r.bun)).Nodup
    rw [dbl_keys]
    exact h.nd
  g := fun k hk => by
    have hk' : k ∈ keys (K31.dbl r.bun) := hk
    rw [dbl_keys] at hk'
    exact (h.b hg).g k hk'
  few := by
    show (K31.dbl r.bun).length ≤ 5
    unfold K31.dbl
    rw [List.length_map]
    exact (h.b hg).few
  v := fun p hp => by
    have hp' : p ∈ K31.dbl r.bun := hp
    obtain ⟨q, hq, rfl⟩ := List.mem_map.mp hp'
    have := h.v q hq
    show (q.2 * 2).natAbs ≤ 200
    omega
  l := (h.b hg).l
  m := (h.b hg).m
section
variable {P : Program} {w : World} {K : PySem.W.Frag} {mg : Str → Option Value} {base : Heap}
def spOR (K : PySem.W.Frag) : Sp := fun vs H Q _ => ∃ S p v r gs, vs = [.ref p, v] ∧ Ex S H ∧ PotOk S H p ∧ Dv K S v (rowD r) ∧ RowG gs r ∧ gs ∈ menus ∧ ∀ H', Gr [p] S H S H' → PotOk S H' p → Q (.bl true) H'
theorem b_law_order_right (T : Txt K mg) : Binds K (fdOf K (d_law_order_right.at_ K)) ["pot", "row"] [] := T.f_law_order_right.bindsN fun _ _ _ _ _ _ us hl => match us, hl with | [_, _], _ => rfl
theorem ok_law_order_right (T : Txt K mg) (B : Tabs K) : FnG P w K mg base 24 (d_law_order_right.at_ K) (fdOf K (d_law_order_right.at_ K)) ["pot", "row"] (spOR K) := by
  have G_law_mixed := ok_law_mixed (P := P) (w := w) (base := base) T
  have G_law_bundle := ok_law_bundle (P := P) (w := w) (base := base) T
  have G_law_doubled := ok_law_doubled (P := P) (w := w) (base := base) T
  have G_law_shown := ok_law_shown (P := P) (w := w) (base := base) T
  have G_Order_init := ok_Order_init (P := P) (w := w) (base := base) T B
  have G_Order_eq := ok_Order_eq (P := P) (w := w) (base := base) T B
  have G_Order_bundle := ok_Order_bundle (P := P) (w := w) (base := base) T
  have G_Order_house := ok_Order_house (P := P) (w := w) (base := base) T
  have G_Order_limit := ok_Order_limit (P := P) (w := w) (base := base) T
  have G_Order_most := ok_Order_most (P := P) (w := w) (base := base) T
  have G_Order_repr := (ok_Order_repr (P := P) (w := w) (base := base) T).toG
  have kb_Order := kb_Order T
  refine FnG.mk_of T.f_law_order_right sc_law_order_right (fun vs H Q E h => ?_) (fun cdv A outer s H vs Q E gu hr h => ?_)
  · obtain ⟨S, p, v, r, gs, rfl, _⟩ := h
    rfl
  · obtain ⟨S, p, v, r, gs, rfl, f, k, dv, rg, hg, q⟩ := h
    have hu := hr.units
    have z5 : ∀ n, n ≤ 16777216 → n ≤ sizeLine := fun n h => by rw [sizeLine_eq]; exact h
    refine ⟨_, (pss_cons (ps_set (i := 2) sc_law_order_right.nd rfl (Or.inl rfl) (pe_callTy (show CallR _ _ (rDictP K) from call_dictP' rfl) (by rfl) T.b_dict (by decide +kernel) (pa_cons (pe_lc (own := [("good", 7)]) rfl sc_law_order_right.nd (pi_list (pe_call G_law_mixed (hr.mono (by decide)) rfl T.g_law_mixed T.f_law_mixed.kp (b_law_mixed T) .nil pass0 (pa_cons (pv 0) (pa_cons (pe_callB (call_sortD rfl) (by rfl) T.b_sorted (by decide +kernel) (pa_cons (pe_ix (show IxR _ (rIxY K) from ix_Y (units1 hr)) (pv 1) pe_int (fun _ _ => rfl)) pa_nil)) pa_nil)))) (blkOk_by (N := ["pot", "row", "handed", "made", "twin", "told", "others", "good", "other"]) (sc := defScope s_law_order_right) (by decide +kernel)) (fun _ _ _ _ _ => (pg_name (i := 7) sc_law_order_right.nd rfl (.inl rfl))) (fun _ _ _ _ _ => pts_nil) (fun _ _ _ _ _ => (pe_tup (pa_cons (pv 7) (pa_cons (pe_ix (show IxR _ (rIxY K) from ix_Y (units1 hr)) (pe_ix (show IxR _ (rIxY K) from ix_Y (units1 hr)) (pv 1) pe_int (fun _ _ => rfl)) (pv 7) (fun _ _ => rfl)) pa_nil))))) pa_nil)))
    (pss_cons (ps_asg (pe_tup (pa_cons (pe_make T.mk_Order G_Order_init (hr.mono (by decide)) rfl T.g_Order (b_Order_init T) .nil pass0 (pa_cons (pe_ix (show IxR _ (rIxY K) from ix_Y (units1 hr)) (pv 1) pe_int (fun _ _ => rfl)) (pa_cons (pv 2) (pa_cons (pe_ix (show IxR _ (rIxY K) from ix_Y (units1 hr)) (pv 1) pe_int (fun _ _ => rfl)) (pa_cons (pe_ix (show IxR _ (rIxY K) from ix_Y (units1 hr)) (pv 1) pe_int (fun _ _ => rfl)) pa_nil))))) (pa_cons (pe_makeK0 T.mk_Order G_Order_init (hr.mono (by decide)) rfl T.g_Order kb_Order pass0 (pk_cons (pe_ix (show IxR _ (rIxY K) from ix_Y (units1 hr)) (pv 1) pe_int (fun _ _ => rfl)) (pk_cons (pe_ix (show IxR _ (rIxY K) from ix_Y (units1 hr)) (pv 1) pe_int (fun _ _ => rfl)) (pk_cons (pe_ix (show IxR _ (rIxY K) from ix_Y (units1 hr)) (pv 1) pe_int (fun _ _ => rfl)) (pk_cons (pe_ix (show IxR _ (rIxY K) from ix_Y (units1 hr)) (pv 1) pe_int (fun _ _ => rfl)) pk_nil))))) pa_nil))) (pg_tup rfl (pgs_cons (pg_name (i := 3) sc_law_order_right.nd rfl (.inr rfl)) (pgs_cons (pg_name (i := 4) sc_law_order_right.nd rfl (.inl rfl)) pgs_nil))))
    (pss_cons (ps_asg (pe_op op_pow pe_int pe_int) (pg_sub (pv 2) pe_str (set_dict (units1 hr))))
    (pss_cons (ps_set (i := 5) sc_law_order_right.nd rfl (Or.inl rfl) (pe_meth0 (pv 3) T.cl_Order T.m_Order_bundle G_Order_bundle (hr.mono (by decide)) (b_Order_bundle T) .nil pass0))
    (pss_cons (ps_if (PW.pt (pw_or (pt_cmpR (op_neD hu) (LiI.pe_listItems rfl (pv 5) (by rfl) T.b_list (by decide +kernel)) (LiI.pe_listItems rfl (pe_call G_law_bundle (hr.mono (by decide)) rfl T.g_law_bundle T.f_law_bundle.kp (b_law_bundle T) .nil pass0 (pa_cons (pv 1) pa_nil)) (by rfl) T.b_list (by decide +kernel)) (nomark _)) (pw_or1 (pt_cmpR op_ne (pe_callB (call_repr_o gu G_Order_repr (hr.mono (by decide)) (b_Order_repr T) T.m_Order_repr.at_ T.m_Order_repr.fn) (by rfl) T.b_repr (by decide +kernel) (pa_cons (pv 3) pa_nil)) (pe_callG G_law_shown gu (hr.mono (by decide)) rfl T.g_law_shown T.f_law_shown.kp (b_law_shown T) .nil (pa_cons (pv 1) pa_nil)) (nomark _))))) (pss_one (ps_ret pe_bl)) pss_nil)
    (pss_cons (ps_asg (pe_un un_neg (pe_op op_pow pe_int pe_int)) (pg_sub (pv 5) pe_str (set_dict (units1 hr))))
    (pss_cons (ps_if (pt_cmpR op_ne (pe_callB (call_reprT (n := 0) gu (hr.mono (by decide)) (insR0 _ 0)) (by rfl) T.b_repr (by decide +kernel) (pa_cons (pe_lst (pa_cons (pe_prop (pv 3) T.cl_Order B.p_Order_house G_Order_house (hr.mono (by decide)) (b_Order_house T) .nil pass0 rfl) (pa_cons (pe_prop (pv 3) T.cl_Order B.p_Order_limit G_Order_limit (hr.mono (by decide)) (b_Order_limit T) .nil pass0 rfl) (pa_cons (pe_prop (pv 3) T.cl_Order B.p_Order_most G_Order_most (hr.mono (by decide)) (b_Order_most T) .nil pass0 rfl) (pa_cons (pe_meth0 (pv 3) T.cl_Order T.m_Order_bundle G_Order_bundle (hr.mono (by decide)) (b_Order_bundle T) .nil pass0) pa_nil))))) pa_nil)) (pe_callB (call_reprT (n := 0) gu (hr.mono (by decide)) (insR0 _ 0)) (by rfl) T.b_repr (by decide +kernel) (pa_cons (pe_lst (pa_cons (pe_ix (show IxR _ (rIxY K) from ix_Y (units1 hr)) (pv 1) pe_int (fun _ _ => rfl)) (pa_cons (pe_ix (show IxR _ (rIxY K) from ix_Y (units1 hr)) (pv 1) pe_int (fun _ _ => rfl)) (pa_cons (pe_ix (show IxR _ (rIxY K) from ix_Y (units1 hr)) (pv 1) pe_int (fun _ _ => rfl)) (pa_cons (pe_call G_law_bundle (hr.mono (by decide)) rfl T.g_law_bundle T.f_law_bundle.kp (b_law_bundle T) .nil pass0 (pa_cons (pv 1) pa_nil)) pa_nil))))) pa_nil)) (nomark _)) (pss_one (ps_ret pe_bl)) pss_nil)
    (pss_cons (ps_set (i := 6) sc_law_order_right.nd rfl (Or.inl rfl) (pe_lst (pa_cons (pe_make T.mk_Order G_Order_init (hr.mono (by decide)) rfl T.g_Order (b_Order_init T) .nil pass0 (pa_cons (pe_op (show OpR _ _ (rAddX K) from op_addX) (pe_ix (show IxR _ (rIxY K) from ix_Y (units1 hr)) (pv 1) pe_int (fun _ _ => rfl)) pe_str) (pa_cons (pe_ix (show IxR _ (rIxY K) from ix_Y (units1 hr)) (pv 1) pe_int (fun _ _ => rfl)) (pa_cons (pe_ix (show IxR _ (rIxY K) from ix_Y (units1 hr)) (pv 1) pe_int (fun _ _ => rfl)) (pa_cons (pe_ix (show IxR _ (rIxY K) from ix_Y (units1 hr)) (pv 1) pe_int (fun _ _ => rfl)) pa_nil))))) (pa_cons (pe_make T.mk_Order G_Order_init (hr.mono (by decide)) rfl T.g_Order (b_Order_init T) .nil pass0 (pa_cons (pe_ix (show IxR _ (rIxY K) from ix_Y (units1 hr)) (pv 1) pe_int (fun _ _ => rfl)) (pa_cons (pe_ix (show IxR _ (rIxY K) from ix_Y (units1 hr)) (pv 1) pe_int (fun _ _ => rfl)) (pa_cons (pe_op (show OpR _ _ (rAddX K) from op_addX) (pe_ix (show IxR _ (rIxY K) from ix_Y (units1 hr)) (pv 1) pe_int (fun _ _ => rfl)) pe_int) (pa_cons (pe_ix (show IxR _ (rIxY K) from ix_Y (units1 hr)) (pv 1) pe_int (fun _ _ => rfl)) pa_nil))))) pa_nil))))
    (pss_cons (ps_set (i := 6) sc_law_order_right.nd rfl (Or.inl rfl) (pe_op (show OpR _ _ (rAddX K) from op_addX) (pv 6) (pe_lst (pa_cons (pe_make T.mk_Order G_Order_init (hr.mono (by decide)) rfl T.g_Order (b_Order_init T) .nil pass0 (pa_cons (pe_ix (show IxR _ (rIxY K) from ix_Y (units1 hr)) (pv 1) pe_int (fun _ _ => rfl)) (pa_cons (pe_ix (show IxR _ (rIxY K) from ix_Y (units1 hr)) (pv 1) pe_int (fun _ _ => rfl)) (pa_cons (pe_ix (show IxR _ (rIxY K) from ix_Y (units1 hr)) (pv 1) pe_int (fun _ _ => rfl)) (pa_cons (pe_op (show OpR _ _ (rAddX K) from op_addX) (pe_ix (show IxR _ (rIxY K) from ix_Y (units1 hr)) (pv 1) pe_int (fun _ _ => rfl)) pe_int) pa_nil))))) pa_nil))))
    (pss_cons (ps_expr (pe_bm PySem.F.plainAttrs_list PySem.F.slot_list_append PySem.F.type_list_append mt_append (pv 6) (pa_cons (pe_make T.mk_Order G_Order_init (hr.mono (by decide)) rfl T.g_Order (b_Order_init T) .nil pass0 (pa_cons (pe_ix (show IxR _ (rIxY K) from ix_Y (units1 hr)) (pv 1) pe_int (fun _ _ => rfl)) (pa_cons (pe_callTy (show CallR _ _ (rDictP K) from call_dictP' rfl) (by rfl) T.b_dict (by decide +kernel) (pa_cons (pe_op (show OpR _ _ (rAddX K) from op_addX) (LiI.pe_listItems rfl (pe_ix (show IxR _ (rIxY K) from ix_Y (units1 hr)) (pv 1) pe_int (fun _ _ => rfl)) (by rfl) T.b_list (by decide +kernel)) (pe_lst (pa_cons (pe_tup (pa_cons pe_str (pa_cons pe_int pa_nil))) pa_nil))) pa_nil)) (pa_cons (pe_ix (show IxR _ (rIxY K) from ix_Y (units1 hr)) (pv 1) pe_int (fun _ _ => rfl)) (pa_cons (pe_ix (show IxR _ (rIxY K) from ix_Y (units1 hr)) (pv 1) pe_int (fun _ _ => rfl)) pa_nil))))) pa_nil)))
    (pss_cons (ps_if (pt_cmpR (op_neDO (n := 0) (hr.mono (by decide))) (pe_call G_law_bundle (hr.mono (by decide)) rfl T.g_law_bundle T.f_law_bundle.kp (b_law_bundle T) .nil pass0 (pa_cons (pv 1) pa_nil)) pe_dnewK (nomark _)) (pss_one (ps_expr (pe_bm PySem.F.plainAttrs_list PySem.F.slot_list_append PySem.F.type_list_append mt_append (pv 6) (pa_cons (pe_make T.mk_Order G_Order_init (hr.mono (by decide)) rfl T.g_Order (b_Order_init T) .nil pass0 (pa_cons (pe_ix (show IxR _ (rIxY K) from ix_Y (units1 hr)) (pv 1) pe_int (fun _ _ => rfl)) (pa_cons (pe_call G_law_doubled (hr.mono (by decide)) rfl T.g_law_doubled T.f_law_doubled.kp (b_law_doubled T) .nil pass0 (pa_cons (pv 1) pa_nil)) (pa_cons (pe_ix (show IxR _ (rIxY K) from ix_Y (units1 hr)) (pv 1) pe_int (fun _ _ => rfl)) (pa_cons (pe_ix (show IxR _ (rIxY K) from ix_Y (units1 hr)) (pv 1) pe_int (fun _ _ => rfl)) pa_nil))))) pa_nil)))) pss_nil)
    (pss_cons (ps_if (PW.pt (pw_or (pt_cmpR (op_neO gu (FnG.of G_Order_eq) (hr.mono (by decide)) (b_Order_eq T) B.oc.ob B.oc.ne T.m_Order_eq.at_ T.m_Order_eq.fn) (pv 3) (pv 4) (nomark _)) (pw_or (pt_not (pt_cmpR (op_eqO gu (FnG.of G_Order_eq) (hr.mono (by decide)) (b_Order_eq T) T.m_Order_eq.at_ T.m_Order_eq.fn) (pv 3) (pv 4) (nomark _))) (pw_or1 (pt_val (pe_callB (cr_any rfl) (by rfl) T.b_any (by decide +kernel) (pa_cons (pe_lc (own := [("other", 8)]) rfl sc_law_order_right.nd (pi_list (pe_op (show OpR _ _ (rAddX K) from op_addX) (pv 6) (pe_lst (pa_cons pe_non (pa_cons (pv 1) (pa_cons (pe_callB (call_repr_o gu G_Order_repr (hr.mono (by decide)) (b_Order_repr T) T.m_Order_repr.at_ T.m_Order_repr.fn) (by rfl) T.b_repr (by decide +kernel) (pa_cons (pv 3) pa_nil)) (pa_cons pe_int pa_nil))))))) (blkOk_by (N := ["pot", "row", "handed", "made", "twin", "told", "others", "good", "other"]) (sc := defScope s_law_order_right) (by decide +kernel)) (fun _ _ _ _ _ => (pg_name (i := 8) sc_law_order_right.nd rfl (.inl rfl))) (fun _ _ _ _ _ => pts_nil) (fun _ _ _ _ _ => (pe_cmpR (show OpR _ (compareOp .Eq) (rEqO K (CO K) (spOEq (K := K))) from op_eqO gu (FnG.of G_Order_eq) (hr.mono (by decide)) (b_Order_eq T) T.m_Order_eq.at_ T.m_Order_eq.fn) (pv 3) (pv 8) (nomark _)))) pa_nil))))))) (pss_one (ps_ret pe_bl)) pss_nil)
    (pss_one (ps_ret (pe_cmpR (op_eqO gu (FnG.of G_Order_eq) (hr.mono (by decide)) (b_Order_eq T) T.m_Order_eq.at_ T.m_Order_eq.fn) (pe_make T.mk_Order G_Order_init (hr.mono (by decide)) rfl T.g_Order (b_Order_init T) .nil pass0 (pa_cons (pe_ix (show IxR _ (rIxY K) from ix_Y (units1 hr)) (pv 1) pe_int (fun _ _ => rfl)) (pa_cons (pe_callTy (show CallR _ _ (rDictP K) from call_dictP' rfl) (by rfl) T.b_dict (by decide +kernel) (pa_cons (pe_op (show OpR _ _ (rAddX K) from op_addX) (LiI.pe_listItems rfl (pe_ix (show IxR _ (rIxY K) from ix_Y (units1 hr)) (pv 1) pe_int (fun _ _ => rfl)) (by rfl) T.b_list (by decide +kernel)) (pe_lst (pa_cons (pe_tup (pa_cons pe_str (pa_cons pe_int pa_nil))) pa_nil))) pa_nil)) (pa_cons (pe_ix (show IxR _ (rIxY K) from ix_Y (units1 hr)) (pv 1) pe_int (fun _ _ => rfl)) (pa_cons (pe_ix (show IxR _ (rIxY K) from ix_Y (units1 hr)) (pv 1) pe_int (fun _ _ => rfl)) pa_nil))))) (pv 3) (nomark _)))))))))))))))), ?_⟩
    obtain ⟨ra, pb, rfl, sq, hpb⟩ := row_inv dv
    have rb := rg.b hg
    have rok := rb.ok
    have few := rb.few
    have lk : (keys r.bun).length = r.bun.length := List.length_map ..
    walk_at "go"
    refine i_ixT (j := 1) (sqT_mono f sq) rfl rfl ?_
    walk_at "go"
    refine ⟨pb, bkv r.bun, keys r.bun, rfl, .inl (f _ _ hpb), bkv_keys _, by omega, fun ys l pm so hl => ?_⟩
    cases srt_one pm so
    have g1 : Gr [p] S H S (upd H l (.lst ((srt (keys r.bun)).map V.str))) := Gr.newO f hl
    have k1 := k.new (o := .lst ((srt (keys r.bun)).map V.str)) hl
    walk_at "go"
    refine ⟨S, p, l, srt (keys r.bun), rfl, g1.i, k1, .inl (sq_of upd_same), by rw [srt_len]; omega, fun H2 l2 gs' pm2 g2' k2 hl20 hl2 => ?_⟩
    have g2 := g1.trans g2' fun x hx => .inl hx
    have pk : gs'.Perm (keys r.bun) := pm2.trans (srt_perm _)
    have lg : gs'.length = (keys r.bun).length := pk.length_eq
    walk_at "go"
    refine ⟨l2, rfl, ⟨_, sq_of hl2⟩, fun D hD => ?_⟩
    have wk := walk_list (K := K) (a := l2) (xs := gs'.map V.str)
    rw [List.length_map] at wk
    refine lc_E (K := K) wk (fun k => (look r.bun k).map fun i => tupB (k, i)) g2.i hD (by omega) (fun S1 Hc g => sq_of (g.nil_h _ _ hl2)) ?_ ?_
    · rintro i z x S1 Hc Hc' Qe Nx hk g ⟨rfl, hx⟩ q1 q2
      obtain ⟨z', hz', rfl⟩ := map_atA hx
      rw [hk] at hz'
      cases hz'
      obtain ⟨n, hn⟩ := look_key (m := r.bun) (pk.mem_iff.mp (List.mem_of_getElem? hk))
      have vv : valV (bkv r.bun) (Sum.inr z) = some (.int n) := by rw [bkv_val, hn]; rfl
      have e1 : Ex S Hc' := g.s.trans g.i
      walk_at "go"
      refine ⟨rfl, ?_⟩
      walk_at "go"
      refine i_ixT (j := 1) (sqT_mono e1 sq) rfl rfl ?_
      walk_at "go"
      refine i_ixDk (k := .inr z) (.inl (e1 _ _ hpb)) vv ?_
      walk_at "go"
      refine ⟨z5 _ (by show 2 ≤ 16777216; decide), fun t ht => ?_⟩
      obtain ⟨g5, d5⟩ := pair_new (K := K) (Gr.refl (L := []) g.i) ht (.str z) (.int n)
      exact q1 _ _ _ (tupB (z, n)) g5 d5 (by rw [hn]; rfl)
    · intro S3 H3 xs g3' s3 hl3 dv3
      rw [mixB_tup] at dv3
      have g3 := g2.then g3'
      have k3 := k2.gr g3' (by simp)
      have bmp := mixB_perm rb.nd pk
      have bmk : (keys (mixB r.bun gs')).Nodup := (bmp.map _).nodup_iff.mpr rb.nd
      walk_at "go"
      refine i_dictB bmk g3.i hl3 dv3 fun hd hhd => ?_
      have nhd : p ≠ hd := k3.neq hhd
      have g4 := g3.then (Gr.newO (o := .dK (bkv (mixB r.bun gs'))) g3.i hhd)
      have k4 := k3.new (o := .dK (bkv (mixB r.bun gs'))) hhd
      have hd0 : H hd = none := g3.back hhd (nmem1 nhd)
      have shd : S3 hd = none := fresh_back g3.i hhd
      have hd4 : (upd H3 hd (.dK (bkv (mixB r.bun gs')))) hd = some (.dK (bkv (mixB r.bun gs'))) := upd_same
      generalize upd H3 hd (.dK (bkv (mixB r.bun gs'))) = H4 at g4 k4 hd4 ⊢
      have E4 : Ex S H4 := g4.s.trans g4.i
      walk_at "go"
      refine i_ixT (j := 0) (sqT_mono E4 sq) rfl rfl ?_
      walk_at "go"
      refine i_ixT (j := 2) (sqT_mono E4 sq) rfl rfl ?_
      walk_at "go"
      refine i_ixT (j := 3) (sqT_mono E4 sq) rfl rfl ?_
      walk_at "go"
      have bmo : bdOk (mixB r.bun gs') := ⟨bmk, by rw [bmp.length_eq]; exact rok.b.2.1, fun k hk => rok.b.2.2 k ((bmp.map _).mem_iff.mp hk)⟩
      refine g_mkOrd (S := S3) (r := ⟨r.house, mixB r.bun gs', r.lim, r.most⟩) g4.i hd4 ⟨rok.n, rok.h8, bmo, rok.m⟩ fun S5 H5 u1 g5' du1 => ?_
      rw [ordD_told (r := ⟨r.house, mixB r.bun gs', r.lim, r.most⟩) (t := r) rfl (told_perm rb.nd bmp) rfl rfl] at du1
      have g5 := g4.then g5'
      have k5 := k4.gr g5' (by simp)
      obtain ⟨hd5, shd5⟩ := g5'.own (by simp) hd4 shd
      have E5 : Ex S H5 := g5.s.trans g5.i
      walk_at "go"
      refine i_ixT (j := 3) (sqT_mono E5 sq) rfl rfl ?_
      walk_at "go"
      refine i_ixT (j := 2) (sqT_mono E5 sq) rfl rfl ?_
      walk_at "go"
      refine i_ixT (j := 1) (sqT_mono E5 sq) rfl rfl ?_
      walk_at "go"
      refine i_ixT (j := 0) (sqT_mono E5 sq) rfl rfl ?_
      walk_at "go"
      refine ⟨rfl, rfl, ?_⟩
      refine g_mkOrd (S := S5) (r := r) g5.i (E5 _ _ hpb) rok fun S6 H6 u2 g6' du2 => ?_
      have g6 := g5.then g6'
      have k6 := k5.gr g6' (by simp)
      obtain ⟨hd6, shd6⟩ := g6'.own (by simp) hd5 shd5
      have du1' := du1.mono g6'.s
      walk_at "go"
      refine ⟨z5 _ (by show 2 ≤ 16777216; decide), fun t ht => ?_⟩
      refine i_pair ?_
      have g7 := g6.then (Gr.newO (o := .tup [u1, u2]) g6.i ht)
      have k7 := k6.new (o := .tup [u1, u2]) ht
      have hd7 := (Ex.new (o := .tup [u1, u2]) ht) _ _ hd6
      walk_at "go"
      refine i_I ⟨by decide, by decide, by decide⟩ ?_
      walk_at "go"
      have lbm : (bkv (mixB r.bun gs')).length ≤ 1000000 := by
        unfold bkv
        rw [List.length_map, bmp.length_eq]
        omega
      refine i_put (k := .inr "tea") hd7 lbm ?_
      have g8 := g7.mutN (o := .dK (putK (bkv (mixB r.bun gs')) (.inr "tea") (.int (10 ^ Int.toNat 9)))) hd0 shd6
      have k8 := k7.mut (o := .dK (putK (bkv (mixB r.bun gs')) (.inr "tea") (.int (10 ^ Int.toNat 9)))) nhd
      walk_at "go"
      generalize hH8 : upd (upd H6 t (.tup [u1, u2])) hd (.dK (putK (bkv (mixB r.bun gs')) (.inr "tea") (.int (10 ^ Int.toNat 9)))) = H8 at g8 k8 ⊢
      clear hH8 hd7 hd6 hd5 hd4 g7 g5' g6' k7
      have E8 : Ex S H8 := g8.s.trans g8.i
      obtain ⟨oa, dox, op, rfl, i1, i2⟩ := id (ord_inv du1')
      refine ⟨oa, dox, _, rfl, g8.i _ _ i1, rfl, ?_⟩
      walk_at "go"
      refine ⟨S6, _, r, rfl, g8.i, du1', fun tp htp => ?_⟩
      have ntp : p ≠ tp := k8.neq htp
      have tp0 : H tp = none := g8.back htp (nmem1 ntp)
      have g9 := g8.then (Gr.newO (o := .dK (bkv (told r.bun))) g8.i htp)
      have k9 := k8.new (o := .dK (bkv (told r.bun))) htp
      have stp : S6 tp = none := fresh_back g8.i htp
      have htp9 : (upd H8 tp (.dK (bkv (told r.bun)))) tp = some (.dK (bkv (told r.bun))) := upd_same
      generalize upd H8 tp (.dK (bkv (told r.bun))) = H9 at g9 k9 htp9 ⊢
      have E9 : Ex S H9 := g9.s.trans g9.i
      walk_at "go"
      refine i_listItems (K := K) (L := []) (gs := bgs (told r.bun)) g9.i htp9 (by rw [bkv_keys, bgs_keys]) (bkv_dv _) fun S10 H10 p10 xs10 g10' hp10 sp10 hl10 dv10 => ?_
      rw [tupB_bgs] at dv10
      have g10 := g9.then g10'
      have k10 := k9.gr g10' (by simp)
      obtain ⟨htp10, stp10⟩ := g10'.own (by simp) htp9 stp
      have g11 := g10.frzN (g9.back hp10 (nmem1 (k9.neq hp10))) sp10 hl10
      have k11 := k10.frz (o := .lst xs10) (k9.neq hp10)
      have d11 : Dv K (upd S10 p10 (.lst xs10)) (.ref p10) (.lst ((told r.bun).map tupB)) := dv_lst_new sp10 dv10
      have ntl : tp ≠ p10 := fun e => by rw [← e, htp9] at hp10; cases hp10
      have stp11 : (upd S10 p10 (.lst xs10)) tp = none := by rw [upd_ne ntl]; exact stp10
      have du11 := (du1'.mono g10'.s).mono (Ex.new (o := .lst xs10) sp10)
      have tw11 := (du2.mono g10'.s).mono (Ex.new (o := .lst xs10) sp10)
      generalize upd S10 p10 (.lst xs10) = S11 at g11 k11 d11 stp11 du11 tw11
      have E11 : Ex S H10 := g11.s.trans g11.i
      walk_at "go"
      refine ⟨S11, _, r, rfl, g11.i, dv.mono g11.s, rb, fun S12 H12 bp g12' hbp sbp hb12 => ?_⟩
      have g12 := g11.then g12'
      have k12 := k11.gr g12' (by simp)
      obtain ⟨htp12, stp12⟩ := g12'.own (by simp) htp10 stp11
      walk_at "go"
      refine i_listItems (K := K) (L := []) (gs := bgs (told r.bun)) g12.i hb12 (by rw [bkv_keys, bgs_keys]) (bkv_dv _) fun S13 H13 p13 xs13 g13' hp13 sp13 hl13 dv13 => ?_
      rw [tupB_bgs] at dv13
      have g13 := g12.then g13'
      have k13 := k12.gr g13' (by simp)
      obtain ⟨htp13, stp13⟩ := g13'.own (by simp) htp12 stp12
      have g14 := g13.frzN (g12.back hp13 (nmem1 (k12.neq hp13))) sp13 hl13
      have k14 := k13.frz (o := .lst xs13) (k12.neq hp13)
      have d14 : Dv K (upd S13 p13 (.lst xs13)) (.ref p13) (.lst ((told r.bun).map tupB)) := dv_lst_new sp13 dv13
      have ntl2 : tp ≠ p13 := fun e => by rw [← e, htp12] at hp13; cases hp13
      have stp14 : (upd S13 p13 (.lst xs13)) tp = none := by rw [upd_ne ntl2]; exact stp13
      have d11' := (((d11.mono g12'.s).mono g13'.s).mono (Ex.new (o := .lst xs13) sp13))
      have sh := sh_pairs (b := told r.bun) fun p hp => (rb.told.1 p hp).1
      refine i_ne g14.i d11' d14 (pl_pairs _) (pl_pairs _) (by rw [py_pairs]; exact sh) (by rw [py_pairs]; exact sh) ?_
      rw [py_pairs, pairs_self]
      have du14 := ((du11.mono g12'.s).mono g13'.s).mono (Ex.new (o := .lst xs13) sp13)
      have tw14 := ((tw11.mono g12'.s).mono g13'.s).mono (Ex.new (o := .lst xs13) sp13)
      generalize upd S13 p13 (.lst xs13) = S14 at g14 k14 d14 stp14 d11' du14 tw14
      clear d11' d14 d11 g13' g12' g10' dv13 dv10 g8 g9 g10 g11 g12 g13 k8 k9 k10 k11 k12 k13 sh
      have E14 : Ex S H13 := g14.s.trans g14.i
      obtain ⟨ob, dob, oq, eo, j1, j2⟩ := id (ord_inv du14)
      cases eo
      walk_at "go"
      refine ⟨oa, dob, _, rfl, g14.i _ _ j1, S14, _, r, rfl, g14.i, du14, rb.small, fun b _ => Clear.nil b, fun H15 e15 => ⟨_, rfl, ?_⟩⟩
      have g15 := g14.then (Gr.same (L := []) g14.i e15)
      have k15 := k14.gr (Gr.same (L := []) g14.i e15) (by simp)
      walk_at "go"
      refine ⟨S14, _, r, rfl, g15.i, dv.mono g14.s, rb, fun H16 e16 => ?_⟩
      have g16 := g15.then (Gr.same (L := []) g15.i e16)
      have k16 := k15.gr (Gr.same (L := []) g15.i e16) (by simp)
      refine ⟨rfl, ?_⟩
      rw [ne_self]
      have htp16 := e16 _ _ (e15 _ _ htp13)
      walk_at "go"
      refine i_I ⟨by decide, by decide, by decide⟩ ?_
      walk_at "go"
      have ltd : (bkv (told r.bun)).length ≤ 1000000 := by
        unfold bkv
        rw [List.length_map]
        have := rb.told.2
        omega
      refine i_put (k := .inr "tea") htp16 ltd ?_
      have g17 := g16.mutN (o := .dK (putK (bkv (told r.bun)) (.inr "tea") (.int (-10 ^ Int.toNat 9)))) tp0 stp14
      have k17 := k16.mut (o := .dK (putK (bkv (told r.bun)) (.inr "tea") (.int (-10 ^ Int.toNat 9)))) ntp
      generalize hH17 : upd H16 tp (.dK (putK (bkv (told r.bun)) (.inr "tea") (.int (-10 ^ Int.toNat 9)))) = H17 at g17 k17 ⊢
      clear hH17 g16 k16 htp16 g15 k15
      have E17 : Ex S H17 := g17.s.trans g17.i
      obtain ⟨f4a, f4b, f4c⟩ := fourD_ok rb.small
      walk_at "go"
      refine ⟨oa, dob, _, rfl, g17.i _ _ j1, S14, _, r, rfl, g17.i, du14, ?_⟩
      walk_at "go"
      refine ⟨oa, dob, _, rfl, g17.i _ _ j1, S14, _, r, rfl, g17.i, du14, ?_⟩
      walk_at "go"
      refine ⟨oa, dob, _, rfl, g17.i _ _ j1, S14, _, r, rfl, g17.i, du14, ?_⟩
      walk_at "go"
      refine ⟨oa, dob, _, rfl, g17.i _ _ j1, rfl, ?_⟩
      walk_at "go"
      refine ⟨S14, _, r, rfl, g17.i, du14, fun b18 hb18 => ?_⟩
      refine ⟨z5 _ (by show 4 ≤ 16777216; decide), fun l18 hl18 => ?_⟩
      obtain ⟨g18, d18⟩ := four_dv (K := K) g17 hb18 hl18
      have k18 := potS (o := .lst [.str r.house, .int r.lim, .int r.most, .ref b18]) (potS (o := .dK (bkv (told r.bun))) k17 hb18) hl18
      walk_at "go"
      refine ⟨_, _, _, rfl, d18, g18.i, f4a, rfl, f4c, f4b, fun b _ => Clear.nil b, fun H19 e19 => ?_⟩
      have g19 := g18.then (Gr.same (L := []) g18.i e19)
      have k19 := k18.gr (Gr.same (L := []) g18.i e19) (by simp)
      have sb18 := fresh_back g17.i hb18
      have sl18 := fresh_back (Gr.newF (L := []) (o := .dK (bkv (told r.bun))) g17.i hb18).i hl18
      have du19 := (du14.mono (Ex.new (o := .dK (bkv (told r.bun))) sb18)).mono (Ex.new (o := .lst [.str r.house, .int r.lim, .int r.most, .ref b18]) sl18)
      have tw19 := (tw14.mono (Ex.new (o := .dK (bkv (told r.bun))) sb18)).mono (Ex.new (o := .lst [.str r.house, .int r.lim, .int r.most, .ref b18]) sl18)
      clear d18 g18 k18
      generalize upd (upd S14 b18 (.dK (bkv (told r.bun)))) l18 (.lst [.str r.house, .int r.lim, .int r.most, .ref b18]) = S19 at g19 k19 du19 tw19
      have E19 : Ex S H19 := g19.s.trans g19.i
      walk_at "go"
      refine i_ixT (j := 0) (sqT_mono E19 sq) rfl rfl ?_
      walk_at "go"
      refine i_ixT (j := 2) (sqT_mono E19 sq) rfl rfl ?_
      walk_at "go"
      refine i_ixT (j := 3) (sqT_mono E19 sq) rfl rfl ?_
      walk_at "go"
      refine ⟨S19, _, r, rfl, g19.i, dv.mono g19.s, rb, fun S20 H20 b20 g20' hb20 sb20 h20 => ?_⟩
      have g20 := g19.then g20'
      have k20 := k19.gr g20' (by simp)
      walk_at "go"
      refine ⟨z5 _ (by show 4 ≤ 16777216; decide), fun l20 hl20 => ?_⟩
      have g21 := g20.frzN (o := .dK (bkv (told r.bun))) (g19.back hb20 (nmem1 (k19.neq hb20))) sb20 h20
      have k21 := k20.frz (o := .dK (bkv (told r.bun))) (k19.neq hb20)
      have g22 := g21.then (Gr.newF (o := .lst [.str r.house, .int r.lim, .int r.most, .ref b20]) g21.i hl20)
      have k22 := potS (o := .lst [.str r.house, .int r.lim, .int r.most, .ref b20]) k21 hl20
      have sl20 := fresh_back g21.i hl20
      have d22 : Dv K (upd (upd S20 b20 (.dK (bkv (told r.bun)))) l20 (.lst [.str r.house, .int r.lim, .int r.most, .ref b20])) (.ref l20) (fourD r) := dv_lst_new sl20 (.cons (.str _) (.cons (.int _) (.cons (.int _) (.cons (bd_of upd_same) .nil))))
      have du22 := ((du19.mono g20'.s).mono (Ex.new (o := .dK (bkv (told r.bun))) sb20)).mono (Ex.new (o := .lst [.str r.house, .int r.lim, .int r.most, .ref b20]) sl20)
      have tw22 := ((tw19.mono g20'.s).mono (Ex.new (o := .dK (bkv (told r.bun))) sb20)).mono (Ex.new (o := .lst [.str r.house, .int r.lim, .int r.most, .ref b20]) sl20)
      walk_at "go"
      refine ⟨_, _, _, rfl, d22, g22.i, f4a, rfl, f4c, f4b, fun b _ => Clear.nil b, fun H23 e23 => ?_⟩
      refine ⟨rfl, ?_⟩
      rw [ne_self]
      have g23 := g22.then (Gr.same (L := []) g22.i e23)
      have k23 := k22.gr (Gr.same (L := []) g22.i e23) (by simp)
      clear d22 g22 k22 g21 k21
      generalize upd (upd S20 b20 (.dK (bkv (told r.bun)))) l20 (.lst [.str r.house, .int r.lim, .int r.most, .ref b20]) = S23 at g23 k23 du22 tw22
      have E23 : Ex S H23 := g23.s.trans g23.i
      have s23 := sqT_mono E23 sq
      walk_at "go"
      refine i_ixT (j := 0) s23 rfl rfl ?_
      walk_at "go"
      have hx4 : r.house.length ≤ 8 := rok.h8
      refine i_addS (by have : (Str.ofString "x").length = 1 := by decide
                        omega) ?_
      walk_at "go"
      refine i_ixT (j := 1) s23 rfl rfl ?_
      walk_at "go"
      refine i_ixT (j := 2) s23 rfl rfl ?_
      walk_at "go"
      refine i_ixT (j := 3) s23 rfl rfl ?_
      walk_at "go"
      refine g_mkOrd (S := S23) (r := ⟨r.house ++ "x", r.bun, r.lim, r.most⟩) g23.i (E23 _ _ hpb) (rg.x hg).ok fun S24 H24 v1 g24' dv1 => ?_
      have g24 := g23.then g24'
      have k24 := k23.gr g24' (by simp)
      have s24 := sqT_mono (g24.s.trans g24.i) sq
      walk_at "go"
      refine i_ixT (j := 0) s24 rfl rfl ?_
      walk_at "go"
      refine i_ixT (j := 1) s24 rfl rfl ?_
      walk_at "go"
      refine i_ixT (j := 2) s24 rfl rfl ?_
      walk_at "go"
      refine i_ixT (j := 3) s24 rfl rfl ?_
      walk_at "go"
      refine g_mkOrd (S := S24) (r := ⟨r.house, r.bun, r.lim + 1, r.most⟩) g24.i ((g24.s.trans g24.i) _ _ hpb) (rg.l1 hg).ok fun S25 H25 v2 g25' dv2 => ?_
      have g25 := g24.then g25'
      have k25 := k24.gr g25' (by simp)
      walk_at "go"
      refine ⟨z5 _ (by show 2 ≤ 16777216; decide), fun l25 hl25 => ?_⟩
      have dv1' := dv1.mono g25'.s
      have np25 : p ≠ l25 := k25.neq hl25
      have z25 : H l25 = none := g25.back hl25 (nmem1 np25)
      have sl25 : S25 l25 = none := fresh_back g25.i hl25
      have g26 := g25.then (Gr.newO (o := .lst [v1, v2]) g25.i hl25)
      have k26 := k25.new (o := .lst [v1, v2]) hl25
      have h26 : (upd H25 l25 (.lst [v1, v2])) l25 = some (.lst [v1, v2]) := upd_same
      have du25 := (du22.mono g24'.s).mono g25'.s
      have tw25 := (tw22.mono g24'.s).mono g25'.s
      generalize upd H25 l25 (.lst [v1, v2]) = H26 at g26 k26 h26 ⊢
      have s26 := sqT_mono (g26.s.trans g26.i) sq
      walk_at "go"
      refine i_ixT (j := 0) s26 rfl rfl ?_
      walk_at "go"
      refine i_ixT (j := 1) s26 rfl rfl ?_
      walk_at "go"
      refine i_ixT (j := 2) s26 rfl rfl ?_
      walk_at "go"
      refine i_ixT (j := 3) s26 rfl rfl ?_
      walk_at "go"
      refine g_mkOrd (S := S25) (r := ⟨r.house, r.bun, r.lim, r.most + 1⟩) g26.i ((g26.s.trans g26.i) _ _ hpb) (rg.m1 hg).ok fun S27 H27 v3 g27' dv3' => ?_
      have g27 := g26.then g27'
      have k27 := k26.gr g27' (by simp)
      obtain ⟨h27, sl27⟩ := g27'.own (by simp) h26 sl25
      walk_at "go"
      refine ⟨z5 _ (by show 1 ≤ 16777216; decide), fun l27 hl27 => ?_⟩
      have n27 : l25 ≠ l27 := fun e => by rw [← e, h27] at hl27; cases hl27
      refine i_cat (xs := [v1, v2]) (ys := [v3]) (by rw [upd_ne n27]; exact h27) upd_same (by show 2 + 1 ≤ 1000000; decide) fun lo hlo => ?_
      have g28a := g27.then (Gr.newO (o := .lst [v3]) g27.i hl27)
      have k28a := k27.new (o := .lst [v3]) hl27
      have npo : p ≠ lo := k28a.neq hlo
      have zo : H lo = none := g28a.back hlo (nmem1 npo)
      have so27 : S27 lo = none := fresh_back g28a.i hlo
      have g28 := g28a.then (Gr.newO (o := .lst ([v1, v2] ++ [v3])) g28a.i hlo)
      have k28 := k28a.new (o := .lst ([v1, v2] ++ [v3])) hlo
      have ho28 : (upd (upd H27 l27 (.lst [v3])) lo (.lst ([v1, v2] ++ [v3]))) lo = some (.lst ([v1, v2] ++ [v3])) := upd_same
      clear g28a k28a
      generalize upd (upd H27 l27 (.lst [v3])) lo (.lst ([v1, v2] ++ [v3])) = H28 at g28 k28 ho28 ⊢
      have dvs28 : DvAll K S27 [v1, v2, v3] ([⟨r.house ++ "x", r.bun, r.lim, r.most⟩, ⟨r.house, r.bun, r.lim + 1, r.most⟩, ⟨r.house, r.bun, r.lim, r.most + 1⟩].map (ordD K)) := .cons (dv1'.mono g27'.s) (.cons (dv2.mono g27'.s) (.cons dv3' .nil))
      have du27 := du25.mono g27'.s
      have tw27 := tw25.mono g27'.s
      have E28 : Ex S H28 := g28.s.trans g28.i
      have s28 := sqT_mono E28 sq
      walk_at "go"
      refine ⟨i_tyL ho28, ?_⟩
      walk_at "go"
      refine i_ixT (j := 0) s28 rfl rfl ?_
      walk_at "go"
      refine i_ixT (j := 1) s28 rfl rfl ?_
      refine i_listItems (K := K) (L := []) (gs := bgs r.bun) g28.i (E28 _ _ hpb) (by rw [bkv_keys, bgs_keys]) (bkv_dv _) fun S29 H29 p29 xs29 g29' hp29 sp29 hl29 dv29 => ?_
      rw [tupB_bgs] at dv29
      have g29 := g28.then g29'
      have k29 := k28.gr g29' (by simp)
      obtain ⟨ho29, so29⟩ := g29'.own (by simp) ho28 so27
      walk_at "go"
      refine ⟨z5 _ (by show 2 ≤ 16777216; decide), fun t29 ht29 => ?_⟩
      obtain ⟨g30, dt30⟩ := pair_new (K := K) g29 ht29 (.str "zz") (.int 1)
      have k30 := potS (o := .tup [.str "zz", .int 1]) k29 ht29
      have st29 := fresh_back g29.i ht29
      have no30 : lo ≠ t29 := fun e => by rw [← e, ho29] at ht29; cases ht29
      have so30 : (upd S29 t29 (.tup [.str "zz", .int 1])) lo = none := by rw [upd_ne no30]; exact so29
      have ho30 : (upd H29 t29 (.tup [.str "zz", .int 1])) lo = some (.lst ([v1, v2] ++ [v3])) := by rw [upd_ne no30]; exact ho29
      have hl30 : (upd H29 t29 (.tup [.str "zz", .int 1])) p29 = some (.lst xs29) := by rw [upd_ne fun e => by rw [← e, hl29] at ht29; cases ht29]; exact hl29
      have dv30 := dv29.mono (Ex.new (o := .tup [.str "zz", .int 1]) st29)
      have dvs30 := (dvs28.mono g29'.s).mono (Ex.new (o := .tup [.str "zz", .int 1]) st29)
      have du30 := (du27.mono g29'.s).mono (Ex.new (o := .tup [.str "zz", .int 1]) st29)
      have tw30 := (tw27.mono g29'.s).mono (Ex.new (o := .tup [.str "zz", .int 1]) st29)
      generalize upd S29 t29 (.tup [.str "zz", .int 1]) = S30 at g30 dt30 k30 so30 dv30 dvs30 du30 tw30
      generalize upd H29 t29 (.tup [.str "zz", .int 1]) = H30 at g30 k30 ho30 hl30 ⊢
      walk_at "go"
      refine ⟨z5 _ (by show 1 ≤ 16777216; decide), fun l30 hl30' => ?_⟩
      have lx29 : xs29.length = r.bun.length := by rw [dv29.length, List.length_map]
      refine i_cat (xs := xs29) (ys := [.ref t29]) (by rw [upd_ne fun e => by rw [← e, hl30] at hl30'; cases hl30']; exact hl30) upd_same (by rw [lx29]; show r.bun.length + 1 ≤ 1000000; omega) fun l31 hl31 => ?_
      have g31a := g30.then (Gr.newO (o := .lst [V.ref t29]) g30.i hl30')
      have k31a := k30.new (o := .lst [V.ref t29]) hl30'
      have ho31a := (Ex.new (o := .lst [V.ref t29]) hl30') _ _ ho30
      have g31 := g31a.then (Gr.newO (o := .lst (xs29 ++ [V.ref t29])) g31a.i hl31)
      have k31 := k31a.new (o := .lst (xs29 ++ [V.ref t29])) hl31
      have ho31 := (Ex.new (o := .lst (xs29 ++ [V.ref t29])) hl31) _ _ ho31a
      have hl31' : (upd (upd H30 l30 (.lst [V.ref t29])) l31 (.lst (xs29 ++ [V.ref t29]))) l31 = some (.lst (xs29 ++ [V.ref t29])) := upd_same
      clear g31a k31a ho31a
      generalize upd (upd H30 l30 (.lst [V.ref t29])) l31 (.lst (xs29 ++ [V.ref t29])) = H31 at g31 k31 ho31 hl31' ⊢
      have nzz := rg.nozz hg
      have rz1 := rg.zz (i := 1) hg (by decide)
      walk_at "go"
      refine i_dictB (b := r.bun ++ [(Str.ofString "zz", 1)]) (snoc_nd rb.nd nzz) g31.i hl31' (by rw [List.map_append]; exact dv30.append (.cons dt30 .nil)) fun d32 hd32 => ?_
      have g32 := g31.then (Gr.newO (o := .dK (bkv (r.bun ++ [(Str.ofString "zz", 1)]))) g31.i hd32)
      have k32 := k31.new (o := .dK (bkv (r.bun ++ [(Str.ofString "zz", 1)]))) hd32
      have ho32 := (Ex.new (o := .dK (bkv (r.bun ++ [(Str.ofString "zz", 1)]))) hd32) _ _ ho31
      have hd32' : (upd H31 d32 (.dK (bkv (r.bun ++ [(Str.ofString "zz", 1)])))) d32 = some (.dK (bkv (r.bun ++ [(Str.ofString "zz", 1)]))) := upd_same
      generalize upd H31 d32 (.dK (bkv (r.bun ++ [(Str.ofString "zz", 1)]))) = H32 at g32 k32 ho32 hd32' ⊢
      have s32 := sqT_mono (g32.s.trans g32.i) sq
      walk_at "go"
      refine i_ixT (j := 2) s32 rfl rfl ?_
      walk_at "go"
      refine i_ixT (j := 3) s32 rfl rfl ?_
      walk_at "go"
      refine g_mkOrd (S := S30) (r := ⟨r.house, r.bun ++ [(Str.ofString "zz", 1)], r.lim, r.most⟩) g32.i hd32' rz1.ok fun S33 H33 v4 g33' dv4 => ?_
      have g33 := g32.then g33'
      have k33 := k32.gr g33' (by simp)
      obtain ⟨ho33, so33⟩ := g33'.own (by simp) ho32 so30
      walk_at "gn"
      refine i_append ho33 (by show 3 ≤ 1000000; decide) ?_
      have g34 := g33.mutN (o := .lst (([v1, v2] ++ [v3]) ++ [v4])) zo so33
      have k34 := k33.mut (o := .lst (([v1, v2] ++ [v3]) ++ [v4])) npo
      have ho34 : (upd H33 lo (.lst (([v1, v2] ++ [v3]) ++ [v4]))) lo = some (.lst ([v1, v2, v3] ++ [v4])) := upd_same
      have dvs34 : DvAll K S33 ([v1, v2, v3] ++ [v4]) (([⟨r.house ++ "x", r.bun, r.lim, r.most⟩, ⟨r.house, r.bun, r.lim + 1, r.most⟩, ⟨r.house, r.bun, r.lim, r.most + 1⟩] ++ [⟨r.house, r.bun ++ [(Str.ofString "zz", 1)], r.lim, r.most⟩] : List Row).map (ordD K)) :=
        (dvs30.mono g33'.s).append (.cons dv4 .nil)
      have du34 := du30.mono g33'.s
      have tw34 := tw30.mono g33'.s
      have bad34 : ∀ t ∈ ([⟨r.house ++ "x", r.bun, r.lim, r.most⟩, ⟨r.house, r.bun, r.lim + 1, r.most⟩, ⟨r.house, r.bun, r.lim, r.most + 1⟩] ++ [⟨r.house, r.bun ++ [(Str.ofString "zz", 1)], r.lim, r.most⟩] : List Row), RowB t ∧ sameB r t = false := by
        intro t ht
        simp only [List.cons_append, List.nil_append, List.mem_cons, List.not_mem_nil, or_false] at ht
        rcases ht with rfl | rfl | rfl | rfl
        · refine ⟨rg.x hg, sameB_no (.inl fun e => ?_)⟩
          have := congrArg Str.length e
          have e2 : (r.house ++ Str.ofString "x").length = r.house.length + 1 := by rw [str_app_len]; rfl
          have e3 : r.house.length = (r.house ++ Str.ofString "x").length := this
          omega
        · exact ⟨rg.l1 hg, sameB_no (.inr (.inl fun e => by have e2 : r.lim = r.lim + 1 := e; omega))⟩
        · exact ⟨rg.m1 hg, sameB_no (.inr (.inr (.inl fun e => by have e2 : r.most = r.most + 1 := e; omega)))⟩
        · exact ⟨rz1, sameB_no (.inr (.inr (.inr (told_more rb.nd nzz (by decide)))))⟩
      generalize ([⟨r.house ++ "x", r.bun, r.lim, r.most⟩, ⟨r.house, r.bun, r.lim + 1, r.most⟩, ⟨r.house, r.bun, r.lim, r.most + 1⟩] ++ [⟨r.house, r.bun ++ [(Str.ofString "zz", 1)], r.lim, r.most⟩] : List Row) = ts34 at dvs34 bad34
      have lts : ([v1, v2, v3] ++ [v4]).length ≤ 4 := Nat.le_refl 4
      generalize [v1, v2, v3] ++ [v4] = vs34 at dvs34 ho34 lts
      generalize upd H33 lo (.lst (([v1, v2] ++ [v3]) ++ [v4])) = H34 at g34 k34 ho34 ⊢
      walk_at "gn"
      refine seq_fin (fun σ' H' => ∃ S' vs, ∃ ts : List Row, σ' = [some (.ref p), some (.ref ra), some (.ref hd), some (.ref oa), some u2, some (.ref tp), some (.ref lo), none, none] ∧ Gr [p] S H S' H' ∧ PotOk S' H' p ∧ S' lo = none ∧ H' lo = some (.lst vs) ∧ DvAll K S' vs (ts.map (ordD K)) ∧
        (∀ t ∈ ts, RowB t ∧ sameB r t = false) ∧ vs.length ≤ 5 ∧ Dv K S' (.ref oa) (ordD K r) ∧ Dv K S' u2 (ordD K r)) ?_ ?_
      · clear g34 k34 ho34 dvs34 bad34 du34 tw34 so33 g33' dv4
        rintro σ' H40 ⟨S40, vs, ts, rfl, g40, k40, so40, ho40, dvs40, bad40, lvs, du40, tw40⟩
        have E40 : Ex S H40 := g40.s.trans g40.i
        walk_at "go"
        refine q_neO B.oc g40.i du40 tw40 rok.b rok.b fun H41 e41 => ?_
        rw [sameB_self]
        have g41 := g40.then (Gr.same (L := []) g40.i e41)
        walk_at "go"
        refine q_eqO B.oc g41.i du40 tw40 rok.b rok.b fun H42 e42 => ?_
        rw [sameB_self]
        have g42 := g41.then (Gr.same (L := []) g41.i e42)
        have k42 := k40.gr (Gr.same (L := []) g40.i (e41.trans e42)) (by simp)
        have ho42 := e42 _ _ (e41 _ _ ho40)
        obtain ⟨oc2, dc2, op2, ec, m1, m2⟩ := id (ord_inv du40)
        cases ec
        walk_at "go"
        refine ⟨oa, dc2, _, rfl, g42.i _ _ m1, S40, _, r, rfl, g42.i, du40, rb.small, fun b _ => Clear.nil b, fun H43 e43 => ⟨_, rfl, ?_⟩⟩
        have g43 := g42.then (Gr.same (L := []) g42.i e43)
        have k43 := k42.gr (Gr.same (L := []) g42.i e43) (by simp)
        have ho43 := e43 _ _ ho42
        walk_at "go"
        refine ⟨z5 _ (by show 4 ≤ 16777216; decide), fun l43 hl43 => ?_⟩
        refine i_cat (xs := vs) (ys := [V.non, .ref ra, .str (ordT r), .int 0]) (by rw [upd_ne fun e => by rw [← e, ho43] at hl43; cases hl43]; exact ho43) upd_same (by show vs.length + 4 ≤ 1000000; omega) fun l44 hl44 => ?_
        have g44a := g43.then (Gr.newO (o := .lst [V.non, .ref ra, .str (ordT r), .int 0]) g43.i hl43)
        have k44a := k43.new (o := .lst [V.non, .ref ra, .str (ordT r), .int 0]) hl43
        have g44 := g44a.then (Gr.newO (o := .lst (vs ++ [V.non, .ref ra, .str (ordT r), .int 0])) g44a.i hl44)
        have k44 := k44a.new (o := .lst (vs ++ [V.non, .ref ra, .str (ordT r), .int 0])) hl44
        have hl44' : (upd (upd H43 l43 (.lst [V.non, .ref ra, .str (ordT r), .int 0])) l44 (.lst (vs ++ [V.non, .ref ra, .str (ordT r), .int 0]))) l44 = some (.lst (vs ++ [V.non, .ref ra, .str (ordT r), .int 0])) := upd_same
        clear g44a k44a
        generalize upd (upd H43 l43 (.lst [V.non, .ref ra, .str (ordT r), .int 0])) l44 (.lst (vs ++ [V.non, .ref ra, .str (ordT r), .int 0])) = H44 at g44 k44 hl44' ⊢
        have E44 : Ex S H44 := g44.s.trans g44.i
        refine ⟨l44, rfl, ⟨_, sq_of hl44'⟩, fun D44 hD44 => ?_⟩
        have thing : ∀ x ∈ vs ++ [V.non, .ref ra, .str (ordT r), .int 0], (∃ t, Dv K S40 x (ordD K t) ∧ RowB t ∧ sameB r t = false) ∨ ∃ ty ∈ bases, ∀ Hc, Ex H44 Hc → TyX K Hc x (.type ty) := by
          intro x hx
          rcases List.mem_append.mp hx with hx | hx
          · obtain ⟨i, hi⟩ := List.getElem?_of_mem hx
            obtain ⟨d, hd, dx⟩ := dvs40.get' hi
            obtain ⟨t, ht, rfl⟩ := map_at hd
            exact .inl ⟨t, dx, bad40 t (List.mem_of_getElem? ht)⟩
          · simp only [List.mem_cons, List.not_mem_nil, or_false] at hx
            rcases hx with rfl | rfl | rfl | rfl
            · exact .inr ⟨"NoneType", by decide, fun Hc e => ty_non⟩
            · exact .inr ⟨"tuple", by decide, fun Hc e => ty_tupQ (sqT_mono (E44.trans e) sq)⟩
            · exact .inr ⟨"str", by decide, fun Hc e => ty_str⟩
            · exact .inr ⟨"int", by decide, fun Hc e => ty_int⟩
        have wo := walk_list (K := K) (a := l44) (xs := vs ++ [V.non, .ref ra, .str (ordT r), .int 0])
        refine lc_G (K := K) (L := []) wo (fun i ds S1 Hc => ∃ bs : List Bool, ds = bs.map Dt.bl ∧ bs.any id = false) g44.i hD44 (by simp) (by rw [List.length_append]; show vs.length + 4 < 1000000; omega) ⟨[], rfl, rfl⟩ (fun _ _ _ _ _ h _ => h) (fun _ _ S1 Hc g _ => sq_of (g.nil_h _ _ hl44')) ?_ ?_
        · rintro i x ds S1 Hc Hc' Qe Nx hi g ⟨bs, rfl, hbs⟩ ⟨rfl, hx⟩ q1 q2
          have duc := du40.mono g.s
          walk_at "go"
          refine ⟨rfl, ?_⟩
          walk_at "go"
          rcases thing x (List.mem_of_getElem? hx) with ⟨t, dt, rt, st⟩ | ⟨ty, hty, tyx⟩
          · refine q_eqO B.oc g.i duc (dt.mono g.s) rok.b rt.bd fun H45 e45 => ?_
            rw [st]
            exact q1 S1 H45 _ _ (Gr.same g.i e45) (.bl false) ⟨bs ++ [false], by rw [List.map_append]; rfl, by rw [List.any_append, hbs]; rfl⟩
          · refine q_eqOT B.oc g.i duc hty (tyx _ g.nil_h) ?_
            exact q1 S1 _ _ _ (Gr.refl g.i) (.bl false) ⟨bs ++ [false], by rw [List.map_append]; rfl, by rw [List.any_append, hbs]; rfl⟩
        · rintro S46 H46 xs46 ds g46' s46' hl46 dv46 ⟨bs, rfl, hbs⟩
          have g46 := g44.then g46'
          have k46 := k44.gr g46' (by simp)
          have du46 := du40.mono g46'.s
          walk_at "go"
          refine ⟨D44, bs, rfl, sq_of (by rw [hl46, dvAll_bls_inv dv46]), ?_⟩
          rw [hbs]
          have s46 := sqT_mono (g46.s.trans g46.i) sq
          walk_at "go"
          refine i_ixT (j := 0) s46 rfl rfl ?_
          walk_at "go"
          refine i_ixT (j := 1) s46 rfl rfl ?_
          refine i_listItems (K := K) (L := []) (gs := bgs r.bun) g46.i ((g46.s.trans g46.i) _ _ hpb) (by rw [bkv_keys, bgs_keys]) (bkv_dv _) fun S47 H47 p47 xs47 g47' hp47 sp47 hl47 dv47 => ?_
          rw [tupB_bgs] at dv47
          have g47 := g46.then g47'
          have k47 := k46.gr g47' (by simp)
          walk_at "go"
          refine ⟨z5 _ (by show 2 ≤ 16777216; decide), fun t47 ht47 => ?_⟩
          obtain ⟨g48, dt48⟩ := pair_new (K := K) g47 ht47 (.str "zz") (.int 0)
          have k48 := potS (o := .tup [.str "zz", .int 0]) k47 ht47
          have st47 := fresh_back g47.i ht47
          have hl48 : (upd H47 t47 (.tup [.str "zz", .int 0])) p47 = some (.lst xs47) := by rw [upd_ne fun e => by rw [← e, hl47] at ht47; cases ht47]; exact hl47
          have dv48 := dv47.mono (Ex.new (o := .tup [.str "zz", .int 0]) st47)
          have du48 := (du46.mono g47'.s).mono (Ex.new (o := .tup [.str "zz", .int 0]) st47)
          generalize upd S47 t47 (.tup [.str "zz", .int 0]) = S48 at g48 dt48 k48 dv48 du48
          generalize upd H47 t47 (.tup [.str "zz", .int 0]) = H48 at g48 k48 hl48 ⊢
          walk_at "go"
          refine ⟨z5 _ (by show 1 ≤ 16777216; decide), fun l48 hl48' => ?_⟩
          have lx47 : xs47.length = r.bun.length := by rw [dv47.length, List.length_map]
          refine i_cat (xs := xs47) (ys := [.ref t47]) (by rw [upd_ne fun e => by rw [← e, hl48] at hl48'; cases hl48']; exact hl48) upd_same (by rw [lx47]; show r.bun.length + 1 ≤ 1000000; omega) fun l49 hl49 => ?_
          have g49a := g48.then (Gr.newO (o := .lst [V.ref t47]) g48.i hl48')
          have k49a := k48.new (o := .lst [V.ref t47]) hl48'
          have g49 := g49a.then (Gr.newO (o := .lst (xs47 ++ [V.ref t47])) g49a.i hl49)
          have k49 := k49a.new (o := .lst (xs47 ++ [V.ref t47])) hl49
          have hl49' : (upd (upd H48 l48 (.lst [V.ref t47])) l49 (.lst (xs47 ++ [V.ref t47]))) l49 = some (.lst (xs47 ++ [V.ref t47])) := upd_same
          clear g49a k49a
          generalize upd (upd H48 l48 (.lst [V.ref t47])) l49 (.lst (xs47 ++ [V.ref t47])) = H49 at g49 k49 hl49' ⊢
          have nzz := rg.nozz hg
          have rz0 := rg.zz (i := 0) hg (by decide)
          walk_at "go"
          refine i_dictB (b := r.bun ++ [(Str.ofString "zz", 0)]) (snoc_nd rb.nd nzz) g49.i hl49' (by rw [List.map_append]; exact dv48.append (.cons dt48 .nil)) fun d50 hd50 => ?_
          have g50 := g49.then (Gr.newO (o := .dK (bkv (r.bun ++ [(Str.ofString "zz", 0)]))) g49.i hd50)
          have k50 := k49.new (o := .dK (bkv (r.bun ++ [(Str.ofString "zz", 0)]))) hd50
          have hd50' : (upd H49 d50 (.dK (bkv (r.bun ++ [(Str.ofString "zz", 0)])))) d50 = some (.dK (bkv (r.bun ++ [(Str.ofString "zz", 0)]))) := upd_same
          generalize upd H49 d50 (.dK (bkv (r.bun ++ [(Str.ofString "zz", 0)]))) = H50 at g50 k50 hd50' ⊢
          have s50 := sqT_mono (g50.s.trans g50.i) sq
          walk_at "go"
          refine i_ixT (j := 2) s50 rfl rfl ?_
          walk_at "go"
          refine i_ixT (j := 3) s50 rfl rfl ?_
          walk_at "go"
          refine g_mkOrd (S := S48) (r := ⟨r.house, r.bun ++ [(Str.ofString "zz", 0)], r.lim, r.most⟩) g50.i hd50' rz0.ok fun S51 H51 v6 g51' dv6 => ?_
          have g51 := g50.then g51'
          have k51 := k50.gr g51' (by simp)
          walk_at "go"
          refine q_eqO B.oc g51.i dv6 (du48.mono g51'.s) rz0.bd rok.b fun H52 e52 => ?_
          rw [show sameB ⟨r.house, r.bun ++ [(Str.ofString "zz", 0)], r.lim, r.most⟩ r = true by
            rw [sameB_can, decide_eq_true_eq]
            unfold can
            rw [told_zero rb.nd nzz]]
          have g52 := g51.then (Gr.same (L := []) g51.i e52)
          have k52 := k51.gr (Gr.same (L := []) g51.i e52) (by simp)
          exact q H52 (K31.Gr.drop g52) ⟨k.s, k52.h⟩
      · intro N fin
        walk_at "go"
        refine ⟨S33, _, r, rfl, g34.i, dv.mono g34.s, rb, fun S35 H35 b35 g35' hb35 sb35 h35 => ?_⟩
        have g35 := g34.then g35'
        have k35 := k34.gr g35' (by simp)
        obtain ⟨ho35, so35⟩ := g35'.own (by simp) ho34 so33
        have dvs35 := dvs34.mono g35'.s
        have du35 := du34.mono g35'.s
        have tw35 := tw34.mono g35'.s
        refine fun d36 hd36 => ?_
        have g36 := g35.then (Gr.newO (o := .dK []) g35.i hd36)
        have k36 := k35.new (o := .dK []) hd36
        have ho36 := (Ex.new (o := .dK []) hd36) _ _ ho35
        have hb36 := (Ex.new (o := .dK []) hd36) _ _ h35
        refine ⟨b35, d36, bkv (told r.bun), [], fun _ => none, fun _ => true, rfl, rfl, rfl, (fun _ _ z => by cases z), hb36, upd_same, (fun _ _ y hy => by cases hy), fun H37 e37 => ?_⟩
        have g37 := g36.then (Gr.same (L := []) g36.i e37)
        have k37 := k36.gr (Gr.same (L := []) g36.i e37) (by simp)
        have ho37 := e37 _ _ ho36
        by_cases ct : told r.bun = []
        · rw [ct]
          rw [show (!eqKV (bkv []) [] fun _ => true) = false from rfl]
          walk_at "go"
          exact fin _ _ ⟨S35, vs34, ts34, rfl, g37, k37, so35, ho37, dvs35, bad34, by omega, du35, tw35⟩
        · rw [show (!eqKV (bkv (told r.bun)) [] fun _ => true) = true by
            cases q : told r.bun with
            | nil => exact absurd q ct
            | cons _ _ => rfl]
          have rd2 := rg.dbl hg
          have s37 := sqT_mono (g37.s.trans g37.i) sq
          walk_at "go"
          refine ⟨i_tyL ho37, ?_⟩
          walk_at "go"
          refine i_ixT (j := 0) s37 rfl rfl ?_
          walk_at "go"
          refine ⟨S35, _, r, rfl, g37.i, dv.mono (g34.s.trans g35'.s), rb, fun H38 d38 e38 hd38 h38 => ?_⟩
          have g38 := g37.then (Gr.same (L := []) g37.i e38)
          have k38 := k37.gr (Gr.same (L := []) g37.i e38) (by simp)
          have ho38 := e38 _ _ ho37
          have s38 := sqT_mono (g38.s.trans g38.i) sq
          walk_at "go"
          refine i_ixT (j := 2) s38 rfl rfl ?_
          walk_at "go"
          refine i_ixT (j := 3) s38 rfl rfl ?_
          walk_at "go"
          refine g_mkOrd (S := S35) (r := ⟨r.house, dbl r.bun, r.lim, r.most⟩) g38.i h38 rd2.ok fun S39 H39 v5 g39' dv5 => ?_
          have g39 := g38.then g39'
          have k39 := k38.gr g39' (by simp)
          obtain ⟨ho39, so39⟩ := g39'.own (by simp) ho38 so35
          walk_at "go"
          refine i_append ho39 (by omega) ?_
          walk_at "go"
          refine fin _ _ ⟨S39, vs34 ++ [v5], ts34 ++ [⟨r.house, dbl r.bun, r.lim, r.most⟩], rfl, g39.mutN zo so39, k39.mut npo, so39, upd_same, ?_, ?_, ?_, du35.mono g39'.s, tw35.mono g39'.s⟩
          · rw [List.map_append]
            exact (dvs35.mono g39'.s).append (.cons dv5 .nil)
          · intro t ht
            rcases List.mem_append.mp ht with ht | ht
            · exact bad34 t ht
            · have : t = ⟨r.house, dbl r.bun, r.lim, r.most⟩ := by simpa using ht
              rw [this]
              exact ⟨rd2, sameB_no (.inr (.inr (.inr (told_dbl rb.nd ct))))⟩
          · rw [List.length_append]
            show vs34.length + 1 ≤ 5
            omega
end
end K31

set_option Elab.async false
set_option linter.all false
set_option maxRecDepth 100000
set_option maxHeartbeats 4000000
/-! K31S: orders taken out and put in. -/
namespace K31
open PySem PySem.Spec PyProof.Rows L2 Gd
open Evl (Ex Ex.refl Ex.trans Ex.new Ex.mut ex_t ex_l sq_of st_of fresh_back)

local macro_rules | `(tactic| walk_at "st") => `(tactic| first
  | with_reducible refine x_seq ?_ | with_reducible refine x_ret ?_ | with_reducible refine x_retN ?_ | with_reducible refine x_next ?_ | with_reducible refine x_drop ?_ | with_reducible refine x_if ?_ | with_reducible refine x_asg ?_
  | with_reducible refine x_par ?_ | with_reducible refine x_par3 ?_ | with_reducible refine x_sfld ?_ | ((with_reducible show tVar _ _ _ _); refine x_var rfl ?_) | with_reducible refine x_c ?_ | with_reducible refine x_op ?_ | with_reducible refine x_un ?_
  | with_reducible refine x_chain ?_ | with_reducible refine x_andV ?_ | with_reducible refine x_orV ?_ | with_reducible refine x_notV ?_ | with_reducible refine x_ifE ?_ | with_reducible refine x_nil ?_ | with_reducible refine x_cons ?_ | with_reducible refine x_star ?_
  | with_reducible refine x_tup ?_ | with_reducible refine x_lst ?_ | with_reducible refine x_cb ?_ | with_reducible refine x_call ?_ | with_reducible refine x_meth ?_ | with_reducible refine x_methN ?_ | with_reducible refine x_makeG ?_ | with_reducible refine x_fld ?_ | with_reducible refine x_bm0 ?_ | with_reducible refine x_bm ?_
  | with_reducible refine x_sl ?_ | with_reducible refine x_no ?_ | with_reducible refine x_part ?_ | with_reducible refine x_rev ?_ | with_reducible refine x_fmtD ?_ | with_reducible refine x_test ?_ | with_reducible refine x_tB ?_ | with_reducible refine x_and ?_ | with_reducible refine x_or ?_ | with_reducible refine x_not ?_ | with_reducible refine x_yes ?_
  | with_reducible refine x_gname ?_ | with_reducible refine x_gtup ?_ | with_reducible refine x_gnil ?_ | with_reducible refine x_gcons ?_ | with_reducible refine x_gsub ?_ | with_reducible refine x_iList ?_ | with_reducible refine x_iStr ?_ | with_reducible refine x_iRng1 ?_ | with_reducible refine x_iEnumQ ?_
  | with_reducible refine x_lc ?_ | with_reducible refine x_dc ?_ | with_reducible refine x_iKeys ?_ | with_reducible refine x_iVals ?_ | with_reducible refine x_iItems ?_ | with_reducible refine x_forW ?_ | with_reducible refine x_iSeq ?_ | with_reducible refine x_ixO ?_
  | with_reducible refine x_prop ?_ | with_reducible refine x_makeKO ?_ | with_reducible refine x_M1 ?_ | with_reducible refine x_listVals ?_ | with_reducible refine x_listItems ?_ | with_reducible refine i_I0 ?_ | with_reducible refine i_U ?_ | with_reducible refine iteT ?_ | with_reducible refine iteF ?_ | with_reducible refine iteNT ?_ | with_reducible refine iteNF ?_ | with_reducible refine x_bl ?_ | with_reducible refine x_int ?_ | with_reducible refine i_add ?_ | with_reducible refine i_int1 ?_ | with_reducible refine i_abs ?_ | with_reducible refine i_max ?_ | with_reducible refine i_min ?_)
local macro_rules | `(tactic| walk_at "go") => `(tactic| repeat (first | walk_at "st" | dsimp only [Bool.not_true, Bool.not_false, List.nil_append, List.cons_append]))

theorem MdB.sub {gs : List Str} {m t : Ms} (h : MdB gs m) (nd : (keys t).Nodup) (s : ∀ p ∈ t, p ∈ m) : MdB gs t where
  nd := nd
  nm := fun k hk => by
    obtain ⟨p, hp, rfl⟩ := List.mem_map.mp hk
    exact h.nm _ (List.mem_map.mpr ⟨p, s p hp, rfl⟩)
  r := fun p hp => h.r p (s p hp)
  few := by
    have n : t.Nodup := (List.pairwise_map.mp nd).imp fun h e => h (congrArg Prod.fst e)
    exact Nat.le_trans (nodup_len n s) h.few
/-- what is left, and what was put in again -/
def leftM (m : Ms) (ns : List Str) : Ms := m.filter fun p => !ns.contains p.1
def addM (m : Ms) (ns : List Str) (i : Nat) : Ms := leftM m ns ++ (ns.take i).filterMap fun k => (look m k).map fun r => (k, r)
theorem keys_append (a b : Ms) : keys (a ++ b) = keys a ++ keys b := by
  unfold keys
  rw [List.map_append]
theorem keys_in {m : Ms} : ∀ {ns : List Str}, (∀ k ∈ ns, k ∈ keys m) → keys (ns.filterMap fun k => (look m k).map fun r => (k, r)) = ns
  | [], _ => rfl
  | k :: l, h => by
    obtain ⟨x, hx⟩ := look_key (h k (.head _))
    rw [List.filterMap_cons, hx]
    show k :: keys _ = k :: l
    rw [keys_in fun z hz => h z (.tail _ hz)]
theorem left_key {m : Ms} {ns : List Str} {k : Str} : k ∈ keys (leftM m ns) ↔ k ∈ keys m ∧ k ∉ ns := by
  unfold leftM keys
  rw [List.mem_map, List.mem_map]
  constructor
  · rintro ⟨p, hp, rfl⟩
    obtain ⟨h1, h2⟩ := List.mem_filter.mp hp
    rw [Bool.not_eq_true', List.contains_eq_mem, decide_eq_false_iff_not] at h2
    exact ⟨⟨p, h1, rfl⟩, h2⟩
  · rintro ⟨⟨p, hp, rfl⟩, h⟩
    exact ⟨p, List.mem_filter.mpr ⟨hp, by rw [Bool.not_eq_true', List.contains_eq_mem, decide_eq_false_iff_not]; exact h⟩, rfl⟩
theorem addM_keys {m : Ms} {ns : List Str} {i : Nat} (s : ∀ k ∈ ns, k ∈ keys m) : keys (addM m ns i) = keys (leftM m ns) ++ ns.take i := by
  unfold addM
  rw [keys_append, keys_in fun k hk => s k (List.mem_of_mem_take hk)]
theorem addM_nd {m : Ms} {ns : List Str} {i : Nat} (nd : (keys m).Nodup) (nn : ns.Nodup) (s : ∀ k ∈ ns, k ∈ keys m) : (keys (addM m ns i)).Nodup := by
  rw [addM_keys s, List.nodup_append]
  refine ⟨?_, (List.take_sublist _ _).nodup nn, fun a ha b hb e => ?_⟩
  · have s2 : (leftM m ns).Sublist m := List.filter_sublist
    exact (s2.map _).nodup nd
  · subst e
    exact (left_key.mp ha).2 (List.mem_of_mem_take hb)
theorem addM_sub {m : Ms} {ns : List Str} {i : Nat} : ∀ p ∈ addM m ns i, p ∈ m := by
  intro p hp
  rcases List.mem_append.mp hp with hp | hp
  · exact (List.mem_filter.mp hp).1
  · obtain ⟨k, _, h⟩ := List.mem_filterMap.mp hp
    cases q : look m k with
    | none => rw [q] at h; cases h
    | some r =>
      rw [q] at h
      cases h
      exact look_in q
theorem addM_step {m : Ms} {ns : List Str} {i : Nat} {k : Str} {r : Row} (hk : ns[i]? = some k) (hr : look m k = some r) : addM m ns (i + 1) = addM m ns i ++ [(k, r)] := by
  unfold addM
  rw [List.take_add_one, hk, List.filterMap_append, List.append_assoc]
  show leftM m ns ++ (_ ++ [k].filterMap _) = _
  rw [List.filterMap_cons, hr]
  rfl
theorem addM_all {m : Ms} {ns : List Str} (nd : (keys m).Nodup) (nn : ns.Nodup) (s : ∀ k ∈ ns, k ∈ keys m) : (addM m ns ns.length).Perm m := by
  have n1 := addM_nd (i := ns.length) nd nn s
  have nA : (addM m ns ns.length).Nodup := (List.pairwise_map.mp n1).imp fun h e => h (congrArg Prod.fst e)
  have nM : m.Nodup := (List.pairwise_map.mp nd).imp fun h e => h (congrArg Prod.fst e)
  refine (List.perm_ext_iff_of_nodup nA nM).mpr fun p => ⟨addM_sub p, fun hp => ?_⟩
  by_cases c : p.1 ∈ ns
  · refine List.mem_append_right _ (List.mem_filterMap.mpr ⟨p.1, by rw [List.take_length]; exact c, ?_⟩)
    rw [look_mem nd hp]
    rfl
  · refine List.mem_append_left _ (List.mem_filter.mpr ⟨hp, ?_⟩)
    rw [Bool.not_eq_true', List.contains_eq_mem, decide_eq_false_iff_not]
    exact c
theorem sameM_self (m : Ms) : sameM m m = true := by
  unfold sameM
  rw [decide_eq_true rfl]
theorem sameM_keys {m t : Ms} (nd : (keys m).Nodup) (h : sameM m t = true) : ∀ k, k ∈ keys m ↔ k ∈ keys t := by
  unfold sameM at h
  have e := of_decide_eq_true h
  intro k
  have := congrArg keys e
  rw [canM_keys, canM_keys] at this
  rw [← srt_mem, this, srt_mem]
theorem sameM_left {m : Ms} {ns : List Str} (nd : (keys m).Nodup) (s : ∀ k ∈ ns, k ∈ keys m) : sameM (leftM m ns) m = decide (ns = []) := by
  by_cases c : ns = []
  · subst c
    rw [decide_eq_true rfl, show leftM m [] = m from List.filter_eq_self.mpr fun _ _ => rfl]
    exact sameM_self m
  · rw [decide_eq_false c]
    cases q : sameM (leftM m ns) m with
    | false => rfl
    | true =>
      obtain ⟨k, hk⟩ := List.exists_mem_of_ne_nil _ c
      have s2 : (leftM m ns).Sublist m := List.filter_sublist
      exact absurd hk (left_key.mp ((sameM_keys ((s2.map _).nodup nd) q k).mpr (s k hk))).2
theorem MdAt.mut {K : PySem.W.Frag} {S H : Hp} {a l : Addr} {m : Ms} {o : HO} (h : MdAt K S H a m) (n : a ≠ l) : MdAt K S (upd H l o) a m := by
  obtain ⟨kvs, h1, h2⟩ := h.h
  exact ⟨h.s, kvs, by rw [upd_ne n]; exact h1, h2⟩
theorem MdAt.ne {K : PySem.W.Frag} {S H : Hp} {a l : Addr} {m : Ms} {xs : List V} (h : MdAt K S H a m) (e : H l = some (.lst xs)) : a ≠ l := by
  obtain ⟨kvs, h1, h2⟩ := h.h
  rintro rfl
  rw [h1] at e
  cases e
def restO (ns : List Str) (p : Str × Row) : Option Dt := if ns.contains p.1 = true then none else some (.tup [.str p.1, rowD p.2])
theorem restO_fm (ns : List Str) (m : Ms) : m.filterMap (restO ns) = (leftM m ns).map fun p => .tup [.str p.1, rowD p.2] := by
  unfold leftM
  induction m with
  | nil => rfl
  | cons p r ih =>
    rw [List.filterMap_cons, List.filter_cons, ih]
    unfold restO
    cases c : ns.contains p.1 with
    | true => rw [if_pos rfl, if_neg (by decide)]
    | false => rw [if_neg (by decide), if_pos (by decide)]; rfl
theorem i_eqL {K : PySem.W.Frag} {H : Hp} {Q : VK} {a b : Addr} {l l' : List Str} (ha : H a = some (.lst (l.map V.str))) (hb : H b = some (.lst (l'.map V.str))) (h1 : ∀ z ∈ l, PyData.strOk z = true) (h2 : ∀ z ∈ l', PyData.strOk z = true) (q : Q (.bl (decide (l = l'))) H) : rEqD K (.ref a) (.ref b) H Q := by
  refine ⟨_, _, strs_dp ha, strs_dp hb, strs_shaped h1, strs_shaped h2, ?_⟩
  rw [show PyData.eqv (.list (l.map PyData.str)) (.list (l'.map PyData.str)) = decide (l = l') by simp only [PyData.eqv]; exact eqvAll_map eqv_str l l']
  exact q
section
variable {P : Program} {w : World} {K : PySem.W.Frag} {mg : Str → Option Value} {base : Heap}
theorem kb_Round_without (T : Txt K mg) : KBn K (fdOf K (d_Round_without.at_ K)) ["self", "names"] 1 ["names"] (fun us ws => us ++ ws) (fun vs zs => vs ++ zs) :=
  kbn_app T.f_Round_without 1 ["names"] fun _ _ _ _ _ _ us ws h1 h2 => match us, ws, h1, h2 with | [_], [_], _, _ => rfl
theorem kb_Round_with_order (T : Txt K mg) : KBn K (fdOf K (d_Round_with_order.at_ K)) ["self", "name", "order"] 1 ["order", "name"] (fun us ws => us ++ ws.reverse) (fun vs zs => vs ++ zs.reverse) :=
  kbn_rev T.f_Round_with_order 1 ["order", "name"] fun _ _ _ _ _ _ us ws h1 h2 => match us, ws, h1, h2 with | [_], [_, _], _, _ => rfl
def spChR (K : PySem.W.Frag) : Sp := fun vs H Q _ => ∃ S p v a m gs, vs = [.ref p, v, .ref a] ∧ Ex S H ∧ PotOk S H p ∧ Dv K S v (rdD K m) ∧ MdAt K S H a m ∧ MdB gs m ∧ gs ∈ menus ∧ a ≠ p ∧ ∀ H', Gr [p] S H S H' → PotOk S H' p → Q (.bl true) H'
theorem b_law_changed_right (T : Txt K mg) : Binds K (fdOf K (d_law_changed_right.at_ K)) ["pot", "made", "model"] [] := T.f_law_changed_right.bindsN fun _ _ _ _ _ _ us hl => match us, hl with | [_, _, _], _ => rfl
theorem ok_law_changed_right (T : Txt K mg) (B : Tabs K) : FnG P w K mg base 32 (d_law_changed_right.at_ K) (fdOf K (d_law_changed_right.at_ K)) ["pot", "made", "model"] (spChR K) := by
  have G_law_draw := ok_law_draw (P := P) (w := w) (base := base) T
  have G_law_mixed := ok_law_mixed (P := P) (w := w) (base := base) T
  have G_law_is := ok_law_is (P := P) (w := w) (base := base) T B
  have G_Order_init := ok_Order_init (P := P) (w := w) (base := base) T B
  have G_Round_without := ok_Round_without (P := P) (w := w) (base := base) T B
  have G_Round_with_order := ok_Round_with_order (P := P) (w := w) (base := base) T B
  have G_Round_eq := ok_Round_eq (P := P) (w := w) (base := base) T B
  refine FnG.mk_of T.f_law_changed_right sc_law_changed_right (fun vs H Q E h => ?_) (fun cdv A outer s H vs Q E gu hr h => ?_)
  · obtain ⟨S, p, v, a, m, gs, rfl, _⟩ := h
    rfl
  · obtain ⟨S, p, v, am, m, gs, rfl, f, k, dv, md, mb, hg, nap, q⟩ := h
    have hu := hr.units
    have z5 : ∀ n, n ≤ 16777216 → n ≤ sizeLine := fun n h => by rw [sizeLine_eq]; exact h
    refine ⟨_, (pss_cons (ps_set (i := 4) sc_law_changed_right.nd rfl (Or.inr rfl) (pe_lc (own := [("name", 3)]) rfl sc_law_changed_right.nd (pi_list (pe_call G_law_mixed (hr.mono (by decide)) rfl T.g_law_mixed T.f_law_mixed.kp (b_law_mixed T) .nil pass0 (pa_cons (pv 0) (pa_cons (pe_callB (call_sortD rfl) (by rfl) T.b_sorted (by decide +kernel) (pa_cons (pv 2) pa_nil)) pa_nil)))) (blkOk_by (N := ["pot", "made", "model", "name", "some", "rest", "handed", "less", "back", "row"]) (sc := defScope s_law_changed_right) (by decide +kernel)) (fun _ _ _ _ _ => (pg_name (i := 3) sc_law_changed_right.nd rfl (.inl rfl))) (fun _ _ _ _ _ => (pts_one (pt_cmpR op_eq (pe_call G_law_draw (hr.mono (by decide)) rfl T.g_law_draw T.f_law_draw.kp (b_law_draw T) .nil pass0 (pa_cons (pv 0) (pa_cons pe_int pa_nil))) pe_int (nomark _)))) (fun _ _ _ _ _ => (pv 3))))
    (pss_cons (ps_set (i := 5) sc_law_changed_right.nd rfl (Or.inl rfl) (pe_callTy (show CallR _ _ (rDictP K) from call_dictP' rfl) (by rfl) T.b_dict (by decide +kernel) (pa_cons (pe_lock (pe_lc (own := [("name", 3)]) rfl sc_law_changed_right.nd (pi_keys (pv 2)) (blkOk_by (N := ["pot", "made", "model", "name", "some", "rest", "handed", "less", "back", "row"]) (sc := defScope s_law_changed_right) (by decide +kernel)) (fun _ _ _ _ _ => (pg_name (i := 3) sc_law_changed_right.nd rfl (.inl rfl))) (fun _ _ _ _ _ => (pts_one (pt_cmpR (show OpR _ _ (rIn K true) from op_notIn_seq) (pv 3) (pv 4) (by rfl)))) (fun _ _ _ _ _ => (pe_tup (pa_cons (pv 3) (pa_cons (pe_ix (show IxR _ (rIxY K) from ix_Y (units1 hr)) (pv 2) (pv 3) (fun _ _ => rfl)) pa_nil)))))) pa_nil)))
    (pss_cons (ps_set (i := 6) sc_law_changed_right.nd rfl (Or.inl rfl) (pe_callTy call_listX (by rfl) T.b_list (by decide +kernel) (pa_cons (pv 4) pa_nil)))
    (pss_cons (ps_set (i := 7) sc_law_changed_right.nd rfl (Or.inl rfl) (pe_meth (pv 1) T.cl_Round T.m_Round_without G_Round_without (hr.mono (by decide)) (b_Round_without T) .nil pass0 (pa_cons (pv 6) pa_nil)))
    (pss_cons (ps_if (pt_cmpR (op_neD hu) (pv 6) (pv 4) (nomark _)) (pss_one (ps_ret pe_bl)) pss_nil)
    (pss_cons (ps_expr (pe_bm PySem.F.plainAttrs_list PySem.F.slot_list_append PySem.F.type_list_append mt_append (pv 6) (pa_cons pe_str pa_nil)))
    (pss_cons (ps_if (PW.pt (pw_or (pt_not (pt_val (pe_callG G_law_is gu (hr.mono (by decide)) rfl T.g_law_is T.f_law_is.kp (b_law_is T) .nil (pa_cons (pv 7) (pa_cons (pv 5) pa_nil))))) (pw_or (pt_cmpR (op_neO gu G_Round_eq (hr.mono (by decide)) (b_Round_eq T) B.rc.ob B.rc.ne T.m_Round_eq.at_ T.m_Round_eq.fn) (pe_methK0 (pv 1) T.cl_Round T.m_Round_without G_Round_without (hr.mono (by decide)) (kb_Round_without T) pass0 (pk_cons (pe_callTy call_tupX (by rfl) T.b_tuple (by decide +kernel) (pa_cons (pv 4) pa_nil)) pk_nil)) (pv 7) (nomark _)) (pw_or1 (pt_cmpR (op_neO gu G_Round_eq (hr.mono (by decide)) (b_Round_eq T) B.rc.ob B.rc.ne T.m_Round_eq.at_ T.m_Round_eq.fn) (pe_meth (pv 1) T.cl_Round T.m_Round_without G_Round_without (hr.mono (by decide)) (b_Round_without T) .nil pass0 (pa_cons (pe_lst pa_nil) pa_nil)) (pv 1) (nomark _)))))) (pss_one (ps_ret pe_bl)) pss_nil)
    (pss_cons (ps_set (i := 8) sc_law_changed_right.nd rfl (Or.inl rfl) (pv 7))
    (pss_cons (ps_for (passes_of rfl) rfl (pi_list (pv 4)) (pg_name (i := 3) sc_law_changed_right.nd rfl (.inl rfl)) (pss_cons (ps_set (i := 9) sc_law_changed_right.nd rfl (Or.inl rfl) (pe_ix (show IxR _ (rIxY K) from ix_Y (units1 hr)) (pv 2) (pv 3) (fun _ _ => rfl)))
    (pss_one (ps_set (i := 8) sc_law_changed_right.nd rfl (Or.inl rfl) (pe_methK0 (pv 8) T.cl_Round T.m_Round_with_order G_Round_with_order (hr.mono (by decide)) (kb_Round_with_order T) pass0 (pk_cons (pe_make T.mk_Order G_Order_init (hr.mono (by decide)) rfl T.g_Order (b_Order_init T) .nil pass0 (pa_cons (pe_ix (show IxR _ (rIxY K) from ix_Y (units1 hr)) (pv 9) pe_int (fun _ _ => rfl)) (pa_cons (pe_ix (show IxR _ (rIxY K) from ix_Y (units1 hr)) (pv 9) pe_int (fun _ _ => rfl)) (pa_cons (pe_ix (show IxR _ (rIxY K) from ix_Y (units1 hr)) (pv 9) pe_int (fun _ _ => rfl)) (pa_cons (pe_ix (show IxR _ (rIxY K) from ix_Y (units1 hr)) (pv 9) pe_int (fun _ _ => rfl)) pa_nil))))) (pk_cons (pv 3) pk_nil)))))))
    (pss_cons (ps_if (pt_not (pt_val (pe_callG G_law_is gu (hr.mono (by decide)) rfl T.g_law_is T.f_law_is.kp (b_law_is T) .nil (pa_cons (pv 8) (pa_cons (pv 2) pa_nil))))) (pss_one (ps_ret pe_bl)) pss_nil)
    (pss_one (ps_ret (pe_and (pe_cmpR (op_eqO gu G_Round_eq (hr.mono (by decide)) (b_Round_eq T) T.m_Round_eq.at_ T.m_Round_eq.fn) (pv 8) (pv 1) (nomark _)) (pe_and (pe_callG G_law_is gu (hr.mono (by decide)) rfl T.g_law_is T.f_law_is.kp (b_law_is T) .nil (pa_cons (pv 7) (pa_cons (pv 5) pa_nil))) (pe_one (pe_cmpR op_eq (pe_cmpR (op_eqO gu G_Round_eq (hr.mono (by decide)) (b_Round_eq T) T.m_Round_eq.at_ T.m_Round_eq.fn) (pv 7) (pv 1) (nomark _)) (pe_cmpR (op_eqD hu) (pv 4) (pe_lst pa_nil) (nomark _)) (nomark _))))))))))))))))), ?_⟩
    obtain ⟨ra, dxr, po, pg, kvs0, rfl, h1, h2, oi, h3⟩ := rd_inv dv
    obtain ⟨kvs, ha, ti⟩ := md.h
    have ok := mb.ok hg
    have few := mb.few
    have lk : (keys m).length = m.length := List.length_map ..
    walk_at "go"
    refine ⟨am, kvs, keys m, rfl, .inl ha, ti.k.trans (tgs_keys m), by omega, fun ys l pm so hl => ?_⟩
    cases srt_one pm so
    have g1 : Gr [p] S H S (upd H l (.lst ((srt (keys m)).map V.str))) := Gr.newO f hl
    have k1 := k.new (o := .lst ((srt (keys m)).map V.str)) hl
    walk_at "go"
    refine ⟨S, p, l, srt (keys m), rfl, g1.i, k1, .inl (sq_of upd_same), by rw [srt_len]; omega, fun H2 l2 gs' pm2 g2' k2 hl20 hl2 => ?_⟩
    have g2 := g1.trans g2' fun x hx => .inl hx
    have pk : gs'.Perm (keys m) := pm2.trans (srt_perm _)
    have gn : gs'.Nodup := pk.nodup_iff.mpr mb.nd
    have npl2 : p ≠ l2 := k1.neq hl20
    have gl : gs'.length = m.length := by rw [pk.length_eq, lk]
    refine ⟨l2, rfl, ⟨_, sq_of hl2⟩, fun D hD => ?_⟩
    have nD : p ≠ D := k2.neq hD
    have wk := walk_list (K := K) (a := l2) (xs := gs'.map V.str)
    rw [List.length_map] at wk
    refine lc_G (K := K) (L := [p]) wk (fun i ds S1 Hc => PotOk S1 Hc p ∧ ∃ ns : List Str, ds = ns.map Dt.str ∧ ns.Sublist (gs'.take i)) g2.i hD (nmem1 nD) (by omega) ?_ ?_ ?_ ?_ ?_
    · exact ⟨k2.new hD, [], rfl, List.nil_sublist _⟩
    · rintro i ds S1 Hc o ⟨k', ns, e, sb⟩ s1
      exact ⟨k'.mut nD, ns, e, sb⟩
    · rintro i ds S1 Hc g _
      exact sq_of (g.h _ _ (nmem1 npl2) hl2)
    · rintro i x ds S1 Hc Hc' Qe Nx hi g ⟨k3, ns, rfl, sb⟩ ⟨rfl, hx⟩ q1 q2
      obtain ⟨z, hz, rfl⟩ := map_atA hx
      have tk : gs'.take (i + 1) = gs'.take i ++ [z] := by rw [List.take_add_one, hz]; rfl
      walk_at "go"
      refine ⟨rfl, ?_⟩
      walk_at "go"
      refine ⟨S1, p, _, rfl, g.i, k3, by decide, by decide, fun H4 n hn g4 k4 => ?_⟩
      walk_at "go"
      by_cases c : (n : Int) = 0
      · refine x_sameI (b := true) (decide_eq_true c) ?_
        walk_at "go"
        exact q1 S1 H4 _ _ g4 (.str z) ⟨k4, ns ++ [z], by rw [List.map_append]; rfl, by rw [tk]; exact sb.append (List.Sublist.refl _)⟩
      · refine x_sameI (b := false) (decide_eq_false c) ?_
        walk_at "go"
        exact q2 S1 H4 g4 ⟨k4, ns, rfl, by rw [tk]; exact sb.trans (List.sublist_append_left _ _)⟩
    · rintro S3 H3 xs ds g3' s3 hl3 dv3 ⟨k3, ns, rfl, sb⟩
      rw [List.take_of_length_le (Nat.le_refl _)] at sb
      rw [dvAll_strs_inv dv3] at hl3
      have g3 := g2.trans g3' fun x hx => .inl hx
      have nn : ns.Nodup := sb.nodup gn
      have sk : ∀ z ∈ ns, z ∈ keys m := fun z hz => pk.mem_iff.mp (sb.subset hz)
      have nz : ns.length ≤ 9 := by have := sb.length_le; omega
      have nst : ∀ z ∈ ns, PyData.strOk z = true := fun z hz => pool_str z (mb.nm z (sk z hz))
      have mdn : ∀ q : am ∈ [p], False := fun q => nap (List.mem_singleton.mp q)
      have md3 := md.gr g3 mdn
      obtain ⟨kvs3, ha3, ti3⟩ := md3.h
      have sa3 := md3.s
      have nDa : D ≠ am := fun e => by rw [e, ha3] at hl3; cases hl3
      have dv3' := dv.mono g3.s
      have zD : H D = none := g2.back hD (nmem1 nD)
      walk_at "go"
      refine i_lockE ha3 fun od => ?_
      walk_at "go"
      refine ⟨am, od, rfl, .inl ⟨_, upd_same, fun D4 hD4 => ?_⟩⟩
      have w4 := walk_keysD (K := K) (S := S3) (a := am) (od := od) ti3.k ti3.d
      have tl : (tgs rowD m).length = m.length := List.length_map ..
      rw [tl] at w4
      have f4 : Ex S3 (upd H3 am (.frz od (.dK kvs3))) := by
        have := lock_ex (od := od) (kvs := kvs3) (a := am) g3.i
        rwa [minus_self sa3] at this
      have hl4 : (upd H3 am (.frz od (.dK kvs3))) D = some (.lst (ns.map V.str)) := by rw [upd_ne nDa]; exact hl3
      refine lc_E (K := K) (as := m) w4 (restO ns) f4 hD4 (by omega) (fun S1 Hc g => g.nil_h _ _ upd_same) ?_ ?_
      · rintro i pr x S1 Hc Hc' Qe Nx hp g ⟨rfl, p', hp', rfl⟩ q1 q2
        obtain ⟨p2, hp2, rfl⟩ := map_atA hp'
        rw [hp] at hp2
        cases hp2
        obtain ⟨n, r⟩ := pr
        have hpm := List.mem_of_getElem? hp
        obtain ⟨vv, hv, dvv⟩ := ti3.val (look_mem mb.nd hpm)
        have rd : Rd Hc' am (.dK kvs3) := .inr ⟨od, g.nil_h _ _ upd_same⟩
        walk_at "go"
        refine ⟨rfl, ?_⟩
        walk_at "go"
        refine i_notInL (s := n) (g.nil_h _ _ hl4) ?_
        have e : restO ns (n, r) = if ns.contains n = true then none else some (.tup [.str n, rowD r]) := rfl
        cases c : ns.contains n with
        | true =>
          walk_at "go"
          exact q2 S1 _ (Gr.refl g.i) (by rw [e, c]; rfl)
        | false =>
          walk_at "go"
          refine i_ixDk (k := .inr n) rd hv ?_
          walk_at "go"
          refine ⟨z5 _ (by show 2 ≤ 16777216; decide), fun t ht => ?_⟩
          obtain ⟨g5, d5⟩ := pair_new (K := K) (Gr.refl (L := []) g.i) ht (.str n) (dvv.mono g.s)
          exact q1 _ _ _ _ g5 d5 (by rw [e, c]; rfl)
      · intro S5 H5 xs5 g5' s5 hl5 dv5
        rw [restO_fm] at dv5
        rw [← minus_self sa3] at g5'
        obtain ⟨b1, b2, b3, b4⟩ := lock_back (L := []) g3.i ha3 (by simp) g5'
        have nD4 : D4 ≠ am := fun z => by rw [z, upd_same] at hD4; cases hD4
        have g5 := g3.then b3
        have k5 := k3.gr b3 (by simp)
        have ml := mb.filter fun p => !ns.contains p.1
        refine ⟨b1, ?_⟩
        walk_at "go"
        refine i_dictM (m := leftM m ns) ml.nd b3.i (by rw [upd_ne nD4]; exact hl5) (dv5.mono b4) fun rs kvs6 hrs ti6 => ?_
        obtain ⟨hl6, sD6⟩ := b3.own (by simp) hl3 s3
        have g6 := g5.then (Gr.newO (o := .dK kvs6) g5.i hrs)
        have k6 := k5.new (o := .dK kvs6) hrs
        have md6 := (md3.gr b3 (by simp)).gr (Gr.newO (L := []) (o := .dK kvs6) g5.i hrs) (by simp)
        have dv6 := dv3'.mono b3.s
        have srs : (plus S5 S3 am) rs = none := fresh_back g5.i hrs
        have hl6' := (Ex.new (o := .dK kvs6) hrs) _ _ hl6
        have rest6 : MdAt K (plus S5 S3 am) (upd (upd H5 am (.dK kvs3)) rs (.dK kvs6)) rs (leftM m ns) := ⟨srs, kvs6, upd_same, ti6⟩
        generalize upd (upd H5 am (.dK kvs3)) rs (.dK kvs6) = H6 at g6 k6 md6 hl6' rest6 ⊢
        generalize plus S5 S3 am = S6 at *
        walk_at "go"
        refine i_listO hl6' fun hd hhd => ?_
        have G7 : Gr [] S6 H6 S6 (upd H6 hd (.lst (ns.map V.str))) := Gr.newO g6.i hhd
        have g7 := g6.then G7
        have k7 := k6.gr G7 (by simp)
        have md7 := md6.gr G7 (by simp)
        have rest7 := rest6.gr G7 (by simp)
        have nhd : p ≠ hd := k6.neq hhd
        have zhd : H hd = none := g6.back hhd (nmem1 nhd)
        have shd : S6 hd = none := fresh_back g6.i hhd
        have hD7 := G7.nil_h _ _ hl6'
        have hd7 : (upd H6 hd (.lst (ns.map V.str))) hd = some (.lst (ns.map V.str)) := upd_same
        generalize upd H6 hd (.lst (ns.map V.str)) = H7 at g7 k7 md7 rest7 hD7 hd7 G7 ⊢
        have okl := ml.ok hg
        have E7 := g7.s.trans g7.i
        walk_at "go"
        refine ⟨ra, dxr, _, rfl, E7 _ _ h1, rfl, ?_⟩
        walk_at "go"
        refine ⟨S6, _, m, hd, ns, rfl, g7.i, dv6, .inl (sq_of hd7), ok, sk, fun S8 H8 u8 g8' du8 => ?_⟩
        have g8 := g7.then g8'
        have k8 := k7.gr g8' (by simp)
        have md8 := md7.gr g8' (by simp)
        have rest8 := rest7.gr g8' (by simp)
        obtain ⟨hD8, sD8⟩ := g8'.own (by simp) hD7 sD6
        obtain ⟨hd8, shd8⟩ := g8'.own (by simp) hd7 shd
        have dv8 := dv6.mono g8'.s
        walk_at "go"
        refine i_neL hd8 hD8 nst nst ?_
        rw [decide_eq_true (rfl : ns = ns)]
        walk_at "go"
        refine ⟨i_tyL hd8, ?_⟩
        walk_at "go"
        refine i_append hd8 (by rw [List.length_map]; omega) ?_
        have g9 := g8.mutN (o := .lst (ns.map V.str ++ [.str "zz"])) zhd shd8
        have k9 := k8.mut (o := .lst (ns.map V.str ++ [.str "zz"])) nhd
        have md9 := md8.mut (o := .lst (ns.map V.str ++ [.str "zz"])) (md8.ne hd8)
        have rest9 := rest8.mut (o := .lst (ns.map V.str ++ [.str "zz"])) (rest8.ne hd8)
        have nDh : D ≠ hd := fun e => by rw [← e, hl6'] at hhd; cases hhd
        have hD9 : (upd H8 hd (.lst (ns.map V.str ++ [.str "zz"]))) D = some (.lst (ns.map V.str)) := by rw [upd_ne nDh]; exact hD8
        generalize upd H8 hd (.lst (ns.map V.str ++ [.str "zz"])) = H9 at g9 k9 md9 rest9 hD9 ⊢
        walk_at "go"
        refine ⟨S8, u8, rs, leftM m ns, gs, rfl, g9.i, du8, rest9, ml, hg, fun H10 e10 => ?_⟩
        have G10 : Gr [] S8 H9 S8 H10 := Gr.same g9.i e10
        have g10 := g9.then G10
        have k10 := k9.gr G10 (by simp)
        have md10 := md9.gr G10 (by simp)
        have rest10 := rest9.gr G10 (by simp)
        have hD10 := e10 _ _ hD9
        have E10 := g10.s.trans g10.i
        walk_at "go"
        refine ⟨ra, dxr, _, rfl, E10 _ _ h1, rfl, ?_⟩
        walk_at "go"
        refine ⟨D, ns.map V.str, rfl, .inl ⟨sq_of hD10, fun tl htl => ?_⟩⟩
        have G11 : Gr [] S8 H10 S8 (upd H10 tl (.tup (ns.map V.str))) := Gr.newO g10.i htl
        walk_at "go"
        refine ⟨rfl, ?_⟩
        refine ⟨S8, _, m, tl, ns, rfl, G11.i, dv8, .inr (st_of upd_same), ok, sk, fun S12 H12 u12 g12' du12 => ?_⟩
        have G12 := G11.then g12'
        walk_at "go"
        refine q_neR B.rc G12.i du12 (du8.mono g12'.s) okl okl fun H13 e13 => ?_
        rw [show (!sameM (List.filter (fun p => !ns.contains p.1) m) (List.filter (fun p => !ns.contains p.1) m)) = false by rw [sameM_self]; rfl]
        have G13 := G12.then (Gr.same (L := []) G12.i e13)
        have E13 : Ex S H13 := (g10.s.trans G13.s).trans G13.i
        walk_at "go"
        refine ⟨ra, dxr, _, rfl, E13 _ _ h1, rfl, ?_⟩
        walk_at "go"
        refine ⟨z5 _ (Nat.zero_le _), fun l0 hl0 => ?_⟩
        have G14 := G13.then (Gr.newO (L := []) (o := .lst []) G13.i hl0)
        walk_at "go"
        refine ⟨S12, _, m, l0, [], rfl, G14.i, dv8.mono G13.s, .inl (sq_of upd_same), ok, (fun _ h => nomatch h), fun S15 H15 u15 g15' du15 => ?_⟩
        have G15 := G14.then g15'
        rw [show (List.filter (fun p => !([] : List Str).contains p.1) m) = m from List.filter_eq_self.mpr fun _ _ => rfl] at du15
        walk_at "go"
        refine q_neR B.rc G15.i du15 (dv8.mono G15.s) ok ok fun H16 e16 => ?_
        rw [sameM_self]
        have G16 := G15.then (Gr.same (L := []) G15.i e16)
        have g16 := g10.then G16
        have k16 := k10.gr G16 (by simp)
        have md16 := md10.gr G16 (by simp)
        have rest16 := rest10.gr G16 (by simp)
        obtain ⟨hD16, sD16⟩ := G16.own (by simp) hD10 sD8
        have dv16 := dv8.mono G16.s
        have du16 := du8.mono G16.s
        clear G10 G11 G12 G13 G14 G15 du12 du15 g12' g15'
        walk_at "go"
        refine i_forTL hD16 (fun i σ H' => ∃ Sc vb y z, σ = [some (.ref p), some (.ref ra), some (.ref am), y, some (.ref D), some (.ref rs), some (.ref hd), some u8, some vb, z] ∧ Gr [] S15 H16 Sc H' ∧ Dv K Sc vb (rdD K (addM m ns i))) ?_ ?_ ?_ ?_
        · refine ⟨S15, u8, _, _, rfl, Gr.refl g16.i, ?_⟩
          rw [show addM m ns 0 = leftM m ns by unfold addM; simp]
          exact du16
        · rintro i σ H' _ ⟨Sc, vb, y, z, rfl, g, _⟩
          exact g.nil_h
        · rintro i σ H17 nk hnk ⟨Sc, vb, y, z, rfl, g17, dvb⟩
          have hkm := sk nk (List.mem_of_getElem? hnk)
          obtain ⟨r, hr'⟩ := look_key hkm
          have hpm := look_in hr'
          have rok := (mb.r _ hpm).1
          have md17 := md16.gr g17 (by simp)
          obtain ⟨kvs17, ha17, ti17⟩ := md17.h
          obtain ⟨vv, hv, dvv⟩ := ti17.val hr'
          obtain ⟨rra, rpb, rfl, r1, r2⟩ := row_inv dvv
          obtain ⟨rb, dxb, pb1, pb2, kvb, rfl, b1', b2', oib, b3'⟩ := rd_inv dvb
          have mbi : MdB gs (addM m ns i) := mb.sub (addM_nd mb.nd nn sk) addM_sub
          have mbj : MdB gs (addM m ns (i + 1)) := mb.sub (addM_nd mb.nd nn sk) addM_sub
          have notin : nk ∉ keys (addM m ns i) := by
            have n2 := addM_nd (i := i + 1) mb.nd nn sk
            rw [addM_step hnk hr', keys_append, List.nodup_append] at n2
            exact fun h => n2.2.2 nk h nk (by simp [keys]) rfl
          walk_at "go"
          refine i_ixDk (k := .inr nk) (.inl ha17) hv ?_
          walk_at "go"
          refine ⟨rb, dxb, _, rfl, g17.i _ _ b1', rfl, ?_⟩
          walk_at "go"
          refine i_ixT (j := 0) (sqT_mono g17.i r1) rfl rfl ?_
          walk_at "go"
          refine i_ixT (j := 1) (sqT_mono g17.i r1) rfl rfl ?_
          walk_at "go"
          refine i_ixT (j := 2) (sqT_mono g17.i r1) rfl rfl ?_
          walk_at "go"
          refine i_ixT (j := 3) (sqT_mono g17.i r1) rfl rfl ?_
          walk_at "go"
          refine g_mkOrd (S := Sc) (r := r) g17.i (g17.i _ _ r2) rok.ok fun S18 H18 o18 g18' do18 => ?_
          have g18 := g17.then g18'
          walk_at "go"
          refine ⟨rfl, ?_⟩
          have okj := mbj.ok hg
          rw [addM_step hnk hr'] at okj
          refine ⟨S18, _, addM m ns i, nk, o18, r, rfl, g18.i, dvb.mono g18'.s, do18, mbi.ok hg, notin, (ok.nm _ hpm).1, (ok.nm _ hpm).2, okj, fun S19 H19 u19 g19' du19 => ?_⟩
          walk_at "go"
          rw [← addM_step hnk hr'] at du19
          exact ⟨S19, u19, _, _, rfl, g18.then g19', du19⟩
        · rintro σ H17 ⟨Sc, vb, y, z, rfl, g17, dvb⟩
          rw [rd_congr ok (addM_all mb.nd nn sk)] at dvb
          have g18 := g16.then g17
          have k18 := k16.gr g17 (by simp)
          have md18 := md16.gr g17 (by simp)
          have rest18 := rest16.gr g17 (by simp)
          obtain ⟨hD18, sD18⟩ := g17.own (by simp) hD16 sD16
          have dv18 := dv16.mono g17.s
          have du18 := du16.mono g17.s
          walk_at "go"
          refine ⟨Sc, vb, am, m, gs, rfl, g18.i, dvb, md18, mb, hg, fun H19 e19 => ?_⟩
          have G19 : Gr [] Sc H17 Sc H19 := Gr.same g18.i e19
          walk_at "go"
          refine q_eqR B.rc G19.i dvb dv18 ok ok fun H20 e20 => ?_
          rw [sameM_self]
          have G20 := G19.then (Gr.same (L := []) G19.i e20)
          walk_at "go"
          refine ⟨Sc, u8, rs, leftM m ns, gs, rfl, G20.i, du18, rest18.gr G20 (by simp), ml, hg, fun H21 e21 => ?_⟩
          have G21 := G20.then (Gr.same (L := []) G20.i e21)
          walk_at "go"
          refine q_eqR B.rc G21.i du18 dv18 okl ok fun H22 e22 => ?_
          rw [show sameM (List.filter (fun p => !ns.contains p.1) m) m = decide (ns = []) from sameM_left mb.nd sk]
          have G22 := G21.then (Gr.same (L := []) G21.i e22)
          walk_at "go"
          refine ⟨z5 _ (Nat.zero_le _), fun l23 hl23 => ?_⟩
          have G23 := G22.then (Gr.newO (L := []) (o := .lst []) G22.i hl23)
          refine i_eqL (l := ns) (l' := []) (G23.nil_h _ _ hD18) upd_same nst (fun _ h => nomatch h) ?_
          walk_at "go"
          refine ⟨rfl, ?_⟩
          rw [decide_eq_true (rfl : V.bl (decide (ns = [])) = V.bl (decide (ns = [])))]
          have g23 := g18.then G23
          have k23 := k18.gr G23 (by simp)
          exact q _ (K31.Gr.drop g23) ⟨k.s, k23.h⟩
end
end K31

set_option Elab.async false
set_option linter.all false
set_option maxRecDepth 100000
set_option maxHeartbeats 4000000
/-! K31U: the text of an order tells the order; tables with an entry put. -/
namespace K31
open PySem PySem.Spec PyProof.Rows L2 Gd
/-- a text's signs -/
def sg (x : Str) : List Nat := x.cps.toList
theorem sg_app (a b : Str) : sg (a ++ b) = sg a ++ sg b := by
  show (a.cps ++ b.cps).toList = _
  simp [sg]
theorem sg_inj {a b : Str} (h : sg a = sg b) : a = b := by
  cases a
  cases b
  congr 1
  exact Array.toList_inj.mp h
theorem cut1 {c : Nat} : ∀ {a a' b b' : List Nat}, a ++ c :: b = a' ++ c :: b' → c ∉ a → c ∉ a' → a = a' ∧ b = b'
  | [], [], b, b', h, _, _ => ⟨rfl, (List.cons.inj h).2⟩
  | [], x :: a', b, b', h, _, n => absurd (List.mem_cons.mpr (.inl (List.cons.inj h).1)) n
  | x :: a, [], b, b', h, n, _ => absurd (List.mem_cons.mpr (.inl (List.cons.inj h).1.symm)) n
  | x :: a, y :: a', b, b', h, n, n' => by
    obtain ⟨e1, e2⟩ := List.cons.inj h
    obtain ⟨e3, e4⟩ := cut1 e2 (fun z => n (.tail _ z)) (fun z => n' (.tail _ z))
    exact ⟨by rw [e1, e3], e4⟩
/-! ### names and numbers -/
def allNames : List Str := ["tea", "oil", "a", "b", "c", "ax", "corn", "d", "zz", "ann", "bob", "annx", "bobx"]
theorem name_in : (∀ k ∈ goodsAll, k ∈ allNames) ∧ ∀ k ∈ housesX, k ∈ allNames := by decide +kernel
theorem name_sg : ∀ k ∈ allNames, sg (reprText k) = 39 :: (sg k ++ [39]) ∧ ∀ c ∈ sg (reprText k), c ≠ 44 ∧ c ≠ 58 ∧ c ≠ 123 ∧ c ≠ 125 ∧ c < 0x110000 := by decide +kernel
theorem name_inj {a b : Str} (ha : a ∈ allNames) (hb : b ∈ allNames) (h : sg (reprText a) = sg (reprText b)) : a = b := by
  rw [(name_sg a ha).1, (name_sg b hb).1] at h
  exact sg_inj (List.append_cancel_right (List.cons.inj h).2)
def iT (i : Int) : Str := Str.ofString (toString i)
def rdI (l : List Nat) : Int := match l with
  | 45 :: r => -(r.foldl (fun (a : Int) (c : Nat) => a * 10 + ((c : Int) - 48)) 0)
  | r => r.foldl (fun (a : Int) (c : Nat) => a * 10 + ((c : Int) - 48)) 0
theorem int_sg {i : Int} (h : i.natAbs ≤ 200) : rdI (sg (iT i)) = i ∧ ∀ c ∈ sg (iT i), c ≠ 44 ∧ c ≠ 41 ∧ c ≠ 125 ∧ c < 0x110000 := by
  have k : ∀ n : Nat, n < 401 → rdI (sg (iT ((n : Int) - 200))) = (n : Int) - 200 ∧ ∀ c ∈ sg (iT ((n : Int) - 200)), c ≠ 44 ∧ c ≠ 41 ∧ c ≠ 125 ∧ c < 0x110000 := by decide +kernel
  have := k (i + 200).toNat (by omega)
  rwa [show (((i + 200).toNat : Nat) : Int) - 200 = i by omega] at this
theorem int_inj {i j : Int} (hi : i.natAbs ≤ 200) (hj : j.natAbs ≤ 200) (h : sg (iT i) = sg (iT j)) : i = j := by
  rw [← (int_sg hi).1, ← (int_sg hj).1, h]
/-! ### bundles -/
def enB (p : Str × Int) : Str := reprText p.1 ++ ": " ++ iT p.2
theorem bdT_eq (b : Bd) : bdT b = "{" ++ Str.join ", " (b.map enB) ++ "}" := by
  unfold bdT bdD
  rw [txD, txKv_bgs]
  rfl
abbrev BdS (b : Bd) : Prop := ∀ p ∈ b, p.1 ∈ goodsAll ∧ p.2.natAbs ≤ 200
theorem sg_en (p : Str × Int) : sg (enB p) = sg (reprText p.1) ++ 58 :: 32 :: sg (iT p.2) := by
  unfold enB
  rw [sg_app, sg_app]
  show sg (reprText p.1) ++ [58, 32] ++ _ = _
  simp
theorem en_no {p : Str × Int} (h : p.1 ∈ goodsAll ∧ p.2.natAbs ≤ 200) : ∀ c ∈ sg (enB p), c ≠ 44 ∧ c ≠ 125 ∧ c < 0x110000 := by
  intro c hc
  rw [sg_en, List.mem_append, List.mem_cons, List.mem_cons] at hc
  rcases hc with hc | rfl | rfl | hc
  · have := (name_sg _ (name_in.1 _ h.1)).2 c hc
    exact ⟨this.1, this.2.2.2.1, this.2.2.2.2⟩
  · decide
  · decide
  · have := (int_sg h.2).2 c hc
    exact ⟨this.1, this.2.2.1, this.2.2.2⟩
theorem en_inj {p q : Str × Int} (hp : p.1 ∈ goodsAll ∧ p.2.natAbs ≤ 200) (hq : q.1 ∈ goodsAll ∧ q.2.natAbs ≤ 200) (h : sg (enB p) = sg (enB q)) : p = q := by
  rw [sg_en, sg_en] at h
  obtain ⟨e1, e2⟩ := cut1 h (fun z => ((name_sg _ (name_in.1 _ hp.1)).2 _ z).2.1 rfl) (fun z => ((name_sg _ (name_in.1 _ hq.1)).2 _ z).2.1 rfl)
  exact Prod.ext (name_inj (name_in.1 _ hp.1) (name_in.1 _ hq.1) e1) (int_inj hp.2 hq.2 (List.cons.inj e2).2)
theorem sg_join2 (x y : Str) (r : List Str) : sg (Str.join ", " (x :: y :: r)) = sg x ++ 44 :: 32 :: sg (Str.join ", " (y :: r)) := by
  have : Str.join (Str.ofString ", ") (x :: y :: r) = x ++ Str.ofString ", " ++ Str.join (Str.ofString ", ") (y :: r) := rfl
  rw [this, sg_app, sg_app]
  show sg x ++ [44, 32] ++ _ = _
  simp
theorem en_ne (p : Str × Int) : sg (enB p) ≠ [] := by
  rw [sg_en]
  simp
theorem join_inj : ∀ {a b : Bd}, BdS a → BdS b → sg (Str.join ", " (a.map enB)) = sg (Str.join ", " (b.map enB)) → a = b
  | [], [], _, _, _ => rfl
  | [], [q], _, _, h => absurd h.symm (en_ne q)
  | [], q :: r :: s, _, _, h => by
    rw [List.map_cons, List.map_cons, sg_join2] at h
    have := congrArg List.length h
    rw [List.length_append, List.length_cons] at this
    have e : (sg (Str.join (Str.ofString ", ") (List.map enB []))).length = 0 := rfl
    omega
  | [p], [], _, _, h => absurd h (en_ne p)
  | p :: r :: s, [], _, _, h => by
    rw [List.map_cons, List.map_cons, sg_join2] at h
    have := congrArg List.length h
    rw [List.length_append, List.length_cons] at this
    have e : (sg (Str.join (Str.ofString ", ") (List.map enB []))).length = 0 := rfl
    omega
  | [p], [q], ha, hb, h => by
    have h' : sg (enB p) = sg (enB q) := h
    rw [en_inj (ha p (.head _)) (hb q (.head _)) h']
  | [p], q :: r :: s, ha, hb, h => by
    have h' : sg (enB p) = sg (Str.join ", " (enB q :: enB r :: s.map enB)) := h
    rw [sg_join2] at h'
    have : 44 ∈ sg (enB p) := by rw [h']; exact List.mem_append_right _ (.head _)
    exact absurd rfl (en_no (ha p (.head _)) _ this).1
  | p :: r :: s, [q], ha, hb, h => by
    have h' : sg (Str.join ", " (enB p :: enB r :: s.map enB)) = sg (enB q) := h
    rw [sg_join2] at h'
    have : 44 ∈ sg (enB q) := by rw [← h']; exact List.mem_append_right _ (.head _)
    exact absurd rfl (en_no (hb q (.head _)) _ this).1
  | p :: r :: s, q :: r' :: s', ha, hb, h => by
    have h' : sg (Str.join ", " (enB p :: enB r :: s.map enB)) = sg (Str.join ", " (enB q :: enB r' :: s'.map enB)) := h
    rw [sg_join2, sg_join2] at h'
    obtain ⟨e1, e2⟩ := cut1 h' (fun z => (en_no (ha p (.head _)) _ z).1 rfl) (fun z => (en_no (hb q (.head _)) _ z).1 rfl)
    have e3 := join_inj (a := r :: s) (b := r' :: s') (fun x hx => ha x (.tail _ hx)) (fun x hx => hb x (.tail _ hx)) (List.cons.inj e2).2
    rw [en_inj (ha p (.head _)) (hb q (.head _)) e1, e3]
theorem join_no : ∀ {b : Bd}, BdS b → ∀ c ∈ sg (Str.join ", " (b.map enB)), c ≠ 125 ∧ c < 0x110000
  | [], _, c, hc => by cases hc
  | [p], h, c, hc => (en_no (h p (.head _)) c hc).2
  | p :: r :: s, h, c, hc => by
    rw [List.map_cons, List.map_cons, sg_join2, List.mem_append, List.mem_cons, List.mem_cons] at hc
    rcases hc with hc | rfl | rfl | hc
    · exact (en_no (h p (.head _)) c hc).2
    · decide
    · decide
    · exact join_no (b := r :: s) (fun x hx => h x (.tail _ hx)) c hc
/-! ### orders -/
theorem sg_ord (r : Row) : sg (ordT r) = (sg "Order(" ++ sg (reprText r.house) ++ [44, 32]) ++ 123 :: (sg (Str.join ", " ((told r.bun).map enB)) ++ 125 :: 44 :: 32 :: (sg (iT r.lim) ++ 44 :: 32 :: (sg (iT r.most) ++ [41]))) := by
  have e : ordT r = "Order(" ++ reprText r.house ++ ", " ++ ("{" ++ Str.join ", " ((told r.bun).map enB) ++ "}") ++ ", " ++ iT r.lim ++ ", " ++ iT r.most ++ ")" := by
    unfold ordT
    rw [bdT_eq]
    rfl
  rw [e]
  simp only [sg_app]
  show sg "Order(" ++ sg (reprText r.house) ++ [44, 32] ++ ([123] ++ sg (Str.join (Str.ofString ", ") ((told r.bun).map enB)) ++ [125]) ++ [44, 32] ++ sg (iT r.lim) ++ [44, 32] ++ sg (iT r.most) ++ [41] = _
  simp
theorem ordT_inj {r t : Row} (hr : RowB r) (ht : RowB t) (h : ordT r = ordT t) : can r = can t := by
  have h' := congrArg sg h
  rw [sg_ord, sg_ord] at h'
  have no : ∀ x : Row, RowB x → 123 ∉ sg "Order(" ++ sg (reprText x.house) ++ [44, 32] := by
    intro x hx z
    rw [List.mem_append, List.mem_append] at z
    rcases z with (z | z) | z
    · revert z
      decide +kernel
    · exact ((name_sg _ (name_in.2 _ hx.h)).2 _ z).2.2.1 rfl
    · revert z
      decide
  obtain ⟨e1, e2⟩ := cut1 h' (no r hr) (no t ht)
  have eh : r.house = t.house := name_inj (name_in.2 _ hr.h) (name_in.2 _ ht.h) (List.append_cancel_left (List.append_cancel_right e1))
  obtain ⟨e3, e4⟩ := cut1 e2 (fun z => (join_no hr.told.1 _ z).1 rfl) (fun z => (join_no ht.told.1 _ z).1 rfl)
  have eb := join_inj hr.told.1 ht.told.1 e3
  have e5 := (List.cons.inj (List.cons.inj e4).2).2
  obtain ⟨e6, e7⟩ := cut1 e5 (fun z => ((int_sg hr.l).2 _ z).1 rfl) (fun z => ((int_sg ht.l).2 _ z).1 rfl)
  have el := int_inj hr.l ht.l e6
  have e8 := List.append_cancel_right (List.cons.inj e7).2
  have em := int_inj (i := r.most) (j := t.most) (by have := hr.m; omega) (by have := ht.m; omega) e8
  unfold can
  rw [eh, eb, el, em]
theorem ordT_can {r t : Row} (h : can r = can t) : ordT r = ordT t := by
  unfold can at h
  rw [Row.mk.injEq] at h
  obtain ⟨a, b, c, d⟩ := h
  unfold ordT
  rw [a, b, c, d]
theorem ordT_str {r : Row} (h : RowB r) : PyData.strOk (ordT r) = true := by
  have : ∀ c ∈ sg (ordT r), c < 0x110000 := by
    intro c hc
    rw [sg_ord] at hc
    simp only [List.mem_append, List.mem_cons, List.not_mem_nil, or_false] at hc
    rcases hc with ((hc | hc) | hc | hc) | hc | hc | hc | hc | hc | hc | hc | hc | hc | hc
    · revert hc
      have : ∀ c ∈ sg "Order(", c < 0x110000 := by decide +kernel
      exact this c
    · exact ((name_sg _ (name_in.2 _ h.h)).2 _ hc).2.2.2.2
    · omega
    · omega
    · omega
    · exact (join_no h.told.1 _ hc).2
    · omega
    · omega
    · omega
    · exact ((int_sg h.l).2 _ hc).2.2.2
    · omega
    · omega
    · exact ((int_sg (i := r.most) (by have := h.m; omega)).2 _ hc).2.2.2
    · omega
  unfold PyData.strOk
  rw [Array.all_eq_true_iff_forall_mem]
  intro c hc
  exact decide_eq_true (this c (by unfold sg; exact Array.mem_toList_iff.mpr hc))
end K31

set_option Elab.async false
set_option linter.all false
set_option maxRecDepth 100000
set_option maxHeartbeats 4000000
/-! K31V2: tables with an entry put. -/
namespace K31
open PySem PySem.Spec PyProof.Rows L2 Gd
open Evl (Ex Ex.refl Ex.trans Ex.new Ex.mut ex_t ex_l sq_of st_of fresh_back)
def putM {α : Type} (m : List (Str × α)) (k : Str) (r : α) : List (Str × α) := if k ∈ keys m then m.map (fun p => if p.1 = k then (p.1, r) else p) else m ++ [(k, r)]
def putAll {α : Type} (m l : List (Str × α)) : List (Str × α) := l.foldl (fun acc p => putM acc p.1 p.2) m
section
variable {α : Type} {fD : α → Dt} {m : List (Str × α)} {k : Str} {r : α}
theorem putM_new (h : k ∉ keys m) : putM m k r = m ++ [(k, r)] := if_neg h
theorem tgs_any : ((tgs fD m).any fun p => decide (p.1 = Sum.inr k)) = decide (k ∈ keys m) := by
  unfold tgs
  induction m with
  | nil => rfl
  | cons p l ih =>
    rw [List.map_cons, List.any_cons, ih]
    show (decide ((Sum.inr p.1 : Key) = Sum.inr k) || decide (k ∈ keys l)) = decide (k ∈ p.1 :: keys l)
    rw [Bool.eq_iff_iff, Bool.or_eq_true, decide_eq_true_eq, decide_eq_true_eq, decide_eq_true_eq, List.mem_cons]
    exact or_congr ⟨fun e => (Sum.inr.inj e).symm, fun e => by rw [e]⟩ Iff.rfl
theorem putG_tgs : putG (tgs fD m) (.inr k) (fD r) = tgs fD (putM m k r) := by
  unfold putG putM
  rw [tgs_any]
  by_cases c : k ∈ keys m
  · rw [decide_eq_true c, if_pos rfl, if_pos c]
    unfold tgs
    rw [List.map_map, List.map_map]
    congr 1
    funext p
    by_cases e : p.1 = k
    · simp [e]
    · simp [e]
  · rw [decide_eq_false c, if_neg (by decide), if_neg c]
    unfold tgs
    rw [List.map_append]
    rfl
theorem merge_tgs : ∀ (l m : List (Str × α)), mergeG (tgs fD m) (tgs fD l) = tgs fD (putAll m l)
  | [], m => rfl
  | p :: l, m => by
    show mergeG (putG (tgs fD m) (.inr p.1) (fD p.2)) (tgs fD l) = _
    rw [putG_tgs, merge_tgs l]
    rfl
theorem tgs_app (l : List (Str × α)) : tgs fD (m ++ l) = tgs fD m ++ tgs fD l := by
  unfold tgs
  rw [List.map_append]
theorem mergeG_app (a b g : List (Key × Dt)) : mergeG g (a ++ b) = mergeG (mergeG g a) b := by
  unfold mergeG
  rw [List.foldl_append]
theorem i_dictPut {K : PySem.W.Frag} {S H : Hp} {Q : VK} {a : Addr} {l : List (Str × α)} {xs : List V} (nd : (keys m).Nodup) (f : Ex S H) (h : H a = some (.lst xs)) (d : DvAll K S xs ((m ++ l).map fun p => .tup [.str p.1, fD p.2]))
    (q : ∀ p kvs, H p = none → TabIn fD K S kvs (putAll m l) → Q (.ref p) (upd H p (.dK kvs))) : rDictP K [.ref a] H Q := by
  have e : ((m ++ l).map fun p => Dt.tup [.str p.1, fD p.2]) = (tgs fD (m ++ l)).map fun g => .tup [keyD g.1, g.2] := by
    unfold tgs
    rw [List.map_map]
    rfl
  rw [e] at d
  refine i_dictP f h d fun p kvs hp hk dv => ?_
  have e0 : mergeG [] (tgs fD m) = tgs fD m := by
    rw [mergeG_nd (by rw [List.nil_append]; exact tgs_nd nd)]
    rfl
  rw [tgs_app, mergeG_app, e0, merge_tgs] at hk dv
  exact q p kvs hp ⟨hk, dv⟩
theorem putM_keys (h : k ∈ keys m) : keys (putM m k r) = keys m := by
  unfold putM
  rw [if_pos h]
  unfold keys
  rw [List.map_map]
  congr 1
  funext p
  show (if p.1 = k then (p.1, r) else p).1 = p.1
  split <;> rfl
theorem putM_mem (h : k ∈ keys m) {p : Str × α} (hp : p ∈ putM m k r) : p ∈ m ∨ p = (k, r) := by
  unfold putM at hp
  rw [if_pos h] at hp
  obtain ⟨q, hq, e⟩ := List.mem_map.mp hp
  by_cases c : q.1 = k
  · rw [if_pos c] at e
    exact .inr (by rw [← e, c])
  · rw [if_neg c] at e
    exact .inl (by rw [← e]; exact hq)
theorem putM_look (nd : (keys m).Nodup) (h : k ∈ keys m) : look (putM m k r) k = some r := by
  refine look_mem (by rw [putM_keys h]; exact nd) ?_
  obtain ⟨q, hq, e⟩ := List.mem_map.mp h
  unfold putM
  rw [if_pos h]
  exact List.mem_map.mpr ⟨q, hq, by rw [if_pos e, e]⟩
end
theorem MdB.put {gs : List Str} {m : Ms} {k : Str} {r : Row} (h : MdB gs m) (hk : k ∈ keys m) (hr : RowB r ∧ ∀ z ∈ keys r.bun, z ∈ gs) : MdB gs (putM m k r) where
  nd := by rw [putM_keys hk]; exact h.nd
  nm := fun z hz => h.nm z (by rwa [putM_keys hk] at hz)
  r := fun p hp => by
    rcases putM_mem hk hp with hp | rfl
    · exact h.r p hp
    · exact hr
  few := by
    have a1 : (keys (putM m k r)).length = (putM m k r).length := List.length_map ..
    have a2 : (keys m).length = m.length := List.length_map ..
    rw [← a1, putM_keys hk, a2]
    exact h.few
theorem look_map {α β : Type} (f : α → β) (m : List (Str × α)) (k : Str) : look (m.map fun p => (p.1, f p.2)) k = (look m k).map f := by
  unfold look
  induction m with
  | nil => rfl
  | cons p r ih =>
    rw [List.map_cons]
    by_cases c : p.1 = k
    · rw [List.find?_cons_of_pos (by simp [c]), List.find?_cons_of_pos (by simp [c])]
      rfl
    · rw [List.find?_cons_of_neg (by simp [c]), List.find?_cons_of_neg (by simp [c])]
      exact ih
theorem sameM_put {m : Ms} {k : Str} {r r' : Row} (nd : (keys m).Nodup) (h : look m k = some r) (n : can r ≠ can r') : sameM m (putM m k r') = false := by
  cases q : sameM m (putM m k r') with
  | false => rfl
  | true =>
    have hk : k ∈ keys m := List.mem_map.mpr ⟨_, look_in h, rfl⟩
    have nd' : (keys (putM m k r')).Nodup := by rw [putM_keys hk]; exact nd
    unfold sameM at q
    have e := congrArg (fun l => look l k) (of_decide_eq_true q)
    have e1 : look (canM m) k = some (can r) := by
      unfold canM
      rw [look_map, srtM_look nd, h]
      rfl
    have e2 : look (canM (putM m k r')) k = some (can r') := by
      unfold canM
      rw [look_map, srtM_look nd', putM_look nd hk]
      rfl
    have e' : look (canM m) k = look (canM (putM m k r')) k := e
    rw [e1, e2] at e'
    exact absurd (Option.some.inj e') n
def textsM (m : Ms) : List Str := (srtM m).map fun p => ordT p.2
theorem texts_same : ∀ {A B : Ms}, keys A = keys B → (∀ p ∈ A, RowB p.2) → (∀ p ∈ B, RowB p.2) → ((A.map fun p => (p.1, can p.2)) = (B.map fun p => (p.1, can p.2)) ↔ (A.map fun p => ordT p.2) = (B.map fun p => ordT p.2))
  | [], [], _, _, _ => by simp
  | [], _ :: _, h, _, _ => by cases h
  | _ :: _, [], h, _, _ => by cases h
  | p :: a, q :: b, h, hA, hB => by
    have h' : p.1 :: keys a = q.1 :: keys b := h
    obtain ⟨h1, h2⟩ := List.cons.inj h'
    have ih := texts_same h2 (fun x hx => hA x (.tail _ hx)) fun x hx => hB x (.tail _ hx)
    rw [List.map_cons, List.map_cons, List.map_cons, List.map_cons, List.cons.injEq, List.cons.injEq, ih, Prod.mk.injEq]
    exact ⟨fun ⟨⟨_, c⟩, d⟩ => ⟨ordT_can c, d⟩, fun ⟨c, d⟩ => ⟨⟨h1, ordT_inj (hA p (.head _)) (hB q (.head _)) c⟩, d⟩⟩
theorem textsM_same {gs gs' : List Str} {m t : Ms} (hm : MdB gs m) (ht : MdB gs' t) (hk : keys t = keys m) : sameM m t = decide (textsM t = textsM m) := by
  have e := texts_same (A := srtM m) (B := srtM t) (by rw [srtM_keys, srtM_keys, hk]) (fun p hp => (hm.r p ((srtM_mem hm.nd).mp hp)).1) fun p hp => (ht.r p ((srtM_mem ht.nd).mp hp)).1
  unfold sameM canM textsM
  rw [Bool.eq_iff_iff, decide_eq_true_eq, decide_eq_true_eq, e]
  exact ⟨Eq.symm, Eq.symm⟩
theorem sameM_snoc {m : Ms} {k : Str} {r : Row} (nd : (keys m).Nodup) (h : k ∉ keys m) : sameM m (m ++ [(k, r)]) = false := by
  cases q : sameM m (m ++ [(k, r)]) with
  | false => rfl
  | true => exact absurd ((sameM_keys nd q k).mpr (by unfold keys; simp)) h
/-- the rows of a model, by its names in some sequence -/
def mixM (m : Ms) (l : List Str) : Ms := l.filterMap fun k => (look m k).map fun r => (k, r)
theorem mixM_perm {m : Ms} {l : List Str} (nb : (keys m).Nodup) (p : l.Perm (keys m)) : (mixM m l).Perm m := by
  have hk : keys (mixM m l) = l := keys_in fun k hk => p.mem_iff.mp hk
  have nk : (keys (mixM m l)).Nodup := by rw [hk]; exact p.nodup_iff.mpr nb
  refine sub_perm ((List.pairwise_map.mp nk).imp fun h e => h (congrArg Prod.fst e)) (fun a ha => ?_) ?_
  · obtain ⟨k, _, h⟩ := List.mem_filterMap.mp ha
    cases q : look m k with
    | none => rw [q] at h; cases h
    | some i =>
      rw [q] at h
      cases h
      exact look_in q
  · have a1 : (keys (mixM m l)).length = (mixM m l).length := List.length_map ..
    have a2 : (keys m).length = m.length := List.length_map ..
    rw [← a1, hk, p.length_eq, a2]
theorem mixM_tup (K : PySem.W.Frag) (m : Ms) (l : List Str) : l.filterMap (fun k => (look m k).map fun r => Dt.tup [.str k, ordD K r]) = (mixM m l).map fun p => Dt.tup [.str p.1, ordD K p.2] := by
  unfold mixM
  rw [List.map_filterMap]
  congr 1
  funext k
  cases look m k <;> rfl
theorem textsM_fm (m : Ms) : (srt (keys m)).filterMap (fun k => (look m k).map fun r => Dt.str (ordT r)) = (textsM m).map Dt.str := by
  unfold textsM srtM
  rw [List.map_filterMap, List.map_filterMap]
  congr 1
  funext k
  cases look m k <;> rfl
end K31

set_option Elab.async false
set_option linter.all false
set_option maxRecDepth 100000
set_option maxHeartbeats 4000000
/-! K31Y2: _law_right. -/
namespace K31
open PySem PySem.Spec PyProof.Rows L2 Gd
open Evl (Ex Ex.refl Ex.trans Ex.new Ex.mut ex_t ex_l sq_of st_of fresh_back)

theorem x_makeKA {C : Addr} {m : Nat} {sp : Sp} {σ : L2.St} {H : Hp} {tk : TA} {Q : VK} (h : tk σ H fun zs H2 => ([] : List V).length = 0 ∧ zs.length = m ∧ MkG C sp Q zs H2) : tMakeK C 0 m sp (fun vs zs => vs ++ zs) E0 tNil tk σ H Q := h
theorem snoc_nd' {α : Type} {b : List (Str × α)} {z : Str} {i : α} (nb : (keys b).Nodup) (hz : z ∉ keys b) : (keys (b ++ [(z, i)])).Nodup := by
  unfold keys at *
  rw [List.map_append, List.nodup_append]
  refine ⟨nb, by simp, fun a ha c hc e => ?_⟩
  have : c = z := by simpa using hc
  rw [e, this] at ha
  exact hz ha
/-- != of a dict and an empty one -/
def rNeD0 : R2 := fun x y H Q => ∃ a b kA, x = .ref a ∧ y = .ref b ∧ H a = some (.dK kA) ∧ H b = some (.dK []) ∧ ∀ H', Ex H H' → Q (.bl (!decide (kA = []))) H'
theorem op_neD0 {X : Cx} (hr : Room (0 + 2) X.A) : OpR X (compareOp .NotEq) rNeD0 := by
  intro pins s σ H x y v u Q I rx ry h
  obtain ⟨a, b, kA, rfl, rfl, ha, hb, q⟩ := h
  refine op_neDO (n := 0) hr pins s σ H _ _ v u Q I rx ry ⟨a, b, kA, [], fun _ => none, fun _ => true, rfl, rfl, rfl, (fun _ _ z => by cases z), ha, hb, (fun _ _ y hy => by cases hy), fun H' e => ?_⟩
  have := q H' e
  cases kA with
  | nil => exact this
  | cons p r =>
    rw [show (!eqKV (p :: r) [] fun _ => true) = !decide (p :: r = []) from rfl]
    exact this
local macro_rules | `(tactic| walk_at "st") => `(tactic| first
  | with_reducible refine x_seq ?_ | with_reducible refine x_ret ?_ | with_reducible refine x_retN ?_ | with_reducible refine x_next ?_ | with_reducible refine x_drop ?_ | with_reducible refine x_if ?_ | with_reducible refine x_asg ?_
  | with_reducible refine x_par ?_ | with_reducible refine x_par3 ?_ | with_reducible refine x_sfld ?_ | ((with_reducible show tVar _ _ _ _); refine x_var rfl ?_) | with_reducible refine x_c ?_ | with_reducible refine x_op ?_ | with_reducible refine x_un ?_
  | with_reducible refine x_chain ?_ | with_reducible refine x_andV ?_ | with_reducible refine x_orV ?_ | with_reducible refine x_notV ?_ | with_reducible refine x_ifE ?_ | with_reducible refine x_nil ?_ | with_reducible refine x_cons ?_ | with_reducible refine x_star ?_
  | with_reducible refine x_tup ?_ | with_reducible refine x_lst ?_ | with_reducible refine x_cb ?_ | with_reducible refine x_call ?_ | with_reducible refine x_meth ?_ | with_reducible refine x_methN ?_ | with_reducible refine x_makeG ?_ | with_reducible refine x_fld ?_ | with_reducible refine x_bm0 ?_ | with_reducible refine x_bm ?_
  | with_reducible refine x_sl ?_ | with_reducible refine x_no ?_ | with_reducible refine x_part ?_ | with_reducible refine x_rev ?_ | with_reducible refine x_fmtD ?_ | with_reducible refine x_test ?_ | with_reducible refine x_tB ?_ | with_reducible refine x_and ?_ | with_reducible refine x_or ?_ | with_reducible refine x_not ?_ | with_reducible refine x_yes ?_
  | with_reducible refine x_gname ?_ | with_reducible refine x_gtup ?_ | with_reducible refine x_gnil ?_ | with_reducible refine x_gcons ?_ | with_reducible refine x_gsub ?_ | with_reducible refine x_iList ?_ | with_reducible refine x_iStr ?_ | with_reducible refine x_iRng1 ?_ | with_reducible refine x_iEnumQ ?_
  | with_reducible refine x_lc ?_ | with_reducible refine x_dc ?_ | with_reducible refine x_iKeys ?_ | with_reducible refine x_iVals ?_ | with_reducible refine x_iItems ?_ | with_reducible refine x_forW ?_ | with_reducible refine x_iSeq ?_ | with_reducible refine x_ixO ?_
  | with_reducible refine x_prop ?_ | with_reducible refine x_makeKO ?_ | with_reducible refine x_makeKA ?_ | with_reducible refine x_M1 ?_ | with_reducible refine x_listVals ?_ | with_reducible refine x_listItems ?_ | with_reducible refine i_I0 ?_ | with_reducible refine i_U ?_ | with_reducible refine iteT ?_ | with_reducible refine iteF ?_ | with_reducible refine iteNT ?_ | with_reducible refine iteNF ?_ | with_reducible refine x_bl ?_ | with_reducible refine x_int ?_ | with_reducible refine i_add ?_ | with_reducible refine i_int1 ?_ | with_reducible refine i_abs ?_ | with_reducible refine i_max ?_ | with_reducible refine i_min ?_)
local macro_rules | `(tactic| walk_at "go") => `(tactic| repeat (first | walk_at "st" | dsimp only [Bool.not_true, Bool.not_false, List.nil_append, List.cons_append]))

local macro_rules | `(tactic| walk_at "sn") => `(tactic| first
  | with_reducible refine x_seq ?_ | with_reducible refine x_ret ?_ | with_reducible refine x_retN ?_ | with_reducible refine x_next ?_ | with_reducible refine x_drop ?_ | with_reducible refine x_asg ?_
  | with_reducible refine x_par ?_ | with_reducible refine x_par3 ?_ | with_reducible refine x_sfld ?_ | ((with_reducible show tVar _ _ _ _); refine x_var rfl ?_) | with_reducible refine x_c ?_ | with_reducible refine x_op ?_ | with_reducible refine x_un ?_
  | with_reducible refine x_chain ?_ | with_reducible refine x_andV ?_ | with_reducible refine x_orV ?_ | with_reducible refine x_notV ?_ | with_reducible refine x_ifE ?_ | with_reducible refine x_nil ?_ | with_reducible refine x_cons ?_ | with_reducible refine x_star ?_
  | with_reducible refine x_tup ?_ | with_reducible refine x_lst ?_ | with_reducible refine x_cb ?_ | with_reducible refine x_call ?_ | with_reducible refine x_meth ?_ | with_reducible refine x_methN ?_ | with_reducible refine x_makeG ?_ | with_reducible refine x_fld ?_ | with_reducible refine x_bm0 ?_ | with_reducible refine x_bm ?_
  | with_reducible refine x_sl ?_ | with_reducible refine x_no ?_ | with_reducible refine x_part ?_ | with_reducible refine x_rev ?_ | with_reducible refine x_fmtD ?_ | with_reducible refine x_test ?_ | with_reducible refine x_tB ?_ | with_reducible refine x_and ?_ | with_reducible refine x_or ?_ | with_reducible refine x_not ?_ | with_reducible refine x_yes ?_
  | with_reducible refine x_gname ?_ | with_reducible refine x_gtup ?_ | with_reducible refine x_gnil ?_ | with_reducible refine x_gcons ?_ | with_reducible refine x_gsub ?_ | with_reducible refine x_iList ?_ | with_reducible refine x_iStr ?_ | with_reducible refine x_iRng1 ?_ | with_reducible refine x_iEnumQ ?_
  | with_reducible refine x_lc ?_ | with_reducible refine x_dc ?_ | with_reducible refine x_iKeys ?_ | with_reducible refine x_iVals ?_ | with_reducible refine x_iItems ?_ | with_reducible refine x_forW ?_ | with_reducible refine x_iSeq ?_ | with_reducible refine x_ixO ?_
  | with_reducible refine x_prop ?_ | with_reducible refine x_makeKO ?_ | with_reducible refine x_makeKA ?_ | with_reducible refine x_M1 ?_ | with_reducible refine x_listVals ?_ | with_reducible refine x_listItems ?_ | with_reducible refine i_I0 ?_ | with_reducible refine i_U ?_ | with_reducible refine iteT ?_ | with_reducible refine iteF ?_ | with_reducible refine iteNT ?_ | with_reducible refine iteNF ?_ | with_reducible refine x_bl ?_ | with_reducible refine x_int ?_ | with_reducible refine i_add ?_ | with_reducible refine i_int1 ?_ | with_reducible refine i_abs ?_ | with_reducible refine i_max ?_ | with_reducible refine i_min ?_)
local macro_rules | `(tactic| walk_at "gn") => `(tactic| repeat (first | walk_at "sn" | dsimp only [Bool.not_true, Bool.not_false, List.nil_append, List.cons_append]))

theorem PotOk.plus {S' S H : Hp} {p a : Addr} {o : HO} (k : PotOk S' H p) (n : p ≠ a) : PotOk (plus S' S a) (upd H a o) p := by
  obtain ⟨x, y, h0, h1, h2, e⟩ := k.h
  exact ⟨by rw [plus_ne n]; exact k.s, x, y, h0, h1, h2, by rw [upd_ne n]; exact e⟩
theorem row_new {K : PySem.W.Frag} {L : List Addr} {S H S1 H1 : Hp} {p b : Addr} {r : Row} (g : Gr L S H S1 H1) (hp : H1 p = none) (hb : S1 b = some (.dK (bkv r.bun))) :
    Gr L S H (upd S1 p (.tup [.str r.house, .ref b, .int r.lim, .int r.most])) (upd H1 p (.tup [.str r.house, .ref b, .int r.lim, .int r.most])) ∧ Dv K (upd S1 p (.tup [.str r.house, .ref b, .int r.lim, .int r.most])) (.ref p) (rowD r) :=
  ⟨g.then (Gr.newF g.i hp), dv_tup_new (fresh_back g.i hp) (.cons (.str _) (.cons (bd_of hb) (.cons (.int _) (.cons (.int _) .nil))))⟩
theorem row_mk {K : PySem.W.Frag} {L : List Addr} {S H S1 H1 : Hp} {p b : Addr} {ho : Str} {bd : Bd} {lim most : Int} (g : Gr L S H S1 H1) (hp : H1 p = none) (hb : S1 b = some (.dK (bkv bd))) :
    Gr L S H (upd S1 p (.tup [.str ho, .ref b, .int lim, .int most])) (upd H1 p (.tup [.str ho, .ref b, .int lim, .int most])) ∧ Dv K (upd S1 p (.tup [.str ho, .ref b, .int lim, .int most])) (.ref p) (rowD ⟨ho, bd, lim, most⟩) :=
  row_new (r := ⟨ho, bd, lim, most⟩) g hp hb
def Row.up (r : Row) : Row := ⟨r.house, r.bun, r.lim + 1, r.most⟩
def Row.tw (r : Row) : Row := ⟨r.house, dbl r.bun, r.lim, r.most⟩
theorem RowG.up {gs : List Str} {r : Row} (hg : gs ∈ menus) (h : RowG gs r) : RowB r.up ∧ ∀ k ∈ keys r.up.bun, k ∈ gs := by
  have b := h.b hg
  exact ⟨⟨b.h, b.nd, b.g, b.few, b.v, by have := h.l; show (r.lim + 1).natAbs ≤ 200; omega, b.m⟩, h.g⟩
theorem RowG.tw {gs : List Str} {r : Row} (hg : gs ∈ menus) (h : RowG gs r) : RowB r.tw ∧ ∀ k ∈ keys r.tw.bun, k ∈ gs := by
  have b := h.b hg
  have e : keys (K31.dbl r.bun) = keys r.bun := dbl_keys _
  refine ⟨⟨b.h, by show (keys (K31.dbl r.bun)).Nodup; rw [e]; exact b.nd, fun k hk => b.g k (by rw [← e]; exact hk), by show (K31.dbl r.bun).length ≤ 5; unfold K31.dbl; rw [List.length_map]; exact b.few, fun p hp => ?_, b.l, b.m⟩, fun k hk => h.g k (by rw [← e]; exact hk)⟩
  obtain ⟨q, hq, rfl⟩ := List.mem_map.mp hp
  have := h.v q hq
  show (q.2 * 2).natAbs ≤ 200
  rw [Int.natAbs_mul]
  show q.2.natAbs * 2 ≤ 200
  omega
theorem putAll_one {m : Ms} {ks : List Str} {r : Row} {gs : List Str} (h : MdB gs m) (hk : ∀ k ∈ ks, k ∈ keys m) (hr : RowB r ∧ ∀ z ∈ keys r.bun, z ∈ gs) : ∀ n, MdB gs (putAll m ((ks.take n).map fun k => (k, r))) ∧ keys (putAll m ((ks.take n).map fun k => (k, r))) = keys m := by
  intro n
  induction n generalizing ks m with
  | zero => exact ⟨h, rfl⟩
  | succ n ih =>
    cases ks with
    | nil => exact ⟨h, rfl⟩
    | cons k l =>
      have e := putM_keys (r := r) (hk k (.head _))
      have := ih (h.put (hk k (.head _)) hr) (ks := l) fun z hz => by rw [e]; exact hk z (.tail _ hz)
      exact ⟨this.1, this.2.trans e⟩
def hN (m : Ms) (k : Str) : Option Dt := (look m k).bind fun r => if told r.bun = [] then none else some (.str k)
theorem hN_names (m : Ms) : ∀ l : List Str, ∃ ns : List Str, l.filterMap (hN m) = ns.map Dt.str ∧ ns.length ≤ l.length ∧ ∀ n ∈ ns, ∃ r, look m n = some r ∧ told r.bun ≠ []
  | [] => ⟨[], rfl, Nat.le_refl _, fun _ h => nomatch h⟩
  | k :: l => by
    obtain ⟨ns, e, z, h⟩ := hN_names m l
    rw [List.filterMap_cons, e]
    cases q : look m k with
    | none =>
      rw [show hN m k = none by unfold hN; rw [q]; rfl]
      exact ⟨ns, rfl, Nat.le_succ_of_le z, h⟩
    | some r =>
      by_cases c : told r.bun = []
      · rw [show hN m k = none by unfold hN; rw [q]; exact if_pos c]
        exact ⟨ns, rfl, Nat.le_succ_of_le z, h⟩
      · rw [show hN m k = some (.str k) by unfold hN; rw [q]; exact if_neg c]
        refine ⟨k :: ns, rfl, Nat.succ_le_succ z, fun n hn => ?_⟩
        rcases List.mem_cons.mp hn with rfl | hn
        · exact ⟨r, q, c⟩
        · exact h n hn
section
variable {P : Program} {w : World} {K : PySem.W.Frag} {mg : Str → Option Value} {base : Heap}
theorem kb_Round (T : Txt K mg) : KBn K (fdOf K (d_Round_init.at_ K)) ["self", "orders"] 1 ["orders"] (fun us ws => us ++ ws) (fun vs zs => vs ++ zs) :=
  kbn_app T.f_Round_init 1 ["orders"] fun _ _ _ _ _ _ us ws h1 h2 => match us, ws, h1, h2 with | [_], [_], _, _ => rfl
def spRight (K : PySem.W.Frag) : Sp := fun vs H Q _ => ∃ S p, vs = [.ref p] ∧ Ex S H ∧ PotOk S H p ∧ ∀ H', Gr [p] S H S H' → Q (.bl true) H'
theorem b_law_right (T : Txt K mg) : Binds K (fdOf K (d_law_right.at_ K)) ["pot"] [] := T.f_law_right.bindsN fun _ _ _ _ _ _ us hl => match us, hl with | [_], _ => rfl
theorem ok_law_right (T : Txt K mg) (B : Tabs K) : FnG P w K mg base 40 (d_law_right.at_ K) (fdOf K (d_law_right.at_ K)) ["pot"] (spRight K) := by
  have G_law_pick := ok_law_pick (P := P) (w := w) (base := base) T
  have G_law_model := ok_law_model (P := P) (w := w) (base := base) T
  have G_law_order := ok_law_order (P := P) (w := w) (base := base) T
  have G_law_mixed := ok_law_mixed (P := P) (w := w) (base := base) T
  have G_law_order_right := ok_law_order_right (P := P) (w := w) (base := base) T B
  have G_law_is := ok_law_is (P := P) (w := w) (base := base) T B
  have G_law_spoilt := ok_law_spoilt (P := P) (w := w) (base := base) T
  have G_law_changed_right := ok_law_changed_right (P := P) (w := w) (base := base) T B
  have G_law_bundle := ok_law_bundle (P := P) (w := w) (base := base) T
  have G_law_doubled := ok_law_doubled (P := P) (w := w) (base := base) T
  have G_law_shown := ok_law_shown (P := P) (w := w) (base := base) T
  have G_law_made := ok_law_made (P := P) (w := w) (base := base) T B
  have G_Order_init := ok_Order_init (P := P) (w := w) (base := base) T B
  have G_Round_init := ok_Round_init (P := P) (w := w) (base := base) T B
  have G_Round_orders := ok_Round_orders (P := P) (w := w) (base := base) T
  have G_Round_with_order := ok_Round_with_order (P := P) (w := w) (base := base) T B
  have G_Round_eq := ok_Round_eq (P := P) (w := w) (base := base) T B
  have G_Round_repr := (ok_Round_repr (P := P) (w := w) (base := base) T).toG
  have kb_Round := kb_Round T
  refine FnG.mk_of T.f_law_right sc_law_right (fun vs H Q E h => ?_) (fun cdv A outer s H vs Q E gu hr h => ?_)
  · obtain ⟨S, p, rfl, _⟩ := h
    rfl
  · obtain ⟨S, p, rfl, f, k, q⟩ := h
    have hu := hr.units
    have z5 : ∀ n, n ≤ 16777216 → n ≤ sizeLine := fun n h => by rw [sizeLine_eq]; exact h
    refine ⟨_, (pss_cons (ps_set (i := 1) sc_law_right.nd rfl (Or.inl rfl) (pe_call G_law_pick (hr.mono (by decide)) rfl T.g_law_pick T.f_law_pick.kp (b_law_pick T) .nil pass0 (pa_cons (pv 0) (pa_cons (pe_lst (pa_cons (pe_lst (pa_cons pe_str pa_nil)) (pa_cons (pe_lst (pa_cons pe_str (pa_cons pe_str pa_nil))) (pa_cons (pe_lst (pa_cons pe_str (pa_cons pe_str (pa_cons pe_str pa_nil)))) (pa_cons (pe_lst (pa_cons pe_str (pa_cons pe_str (pa_cons pe_str (pa_cons pe_str pa_nil))))) pa_nil))))) pa_nil))))
    (pss_cons (ps_set (i := 2) sc_law_right.nd rfl (Or.inr rfl) (pe_call G_law_model (hr.mono (by decide)) rfl T.g_law_model T.f_law_model.kp (b_law_model T) .nil pass0 (pa_cons (pv 0) (pa_cons pe_int (pa_cons (pv 1) pa_nil)))))
    (pss_cons (ps_if (pt_not (pt_val (pe_callB (cr_all rfl) (by rfl) T.b_all (by decide +kernel) (pa_cons (pe_lock (pe_lc (own := [("name", 3)]) rfl sc_law_right.nd (pi_keys (pv 2)) (blkOk_by (N := ["pot", "goods", "model", "name", "row", "handed", "made", "twin", "turn", "others", "both", "some", "again", "bent", "is_same", "other"]) (sc := defScope s_law_right) (by decide +kernel)) (fun _ _ _ _ _ => (pg_name (i := 3) sc_law_right.nd rfl (.inl rfl))) (fun _ _ _ _ _ => pts_nil) (fun _ _ _ _ _ => (pe_callG G_law_order_right gu (hr.mono (by decide)) rfl T.g_law_order_right T.f_law_order_right.kp (b_law_order_right T) .nil (pa_cons (pv 0) (pa_cons (pe_ix (show IxR _ (rIxY K) from ix_Y (units1 hr)) (pv 2) (pv 3) (fun _ _ => rfl)) pa_nil)))))) pa_nil)))) (pss_one (ps_ret pe_bl)) pss_nil)
    (pss_cons (ps_set (i := 4) sc_law_right.nd rfl (Or.inr rfl) (pe_call G_law_order (hr.mono (by decide)) rfl T.g_law_order T.f_law_order.kp (b_law_order T) .nil pass0 (pa_cons (pv 0) (pa_cons (pv 1) pa_nil))))
    (pss_cons (ps_set (i := 5) sc_law_right.nd rfl (Or.inr rfl) (pe_callTy (show CallR _ _ (rDictP K) from call_dictP' rfl) (by rfl) T.b_dict (by decide +kernel) (pa_cons (pe_lock (pe_lc (own := [("name", 3)]) rfl sc_law_right.nd (pi_keys (pv 2)) (blkOk_by (N := ["pot", "goods", "model", "name", "row", "handed", "made", "twin", "turn", "others", "both", "some", "again", "bent", "is_same", "other"]) (sc := defScope s_law_right) (by decide +kernel)) (fun _ _ _ _ _ => (pg_name (i := 3) sc_law_right.nd rfl (.inl rfl))) (fun _ _ _ _ _ => pts_nil) (fun _ _ _ _ _ => (pe_tup (pa_cons (pv 3) (pa_cons (pe_make T.mk_Order G_Order_init (hr.mono (by decide)) rfl T.g_Order (b_Order_init T) .nil pass0 (pa_cons (pe_ix (show IxR _ (rIxY K) from ix_Y (units1 hr)) (pe_ix (show IxR _ (rIxY K) from ix_Y (units1 hr)) (pv 2) (pv 3) (fun _ _ => rfl)) pe_int (fun _ _ => rfl)) (pa_cons (pe_ix (show IxR _ (rIxY K) from ix_Y (units1 hr)) (pe_ix (show IxR _ (rIxY K) from ix_Y (units1 hr)) (pv 2) (pv 3) (fun _ _ => rfl)) pe_int (fun _ _ => rfl)) (pa_cons (pe_ix (show IxR _ (rIxY K) from ix_Y (units1 hr)) (pe_ix (show IxR _ (rIxY K) from ix_Y (units1 hr)) (pv 2) (pv 3) (fun _ _ => rfl)) pe_int (fun _ _ => rfl)) (pa_cons (pe_ix (show IxR _ (rIxY K) from ix_Y (units1 hr)) (pe_ix (show IxR _ (rIxY K) from ix_Y (units1 hr)) (pv 2) (pv 3) (fun _ _ => rfl)) pe_int (fun _ _ => rfl)) pa_nil))))) pa_nil)))))) pa_nil)))
    (pss_cons (ps_set (i := 6) sc_law_right.nd rfl (Or.inr rfl) (pe_make T.mk_Round G_Round_init (hr.mono (by decide)) rfl T.g_Round (b_Round_init T) .nil pass0 (pa_cons (pe_callTy (show CallR _ _ (rDictP K) from call_dictP' rfl) (by rfl) T.b_dict (by decide +kernel) (pa_cons (pe_lc (own := [("name", 3)]) rfl sc_law_right.nd (pi_list (pe_call G_law_mixed (hr.mono (by decide)) rfl T.g_law_mixed T.f_law_mixed.kp (b_law_mixed T) .nil pass0 (pa_cons (pv 0) (pa_cons (pe_callB (call_sortD rfl) (by rfl) T.b_sorted (by decide +kernel) (pa_cons (pv 2) pa_nil)) pa_nil)))) (blkOk_by (N := ["pot", "goods", "model", "name", "row", "handed", "made", "twin", "turn", "others", "both", "some", "again", "bent", "is_same", "other"]) (sc := defScope s_law_right) (by decide +kernel)) (fun _ _ _ _ _ => (pg_name (i := 3) sc_law_right.nd rfl (.inl rfl))) (fun _ _ _ _ _ => pts_nil) (fun _ _ _ _ _ => (pe_tup (pa_cons (pv 3) (pa_cons (pe_ix (show IxR _ (rIxY K) from ix_Y (units1 hr)) (pv 5) (pv 3) (fun _ _ => rfl)) pa_nil))))) pa_nil)) pa_nil)))
    (pss_cons (ps_set (i := 7) sc_law_right.nd rfl (Or.inl rfl) (pe_makeK0 T.mk_Round G_Round_init (hr.mono (by decide)) rfl T.g_Round kb_Round pass0 (pk_cons (pv 5) pk_nil)))
    (pss_cons (ps_asg (pe_make T.mk_Order G_Order_init (hr.mono (by decide)) rfl T.g_Order (b_Order_init T) .nil pass0 (pa_cons (pe_ix (show IxR _ (rIxY K) from ix_Y (units1 hr)) (pv 4) pe_int (fun _ _ => rfl)) (pa_cons (pe_ix (show IxR _ (rIxY K) from ix_Y (units1 hr)) (pv 4) pe_int (fun _ _ => rfl)) (pa_cons (pe_ix (show IxR _ (rIxY K) from ix_Y (units1 hr)) (pv 4) pe_int (fun _ _ => rfl)) (pa_cons (pe_ix (show IxR _ (rIxY K) from ix_Y (units1 hr)) (pv 4) pe_int (fun _ _ => rfl)) pa_nil))))) (pg_sub (pv 5) pe_str (set_dict (units1 hr))))
    (pss_cons (ps_for (passes_of rfl) rfl (pi_range1 rfl T.b_range (pa_cons pe_int pa_nil)) (pg_name (i := 8) sc_law_right.nd rfl (.inl rfl)) (pss_one (ps_if (PW.pt (pw_or (pt_not (pt_val (pe_callG G_law_is gu (hr.mono (by decide)) rfl T.g_law_is T.f_law_is.kp (b_law_is T) .nil (pa_cons (pe_call G_law_spoilt (hr.mono (by decide)) rfl T.g_law_spoilt T.f_law_spoilt.kp (b_law_spoilt T) .nil pass0 (pa_cons (pv 6) pa_nil)) (pa_cons (pv 2) pa_nil))))) (pw_or (pt_cmpR (op_neO gu G_Round_eq (hr.mono (by decide)) (b_Round_eq T) B.rc.ob B.rc.ne T.m_Round_eq.at_ T.m_Round_eq.fn) (pv 6) (pv 7) (nomark _)) (pw_or1 (pt_not (pt_cmpR (op_eqO gu G_Round_eq (hr.mono (by decide)) (b_Round_eq T) T.m_Round_eq.at_ T.m_Round_eq.fn) (pv 7) (pv 6) (nomark _))))))) (pss_one (ps_ret pe_bl)) pss_nil)))
    (pss_cons (ps_set (i := 9) sc_law_right.nd rfl (Or.inl rfl) (pe_lst (pa_cons pe_non (pa_cons (pv 2) (pa_cons (pe_meth0 (pv 7) T.cl_Round T.m_Round_orders G_Round_orders (hr.mono (by decide)) (b_Round_orders T) .nil pass0) (pa_cons (pe_callB (call_repr_o gu G_Round_repr (hr.mono (by decide)) (b_Round_repr T) T.m_Round_repr.at_ T.m_Round_repr.fn) (by rfl) T.b_repr (by decide +kernel) (pa_cons (pv 6) pa_nil)) (pa_cons (pe_meth (pv 7) T.cl_Round T.m_Round_with_order G_Round_with_order (hr.mono (by decide)) (b_Round_with_order T) .nil pass0 (pa_cons pe_str (pa_cons (pe_ix (show IxR _ (rIxY K) from ix_Y (units1 hr)) (pv 5) pe_str (fun _ _ => rfl)) pa_nil))) pa_nil)))))))
    (pss_cons (ps_if (PW.pt (pw_or (pt_val (pe_callB (cr_any rfl) (by rfl) T.b_any (by decide +kernel) (pa_cons (pe_lc (own := [("other", 15)]) rfl sc_law_right.nd (pi_list (pv 9)) (blkOk_by (N := ["pot", "goods", "model", "name", "row", "handed", "made", "twin", "turn", "others", "both", "some", "again", "bent", "is_same", "other"]) (sc := defScope s_law_right) (by decide +kernel)) (fun _ _ _ _ _ => (pg_name (i := 15) sc_law_right.nd rfl (.inl rfl))) (fun _ _ _ _ _ => pts_nil) (fun _ _ _ _ _ => (pe_cmpR (show OpR _ (compareOp .Eq) (rEqO K (CR K) (spREq K)) from op_eqO gu G_Round_eq (hr.mono (by decide)) (b_Round_eq T) T.m_Round_eq.at_ T.m_Round_eq.fn) (pv 6) (pv 15) (nomark _)))) pa_nil))) (pw_or1 (pt_not (pt_val (pe_callG G_law_changed_right gu (hr.mono (by decide)) rfl T.g_law_changed_right T.f_law_changed_right.kp (b_law_changed_right T) .nil (pa_cons (pv 0) (pa_cons (pv 6) (pa_cons (pv 2) pa_nil))))))))) (pss_one (ps_ret pe_bl)) pss_nil)
    (pss_cons (ps_if (pt_not (pt_val (pe_callG G_law_is gu (hr.mono (by decide)) rfl T.g_law_is T.f_law_is.kp (b_law_is T) .nil (pa_cons (pe_meth (pv 7) T.cl_Round T.m_Round_with_order G_Round_with_order (hr.mono (by decide)) (b_Round_with_order T) .nil pass0 (pa_cons pe_str (pa_cons (pe_ix (show IxR _ (rIxY K) from ix_Y (units1 hr)) (pv 5) pe_str (fun _ _ => rfl)) pa_nil))) (pa_cons (pe_callTy (show CallR _ _ (rDictP K) from call_dictP' rfl) (by rfl) T.b_dict (by decide +kernel) (pa_cons (pe_op (show OpR _ _ (rAddX K) from op_addX) (LiI.pe_listItems rfl (pv 2) (by rfl) T.b_list (by decide +kernel)) (pe_lst (pa_cons (pe_tup (pa_cons pe_str (pa_cons (pv 4) pa_nil))) pa_nil))) pa_nil)) pa_nil))))) (pss_one (ps_ret pe_bl)) pss_nil)
    (pss_cons (ps_set (i := 10) sc_law_right.nd rfl (Or.inl rfl) (pe_meth (pe_meth (pv 7) T.cl_Round T.m_Round_with_order G_Round_with_order (hr.mono (by decide)) (b_Round_with_order T) .nil pass0 (pa_cons pe_str (pa_cons (pe_ix (show IxR _ (rIxY K) from ix_Y (units1 hr)) (pv 5) pe_str (fun _ _ => rfl)) pa_nil))) T.cl_Round T.m_Round_with_order G_Round_with_order (hr.mono (by decide)) (b_Round_with_order T) .nil pass0 (pa_cons pe_str (pa_cons (pe_ix (show IxR _ (rIxY K) from ix_Y (units1 hr)) (pv 5) pe_str (fun _ _ => rfl)) pa_nil))))
    (pss_cons (ps_if (PW.pt (pw_or (pt_not (pt_val (pe_callG G_law_is gu (hr.mono (by decide)) rfl T.g_law_is T.f_law_is.kp (b_law_is T) .nil (pa_cons (pv 10) (pa_cons (pe_callTy (show CallR _ _ (rDictP K) from call_dictP' rfl) (by rfl) T.b_dict (by decide +kernel) (pa_cons (pe_op (show OpR _ _ (rAddX K) from op_addX) (LiI.pe_listItems rfl (pv 2) (by rfl) T.b_list (by decide +kernel)) (pe_lst (pa_cons (pe_tup (pa_cons pe_str (pa_cons (pv 4) pa_nil))) (pa_cons (pe_tup (pa_cons pe_str (pa_cons (pv 4) pa_nil))) pa_nil)))) pa_nil)) pa_nil))))) (pw_or1 (pt_not (pt_val (pe_callG G_law_is gu (hr.mono (by decide)) rfl T.g_law_is T.f_law_is.kp (b_law_is T) .nil (pa_cons (pv 7) (pa_cons (pv 2) pa_nil)))))))) (pss_one (ps_ret pe_bl)) pss_nil)
    (pss_cons (ps_set (i := 11) sc_law_right.nd rfl (Or.inl rfl) (pe_meth0 (pv 6) T.cl_Round T.m_Round_orders G_Round_orders (hr.mono (by decide)) (b_Round_orders T) .nil pass0))
    (pss_cons (ps_set (i := 12) sc_law_right.nd rfl (Or.inl rfl) (pe_make T.mk_Round G_Round_init (hr.mono (by decide)) rfl T.g_Round (b_Round_init T) .nil pass0 (pa_cons (pv 11) pa_nil)))
    (pss_cons (ps_expr (L2.pe_dclear (pv 11)))
    (pss_cons (ps_if (PW.pt (pw_or (pt_not (pt_val (pe_callG G_law_is gu (hr.mono (by decide)) rfl T.g_law_is T.f_law_is.kp (b_law_is T) .nil (pa_cons (pv 12) (pa_cons (pv 2) pa_nil))))) (pw_or1 (pt_cmpR (op_neO gu G_Round_eq (hr.mono (by decide)) (b_Round_eq T) B.rc.ob B.rc.ne T.m_Round_eq.at_ T.m_Round_eq.fn) (pv 12) (pv 6) (nomark _))))) (pss_one (ps_ret pe_bl)) pss_nil)
    (pss_cons (ps_set (i := 13) sc_law_right.nd rfl (Or.inr rfl) (pe_callTy (show CallR _ _ (rDictP K) from call_dictP' rfl) (by rfl) T.b_dict (by decide +kernel) (pa_cons (pe_op (show OpR _ _ (rAddX K) from op_addX) (LiI.pe_listItems rfl (pv 2) (by rfl) T.b_list (by decide +kernel)) (pe_lc (own := [("name", 3)]) rfl sc_law_right.nd (pi_list (pe_slice sl_X (pe_callB (call_sortD rfl) (by rfl) T.b_sorted (by decide +kernel) (pa_cons (pv 2) pa_nil)) po_none (po_some pe_int))) (blkOk_by (N := ["pot", "goods", "model", "name", "row", "handed", "made", "twin", "turn", "others", "both", "some", "again", "bent", "is_same", "other"]) (sc := defScope s_law_right) (by decide +kernel)) (fun _ _ _ _ _ => (pg_name (i := 3) sc_law_right.nd rfl (.inl rfl))) (fun _ _ _ _ _ => pts_nil) (fun _ _ _ _ _ => (pe_tup (pa_cons (pv 3) (pa_cons (pe_tup (pa_cons (pe_ix (show IxR _ (rIxY K) from ix_Y (units1 hr)) (pv 4) pe_int (fun _ _ => rfl)) (pa_cons (pe_ix (show IxR _ (rIxY K) from ix_Y (units1 hr)) (pv 4) pe_int (fun _ _ => rfl)) (pa_cons (pe_op (show OpR _ _ (rAddX K) from op_addX) (pe_ix (show IxR _ (rIxY K) from ix_Y (units1 hr)) (pv 4) pe_int (fun _ _ => rfl)) pe_int) (pa_cons (pe_ix (show IxR _ (rIxY K) from ix_Y (units1 hr)) (pv 4) pe_int (fun _ _ => rfl)) pa_nil))))) pa_nil)))))) pa_nil)))
    (pss_cons (ps_for (passes_of rfl) rfl (pi_list (pe_slice sl_X (pe_lc (own := [("name", 3)]) rfl sc_law_right.nd (pi_list (pe_callB (call_sortD rfl) (by rfl) T.b_sorted (by decide +kernel) (pa_cons (pv 2) pa_nil))) (blkOk_by (N := ["pot", "goods", "model", "name", "row", "handed", "made", "twin", "turn", "others", "both", "some", "again", "bent", "is_same", "other"]) (sc := defScope s_law_right) (by decide +kernel)) (fun _ _ _ _ _ => (pg_name (i := 3) sc_law_right.nd rfl (.inl rfl))) (fun _ _ _ _ _ => (pts_one (pt_cmpR (show OpR _ _ rNeD0 from op_neD0 (hr.mono (by decide))) (pe_call G_law_bundle (hr.mono (by decide)) rfl T.g_law_bundle T.f_law_bundle.kp (b_law_bundle T) .nil pass0 (pa_cons (pe_ix (show IxR _ (rIxY K) from ix_Y (units1 hr)) (pv 2) (pv 3) (fun _ _ => rfl)) pa_nil)) pe_dnewK (nomark _)))) (fun _ _ _ _ _ => (pv 3))) po_none (po_some pe_int))) (pg_name (i := 3) sc_law_right.nd rfl (.inl rfl)) (pss_cons (ps_set (i := 4) sc_law_right.nd rfl (Or.inr rfl) (pe_ix (show IxR _ (rIxY K) from ix_Y (units1 hr)) (pv 2) (pv 3) (fun _ _ => rfl)))
    (pss_one (ps_if (pt_cmpR (op_eqO gu G_Round_eq (hr.mono (by decide)) (b_Round_eq T) T.m_Round_eq.at_ T.m_Round_eq.fn) (pv 6) (pe_call G_law_made (hr.mono (by decide)) rfl T.g_law_made T.f_law_made.kp (b_law_made T) .nil pass0 (pa_cons (pe_callTy (show CallR _ _ (rDictP K) from call_dictP' rfl) (by rfl) T.b_dict (by decide +kernel) (pa_cons (pe_op (show OpR _ _ (rAddX K) from op_addX) (LiI.pe_listItems rfl (pv 2) (by rfl) T.b_list (by decide +kernel)) (pe_lst (pa_cons (pe_tup (pa_cons (pv 3) (pa_cons (pe_tup (pa_cons (pe_ix (show IxR _ (rIxY K) from ix_Y (units1 hr)) (pv 4) pe_int (fun _ _ => rfl)) (pa_cons (pe_call G_law_doubled (hr.mono (by decide)) rfl T.g_law_doubled T.f_law_doubled.kp (b_law_doubled T) .nil pass0 (pa_cons (pv 4) pa_nil)) (pa_cons (pe_ix (show IxR _ (rIxY K) from ix_Y (units1 hr)) (pv 4) pe_int (fun _ _ => rfl)) (pa_cons (pe_ix (show IxR _ (rIxY K) from ix_Y (units1 hr)) (pv 4) pe_int (fun _ _ => rfl)) pa_nil))))) pa_nil))) pa_nil))) pa_nil)) pa_nil)) (nomark _)) (pss_one (ps_ret pe_bl)) pss_nil))))
    (pss_cons (ps_set (i := 14) sc_law_right.nd rfl (Or.inl rfl) (pe_cmpR (op_eqD hu) (pe_lc (own := [("name", 3)]) rfl sc_law_right.nd (pi_list (pe_callB (call_sortD rfl) (by rfl) T.b_sorted (by decide +kernel) (pa_cons (pv 13) pa_nil))) (blkOk_by (N := ["pot", "goods", "model", "name", "row", "handed", "made", "twin", "turn", "others", "both", "some", "again", "bent", "is_same", "other"]) (sc := defScope s_law_right) (by decide +kernel)) (fun _ _ _ _ _ => (pg_name (i := 3) sc_law_right.nd rfl (.inl rfl))) (fun _ _ _ _ _ => pts_nil) (fun _ _ _ _ _ => (pe_callG G_law_shown gu (hr.mono (by decide)) rfl T.g_law_shown T.f_law_shown.kp (b_law_shown T) .nil (pa_cons (pe_ix (show IxR _ (rIxY K) from ix_Y (units1 hr)) (pv 13) (pv 3) (fun _ _ => rfl)) pa_nil)))) (pe_lc (own := [("name", 3)]) rfl sc_law_right.nd (pi_list (pe_callB (call_sortD rfl) (by rfl) T.b_sorted (by decide +kernel) (pa_cons (pv 2) pa_nil))) (blkOk_by (N := ["pot", "goods", "model", "name", "row", "handed", "made", "twin", "turn", "others", "both", "some", "again", "bent", "is_same", "other"]) (sc := defScope s_law_right) (by decide +kernel)) (fun _ _ _ _ _ => (pg_name (i := 3) sc_law_right.nd rfl (.inl rfl))) (fun _ _ _ _ _ => pts_nil) (fun _ _ _ _ _ => (pe_callG G_law_shown gu (hr.mono (by decide)) rfl T.g_law_shown T.f_law_shown.kp (b_law_shown T) .nil (pa_cons (pe_ix (show IxR _ (rIxY K) from ix_Y (units1 hr)) (pv 2) (pv 3) (fun _ _ => rfl)) pa_nil)))) (nomark _)))
    (pss_one (ps_ret (pe_and (pe_cmpR op_eq (pe_cmpR (op_eqO gu G_Round_eq (hr.mono (by decide)) (b_Round_eq T) T.m_Round_eq.at_ T.m_Round_eq.fn) (pv 6) (pe_call G_law_made (hr.mono (by decide)) rfl T.g_law_made T.f_law_made.kp (b_law_made T) .nil pass0 (pa_cons (pv 13) pa_nil)) (nomark _)) (pv 14) (nomark _)) (pe_one (pe_callG G_law_is gu (hr.mono (by decide)) rfl T.g_law_is T.f_law_is.kp (b_law_is T) .nil (pa_cons (pv 6) (pa_cons (pv 2) pa_nil)))))))))))))))))))))))))))), ?_⟩
    walk_at "gn"
    refine ⟨z5 _ (by show 1 ≤ 16777216; decide), fun l1 hl1 => ?_⟩
    obtain ⟨g1, d1, e1⟩ := newLD (K := K) (L := []) (Gr.refl f) hl1 (dvAll_strs (K := K) ["tea"])
    walk_at "gn"
    refine ⟨z5 _ (by show 2 ≤ 16777216; decide), fun l2 hl2 => ?_⟩
    obtain ⟨g2, d2, e2⟩ := newLD (K := K) (L := []) g1 hl2 (dvAll_strs (K := K) ["oil", "tea"])
    walk_at "gn"
    refine ⟨z5 _ (by show 3 ≤ 16777216; decide), fun l3 hl3 => ?_⟩
    obtain ⟨g3, d3, e3⟩ := newLD (K := K) (L := []) g2 hl3 (dvAll_strs (K := K) ["a", "b", "c"])
    walk_at "gn"
    refine ⟨z5 _ (by show 4 ≤ 16777216; decide), fun l4 hl4 => ?_⟩
    obtain ⟨g4, d4, e4⟩ := newLD (K := K) (L := []) g3 hl4 (dvAll_strs (K := K) ["ax", "b", "corn", "d"])
    walk_at "gn"
    refine ⟨z5 _ (by show 4 ≤ 16777216; decide), fun l5 hl5 => ?_⟩
    obtain ⟨g5, d5, e5⟩ := newLD (K := K) (L := []) (ds := menus.map fun l => .lst (l.map Dt.str)) g4 hl5 (.cons (((d1.mono e2).mono e3).mono e4) (.cons ((d2.mono e3).mono e4) (.cons (d3.mono e4) (.cons d4 .nil))))
    have k5 := k.gr g5 (by simp)
    walk_at "gn"
    refine ⟨_, p, _, _, rfl, g5.i, k5, .l d5, by simp [menus], by show 4 < 1000000; decide, fun H6 i6 dd vg hd6 dg g6' k6 => ?_⟩
    obtain ⟨gs, hgs, rfl⟩ := map_at hd6
    have hg : gs ∈ menus := List.mem_of_getElem? hgs
    have g6 := (g5.more (L2 := [p]) (fun _ z => nomatch z)).trans g6' fun x hx => .inl hx
    clear d1 d2 d3 d4 d5 g1 g2 g3 g4 g6' e1 e2 e3 e4 e5
    generalize upd (upd (upd (upd (upd S l1 (.lst (List.map V.str ["tea"]))) l2 (.lst (List.map V.str ["oil", "tea"]))) l3 (.lst (List.map V.str ["a", "b", "c"]))) l4 (.lst (List.map V.str ["ax", "b", "corn", "d"]))) l5 _ = S6 at *
    walk_at "gn"
    refine ⟨S6, p, vg, gs, rfl, g6.i, k6, dg, hg, fun S7 H7 am kvs7 m no rg7 lz g7' k7 a07 sa7 ha7 ti7 => ?_⟩
    have g7 := g6.trans g7' fun x hx => .inl hx
    have npa : p ≠ am := k6.neq a07
    have mb : MdB gs m := ⟨no.nd, fun z hz => (pool_sub z (no.mem z hz)).1, fun q hq => ⟨(rg7 q hq).b hg, (rg7 q hq).g⟩, by omega⟩
    have ok := mb.ok hg
    have zzno : (Str.ofString "zz") ∉ keys m := fun z => (pool_sub _ (no.mem _ z)).2.1 rfl
    have bbno : (Str.ofString "bb") ∉ keys m := fun z => (pool_sub _ (no.mem _ z)).2.2 rfl
    have nma : am ∉ [p] := nmem1 npa
    have tl : (tgs rowD m).length = m.length := List.length_map ..
    have lk : (keys m).length = m.length := List.length_map ..
    walk_at "gn"
    refine i_lockE ha7 fun od => ?_
    walk_at "go"
    refine ⟨am, od, rfl, .inl ⟨_, upd_same, fun D hD => ?_⟩⟩
    have w8 := walk_keysD (K := K) (S := S7) (a := am) (od := od) ti7.k ti7.d
    have f8 : Ex S7 (upd H7 am (.frz od (.dK kvs7))) := by
      have := lock_ex (od := od) (kvs := kvs7) (a := am) g7.i
      rwa [minus_self sa7] at this
    have k8 : PotOk S7 (upd H7 am (.frz od (.dK kvs7))) p := k7.mut npa
    have nD : p ≠ D := k8.neq hD
    refine lc_G (K := K) (L := [p]) w8 (fun i ds S1 Hc => PotOk S1 Hc p ∧ ∃ bs : List Bool, ds = bs.map Dt.bl ∧ bs.all id = true) f8 hD (nmem1 nD) (by omega) ⟨k8.new hD, [], rfl, rfl⟩ ?_ ?_ ?_ ?_
    · rintro i ds S1 Hc o ⟨k', bs, e, eb⟩ s1
      exact ⟨k'.mut nD, bs, e, eb⟩
    · rintro i ds S1 Hc g _
      exact g.h _ _ nma upd_same
    · rintro i x ds S1 Hc Hc' Qe Nx hi g ⟨k9, bs, rfl, eb⟩ ⟨rfl, p', hp', rfl⟩ q1 q2
      obtain ⟨⟨n, r⟩, hp2, rfl⟩ := map_atA hp'
      have hpm := List.mem_of_getElem? hp2
      obtain ⟨vv, hv, dvv⟩ := ti7.val (look_mem mb.nd hpm)
      walk_at "go"
      refine ⟨rfl, ?_⟩
      walk_at "go"
      refine i_ixDk (k := .inr n) (.inr ⟨od, g.h _ _ nma upd_same⟩) hv ?_
      walk_at "go"
      refine ⟨S1, p, vv, r, gs, rfl, g.i, k9, dvv.mono g.s, rg7 _ hpm, hg, fun H' g' k' => ?_⟩
      exact q1 S1 H' _ _ g' (.bl true) ⟨k', bs ++ [true], by rw [List.map_append]; rfl, by rw [List.all_append, eb]; rfl⟩
    · rintro S9 H9 xs ds g9' s9 hl9 dv9 ⟨k9, bs, rfl, eb⟩
      rw [← minus_self sa7] at g9'
      obtain ⟨b1, b2, b3, b4⟩ := lock_back (L := [p]) g7.i ha7 nma g9'
      have nDa : D ≠ am := fun z => by rw [z, upd_same] at hD; cases hD
      have g10 := g7.trans b3 fun x hx => .inl hx
      have k10 : PotOk (plus S9 S7 am) (upd H9 am (.dK kvs7)) p := PotOk.plus k9 npa
      have md10 : MdAt K (plus S9 S7 am) (upd H9 am (.dK kvs7)) am m := (show MdAt K S7 H7 am m from ⟨sa7, kvs7, ha7, ti7⟩).gr b3 nma
      have dg10 := (dg.mono g7'.s).mono b3.s
      have hl10 : (upd H9 am (.dK kvs7)) D = some (.lst (bs.map V.bl)) := by rw [upd_ne nDa, hl9, dvAll_bls_inv dv9]
      generalize plus S9 S7 am = S10 at g10 k10 md10 dg10
      refine ⟨b1, ?_⟩
      clear b3 b4 b1 b2
      generalize upd H9 am (.dK kvs7) = H10 at g10 k10 md10 hl10 ⊢
      walk_at "go"
      refine ⟨D, bs, rfl, sq_of hl10, ?_⟩
      rw [eb]
      walk_at "go"
      refine ⟨S10, p, vg, gs, rfl, g10.i, k10, dg10, hg, fun S11 H11 vr r0 rg0 g11' k11 dr11 => ?_⟩
      have g11 := g10.trans g11' fun x hx => .inl hx
      have md11 := md10.gr g11' nma
      obtain ⟨kvs11, ha11, ti11⟩ := md11.h
      have sa11 := md11.s
      walk_at "go"
      refine i_lockE ha11 fun od2 => ?_
      walk_at "go"
      refine ⟨am, od2, rfl, .inl ⟨_, upd_same, fun D2 hD2 => ?_⟩⟩
      have w11 := walk_keysD (K := K) (S := S11) (a := am) (od := od2) ti11.k ti11.d
      rw [tl] at w11
      have f11 : Ex S11 (upd H11 am (.frz od2 (.dK kvs11))) := by
        have := lock_ex (od := od2) (kvs := kvs11) (a := am) g11.i
        rwa [minus_self sa11] at this
      refine lc_E (K := K) (as := m) w11 (fun p => some (.tup [.str p.1, ordD K p.2])) f11 hD2 (by omega) (fun S1 Hc g => g.nil_h _ _ upd_same) ?_ ?_
      · rintro i pr x S1 Hc Hc' Qe Nx hp g ⟨rfl, p', hp', rfl⟩ q1 q2
        obtain ⟨p2, hp2, rfl⟩ := map_atA hp'
        rw [hp] at hp2
        cases hp2
        obtain ⟨n, r⟩ := pr
        have hpm := List.mem_of_getElem? hp
        obtain ⟨vv, hv, dvv⟩ := ti11.val (look_mem mb.nd hpm)
        obtain ⟨rra, rpb, rfl, r1, r2⟩ := row_inv dvv
        have e1 : Ex S11 Hc' := g.s.trans g.i
        have rd : Rd Hc' am (.dK kvs11) := .inr ⟨od2, g.nil_h _ _ upd_same⟩
        have s1 := sqT_mono e1 r1
        walk_at "go"
        refine ⟨rfl, ?_⟩
        walk_at "go"
        refine i_ixDk (k := .inr n) rd hv ?_
        walk_at "go"
        refine i_ixT (j := 0) s1 rfl rfl ?_
        walk_at "go"
        refine i_ixDk (k := .inr n) rd hv ?_
        walk_at "go"
        refine i_ixT (j := 1) s1 rfl rfl ?_
        walk_at "go"
        refine i_ixDk (k := .inr n) rd hv ?_
        walk_at "go"
        refine i_ixT (j := 2) s1 rfl rfl ?_
        walk_at "go"
        refine i_ixDk (k := .inr n) rd hv ?_
        walk_at "go"
        refine i_ixT (j := 3) s1 rfl rfl ?_
        walk_at "go"
        refine g_mkOrd (S := S1) (r := r) g.i (e1 _ _ r2) (mb.r _ hpm).1.ok fun S2 H2 u g2 du => ?_
        walk_at "go"
        refine ⟨z5 _ (by show 2 ≤ 16777216; decide), fun t ht => ?_⟩
        obtain ⟨g5, d5⟩ := pair_new (K := K) g2 ht (.str n) du
        exact q1 _ _ _ _ g5 d5 rfl
      · intro S12 H12 xs12 g12' s12 hl12 dv12
        rw [fm_some (h' := fun (p : Str × Row) => Dt.tup [.str p.1, ordD K p.2]) fun _ _ => rfl] at dv12
        rw [← minus_self sa11] at g12'
        obtain ⟨b1, b2, b3, b4⟩ := lock_back (L := []) g11.i ha11 (by simp) g12'
        have nDa2 : D2 ≠ am := fun z => by rw [z, upd_same] at hD2; cases hD2
        have g12 := g11.then b3
        have k12 := k11.gr b3 (by simp)
        have md12 := md11.gr b3 (by simp)
        have dr12 := dr11.mono b3.s
        have dv12' := dv12.mono b4
        have hl12' : (upd H12 am (.dK kvs11)) D2 = some (.lst xs12) := by rw [upd_ne nDa2]; exact hl12
        refine ⟨b1, ?_⟩
        clear b3 b4 b1 b2 g12'
        generalize plus S12 S11 am = S12' at g12 k12 md12 dr12 dv12'
        generalize upd H12 am (.dK kvs11) = H12' at g12 k12 md12 hl12' ⊢
        walk_at "go"
        refine i_dictM (fD := ordD K) (m := m) mb.nd g12.i hl12' dv12' fun hd kvsh hhd tih => ?_
        have nph : p ≠ hd := k12.neq hhd
        have zhd : H hd = none := g12.back hhd (nmem1 nph)
        have shd : S12' hd = none := fresh_back g12.i hhd
        have G13 : Gr [] S12' H12' S12' (upd H12' hd (.dK kvsh)) := Gr.newO g12.i hhd
        have g13 := g12.then G13
        have k13 := k12.gr G13 (by simp)
        have md13 := md12.gr G13 (by simp)
        have hd13 : (upd H12' hd (.dK kvsh)) hd = some (.dK kvsh) := upd_same
        generalize upd H12' hd (.dK kvsh) = H13 at g13 k13 md13 hd13 G13 ⊢
        obtain ⟨kvs13, ha13, ti13⟩ := md13.h
        walk_at "go"
        refine ⟨am, kvs13, keys m, rfl, .inl ha13, ti13.k.trans (tgs_keys m), by omega, fun ys l14 pm so hl14 => ?_⟩
        cases srt_one pm so
        have G14 : Gr [] S12' H13 S12' (upd H13 l14 (.lst ((srt (keys m)).map V.str))) := Gr.newO g13.i hl14
        have g14 := g13.then G14
        walk_at "go"
        refine ⟨S12', p, l14, srt (keys m), rfl, g14.i, k13.gr G14 (by simp), .inl (sq_of upd_same), by rw [srt_len]; omega, fun H15 l15 gs' pm2 g15' k15 hl150 hl15 => ?_⟩
        have G15 := (G14.more (L2 := [p]) (fun _ z => nomatch z)).trans g15' fun x hx => .inl hx
        have g15 := g13.trans G15 fun x hx => .inl hx
        have pk : gs'.Perm (keys m) := pm2.trans (srt_perm _)
        have lg : gs'.length = (keys m).length := pk.length_eq
        obtain ⟨hd15, _⟩ := G15.own (nmem1 nph) hd13 shd
        have md15 := md13.gr G15 nma
        walk_at "go"
        refine ⟨l15, rfl, ⟨_, sq_of hl15⟩, fun D3 hD3 => ?_⟩
        have wk := walk_list (K := K) (a := l15) (xs := gs'.map V.str)
        rw [List.length_map] at wk
        refine lc_E (K := K) wk (fun k => (look m k).map fun r => Dt.tup [.str k, ordD K r]) g15.i hD3 (by omega) (fun S1 Hc g => sq_of (g.nil_h _ _ hl15)) ?_ ?_
        · rintro i z x S1 Hc Hc' Qe Nx hk g ⟨rfl, hx⟩ q1 q2
          obtain ⟨z', hz', rfl⟩ := map_atA hx
          rw [hk] at hz'
          cases hz'
          obtain ⟨r, hr'⟩ := look_key (m := m) (pk.mem_iff.mp (List.mem_of_getElem? hk))
          obtain ⟨vv, hv, dvv⟩ := tih.val hr'
          walk_at "go"
          refine ⟨rfl, ?_⟩
          walk_at "go"
          refine i_ixDk (k := .inr z) (.inl (g.nil_h _ _ hd15)) hv ?_
          walk_at "go"
          refine ⟨z5 _ (by show 2 ≤ 16777216; decide), fun t ht => ?_⟩
          obtain ⟨g5, d5⟩ := pair_new (K := K) (Gr.refl (L := []) g.i) ht (.str z) (dvv.mono g.s)
          exact q1 _ _ _ _ g5 d5 (by rw [hr']; rfl)
        · intro S16 H16 xs16 g16' s16 hl16 dv16
          rw [mixM_tup] at dv16
          have mp := mixM_perm mb.nd pk
          have g16 := g15.then g16'
          have k16 := k15.gr g16' (by simp)
          obtain ⟨hd16, shd16⟩ := g16'.own (by simp) hd15 shd
          have md16 := md15.gr g16' (by simp)
          have tih16 := tih.mono g16'.s
          have dr16 := dr12.mono g16'.s
          have mok : MsOk (mixM m gs') := ok.perm mp
          walk_at "go"
          refine i_dictM (fD := ordD K) (m := mixM m gs') mok.nd g16.i hl16 dv16 fun d17 kvs17 hd17 ti17 => ?_
          have G17 : Gr [] S16 H16 S16 (upd H16 d17 (.dK kvs17)) := Gr.newO g16.i hd17
          have g17 := g16.then G17
          walk_at "go"
          refine g_mkRd (S := S16) (m := mixM m gs') g17.i upd_same (OrdIn.of_tab ti17) mok fun S18 H18 vm g18' dm => ?_
          rw [rd_congr ok mp] at dm
          have G18 := G17.then g18'
          have g18 := g16.then G18
          have k18 := k16.gr G18 (by simp)
          obtain ⟨hd18, shd18⟩ := G18.own (by simp) hd16 shd16
          have md18 := md16.gr G18 (by simp)
          have tih18 := tih16.mono G18.s
          have dr18 := dr16.mono G18.s
          walk_at "go"
          refine ⟨rfl, rfl, ?_⟩
          refine g_mkRd (S := S18) (m := m) g18.i hd18 (OrdIn.of_tab tih18) ok fun S19 H19 vt g19' dt => ?_
          have g19 := g18.then g19'
          have k19 := k18.gr g19' (by simp)
          obtain ⟨hd19, shd19⟩ := g19'.own (by simp) hd18 shd18
          have md19 := md18.gr g19' (by simp)
          have tih19 := tih18.mono g19'.s
          have dr19 := dr18.mono g19'.s
          have dm19 := dm.mono g19'.s
          obtain ⟨ra0, rp0, rfl, rs0, rb0⟩ := row_inv dr19
          have s19 := sqT_mono g19.i rs0
          walk_at "go"
          refine i_ixT (j := 0) s19 rfl rfl ?_
          walk_at "go"
          refine i_ixT (j := 1) s19 rfl rfl ?_
          walk_at "go"
          refine i_ixT (j := 2) s19 rfl rfl ?_
          walk_at "go"
          refine i_ixT (j := 3) s19 rfl rfl ?_
          walk_at "go"
          refine g_mkOrd (S := S19) (r := r0) g19.i (g19.i _ _ rb0) (rg0.b hg).ok fun S20 H20 vz g20' dz => ?_
          have g20 := g19.then g20'
          have k20 := k19.gr g20' (by simp)
          obtain ⟨hd20, shd20⟩ := g20'.own (by simp) hd19 shd19
          have md20 := md19.gr g20' (by simp)
          have tih20 := tih19.mono g20'.s
          walk_at "go"
          refine i_put (k := .inr "zz") hd20 (by rw [tih20.len]; omega) ?_
          obtain ⟨o1, o2⟩ := kv_put (k := .inr (Str.ofString "zz")) tih20.k tih20.d dz
          rw [putG_tgs, putM_new zzno] at o1 o2
          have tiz : TabIn (ordD K) K S20 (putK kvsh (.inr (Str.ofString "zz")) vz) (m ++ [(Str.ofString "zz", r0)]) := ⟨o1, o2⟩
          have g21 := g20.mutN (o := .dK (putK kvsh (.inr (Str.ofString "zz")) vz)) zhd shd20
          have k21 := k20.mut (o := .dK (putK kvsh (.inr (Str.ofString "zz")) vz)) nph
          have nah : am ≠ hd := fun e => by
            obtain ⟨_, h', _⟩ := md12.h
            rw [e, hhd] at h'
            cases h'
          have md21 := md20.mut (o := .dK (putK kvsh (.inr (Str.ofString "zz")) vz)) nah
          have hd21 : (upd H20 hd (.dK (putK kvsh (.inr (Str.ofString "zz")) vz))) hd = some (.dK (putK kvsh (.inr (Str.ofString "zz")) vz)) := upd_same
          generalize upd H20 hd (.dK (putK kvsh (.inr (Str.ofString "zz")) vz)) = H21 at g21 k21 md21 hd21 ⊢
          generalize putK kvsh (.inr (Str.ofString "zz")) vz = kvz at tiz hd21
          have dm20 := dm19.mono g20'.s
          have dt20 := dt.mono g20'.s
          have dr20 := dr19.mono g20'.s
          walk_at "go"
          refine i_forRng (n := 2) (by decide) (fun i σ H' => ∃ y, σ = [some (.ref p), some vg, some (.ref am), none, some (.ref ra0), some (.ref hd), some vm, some vt, y, none, none, none, none, none, none, none] ∧ Ex H21 H') ?_ ?_ ?_
          · exact ⟨_, rfl, Ex.refl _⟩
          · rintro i σ H' hi ⟨y, rfl, e22⟩
            have G22 : Gr [] S20 H21 S20 H' := Gr.same g21.i e22
            walk_at "go"
            refine ⟨S20, vm, m, rfl, G22.i, dm20, ok, fun H23 e23 => ?_⟩
            have G23 := G22.then (Gr.same (L := []) G22.i e23)
            walk_at "go"
            refine ⟨S20, vm, am, m, gs, rfl, G23.i, dm20, md21.gr G23 (by simp), mb, hg, fun H24 e24 => ?_⟩
            have G24 := G23.then (Gr.same (L := []) G23.i e24)
            walk_at "go"
            refine q_neR B.rc G24.i dm20 dt20 ok ok fun H25 e25 => ?_
            rw [sameM_self]
            have G25 := G24.then (Gr.same (L := []) G24.i e25)
            walk_at "go"
            refine q_eqR B.rc G25.i dt20 dm20 ok ok fun H26 e26 => ?_
            rw [sameM_self]
            walk_at "go"
            exact ⟨_, rfl, G25.nil_h.trans e26⟩
          · rintro σ H22 ⟨y, rfl, e22⟩
            have G22 : Gr [] S20 H21 S20 H22 := Gr.same g21.i e22
            have hd22 := e22 _ _ hd21
            have md22 := md21.gr G22 (by simp)
            obtain ⟨kvs22, ha22, ti22⟩ := md22.h
            obtain ⟨tz, htz, dtz⟩ := tiz.val (z := Str.ofString "zz") (r := r0) (look_mem (snoc_nd' mb.nd zzno) (List.mem_append_right _ (.head _)))
            have g22 := g21.then G22
            have k22 := k21.gr G22 (by simp)
            clear g7 g10 g11 g12 g13 g14 g15 g16 g17 g18 g19 g20 g21 k7 k10 k11 k12 k13 k15 k16 k18 k19 k20 k21 g15' g16' g18' g19' g20' G13 G14 G15 G17 G18 f8 f11 w8 w11 hd13 hd15 hd16 hd18 hd19 hd20 md10 md11 md12 md13 md15 md16 md18 md19 md20 tih tih16 tih18 tih19 tih20 hl10 hl12' hl15 hl16 dv9 dv12 dv12' dv16
            obtain ⟨rm, dxm, pm1, pm2', kvm, rfl, im1, _, _, _⟩ := id (rd_inv dm20)
            obtain ⟨rt, dxt, pt1, pt2, kvt, rfl, it1, _, _, _⟩ := id (rd_inv dt20)
            have mbz : MdB gs (m ++ [(Str.ofString "zz", r0)]) := mb.snoc zzno (by decide +kernel) ⟨rg0.b hg, rg0.g⟩ (by omega)
            have okz := mbz.ok hg
            have mbb : MdB gs (m ++ [(Str.ofString "bb", r0)]) := mb.snoc bbno (by decide +kernel) ⟨rg0.b hg, rg0.g⟩ (by omega)
            have okb := mbb.ok hg
            have nzz : nameB "zz" = true ∧ (Str.ofString "zz").length ≤ 8 := by decide +kernel
            have nbb : nameB "bb" = true ∧ (Str.ofString "bb").length ≤ 8 := by decide +kernel
            walk_at "gn"
            refine ⟨rt, dxt, _, rfl, g22.i _ _ it1, rfl, ?_⟩
            walk_at "gn"
            refine ⟨S20, _, m, rfl, g22.i, dt20, fun p23 kvs23 hp23 oi23 => ?_⟩
            have G23 : Gr [] S20 H22 S20 (upd H22 p23 (.dK kvs23)) := Gr.newO g22.i hp23
            have hp23' : (upd H22 p23 (.dK kvs23)) p23 = some (.dK kvs23) := upd_same
            generalize upd H22 p23 (.dK kvs23) = H23 at G23 hp23' ⊢
            walk_at "gn"
            refine ⟨rm, dxm, _, rfl, G23.i _ _ im1, S20, _, m, rfl, G23.i, dm20, ok, mb.small, fun b _ => Clear.nil b, fun H24 e24 => ⟨_, rfl, ?_⟩⟩
            have G24 := G23.then (Gr.same (L := []) G23.i e24)
            walk_at "gn"
            refine ⟨rt, dxt, _, rfl, G24.i _ _ it1, rfl, ?_⟩
            walk_at "gn"
            refine i_ixDk (k := .inr "zz") (.inl (G24.nil_h _ _ hd22)) htz ?_
            walk_at "gn"
            refine ⟨S20, _, m, "zz", tz, r0, rfl, G24.i, dt20, dtz, ok, zzno, nzz.1, nzz.2, okz, fun S25 H25 u25 g25' du25 => ?_⟩
            have G25 := G24.then g25'
            walk_at "gn"
            refine ⟨z5 _ (by show 5 ≤ 16777216; decide), fun l26 hl26 => ?_⟩
            have G26 := G25.then (Gr.newO (L := []) (o := .lst [V.non, .ref am, .ref p23, .str (rdT m), u25]) G25.i hl26)
            have hl26' : (upd H25 l26 (.lst [V.non, .ref am, .ref p23, .str (rdT m), u25])) l26 = some (.lst [V.non, .ref am, .ref p23, .str (rdT m), u25]) := upd_same
            have hp26 := (Ex.new (o := .lst [V.non, .ref am, .ref p23, .str (rdT m), u25]) hl26) _ _ (g25'.nil_h _ _ (e24 _ _ hp23'))
            generalize upd H25 l26 (.lst [V.non, .ref am, .ref p23, .str (rdT m), u25]) = H26 at G26 hl26' hp26 ⊢
            have ha26 := G26.nil_h _ _ ha22
            walk_at "go"
            refine ⟨l26, rfl, ⟨_, sq_of hl26'⟩, fun D26 hD26 => ?_⟩
            have thing : ∀ x ∈ [V.non, .ref am, .ref p23, .str (rdT m), u25], (∃ t, Dv K S25 x (rdD K t) ∧ MsOk t ∧ sameM m t = false) ∨ ∃ ty ∈ bases, ∀ Hc, Ex H26 Hc → TyX K Hc x (.type ty) := by
              intro x hx
              simp only [List.mem_cons, List.not_mem_nil, or_false] at hx
              rcases hx with rfl | rfl | rfl | rfl | rfl
              · exact .inr ⟨"NoneType", by decide, fun Hc e => ty_non⟩
              · exact .inr ⟨"dict", by decide, fun Hc e => .base (.dK (e _ _ ha26))⟩
              · exact .inr ⟨"dict", by decide, fun Hc e => .base (.dK (e _ _ hp26))⟩
              · exact .inr ⟨"str", by decide, fun Hc e => ty_str⟩
              · exact .inl ⟨_, du25, okz, sameM_snoc mb.nd zzno⟩
            have wo := walk_list (K := K) (a := l26) (xs := [V.non, .ref am, .ref p23, .str (rdT m), u25])
            have dm25 := dm20.mono g25'.s
            refine lc_G (K := K) (L := []) wo (fun i ds S1 Hc => ∃ bs : List Bool, ds = bs.map Dt.bl ∧ bs.any id = false) G26.i hD26 (by simp) (by show 5 < 1000000; decide) ⟨[], rfl, rfl⟩ (fun _ _ _ _ _ h _ => h) (fun _ _ S1 Hc g _ => sq_of (g.nil_h _ _ hl26')) ?_ ?_
            · rintro i x ds S1 Hc Hc' Qe Nx hi g ⟨bs, rfl, hbs⟩ ⟨rfl, hx⟩ q1 q2
              walk_at "go"
              refine ⟨rfl, ?_⟩
              walk_at "go"
              rcases thing x (List.mem_of_getElem? hx) with ⟨t, dt', rt', st⟩ | ⟨ty, hty, tyx⟩
              · refine q_eqR B.rc g.i (dm25.mono g.s) (dt'.mono g.s) ok rt' fun H45 e45 => ?_
                rw [st]
                exact q1 S1 H45 _ _ (Gr.same g.i e45) (.bl false) ⟨bs ++ [false], by rw [List.map_append]; rfl, by rw [List.any_append, hbs]; rfl⟩
              · refine q_eqRT B.rc g.i (dm25.mono g.s) hty (tyx _ g.nil_h) ?_
                exact q1 S1 _ _ _ (Gr.refl g.i) (.bl false) ⟨bs ++ [false], by rw [List.map_append]; rfl, by rw [List.any_append, hbs]; rfl⟩
            · rintro S27 H27 xs27 ds g27' s27 hl27 dv27 ⟨bs, rfl, hbs⟩
              have G27 := G26.then g27'
              have g27 := g22.then G27
              have k27 := k22.gr G27 (by simp)
              have md27 := md22.gr G27 (by simp)
              have dm27 := dm20.mono G27.s
              walk_at "go"
              refine ⟨D26, bs, rfl, sq_of (by rw [hl27, dvAll_bls_inv dv27]), ?_⟩
              rw [hbs]
              walk_at "go"
              refine ⟨S27, p, _, am, m, gs, rfl, G27.i, k27, dm27, md27, mb, hg, Ne.symm npa, fun H28 g28' k28 => ?_⟩
              have g28 := g27.trans g28' fun x hx => .inl hx
              have md28 := md27.gr g28' nma
              have hd28 := g28'.h _ _ (nmem1 nph) (G27.nil_h _ _ hd22)
              have dt28 := dt20.mono G27.s
              have dz28 := dtz.mono G27.s
              have dr28 := dr20.mono G27.s
              have im28 := G27.s _ _ im1
              have it28 := G27.s _ _ it1
              clear g25' g27' G23 G24 G25 G26 G27 thing wo dm25 du25
              walk_at "go"
              refine ⟨rt, dxt, _, rfl, g28.i _ _ it28, rfl, ?_⟩
              walk_at "go"
              refine i_ixDk (k := .inr "zz") (.inl hd28) htz ?_
              walk_at "go"
              refine ⟨S27, _, m, "bb", tz, r0, rfl, g28.i, dt28, dz28, ok, bbno, nbb.1, nbb.2, okb, fun S29 H29 u29 g29' du29 => ?_⟩
              have md29 := md28.gr g29' (by simp)
              obtain ⟨kvs29, ha29, ti29⟩ := md29.h
              have g29 := g28.then g29'
              walk_at "go"
              refine i_listItems (K := K) (L := []) (gs := tgs rowD m) g29.i ha29 ti29.k ti29.d fun S30 H30 p30 xs30 g30' hp30 sp30 hl30 dv30 => ?_
              have et : (tgs rowD m).map (fun g => Dt.tup [keyD g.1, g.2]) = m.map fun p => Dt.tup [.str p.1, rowD p.2] := by
                unfold tgs
                rw [List.map_map]
                rfl
              rw [et] at dv30
              have G30 := g29'.then g30'
              have g30 := g28.then G30
              walk_at "go"
              refine ⟨z5 _ (by show 2 ≤ 16777216; decide), fun t31 ht31 => ?_⟩
              obtain ⟨g31, dt31⟩ := pair_new (K := K) (Gr.refl (L := []) g30.i) ht31 (.str "bb") (dr28.mono G30.s)
              have st31 := fresh_back g30.i ht31
              have hl31 := g31.nil_h _ _ hl30
              have dv31 := dv30.mono g31.s
              have du31 := (du29.mono g30'.s).mono g31.s
              have G31 := G30.then g31
              generalize upd S30 t31 (.tup [.str "bb", .ref ra0]) = S31 at g31 dt31 dv31 du31 G31
              generalize upd H30 t31 (.tup [.str "bb", .ref ra0]) = H31 at g31 hl31 G31 ⊢
              walk_at "go"
              refine ⟨z5 _ (by show 1 ≤ 16777216; decide), fun l32 hl32 => ?_⟩
              have lx30 : xs30.length = m.length := by rw [dv30.length, List.length_map]
              refine i_cat (xs := xs30) (ys := [.ref t31]) (by rw [upd_ne fun e => by rw [← e, hl31] at hl32; cases hl32]; exact hl31) upd_same (by rw [lx30]; show m.length + 1 ≤ 1000000; omega) fun l33 hl33 => ?_
              have G32 := G31.then (Gr.newO (L := []) (o := .lst [V.ref t31]) G31.i hl32)
              have G33 := G32.then (Gr.newO (L := []) (o := .lst (xs30 ++ [.ref t31])) G32.i hl33)
              have hl33' : (upd (upd H31 l32 (.lst [V.ref t31])) l33 (.lst (xs30 ++ [.ref t31]))) l33 = some (.lst (xs30 ++ [.ref t31])) := upd_same
              generalize upd (upd H31 l32 (.lst [V.ref t31])) l33 (.lst (xs30 ++ [.ref t31])) = H33 at G33 hl33' ⊢
              walk_at "go"
              refine i_dictPut (fD := rowD) (m := m) (l := [(Str.ofString "bb", r0)]) mb.nd G33.i hl33' (by rw [List.map_append]; exact dv31.append (.cons dt31 .nil)) fun d34 kvs34 hd34 ti34 => ?_
              rw [show putAll m [(Str.ofString "bb", r0)] = m ++ [(Str.ofString "bb", r0)] from putM_new bbno] at ti34
              have G34 := G33.then (Gr.newO (L := []) (o := .dK kvs34) G33.i hd34)
              walk_at "go"
              refine ⟨S31, u29, d34, m ++ [(Str.ofString "bb", r0)], gs, rfl, G34.i, du31, ⟨fresh_back G33.i hd34, kvs34, upd_same, ti34⟩, mbb, hg, fun H35 e35 => ?_⟩
              have G35 := G34.then (Gr.same (L := []) G34.i e35)
              have g35 := g28.then G35
              have k35 := k28.gr G35 (by simp)
              have md35 := md28.gr G35 (by simp)
              have hd35 := G35.nil_h _ _ hd28
              have dm35 := dm27.mono G35.s
              have dt35 := dt28.mono G35.s
              have dz35 := dz28.mono G35.s
              have dr35 := dr28.mono G35.s
              have im35 := G35.s _ _ im28
              have it35 := G35.s _ _ it28
              clear G30 G31 G32 G33 G34 g29' g30' g31 dt31 dv31 du31 du29 ti34 dv30
              walk_at "gn"
              have zzno2 : (Str.ofString "zz") ∉ keys (m ++ [(Str.ofString "bb", r0)]) := fun z => by
                rw [keys_append, List.mem_append] at z
                rcases z with z | z
                · exact zzno z
                · have e : (Str.ofString "zz") = Str.ofString "bb" := by simpa [keys] using z
                  exact absurd e (by decide +kernel)
              have mb2 : MdB gs (m ++ [(Str.ofString "bb", r0)] ++ [(Str.ofString "zz", r0)]) := mbb.snoc zzno2 (by decide +kernel) ⟨rg0.b hg, rg0.g⟩ (by rw [List.length_append]; show m.length + 1 ≤ 8; omega)
              have ok2 := mb2.ok hg
              refine ⟨rt, dxt, _, rfl, g35.i _ _ it35, rfl, ?_⟩
              walk_at "gn"
              refine i_ixDk (k := .inr "zz") (.inl hd35) htz ?_
              walk_at "gn"
              refine ⟨_, _, m, "bb", tz, r0, rfl, g35.i, dt35, dz35, ok, bbno, nbb.1, nbb.2, okb, fun S36 H36 u36 g36' du36 => ?_⟩
              obtain ⟨r36, dx36, q361, q362, kv36, rfl, i36, _, _, _⟩ := id (rd_inv du36)
              refine ⟨r36, dx36, _, rfl, g36'.i _ _ i36, rfl, ?_⟩
              walk_at "gn"
              refine i_ixDk (k := .inr "zz") (.inl (g36'.nil_h _ _ hd35)) htz ?_
              walk_at "gn"
              refine ⟨S36, _, m ++ [(Str.ofString "bb", r0)], "zz", tz, r0, rfl, g36'.i, du36, dz35.mono g36'.s, okb, zzno2, nzz.1, nzz.2, ok2, fun S37 H37 u37 g37' du37 => ?_⟩
              have G37 := g36'.then g37'
              have md37 := md35.gr G37 (by simp)
              obtain ⟨kvs37, ha37, ti37⟩ := md37.h
              walk_at "go"
              refine i_listItems (K := K) (L := []) (gs := tgs rowD m) G37.i ha37 ti37.k ti37.d fun S38 H38 p38 xs38 g38' hp38 sp38 hl38 dv38 => ?_
              rw [et] at dv38
              have G38 := G37.then g38'
              have dr38 := dr35.mono G38.s
              walk_at "go"
              refine ⟨z5 _ (by show 2 ≤ 16777216; decide), fun t39 ht39 => ?_⟩
              obtain ⟨g39, dt39⟩ := pair_new (K := K) (Gr.refl (L := []) G38.i) ht39 (.str "bb") dr38
              have hl39 := g39.nil_h _ _ hl38
              have dv39 := dv38.mono g39.s
              have du39 := (du37.mono g38'.s).mono g39.s
              have G39 := G38.then g39
              have dr39 := dr38.mono g39.s
              generalize upd S38 t39 (.tup [.str "bb", .ref ra0]) = S39 at g39 dt39 dv39 du39 G39 dr39
              generalize upd H38 t39 (.tup [.str "bb", .ref ra0]) = H39 at g39 hl39 G39 ⊢
              walk_at "go"
              refine ⟨z5 _ (by show 2 ≤ 16777216; decide), fun t40 ht40 => ?_⟩
              obtain ⟨g40, dt40⟩ := pair_new (K := K) (Gr.refl (L := []) g39.i) ht40 (.str "zz") dr39
              have hl40 := g40.nil_h _ _ hl39
              have dv40 := dv39.mono g40.s
              have dt39' := dt39.mono g40.s
              have du40 := du39.mono g40.s
              have G40 := G39.then g40
              generalize upd S39 t40 (.tup [.str "zz", .ref ra0]) = S40 at g40 dt40 dv40 du40 G40 dt39'
              generalize upd H39 t40 (.tup [.str "zz", .ref ra0]) = H40 at g40 hl40 G40 ⊢
              walk_at "go"
              refine ⟨z5 _ (by show 2 ≤ 16777216; decide), fun l41 hl41 => ?_⟩
              have lx38 : xs38.length = m.length := by rw [dv38.length, List.length_map]
              refine i_cat (xs := xs38) (ys := [.ref t39, .ref t40]) (by rw [upd_ne fun e => by rw [← e, hl40] at hl41; cases hl41]; exact hl40) upd_same (by rw [lx38]; show m.length + 2 ≤ 1000000; omega) fun l42 hl42 => ?_
              have G41 := G40.then (Gr.newO (L := []) (o := .lst [V.ref t39, .ref t40]) G40.i hl41)
              have G42 := G41.then (Gr.newO (L := []) (o := .lst (xs38 ++ [.ref t39, .ref t40])) G41.i hl42)
              have hl42' : (upd (upd H40 l41 (.lst [V.ref t39, .ref t40])) l42 (.lst (xs38 ++ [.ref t39, .ref t40]))) l42 = some (.lst (xs38 ++ [.ref t39, .ref t40])) := upd_same
              generalize upd (upd H40 l41 (.lst [V.ref t39, .ref t40])) l42 (.lst (xs38 ++ [.ref t39, .ref t40])) = H42 at G42 hl42' ⊢
              walk_at "go"
              refine i_dictPut (fD := rowD) (m := m) (l := [(Str.ofString "bb", r0), (Str.ofString "zz", r0)]) mb.nd G42.i hl42' (by rw [List.map_append]; exact dv40.append (.cons dt39' (.cons dt40 .nil))) fun d43 kvs43 hd43 ti43 => ?_
              rw [show putAll m [(Str.ofString "bb", r0), (Str.ofString "zz", r0)] = m ++ [(Str.ofString "bb", r0)] ++ [(Str.ofString "zz", r0)] by
                show putM (putM m (Str.ofString "bb") r0) (Str.ofString "zz") r0 = _
                rw [putM_new bbno, putM_new zzno2]] at ti43
              have G43 := G42.then (Gr.newO (L := []) (o := .dK kvs43) G42.i hd43)
              walk_at "go"
              refine ⟨S40, u37, d43, m ++ [(Str.ofString "bb", r0)] ++ [(Str.ofString "zz", r0)], gs, rfl, G43.i, du40, ⟨fresh_back G42.i hd43, kvs43, upd_same, ti43⟩, mb2, hg, fun H44 e44 => ?_⟩
              have G44 := G43.then (Gr.same (L := []) G43.i e44)
              walk_at "go"
              refine ⟨S40, _, am, m, gs, rfl, G44.i, dt35.mono G44.s, md35.gr G44 (by simp), mb, hg, fun H45 e45 => ?_⟩
              have G45 := G44.then (Gr.same (L := []) G44.i e45)
              clear G37 G38 G39 G40 G41 G42 G43 G44 g36' g37' g38' g39 g40 dt39 dt39' dt40 du36 du37 du39 du40 dv38 dv39 dv40 ti43 md37 dr38 dr39
              have dm45 := dm35.mono G45.s
              have im45 := G45.s _ _ im35
              walk_at "go"
              refine ⟨rm, dxm, _, rfl, G45.i _ _ im45, rfl, ?_⟩
              walk_at "go"
              refine ⟨S40, _, m, rfl, G45.i, dm45, fun p46 kvs46 hp46 oi46 => ?_⟩
              have G46 := G45.then (Gr.newO (L := []) (o := .dK kvs46) G45.i hp46)
              have hp46' : (upd H45 p46 (.dK kvs46)) p46 = some (.dK kvs46) := upd_same
              have z46 : H35 p46 = none := G45.back hp46 (by simp)
              have s46 : S40 p46 = none := fresh_back G45.i hp46
              generalize upd H45 p46 (.dK kvs46) = H46 at G46 hp46' ⊢
              walk_at "go"
              refine g_mkRd (S := S40) (m := srtM m) G46.i hp46' oi46 ok.srt fun S47 H47 u47 g47' du47 => ?_
              rw [rd_congr ok (srtM_perm m mb.nd)] at du47
              have G47 := G46.then g47'
              obtain ⟨hp47, sp47⟩ := g47'.own (by simp) hp46' s46
              walk_at "go"
              refine ⟨.inr (.inr (.inl ⟨rfl, .inl ⟨_, hp47⟩⟩)), p46, kvs46, rfl, rfl, hp47, ?_⟩
              have G48 := G47.mutN (o := .dK []) z46 sp47
              generalize upd H47 p46 (.dK []) = H48 at G48 ⊢
              have dm48 := dm45.mono g47'.s
              walk_at "go"
              refine ⟨S47, u47, am, m, gs, rfl, G48.i, du47, md35.gr G48 (by simp), mb, hg, fun H49 e49 => ?_⟩
              have G49 := G48.then (Gr.same (L := []) G48.i e49)
              walk_at "go"
              refine q_neR B.rc G49.i du47 dm48 ok ok fun H50 e50 => ?_
              rw [sameM_self]
              have G50 := G49.then (Gr.same (L := []) G49.i e50)
              have g50 := g35.then G50
              have k50 := k35.gr G50 (by simp)
              have md50 := md35.gr G50 (by simp)
              have dr50 := dr35.mono G50.s
              clear G45 G46 G47 G48 G49 dm45 du47 g47' G35 hd35 dt35 dz35
              walk_at "gn"
              obtain ⟨kvs50, ha50, ti50⟩ := md50.h
              refine i_listItems (K := K) (L := []) (gs := tgs rowD m) g50.i ha50 ti50.k ti50.d fun S51 H51 l51 xs51 g51 hl51 sl51 hx51 dv51 => ?_
              rw [et] at dv51
              have md51 := md50.gr g51 (by simp)
              obtain ⟨kvs51, ha51, ti51⟩ := md51.h
              walk_at "go"
              refine ⟨am, kvs51, keys m, rfl, .inl ha51, ti51.k.trans (tgs_keys m), by omega, fun ys l52 pm2 so2 hl52 => ?_⟩
              cases srt_one pm2 so2
              have G52 := g51.then (Gr.newO (L := []) (o := .lst ((srt (keys m)).map V.str)) g51.i hl52)
              have hl52' : (upd H51 l52 (.lst ((srt (keys m)).map V.str))) l52 = some (.lst ((srt (keys m)).map V.str)) := upd_same
              have hx52 := Ex.new (o := .lst ((srt (keys m)).map V.str)) hl52 _ _ hx51
              generalize upd H51 l52 (.lst ((srt (keys m)).map V.str)) = H52 at G52 hl52' hx52 ⊢
              walk_at "go"
              refine .inl ⟨l52, _, rfl, sq_of hl52', fun l53 hl53 => ?_⟩
              rw [show cutV ((srt (keys m)).map V.str) none (some 1) = ((srt (keys m)).take 1).map V.str by
                show cut ((srt (keys m)).map V.str) none (some ((1 : Nat) : Int)) = _
                rw [cut_take, List.map_take]]
              have G53 := G52.then (Gr.newO (L := []) (o := .lst (((srt (keys m)).take 1).map V.str)) G52.i hl53)
              have hl53' : (upd H52 l53 (.lst (((srt (keys m)).take 1).map V.str))) l53 = some (.lst (((srt (keys m)).take 1).map V.str)) := upd_same
              have hx53 := Ex.new (o := .lst (((srt (keys m)).take 1).map V.str)) hl53 _ _ hx52
              generalize upd H52 l53 (.lst (((srt (keys m)).take 1).map V.str)) = H53 at G53 hl53' hx53 ⊢
              walk_at "go"
              refine ⟨l53, rfl, ⟨_, sq_of hl53'⟩, fun D54 hD54 => ?_⟩
              have wk53 := walk_list (K := K) (a := l53) (xs := ((srt (keys m)).take 1).map V.str)
              rw [List.length_map] at wk53
              have lt1 : ((srt (keys m)).take 1).length ≤ 1 := List.length_take_le ..
              refine lc_E (K := K) wk53 (fun k => some (Dt.tup [.str k, rowD r0.up])) G53.i hD54 (by omega) (fun S1 Hc g => sq_of (g.nil_h _ _ hl53')) ?_ ?_
              · rintro i z x S1 Hc Hc' Qe Nx hk g ⟨rfl, hx⟩ q1 q2
                obtain ⟨z', hz', rfl⟩ := map_atA hx
                rw [hk] at hz'
                cases hz'
                have dr := (dr50.mono G53.s).mono g.s
                obtain ⟨rra, rpb, er, r1, r2⟩ := row_inv dr
                cases er
                have s1 := sqT_mono g.i r1
                walk_at "go"
                refine ⟨rfl, ?_⟩
                walk_at "go"
                refine i_ixT (j := 0) s1 rfl rfl ?_
                walk_at "go"
                refine i_ixT (j := 1) s1 rfl rfl ?_
                walk_at "go"
                refine i_ixT (j := 2) s1 rfl rfl ?_
                walk_at "go"
                refine i_ixT (j := 3) s1 rfl rfl ?_
                walk_at "go"
                refine ⟨z5 _ (by show 4 ≤ 16777216; decide), fun t ht => ?_⟩
                obtain ⟨gt, dt⟩ := row_new (K := K) (r := r0.up) (Gr.refl (L := []) g.i) ht r2
                walk_at "go"
                refine ⟨z5 _ (by show 2 ≤ 16777216; decide), fun t2 ht2 => ?_⟩
                obtain ⟨g5, d5⟩ := pair_new (K := K) gt ht2 (.str z) dt
                exact q1 _ _ _ _ g5 d5 rfl
              · intro S55 H55 xs55 g55' s55 hl55 dv55
                rw [fm_some (h' := fun (k : Str) => Dt.tup [.str k, rowD r0.up]) fun _ _ => rfl] at dv55
                have G55 := G53.then g55'
                have dv51' := (dv51.mono ((Gr.newO (L := []) (o := .lst ((srt (keys m)).map V.str)) g51.i hl52).s)).mono g55'.s
                have lx51 : xs51.length = m.length := by rw [dv51.length, List.length_map]
                have lx55 : xs55.length ≤ 1 := by rw [dv55.length, List.length_map]; exact lt1
                walk_at "go"
                refine i_cat (g55'.nil_h _ _ hx53) hl55 (by rw [lx51]; show m.length + xs55.length ≤ 1000000; omega) fun l56 hl56 => ?_
                have G56 := G55.then (Gr.newO (L := []) (o := .lst (xs51 ++ xs55)) G55.i hl56)
                have hl56' : (upd H55 l56 (.lst (xs51 ++ xs55))) l56 = some (.lst (xs51 ++ xs55)) := upd_same
                generalize upd H55 l56 (.lst (xs51 ++ xs55)) = H56 at G56 hl56' ⊢
                walk_at "go"
                refine i_dictPut (fD := rowD) (m := m) (l := ((srt (keys m)).take 1).map fun k => (k, r0.up)) mb.nd G56.i hl56' (by rw [List.map_append, List.map_map]; exact dv51'.append dv55) fun d57 kvs57 hd57 ti57 => ?_
                obtain ⟨mbb57, kk57⟩ := putAll_one (ks := srt (keys m)) mb (fun k hk => srt_mem.mp hk) (rg0.up hg) 1
                generalize putAll m (((srt (keys m)).take 1).map fun k => (k, r0.up)) = mB at ti57 mbb57 kk57
                have G57 := G56.then (Gr.newO (L := []) (o := .dK kvs57) G56.i hd57)
                have bd57 : MdAt K S55 (upd H56 d57 (.dK kvs57)) d57 mB := ⟨fresh_back G56.i hd57, kvs57, upd_same, ti57⟩
                generalize upd H56 d57 (.dK kvs57) = H57 at G57 bd57 ⊢
                have g57 := g50.then G57
                have k57 := k50.gr G57 (by simp)
                have md57 := md50.gr G57 (by simp)
                have dr57 := dr50.mono G57.s
                have dm57 := dm48.mono G57.s
                clear G52 G53 G55 G56 g51 g55' dv51 dv51' dv55 ti57 ti50 ti51 md51 wk53
                walk_at "go"
                obtain ⟨kvs57', ha57, ti57⟩ := md57.h
                refine ⟨am, kvs57', keys m, rfl, .inl ha57, ti57.k.trans (tgs_keys m), by omega, fun ys l58 pm3 so3 hl58 => ?_⟩
                cases srt_one pm3 so3
                have G58 : Gr [] S55 H57 S55 (upd H57 l58 (.lst ((srt (keys m)).map V.str))) := Gr.newO G57.i hl58
                have hl58' : (upd H57 l58 (.lst ((srt (keys m)).map V.str))) l58 = some (.lst ((srt (keys m)).map V.str)) := upd_same
                have ha58 := G58.nil_h _ _ ha57
                generalize upd H57 l58 (.lst ((srt (keys m)).map V.str)) = H58 at G58 hl58' ha58 ⊢
                walk_at "go"
                refine ⟨l58, rfl, ⟨_, sq_of hl58'⟩, fun D59 hD59 => ?_⟩
                have wk58 := walk_list (K := K) (a := l58) (xs := (srt (keys m)).map V.str)
                rw [List.length_map] at wk58
                refine lc_E (K := K) wk58 (hN m) G58.i hD59 (by rw [srt_len]; omega) (fun S1 Hc g => sq_of (g.nil_h _ _ hl58')) ?_ ?_
                · rintro i z x S1 Hc Hc' Qe Nx hk g ⟨rfl, hx⟩ q1 q2
                  obtain ⟨z', hz', rfl⟩ := map_atA hx
                  rw [hk] at hz'
                  cases hz'
                  obtain ⟨r, hr'⟩ := look_key (m := m) (srt_mem.mp (List.mem_of_getElem? hk))
                  obtain ⟨vv, hv, dvv⟩ := ti57.val hr'
                  walk_at "go"
                  refine ⟨rfl, ?_⟩
                  walk_at "go"
                  refine i_ixDk (k := .inr z) (.inl (g.nil_h _ _ ha58)) hv ?_
                  walk_at "go"
                  refine ⟨S1, vv, r, rfl, g.i, dvv.mono g.s, (mb.r _ (look_in hr')).1, fun S2 H2 a g2 ha0 sa hba => ?_⟩
                  walk_at "go"
                  show ∀ e0, H2 e0 = none → _
                  intro e0 he0
                  have G3 := g2.then (Gr.newO (L := []) (o := .dK []) g2.i he0)
                  refine ⟨a, e0, bkv (told r.bun), rfl, rfl, (Ex.new he0) _ _ hba, upd_same, fun H3 e3 => ⟨_, rfl, ?_⟩⟩
                  have G4 := G3.then (Gr.same (L := []) G3.i e3)
                  by_cases c : told r.bun = []
                  · rw [decide_eq_true (show bkv (told r.bun) = [] by rw [c]; rfl)]
                    exact q2 S2 H3 G4 (by unfold hN; rw [hr']; exact if_pos c)
                  · rw [decide_eq_false (show ¬ bkv (told r.bun) = [] from fun e => c (List.map_eq_nil_iff.mp e))]
                    walk_at "go"
                    exact q1 S2 H3 _ _ G4 (.str z) (by unfold hN; rw [hr']; exact if_neg c)
                · intro S59 H59 xs59 g59' s59 hl59 dv59
                  obtain ⟨ns, ens, lns, hns⟩ := hN_names m (srt (keys m))
                  rw [ens] at dv59
                  rw [dvAll_strs_inv dv59] at hl59
                  walk_at "go"
                  refine .inl ⟨D59, _, rfl, sq_of hl59, fun l60 hl60 => ?_⟩
                  rw [show cutV (ns.map V.str) none (some 1) = (ns.take 1).map V.str by
                    show cut (ns.map V.str) none (some ((1 : Nat) : Int)) = _
                    rw [cut_take, List.map_take]]
                  have G60 := (G58.then g59').then (Gr.newO (L := []) (o := .lst ((ns.take 1).map V.str)) g59'.i hl60)
                  have hl60' : (upd H59 l60 (.lst ((ns.take 1).map V.str))) l60 = some (.lst ((ns.take 1).map V.str)) := upd_same
                  generalize upd H59 l60 (.lst ((ns.take 1).map V.str)) = H60 at G60 hl60' ⊢
                  have bd60 := bd57.gr G60 (by simp)
                  have g60 := g57.then G60
                  have k60 := k57.gr G60 (by simp)
                  have md60 := md57.gr G60 (by simp)
                  have dr60 := dr57.mono G60.s
                  have dm60 := dm57.mono G60.s
                  clear G58 g59' bd57 dv59 wk58 hl59
                  walk_at "go"
                  refine i_forTL hl60' (fun i σ H' => ∃ y3 y4, σ = [some (.ref p), some vg, some (.ref am), y3, y4, some (.ref hd), some (.ref rm), some (.ref rt), y, some (.ref l26), some u37, some (.ref p46), some u47, some (.ref d57), none, none] ∧ Ex H60 H') ?_ ?_ ?_ ?_
                  · exact ⟨_, _, rfl, Ex.refl _⟩
                  · rintro i σ H' hi ⟨y3, y4, rfl, e⟩
                    exact e
                  · rintro i σ H61 z hz ⟨y3, y4, rfl, e61⟩
                    obtain ⟨r, hr', ht'⟩ := hns z (List.mem_of_mem_take (List.mem_of_getElem? hz))
                    have G61 : Gr [] S59 H60 S59 H61 := Gr.same g60.i e61
                    have md61 := md60.gr G61 (by simp)
                    obtain ⟨kvs61, ha61, ti61⟩ := md61.h
                    obtain ⟨vv, hv, dvv⟩ := ti61.val hr'
                    walk_at "go"
                    refine i_ixDk (k := .inr z) (.inl ha61) hv ?_
                    walk_at "go"
                    have rb : RowB r := (mb.r _ (look_in hr')).1
                    refine i_listItems (K := K) (L := []) (gs := tgs rowD m) G61.i ha61 ti61.k ti61.d fun S62 H62 l62 xs62 g62 hl62 sl62 hx62 dv62 => ?_
                    rw [et] at dv62
                    have dr62 := dvv.mono g62.s
                    obtain ⟨rra, rpb, rfl, r1, r2⟩ := row_inv dr62
                    have s1 := sqT_mono g62.i r1
                    walk_at "go"
                    refine i_ixT (j := 0) s1 rfl rfl ?_
                    walk_at "go"
                    refine ⟨S62, _, r, rfl, g62.i, dr62, rb, fun H63 b63 e63 zb63 hb63 => ?_⟩
                    have s2 := sqT_mono e63 s1
                    walk_at "go"
                    refine i_ixT (j := 2) s2 rfl rfl ?_
                    walk_at "go"
                    refine i_ixT (j := 3) s2 rfl rfl ?_
                    walk_at "go"
                    refine ⟨z5 _ (by show 4 ≤ 16777216; decide), fun t64 ht64 => ?_⟩
                    have g63 : Gr [] S62 H62 S62 H63 := Gr.same g62.i e63
                    have g63' := g63.frzN zb63 (fresh_back g62.i zb63) hb63
                    obtain ⟨g64, dt64⟩ := row_mk (K := K) (ho := r.house) (bd := dbl r.bun) (lim := r.lim) (most := r.most) g63' ht64 upd_same
                    walk_at "go"
                    refine ⟨z5 _ (by show 2 ≤ 16777216; decide), fun t65 ht65 => ?_⟩
                    obtain ⟨g65, dt65⟩ := pair_new (K := K) g64 ht65 (.str z) dt64
                    have dv65 := dv62.mono g65.s
                    have hx65 := g65.nil_h _ _ hx62
                    have G65 := (G61.then g62).then g65
                    generalize upd (upd (upd S62 b63 (.dK (bkv (dbl r.bun)))) t64 (.tup [.str r.house, .ref b63, .int r.lim, .int r.most])) t65 (.tup [.str z, .ref t64]) = S65 at g65 dt65 dv65 G65
                    generalize upd (upd H63 t64 (.tup [.str r.house, .ref b63, .int r.lim, .int r.most])) t65 (.tup [.str z, .ref t64]) = H65 at g65 hx65 G65 ⊢
                    walk_at "go"
                    refine ⟨z5 _ (by show 1 ≤ 16777216; decide), fun l66 hl66 => ?_⟩
                    have lx62 : xs62.length = m.length := by rw [dv62.length, List.length_map]
                    refine i_cat (xs := xs62) (ys := [.ref t65]) (by rw [upd_ne fun e => by rw [← e, hx65] at hl66; cases hl66]; exact hx65) upd_same (by rw [lx62]; show m.length + 1 ≤ 1000000; omega) fun l67 hl67 => ?_
                    have G66 := G65.then (Gr.newO (L := []) (o := .lst [V.ref t65]) G65.i hl66)
                    have G67 := G66.then (Gr.newO (L := []) (o := .lst (xs62 ++ [.ref t65])) G66.i hl67)
                    have hl67' : (upd (upd H65 l66 (.lst [V.ref t65])) l67 (.lst (xs62 ++ [.ref t65]))) l67 = some (.lst (xs62 ++ [.ref t65])) := upd_same
                    generalize upd (upd H65 l66 (.lst [V.ref t65])) l67 (.lst (xs62 ++ [.ref t65])) = H67 at G67 hl67' ⊢
                    walk_at "go"
                    refine i_dictPut (fD := rowD) (m := m) (l := [(z, r.tw)]) mb.nd G67.i hl67' (by rw [List.map_append]; exact dv65.append (.cons dt65 .nil)) fun d68 kvs68 hd68 ti68 => ?_
                    have hk : z ∈ keys m := List.mem_map.mpr ⟨_, look_in hr', rfl⟩
                    have rtw : RowB r.tw ∧ ∀ k ∈ keys r.tw.bun, k ∈ gs := RowG.tw hg (rg7 _ (look_in hr'))
                    have mbt : MdB gs (putM m z r.tw) := mb.put hk rtw
                    have G68 := G67.then (Gr.newO (L := []) (o := .dK kvs68) G67.i hd68)
                    walk_at "go"
                    refine ⟨S65, d68, putM m z r.tw, gs, rfl, G68.i, ⟨fresh_back G67.i hd68, kvs68, upd_same, ti68⟩, mbt, hg, fun S69 H69 u69 g69 du69 => ?_⟩
                    have G69 := G68.then g69
                    walk_at "go"
                    refine q_eqR B.rc G69.i (dm60.mono G69.s) du69 ok (mbt.ok hg) fun H70 e70 => ?_
                    rw [sameM_put (r' := r.tw) mb.nd hr' fun e => told_dbl rb.nd ht' (congrArg Row.bun e)]
                    have G70 := G69.then (Gr.same (L := []) G69.i e70)
                    walk_at "go"
                    exact ⟨_, _, rfl, G70.nil_h⟩
                  · rintro σ H61 ⟨y3, y4, rfl, e61⟩
                    have G61 : Gr [] S59 H60 S59 H61 := Gr.same g60.i e61
                    walk_at "go"
                    have md61 := md60.gr G61 (by simp)
                    have bd61 := bd60.gr G61 (by simp)
                    obtain ⟨kvb, hb61, tib⟩ := bd61.h
                    refine ⟨d57, kvb, keys mB, rfl, .inl hb61, tib.k.trans (tgs_keys mB), by rw [kk57]; omega, fun ys l62 pm4 so4 hl62 => ?_⟩
                    cases srt_one pm4 so4
                    have G62 := G61.then (Gr.newO (L := []) (o := .lst ((srt (keys mB)).map V.str)) G61.i hl62)
                    have hl62' : (upd H61 l62 (.lst ((srt (keys mB)).map V.str))) l62 = some (.lst ((srt (keys mB)).map V.str)) := upd_same
                    have hb62 := (Ex.new (o := .lst ((srt (keys mB)).map V.str)) hl62) _ _ hb61
                    generalize upd H61 l62 (.lst ((srt (keys mB)).map V.str)) = H62 at G62 hl62' hb62 ⊢
                    walk_at "go"
                    refine ⟨l62, rfl, ⟨_, sq_of hl62'⟩, fun D63 hD63 => ?_⟩
                    have wk62 := walk_list (K := K) (a := l62) (xs := (srt (keys mB)).map V.str)
                    rw [List.length_map] at wk62
                    refine lc_E (K := K) wk62 (fun k => (look mB k).map fun r => Dt.str (ordT r)) G62.i hD63 (by rw [srt_len, kk57]; omega) (fun S1 Hc g => sq_of (g.nil_h _ _ hl62')) ?_ ?_
                    · rintro i z x S1 Hc Hc' Qe Nx hk g ⟨rfl, hx⟩ q1 q2
                      obtain ⟨z', hz', rfl⟩ := map_atA hx
                      rw [hk] at hz'
                      cases hz'
                      obtain ⟨r, hr'⟩ := look_key (m := mB) (srt_mem.mp (List.mem_of_getElem? hk))
                      obtain ⟨vv, hv, dvv⟩ := tib.val hr'
                      walk_at "go"
                      refine ⟨rfl, ?_⟩
                      walk_at "go"
                      refine i_ixDk (k := .inr z) (.inl (g.nil_h _ _ hb62)) hv ?_
                      walk_at "go"
                      refine ⟨S1, vv, r, rfl, g.i, dvv.mono g.s, (mbb57.r _ (look_in hr')).1, fun H2 e2 => ?_⟩
                      exact q1 _ _ _ _ (Gr.same g.i e2) (.str _) (by rw [hr']; rfl)
                    · intro S64 H64 xs64 g64' s64 hl64 dv64
                      rw [textsM_fm] at dv64
                      rw [dvAll_strs_inv dv64] at hl64
                      have G64 := G62.then g64'
                      have md64 := md60.gr G64 (by simp)
                      clear G62 g64' dv64 md61 bd61 wk62
                      obtain ⟨kvs64, ha64, ti64⟩ := md64.h
                      have tB : ∀ z ∈ textsM mB, PyData.strOk z = true := fun z hz => by
                        obtain ⟨p, hp, rfl⟩ := List.mem_map.mp hz
                        exact ordT_str (mbb57.r p ((srtM_mem mbb57.nd).mp hp)).1
                      have tM : ∀ z ∈ textsM m, PyData.strOk z = true := fun z hz => by
                        obtain ⟨p, hp, rfl⟩ := List.mem_map.mp hz
                        exact ordT_str (mb.r p ((srtM_mem mb.nd).mp hp)).1
                      walk_at "go"
                      refine ⟨am, kvs64, keys m, rfl, .inl ha64, ti64.k.trans (tgs_keys m), by omega, fun ys l65 pm5 so5 hl65 => ?_⟩
                      cases srt_one pm5 so5
                      have G65 : Gr [] S64 H64 S64 (upd H64 l65 (.lst ((srt (keys m)).map V.str))) := Gr.newO G64.i hl65
                      have hl65' : (upd H64 l65 (.lst ((srt (keys m)).map V.str))) l65 = some (.lst ((srt (keys m)).map V.str)) := upd_same
                      have hl64' := G65.nil_h _ _ hl64
                      have ha65 := G65.nil_h _ _ ha64
                      generalize upd H64 l65 (.lst ((srt (keys m)).map V.str)) = H65 at G65 hl65' hl64' ha65 ⊢
                      walk_at "go"
                      refine ⟨l65, rfl, ⟨_, sq_of hl65'⟩, fun D66 hD66 => ?_⟩
                      have wk65 := walk_list (K := K) (a := l65) (xs := (srt (keys m)).map V.str)
                      rw [List.length_map] at wk65
                      refine lc_E (K := K) wk65 (fun k => (look m k).map fun r => Dt.str (ordT r)) G65.i hD66 (by rw [srt_len]; omega) (fun S1 Hc g => sq_of (g.nil_h _ _ hl65')) ?_ ?_
                      · rintro i z x S1 Hc Hc' Qe Nx hk g ⟨rfl, hx⟩ q1 q2
                        obtain ⟨z', hz', rfl⟩ := map_atA hx
                        rw [hk] at hz'
                        cases hz'
                        obtain ⟨r, hr'⟩ := look_key (m := m) (srt_mem.mp (List.mem_of_getElem? hk))
                        obtain ⟨vv, hv, dvv⟩ := ti64.val hr'
                        walk_at "go"
                        refine ⟨rfl, ?_⟩
                        walk_at "go"
                        refine i_ixDk (k := .inr z) (.inl (g.nil_h _ _ ha65)) hv ?_
                        walk_at "go"
                        refine ⟨S1, vv, r, rfl, g.i, dvv.mono g.s, (mb.r _ (look_in hr')).1, fun H2 e2 => ?_⟩
                        exact q1 _ _ _ _ (Gr.same g.i e2) (.str _) (by rw [hr']; rfl)
                      · intro S67 H67 xs67 g67' s67 hl67 dv67
                        rw [textsM_fm] at dv67
                        rw [dvAll_strs_inv dv67] at hl67
                        have G67 := (G64.then G65).then g67'
                        walk_at "go"
                        refine i_eqL (g67'.nil_h _ _ hl64') hl67 tB tM ?_
                        rw [← textsM_same mb mbb57 kk57]
                        have bd67 := bd60.gr G67 (by simp)
                        have md67 := md60.gr G67 (by simp)
                        have dm67 := dm60.mono G67.s
                        walk_at "go"
                        refine ⟨S67, d57, mB, gs, rfl, G67.i, bd67, mbb57, hg, fun S68 H68 u68 g68 du68 => ?_⟩
                        have G68 := G67.then g68
                        walk_at "go"
                        refine q_eqR B.rc G68.i (dm67.mono g68.s) du68 ok (mbb57.ok hg) fun H69 e69 => ?_
                        have G69 := G68.then (Gr.same (L := []) G68.i e69)
                        walk_at "go"
                        refine ⟨rfl, _, rfl, ?_⟩
                        rw [decide_eq_true rfl]
                        walk_at "go"
                        refine ⟨S68, _, am, m, gs, rfl, G69.i, dm67.mono g68.s, md60.gr G69 (by simp), mb, hg, fun H70 e70 => ?_⟩
                        have G70 := G69.then (Gr.same (L := []) G69.i e70)
                        exact q _ (K31.Gr.drop (g60.then G70))
end
end K31

set_option Elab.async false
set_option linter.all false
set_option maxRecDepth 100000
set_option maxHeartbeats 4000000
/-! K31Z0: the law. -/
namespace K31
open PySem PySem.Spec PyProof.Rows L2 Gd
open Evl (Ex Ex.refl Ex.trans Ex.new Ex.mut ex_t ex_l sq_of st_of fresh_back)
local macro_rules | `(tactic| walk_at "st") => `(tactic| first
  | with_reducible refine x_seq ?_ | with_reducible refine x_ret ?_ | with_reducible refine x_retN ?_ | with_reducible refine x_next ?_ | with_reducible refine x_drop ?_ | with_reducible refine x_if ?_ | with_reducible refine x_asg ?_
  | with_reducible refine x_par ?_ | with_reducible refine x_par3 ?_ | with_reducible refine x_sfld ?_ | ((with_reducible show tVar _ _ _ _); refine x_var rfl ?_) | with_reducible refine x_c ?_ | with_reducible refine x_op ?_ | with_reducible refine x_un ?_
  | with_reducible refine x_chain ?_ | with_reducible refine x_andV ?_ | with_reducible refine x_orV ?_ | with_reducible refine x_notV ?_ | with_reducible refine x_ifE ?_ | with_reducible refine x_nil ?_ | with_reducible refine x_cons ?_ | with_reducible refine x_star ?_
  | with_reducible refine x_tup ?_ | with_reducible refine x_lst ?_ | with_reducible refine x_cb ?_ | with_reducible refine x_call ?_ | with_reducible refine x_meth ?_ | with_reducible refine x_methN ?_ | with_reducible refine x_makeG ?_ | with_reducible refine x_fld ?_ | with_reducible refine x_bm0 ?_ | with_reducible refine x_bm ?_
  | with_reducible refine x_sl ?_ | with_reducible refine x_no ?_ | with_reducible refine x_part ?_ | with_reducible refine x_rev ?_ | with_reducible refine x_fmtD ?_ | with_reducible refine x_test ?_ | with_reducible refine x_tB ?_ | with_reducible refine x_and ?_ | with_reducible refine x_or ?_ | with_reducible refine x_not ?_ | with_reducible refine x_yes ?_
  | with_reducible refine x_gname ?_ | with_reducible refine x_gtup ?_ | with_reducible refine x_gnil ?_ | with_reducible refine x_gcons ?_ | with_reducible refine x_gsub ?_ | with_reducible refine x_iList ?_ | with_reducible refine x_iStr ?_ | with_reducible refine x_iRng1 ?_ | with_reducible refine x_iEnumQ ?_
  | with_reducible refine x_lc ?_ | with_reducible refine x_dc ?_ | with_reducible refine x_iKeys ?_ | with_reducible refine x_iVals ?_ | with_reducible refine x_iItems ?_ | with_reducible refine x_forW ?_ | with_reducible refine x_iSeq ?_ | with_reducible refine x_ixO ?_
  | with_reducible refine x_prop ?_ | with_reducible refine x_makeKO ?_ | with_reducible refine x_makeKA ?_ | with_reducible refine x_M1 ?_ | with_reducible refine x_listVals ?_ | with_reducible refine x_listItems ?_ | with_reducible refine i_I0 ?_ | with_reducible refine i_U ?_ | with_reducible refine iteT ?_ | with_reducible refine iteF ?_ | with_reducible refine iteNT ?_ | with_reducible refine iteNF ?_ | with_reducible refine x_bl ?_ | with_reducible refine x_int ?_ | with_reducible refine i_add ?_ | with_reducible refine i_int1 ?_ | with_reducible refine i_abs ?_ | with_reducible refine i_max ?_ | with_reducible refine i_min ?_)
local macro_rules | `(tactic| walk_at "go") => `(tactic| repeat (first | walk_at "st" | dsimp only [Bool.not_true, Bool.not_false, List.nil_append, List.cons_append]))

section
variable {P : Program} {w : World} {K : PySem.W.Frag} {mg : Str → Option Value} {base : Heap}
def spLaw (K : PySem.W.Frag) : Sp := fun vs H Q _ => ∃ (a : Addr) (ns : List Int), vs = [.ref a] ∧ SqL K H a (ns.map V.int) ∧ ns.length ≤ 1000000 ∧ ∀ H', Q (.bl true) H'
theorem ok_law (T : Txt K mg) (B : Tabs K) : FnG P w K mg base 41 (d_law.at_ K) (fdOf K (d_law.at_ K)) ["script"] (spLaw K) := by
  have G_law_right := ok_law_right (P := P) (w := w) (base := base) T B
  have G_law_pot := ok_law_pot (P := P) (w := w) (base := base) T
  refine FnG.mk_of T.f_law sc_law (fun vs H Q E h => ?_) (fun cdv A outer s H vs Q E gu hr h => ?_)
  · obtain ⟨a, ns, rfl, _⟩ := h
    rfl
  · obtain ⟨a, ns, rfl, sq, hz, q⟩ := h
    have hu := hr.units
    refine ⟨_, (pss_one (ps_ret (pe_callB (cr_all rfl) (by rfl) T.b_all (by decide +kernel) (pa_cons (pe_lc (own := [("k", 1)]) rfl sc_law.nd (pi_range1 rfl T.b_range (pa_cons (pe_callB (call_maxX rfl) (by rfl) T.b_max (by decide +kernel) (pa_cons pe_int (pa_cons (pe_callB (call_minX rfl) (by rfl) T.b_min (by decide +kernel) (pa_cons pe_int (pa_cons (pe_callB call_lenX (by rfl) T.b_len (by decide +kernel) (pa_cons (pv 0) pa_nil)) pa_nil))) pa_nil))) pa_nil)) (blkOk_by (N := ["script", "k"]) (sc := defScope s_law) (by decide +kernel)) (fun _ _ _ _ _ => (pg_name (i := 1) sc_law.nd rfl (.inl rfl))) (fun _ _ _ _ _ => pts_nil) (fun _ _ _ _ _ => (pe_callG G_law_right gu (hr.mono (by decide)) rfl T.g_law_right T.f_law_right.kp (b_law_right T) .nil (pa_cons (pe_call G_law_pot (hr.mono (by decide)) rfl T.g_law_pot T.f_law_pot.kp (b_law_pot T) .nil pass0 (pa_cons (pv 0) (pa_cons (pv 1) pa_nil))) pa_nil)))) pa_nil)))), ?_⟩
    walk_at "go"
    refine i_lenQ (.inl sq) ?_
    walk_at "go"
    rw [List.length_map]
    obtain ⟨n, hn, hn4⟩ : ∃ n : Nat, (if (if ((ns.length : Nat) : Int) < 4 then ((ns.length : Nat) : Int) else 4) > 1 then (if ((ns.length : Nat) : Int) < 4 then ((ns.length : Nat) : Int) else 4) else 1) = (n : Int) ∧ n ≤ 4 :=
      ⟨(if (if ((ns.length : Nat) : Int) < 4 then ((ns.length : Nat) : Int) else 4) > 1 then (if ((ns.length : Nat) : Int) < 4 then ((ns.length : Nat) : Int) else 4) else 1).toNat, by split <;> split <;> omega, by split <;> split <;> omega⟩
    rw [hn]
    have c : (2 : Int) ^ 62 = 4611686018427387904 := rfl
    refine ⟨_, rfl, by omega, by omega, fun D hD => ?_⟩
    rw [Int.toNat_natCast]
    refine lc_P (K := K) (S := H) walk_range (fun _ => some (.bl true)) (Ex.refl H) hD (by omega) (fun _ _ _ => trivial) ?_ ?_
    · rintro i x S1 Hc Hc' Qe Nx hi gx ⟨rfl, rfl⟩ q1 q2
      simp only [Int.zero_add]
      walk_at "go"
      refine ⟨rfl, ?_⟩
      walk_at "go"
      refine ⟨a, ns, i, rfl, ex_l (gx.s.trans gx.i) sq, by omega, fun p x y hp x0 y0 y1 => ?_⟩
      walk_at "go"
      have gp := (Gr.newO (L := []) (o := .lst [.int x, .int y]) gx.i hp)
      refine ⟨S1, p, rfl, gp.i, ⟨fresh_back gx.i hp, x, y, x0, y0, y1, upd_same⟩, fun H6 g6 => ?_⟩
      exact q1 S1 H6 _ _ (gp.trans g6 fun z hz => .inr (by rw [List.mem_singleton.mp hz]; exact hp)) (.bl true) rfl
    · intro S5 H5 xs5 g5 s5 l5 dv5
      rw [fm_some (h' := fun (_ : Nat) => Dt.bl true) fun _ _ => rfl] at dv5
      rw [show ((List.range n).map fun _ => Dt.bl true) = ((List.range n).map fun _ => true).map Dt.bl by rw [List.map_map]; rfl] at dv5
      rw [dvAll_bls_inv dv5] at l5
      walk_at "go"
      refine ⟨D, (List.range n).map fun _ => true, rfl, sq_of l5, ?_⟩
      rw [show ((List.range n).map fun _ => true).all id = true by rw [List.all_map, List.all_eq_true]; exact fun _ _ => rfl]
      exact q _
end
end K31

set_option Elab.async false
set_option linter.all false
set_option maxRecDepth 100000
set_option maxHeartbeats 0
namespace K31
open PySem PySem.Spec PyProof.Rows L2 Gd
theorem tabs_of {K : PySem.W.Frag} (h : ex K = true) (clO : Cls K (CO K)) (clR : Cls K (CR K)) : Tabs K where
  kept H := tupAt_ok (all_at h (i := 0) rfl) H
  oc := ownB_ok (all_at h (i := 1) rfl) clO
  rc := ownB_ok (all_at h (i := 2) rfl) clR
  p_Order_house := propB_ok (all_at h (i := 3) rfl)
  p_Order_limit := propB_ok (all_at h (i := 4) rfl)
  p_Order_most := propB_ok (all_at h (i := 5) rfl)
end K31

set_option Elab.async false
set_option linter.all false
set_option maxRecDepth 100000
set_option maxHeartbeats 4000000
/-! G1: the law's end, for a law's def that is kept under known guards. -/
namespace Gd
open PySem PySem.Spec PyProof.Rows L2

section
variable {P : Program} {w : World} {K : PySem.W.Frag} {mg mb : Str → Option Value} {k : Nat} {fa a : Addr} {fd : FuncData} {x : Str} {sp : Sp} {s1 : Shared} {vs : List Value} {ns : List Int}
abbrev LawEnd (s1 : Shared) : Result → Shared → Prop := fun r s' => r = .ok (.ret (.bool true)) ∧ OldK s1.heap s'.heap ∧ s'.os = s1.os ∧ AllBare s'.gens
/-- the call at the heap behind the top, where H tracks the script alone, or nothing -/
theorem law_core (KX : K.In s1.heap) (hns : s1.heap.Ns mainGlobals mg) (hb : s1.heap.Ns builtinsNs mb) (hbb : ∀ x : Str, x ≠ "__name__" → mb x = bootBuiltins x) (lim : s1.heap.NoLimit) (ge : s1.gens = #[])
    (ha : s1.heap.get? a = some { cls := .type "list", data := .seq vs.toArray }) (hr : Room k callerA)
    (F : ∀ base : Heap, K.In base → base.Ns mainGlobals mg → FnG P w K mg base k fa fd [x] sp) (bi : ∀ (s : Shared) (u : Value), BindsTo s fd ⟨[u], []⟩ [(x, u)])
    (H : Hp) (hO : Only H) (hsp : sp [.ref a] H (fun v _ => v = .bl true) E0) (hok : HOk P w H s1.heap) (hA : ∀ b, H b ≠ none → b = a) (hK : H a ≠ none → K.lookup a = none) :
    codeAny (model P w) callerA (.call (.ref fa) ⟨[.ref a], []⟩) (LawEnd s1) s1 := by
  -- what stands apart from the script stands in the base
  have apart : ∀ {b : Addr} {o : Obj}, s1.heap.get? b = some o → b ≠ a → (hidT s1.heap H).get? b = some o := by
    intro b o e ne
    refine hidT_get e ?_
    cases q : H b with
    | none => rfl
    | some u => exact absurd (hA b (by rw [q]; exact fun z => nomatch z)) ne
  have nsB : ∀ {b : Addr} {m : Str → Option Value}, s1.heap.Ns b m → (hidT s1.heap H).Ns b m := by
    rintro b m ⟨o, es, ep, e, d, r⟩
    refine ⟨o, es, ep, apart e ?_, d, r⟩
    intro z
    rw [z, ha] at e
    cases e
    cases d
  have KB : K.In (hidT s1.heap H) := by
    intro b o e
    by_cases ne : b = a
    · have hn : H b = none := by
        cases q : H b with
        | none => rfl
        | some u =>
          have := hK (by rw [← ne, q]; exact fun z => nomatch z)
          rw [← ne, e] at this
          cases this
      exact hidT_get (KX b o e) hn
    · exact apart (KX b o e) ne
  obtain ⟨mc, l1, l2⟩ := lim
  have M : Mod K mg (hidT s1.heap H) := ⟨KB, nsB hns, ⟨mb, nsB hb, hbb⟩, mc, nsB l1, l2⟩
  have E0' : Env0 P w K mg (hidT s1.heap H) callerA [] s1 H :=
    { frames := rfl, mod := M, bs := fun b o z => of_hidT z, bsz := Nat.le_of_eq (hidT_size _ _), funs := trivial, frf := (fun b z => by cases z), hok := hok, bare := AllBare.of_eq ge }
  have go := (F _ KB (nsB hns)).go callerA [] s1 H ⟨[.ref a], []⟩ [.ref a] [.ref a] _ E0 rfl hr E0' (bi s1 (.ref a)) (Paired.cons rfl Paired.nil) hsp
  refine codeAny_mono go ?_
  intro r s' z
  match r, z with
  | .error e, z => exact False.elim z
  | .ok .next, z => exact False.elim z
  | .ok .brk, z => exact False.elim z
  | .ok .cont, z => exact False.elim z
  | .ok (.ret u), z =>
    obtain ⟨v, H', hos, hbare, un, hok', rel, hv⟩ := z
    have hv' : v = .bl true := hv
    subst hv'
    have hu : u = Value.bool true := rel
    subst hu
    refine ⟨rfl, OldK.of_keep ?_, hos, hbare⟩
    intro b o e
    cases q : H b with
    | none => exact un.keep b o e q (fun z => by cases z) (fun z => by cases z)
    | some u =>
      obtain z | ⟨ob, xs, z⟩ := hO b
      · rw [z] at q
        cases q
      · have e1 := (hok b _ z).1
        have e2 := (hok' b _ (un.frzs b ob _ z)).1
        rw [e] at e1
        cases e1
        exact e2

theorem law_callG (KX : K.In s1.heap) (hns : s1.heap.Ns mainGlobals mg) (hb : s1.heap.Ns builtinsNs mb) (hbb : ∀ x : Str, x ≠ "__name__" → mb x = bootBuiltins x) (lim : s1.heap.NoLimit) (ge : s1.gens = #[])
    (ha : s1.heap.get? a = some { cls := .type "list", data := .seq vs.toArray }) (hi : IntsAre vs ns) (hl : ns.length ≤ sizeLine) (hr : Room k callerA)
    (F : ∀ base : Heap, K.In base → base.Ns mainGlobals mg → FnG P w K mg base k fa fd [x] sp) (bi : ∀ (s : Shared) (u : Value), BindsTo s fd ⟨[u], []⟩ [(x, u)])
    (hsp : ∀ H : Hp, Only H → SqL K H a (ns.map V.int) → sp [.ref a] H (fun v _ => v = .bl true) E0) :
    codeAny (model P w) callerA (.call (.ref fa) ⟨[.ref a], []⟩) (LawEnd s1) s1 := by
  have rv := vals_ints hi
  have hn : vs.length = ns.length := by
    have := rv.length
    rw [List.length_map] at this
    exact this.symm
  cases hk : K.lookup a with
  | some o =>
    have e : some o = some _ := (KX a o hk).symm.trans ha
    cases e
    have hO : Only (fun _ => none) := fun _ => Or.inl rfl
    have sq : SqL K (fun _ => none) a (ns.map V.int) := .inr ⟨_, vs.toArray, _, hk, rfl, rfl, rfl, by rw [List.size_toArray, hn]; exact hl, by simpa using rv⟩
    exact law_core KX hns hb hbb lim ge ha hr F bi _ hO (hsp _ hO sq) (fun b u z => nomatch (show (none : Option HO) = some u from z)) (fun b z => absurd rfl z) (fun z => absurd rfl z)
  | none =>
    let sc : HO := .frz { cls := .type "list", data := .seq vs.toArray } (.lst (ns.map V.int))
    have hO : Only (fun b => if b = a then some sc else none) := fun b => by
      by_cases h : b = a
      · exact Or.inr ⟨_, _, if_pos h⟩
      · exact Or.inl (if_neg h)
    refine law_core KX hns hb hbb lim ge ha hr F bi _ hO (hsp _ hO (.inl (.inr ⟨_, if_pos rfl⟩))) ?_ ?_ (fun _ => hk)
    · intro b u z
      by_cases h : b = a
      · have e : some sc = some u := (if_pos h).symm.trans z
        cases e
        subst h
        exact ⟨ha, by rw [List.length_map]; exact hl, vs, _, rv, ha⟩
      · have e : (none : Option HO) = some u := (if_neg h).symm.trans z
        cases e
    · intro b z
      by_cases h : b = a
      · exact h
      · exact absurd (if_neg h) z
end

/-- a law's end over a head by facts: F gives the written part, the function object, the promise -/
theorem walk_G {l : PySem.W.OpenLaw} {n k : Nat} {q : Program} {loose : List Str} {XP : (Str → Option Value) → Heap → Prop} {YP : World → Heap → Prop} {d : DefRec} {x : Str}
    (hn : l.most = some n) (hn2 : n ≤ sizeLine) (hdf : d.params.defaults = []) (hr : Room k callerA)
    (F : ∀ (w : World) (mg : Str → Option Value) (fa : Addr) (h : Heap), YP w h → h.Ns mainGlobals mg → mg d.name = some (.ref fa) →
      ∃ (K : PySem.W.Frag) (fd : FuncData) (sp : Sp), K.In h ∧ (∀ (s : Shared) (u : Value), BindsTo s fd ⟨[u], []⟩ [(x, u)]) ∧
        (∀ (H : Hp) (a : Addr) (ns : List Int), ns.length ≤ n → Only H → SqL K H a (ns.map V.int) → sp [.ref a] H (fun v _ => v = .bl true) E0) ∧
        ∀ base : Heap, K.In base → base.Ns mainGlobals mg → FnG l.prog w K mg base k fa fd [x] sp) :
    PySem.W.WalkO q loose XP YP l.row.toRowW d [] (fun f vs => PySem.call f vs) := by
  refine Att.attach_call hn hdf ?_
  intro w s0 s1 mg mb fa o pm cd doc a vs ns G Y ho hd hcd hmg hobj hints hlen hg
  obtain ⟨K, fd, sp, KX, bi, hsp, hF⟩ := F w mg fa _ Y G.T.g hmg
  exact law_callG KX G.T.g G.T.b G.T.builtins G.T.nolimit hg hobj hints (Nat.le_trans hlen hn2) hr hF bi fun H hO hS => hsp H a ns hlen hO hS
end Gd

set_option Elab.async false
set_option linter.all false
set_option maxRecDepth 100000
set_option maxHeartbeats 0
namespace K31
open PySem PySem.Spec PyProof.Rows L2 Gd
theorem facts {P : Program} {w : World} {K : PySem.W.Frag} {h : Heap} {mg : Str → Option Value} {f : Addr} (X : K.In h) (G : h.Ns mainGlobals mg) (hfa : mg ("law" : Str) = some (.ref f)) (c : SaysEA fa fn ex K) :
    ∃ fd : FuncData, (∀ (s : Shared) (v : Value), BindsTo s fd ⟨[v], []⟩ [("script", v)]) ∧ ∀ base : Heap, FnG P w K mg base 41 f fd ["script"] (spLaw K) := by
  have T := txt_of X G c.1
  have B := tabs_of c.2 T.cl_Order T.cl_Round
  have e := hfa.symm.trans T.g_law
  cases e
  have b := FunD.bindsA (ps := ["script"]) T.f_law fun _ _ _ _ _ _ us hl => match us, hl with | [_], _ => rfl
  exact ⟨_, fun s v => b s [v] rfl, fun base => ok_law T B⟩
end K31
open PySem PySem.W PySem.Calls PyProof.Rows
theorem PySem.Challenge.cw_lateledger_k31_orders_and_rounds_told_holds : PySem.Challenge.rw_lateledger_k31_orders_and_rounds_told.Holds := by
  w_on; o_law
  refine HandSHeadRun.head_any (r := OpenLaw.row PySem.Challenge.rw_lateledger_k31_orders_and_rounds_told) (q := view (OpenLaw.row PySem.Challenge.rw_lateledger_k31_orders_and_rounds_told).prog [52]) (H := K31.hk) (ob := K31.ob) (M := 6000) (loose := K31.loose)
    (d := HandSHeadRun.topDef (OpenLaw.row PySem.Challenge.rw_lateledger_k31_orders_and_rounds_told).prog 52) (kwd := []) K31.ob_eq
    (by kernel_rfl) (fun s => by kernel_rfl) K31.run (by kernel_rfl) (by kernel_rfl) (by kernel_rfl) (by rfl) (by first | assumption | decide +kernel) (by decide +kernel) ⟨rfl, rfl, rfl, rfl, rfl, by decide +kernel⟩ ?hw ?hc
  case hw => w_witness2
  case hc =>
    refine Gd.walk_G (l := PySem.Challenge.rw_lateledger_k31_orders_and_rounds_told) (n := 63) (k := 41) (x := "script") rfl (by decide) (by kernel_rfl) ⟨rfl, by decide, by decide⟩ ?F
    intro w mg fa h Y G hmg0
    obtain ⟨K, KX, c⟩ := Y
    have hmg : mg ("law" : PySem.Str) = some (.ref fa) := by
      have e : (HandSHeadRun.topDef (OpenLaw.row PySem.Challenge.rw_lateledger_k31_orders_and_rounds_told).prog 52).name = ("law" : PySem.Str) := by kernel_rfl
      rw [← e]
      exact hmg0
    obtain ⟨fd, hb, hF⟩ := K31.facts (P := (PySem.Challenge.rw_lateledger_k31_orders_and_rounds_told).prog) (w := w) KX G hmg c
    exact ⟨K, fd, K31.spLaw K, KX, hb, fun H a ns hl _ hS => ⟨a, ns, rfl, hS, Nat.le_trans hl (by decide), fun _ => rfl⟩, fun base _ _ => hF base⟩

