import PyProof.Rows.All
import Wide.All
import OpenK.AllK
import Wide.FinOn
import KE.KStateDown
import HandS.ForMost
import HandS.Evl
import HandS.Star
import HandS.IsInst
import HandS.Defaults
import HandS.Flow
import HandS.TupAny
import HandS.Style
import HandS.FStr
import HandS.More
import HandS.Small
import HandS.Head0
import HandS.Head1
import HandS.Head2
import HandS.HeadEnd
import HandS.HeadHook1
import HandS.HeadHook2
import PyProof.ReprRoads
import KE.GoesEnum
import HandS.Walk
import HandS.Iter
import PyProof.TupleOfSeq
import PyProof.Rows.StrMeet
import HandS.MakeKwOnly
import HandS.MakeKw
import PySem.Challenge.RW_lateledger_k51_moves_told
set_option Elab.async false
set_option linter.all false
set_option maxRecDepth 100000
set_option maxHeartbeats 4000000
/-! G0: defs that run where no repr is under way (guards known): promise, body, call, the law's end. -/
namespace Gd
open PySem PySem.Spec PyProof.Rows L2

/-- a promise kept wherever no guard of a repr is up -/
structure FnG (P : Program) (w : World) (K : PySem.W.Frag) (mg : Str → Option Value) (base : Heap) (k : Nat) (f : Addr) (fd : FuncData) (ps : List Str) (sp : Sp) : Prop where
  arity : ∀ vs H Q E, sp vs H Q E → vs.length = ps.length
  go : ∀ (A : Around) (out : List Env) (s : Shared) (H : Hp) (ar : Args) (us : List Value) (vs : List V) (Q : VK) (E : XK),
    A.guards = some [] → Room k A → Env0 P w K mg base A out s H → BindsTo s fd ar (ps.zip us) → Vals vs us → sp vs H Q E →
    codeAny (model P w) A (.call (.ref f) ar) (CR CX0 out P w H s Q E) s

theorem FnG.of {P : Program} {w : World} {K : PySem.W.Frag} {mg : Str → Option Value} {base : Heap} {k : Nat} {f : Addr} {fd : FuncData} {ps : List Str} {sp : Sp}
    (F : FnOk P w K mg base CX0 k f fd ps sp) : FnG P w K mg base k f fd ps sp :=
  ⟨F.len, fun A out s H ar us vs Q E _ => F.run A out s H ar us vs Q E⟩

/-- the rule for a def's body under known guards -/
theorem FnG.mk_of {P : Program} {w : World} {K : PySem.W.Frag} {mg : Str → Option Value} {base : Heap} {k : Nat} {f : Addr} {nm q : Str} {pr : Arguments} {bd : List Stmt} {sc : Scope}
    {dvs : List V} {kws : List (Str × V)} {fd : FuncData} {N ps : List Str} {sp : Sp}
    (D : FunD K nm q pr bd sc dvs kws f fd) (S : FnScope N ps sc) (ar : ∀ vs H Q E, sp vs H Q E → vs.length = ps.length)
    (hb : ∀ (cdv : Value) (A : Around) (out : List Env) (s : Shared) (H : Hp) (vs : List V) (Q : VK) (E : XK),
      A.guards = some [] → Room k (A.deeper (envOfC q sc s.heap.objs.size f cdv)) → sp vs H Q E →
      ∃ t, PSs (cxOf CX0 P w K mg base N q sc f cdv A out s H E) bd t ∧ t { nx := fun _ H' => Q .non H', rt := Q } (start N vs) H) :
    FnG P w K mg base (k + 1) f fd ps sp := by
  obtain ⟨oc, od, dV, kV, doc, pm, an, cdv, ct, osl, rfl, lk, hcd, _, _⟩ := D.ex
  refine ⟨ar, ?_⟩
  intro A out s H args us vs Q E gu hr e0 bt rv hs
  have old : ∀ b o, base.get? b = some o → s.heap.get? b = some o := fun b o z => (e0.bs b o z).1
  have KI := e0.mod.kin.keeps old
  have par : ∀ y ∈ ps.zip us, sc.names.lookup y.1 = some .local ∨
      (sc.names.lookup y.1 = some .cell ∧ ((cellsFrom (s.heap.objs.size + 1) sc.names []).lookup y.1).isSome = true) := by
    rintro ⟨n, v⟩ hy
    have hm := S.par n (List.of_mem_zip hy).1
    exact hm.imp id fun c => ⟨c, PySem.W.cellsFrom_some _ _ _ (.inl c)⟩
  refine codeAny_call_function hr.depth (KI _ _ lk) rfl S.co S.gen rfl (PySem.W.codeRec_of KI hcd) (bt _ _ _ _ ?_)
  refine wpAny_newFunctionEnv_cells S.kind par fun env he s1 st => ?_
  subst he
  refine ⟨(e0.mod.nolimit.keeps old).keeps st.toInCall.keep, codeAny_func ?_⟩
  obtain ⟨t, ht, hq⟩ := hb cdv A out s H vs Q E gu (hr.deeper _) hs
  have J0 := inv_start (CX := CX0) (E := E) S hr.hd e0 (ar _ _ _ _ hs) rv st
  refine wpAny_mono (ht.run [] s1 _ H _ J0 hq) (fun fl s' z => ?_) (fun _ _ z => z)
  match fl, z with
  | .ret u, ⟨v, _, H', J, r, y⟩ => exact ⟨v, H', J.os, J.bare, J.base, J.hok, r, y⟩
  | .next, ⟨_, H', J, y⟩ => exact ⟨.non, H', J.os, J.bare, J.base, J.hok, rfl, y⟩
  | .brk, ⟨_, _, _, y⟩ => exact y.elim
  | .cont, ⟨_, _, _, y⟩ => exact y.elim

section
variable {X : Cx} {k : Nat} {f : Addr} {fd : FuncData} {ps : List Str} {sp : Sp} {dvs : List V} {ds : List Value}
/-- a call of such a def, around another A -/
theorem FnG.callAt {A : Around} (F : FnG X.prog X.w X.K X.mg X.base k f fd ps sp) (fr : A.frames = X.A.frames) (gu : A.guards = some []) (hr : Room k A) (bi : Binds X.K fd ps ds) (hd : Vals dvs ds)
    {pins : List (Addr × Obj)} {σ : L2.St} {H : Hp} {s : Shared} {Q : VK} {us : List Value} {vs : List V} (I : Inv X pins σ H s) (r : Vals vs us) (h : sp (vs ++ dvs) H Q E0) :
    wpAny (model X.prog X.w) A (call (.ref f) us) (EP X pins σ Q) X.xe s := by
  have r2 := r.append hd
  have hl := F.arity _ _ _ _ h
  rw [r2.length] at hl
  have e := I.env0
  have e0 : Env0 X.prog X.w X.K X.mg X.base A X.stack s H := ⟨fr.trans e.frames, e.mod, e.bs, e.bsz, e.funs, e.frf, e.hok, e.bare⟩
  refine wpAny_call (codeAny_mono (F.go A X.stack s H ⟨us, []⟩ _ _ Q E0 gu hr e0 (bi s us I.kIn hl) r2 h) ?_)
  intro res s' z
  match res, z with
  | .ok (.ret u), z => exact I.after z
  | .ok .next, z => exact False.elim z
  | .ok .brk, z => exact False.elim z
  | .ok .cont, z => exact False.elim z
  | .error e, z => exact False.elim z
/-- f(e, ..) where no guard is up -/
theorem pe_callG {x : Str} {p pos : Pos} {e : Expr} {es : List Expr} {t : TA} (F : FnG X.prog X.w X.K X.mg X.base k f fd ps sp) (gu : X.A.guards = some []) (hr : Room k X.A) (hg : Gl X x) (hm : X.mg x = some (.ref f)) (hk : PySem.W.keepIn X.K (.ref f) = true)
    (bi : Binds X.K fd ps ds) (hd : Vals dvs ds) (ha : PA X (e :: es) t) (hdb : (x == ("__debug__" : Str)) = false := by decide)
    (he : starEach (e :: es) X.env = (false, eval e X.env) :: starEach es X.env := by rfl) (hpl : (backTo pos (starEach es X.env)).any (·.1) = false := by rfl) :
    PE X (.Call (.Name x p) (e :: es) [] pos) (tCall sp dvs E0 t) := by
  constructor
  intro pins s σ H Q I h
  refine wpAny_Call_Name_kw (ld_glob I hg hm (PySem.W.callWith_K (h₀ := X.base) I.ok.mod.kin hk ?_ he hpl) hdb)
  refine thn (ha.run pos pins s σ H _ I h) ?_
  rintro us s1 ⟨vs, H1, I1, r, z⟩
  exact ⟨I1.kIn, F.callAt rfl gu hr bi hd I1 r z⟩
end

/-! ### a head by facts, with one Bool of one's own -/
abbrev AlE : Type := He.AlD × Bool
def obsE (n : Nat) (fa : List He.Fa) (fn : List He.DefD) (ex : PySem.W.Frag → Bool) (g : Addr → Option Obj) : AlE :=
  (He.obsD fa fn (He.frG g (He.asD g n)), ex (He.frG g (He.asD g n)))
def SaysE (fa : List He.Fa) (fn : List He.DefD) (ex : PySem.W.Frag → Bool) (K : PySem.W.Frag) : Prop := He.SaysD fa fn K ∧ ex K = true
def hookE (n : Nat) (fa : List He.Fa) (fn : List He.DefD) (ex : PySem.W.Frag → Bool) : PySem.W.Hook where
  α := AlE
  obs := fun s => obsE n fa fn ex s.heap.get?
  val := fun _ => (He.valD fn, true)
  says := fun _ h => ∃ K : PySem.W.Frag, K.In h ∧ SaysE fa fn ex K
  of := fun _ _ e => ⟨_, He.frG_in, congrArg (fun z : AlE => z.1) e, congrArg (fun z : AlE => z.2) e⟩
  keeps := fun _ _ _ ⟨K, hK, c⟩ k => ⟨K, hK.keeps k, c⟩
theorem obsE_eq {n : Nat} {fa : List He.Fa} {fn : List He.DefD} {ex : PySem.W.Frag → Bool} {g : Addr → Option Obj} {s : Shared} (h : ∀ a, g a = s.heap.get? a) :
    obsE n fa fn ex g = (hookE n fa fn ex).obs s := by
  have e : g = s.heap.get? := funext h
  rw [e]; rfl
/-- at a stands a tuple of these -/
def tupAt (K : PySem.W.Frag) (a : Addr) (vs : List He.Dv) : Bool := match K.lookup a with
  | some ⟨.type c, _, .seq its _, _⟩ => decide (c = "tuple") && (decide (its.size ≤ sizeLine) && He.relAll (vs.map (He.Dv.v K)) its.toList)
  | _ => false
theorem tupAt_ok {K : PySem.W.Frag} {a : Addr} {vs : List He.Dv} (h : tupAt K a vs = true) (H : Hp) : SqT K H a (vs.map (He.Dv.v K)) := by
  unfold tupAt at h
  split at h
  · rename_i c d its n sl q
    simp only [Bool.and_eq_true, decide_eq_true_eq] at h
    exact .inr ⟨_, its, n, q, congrArg Value.type h.1, rfl, h.2.1, He.relAll_ok h.2.2⟩
  · cases h
end Gd

set_option Elab.async false
set_option linter.all false
set_option maxRecDepth 100000
set_option maxHeartbeats 4000000
/-! G1: the law's end, for a law's def that is kept under known guards. -/
namespace Gd
open PySem PySem.Spec PyProof.Rows L2

section
variable {P : Program} {w : World} {K : PySem.W.Frag} {mg mb : Str → Option Value} {k : Nat} {fa a : Addr} {fd : FuncData} {x : Str} {sp : Sp} {s1 : Shared} {vs : List Value} {ns : List Int}
abbrev LawEnd (s1 : Shared) : Result → Shared → Prop := fun r s' => r = .ok (.ret (.bool true)) ∧ OldK s1.heap s'.heap ∧ s'.os = s1.os ∧ AllBare s'.gens
/-- the call at the heap behind the top, where H tracks the script alone, or nothing -/
theorem law_core (KX : K.In s1.heap) (hns : s1.heap.Ns mainGlobals mg) (hb : s1.heap.Ns builtinsNs mb) (hbb : ∀ x : Str, x ≠ "__name__" → mb x = bootBuiltins x) (lim : s1.heap.NoLimit) (ge : s1.gens = #[])
    (ha : s1.heap.get? a = some { cls := .type "list", data := .seq vs.toArray }) (hr : Room k callerA)
    (F : ∀ base : Heap, K.In base → base.Ns mainGlobals mg → FnG P w K mg base k fa fd [x] sp) (bi : ∀ (s : Shared) (u : Value), BindsTo s fd ⟨[u], []⟩ [(x, u)])
    (H : Hp) (hO : Only H) (hsp : sp [.ref a] H (fun v _ => v = .bl true) E0) (hok : HOk P w H s1.heap) (hA : ∀ b, H b ≠ none → b = a) (hK : H a ≠ none → K.lookup a = none) :
    codeAny (model P w) callerA (.call (.ref fa) ⟨[.ref a], []⟩) (LawEnd s1) s1 := by
  -- what stands apart from the script stands in the base
  have apart : ∀ {b : Addr} {o : Obj}, s1.heap.get? b = some o → b ≠ a → (hidT s1.heap H).get? b = some o := by
    intro b o e ne
    refine hidT_get e ?_
    cases q : H b with
    | none => rfl
    | some u => exact absurd (hA b (by rw [q]; exact fun z => nomatch z)) ne
  have nsB : ∀ {b : Addr} {m : Str → Option Value}, s1.heap.Ns b m → (hidT s1.heap H).Ns b m := by
    rintro b m ⟨o, es, ep, e, d, r⟩
    refine ⟨o, es, ep, apart e ?_, d, r⟩
    intro z
    rw [z, ha] at e
    cases e
    cases d
  have KB : K.In (hidT s1.heap H) := by
    intro b o e
    by_cases ne : b = a
    · have hn : H b = none := by
        cases q : H b with
        | none => rfl
        | some u =>
          have := hK (by rw [← ne, q]; exact fun z => nomatch z)
          rw [← ne, e] at this
          cases this
      exact hidT_get (KX b o e) hn
    · exact apart (KX b o e) ne
  obtain ⟨mc, l1, l2⟩ := lim
  have M : Mod K mg (hidT s1.heap H) := ⟨KB, nsB hns, ⟨mb, nsB hb, hbb⟩, mc, nsB l1, l2⟩
  have E0' : Env0 P w K mg (hidT s1.heap H) callerA [] s1 H :=
    { frames := rfl, mod := M, bs := fun b o z => of_hidT z, bsz := Nat.le_of_eq (hidT_size _ _), funs := trivial, frf := (fun b z => by cases z), hok := hok, bare := AllBare.of_eq ge }
  have go := (F _ KB (nsB hns)).go callerA [] s1 H ⟨[.ref a], []⟩ [.ref a] [.ref a] _ E0 rfl hr E0' (bi s1 (.ref a)) (Paired.cons rfl Paired.nil) hsp
  refine codeAny_mono go ?_
  intro r s' z
  match r, z with
  | .error e, z => exact False.elim z
  | .ok .next, z => exact False.elim z
  | .ok .brk, z => exact False.elim z
  | .ok .cont, z => exact False.elim z
  | .ok (.ret u), z =>
    obtain ⟨v, H', hos, hbare, un, hok', rel, hv⟩ := z
    have hv' : v = .bl true := hv
    subst hv'
    have hu : u = Value.bool true := rel
    subst hu
    refine ⟨rfl, OldK.of_keep ?_, hos, hbare⟩
    intro b o e
    cases q : H b with
    | none => exact un.keep b o e q (fun z => by cases z) (fun z => by cases z)
    | some u =>
      obtain z | ⟨ob, xs, z⟩ := hO b
      · rw [z] at q
        cases q
      · have e1 := (hok b _ z).1
        have e2 := (hok' b _ (un.frzs b ob _ z)).1
        rw [e] at e1
        cases e1
        exact e2

theorem law_callG (KX : K.In s1.heap) (hns : s1.heap.Ns mainGlobals mg) (hb : s1.heap.Ns builtinsNs mb) (hbb : ∀ x : Str, x ≠ "__name__" → mb x = bootBuiltins x) (lim : s1.heap.NoLimit) (ge : s1.gens = #[])
    (ha : s1.heap.get? a = some { cls := .type "list", data := .seq vs.toArray }) (hi : IntsAre vs ns) (hl : ns.length ≤ sizeLine) (hr : Room k callerA)
    (F : ∀ base : Heap, K.In base → base.Ns mainGlobals mg → FnG P w K mg base k fa fd [x] sp) (bi : ∀ (s : Shared) (u : Value), BindsTo s fd ⟨[u], []⟩ [(x, u)])
    (hsp : ∀ H : Hp, Only H → SqL K H a (ns.map V.int) → sp [.ref a] H (fun v _ => v = .bl true) E0) :
    codeAny (model P w) callerA (.call (.ref fa) ⟨[.ref a], []⟩) (LawEnd s1) s1 := by
  have rv := vals_ints hi
  have hn : vs.length = ns.length := by
    have := rv.length
    rw [List.length_map] at this
    exact this.symm
  cases hk : K.lookup a with
  | some o =>
    have e : some o = some _ := (KX a o hk).symm.trans ha
    cases e
    have hO : Only (fun _ => none) := fun _ => Or.inl rfl
    have sq : SqL K (fun _ => none) a (ns.map V.int) := .inr ⟨_, vs.toArray, _, hk, rfl, rfl, rfl, by rw [List.size_toArray, hn]; exact hl, by simpa using rv⟩
    exact law_core KX hns hb hbb lim ge ha hr F bi _ hO (hsp _ hO sq) (fun b u z => nomatch (show (none : Option HO) = some u from z)) (fun b z => absurd rfl z) (fun z => absurd rfl z)
  | none =>
    let sc : HO := .frz { cls := .type "list", data := .seq vs.toArray } (.lst (ns.map V.int))
    have hO : Only (fun b => if b = a then some sc else none) := fun b => by
      by_cases h : b = a
      · exact Or.inr ⟨_, _, if_pos h⟩
      · exact Or.inl (if_neg h)
    refine law_core KX hns hb hbb lim ge ha hr F bi _ hO (hsp _ hO (.inl (.inr ⟨_, if_pos rfl⟩))) ?_ ?_ (fun _ => hk)
    · intro b u z
      by_cases h : b = a
      · have e : some sc = some u := (if_pos h).symm.trans z
        cases e
        subst h
        exact ⟨ha, by rw [List.length_map]; exact hl, vs, _, rv, ha⟩
      · have e : (none : Option HO) = some u := (if_neg h).symm.trans z
        cases e
    · intro b z
      by_cases h : b = a
      · exact h
      · exact absurd (if_neg h) z
end

/-- a law's end over a head by facts: F gives the written part, the function object, the promise -/
theorem walk_G {l : PySem.W.OpenLaw} {n k : Nat} {q : Program} {loose : List Str} {XP : (Str → Option Value) → Heap → Prop} {YP : World → Heap → Prop} {d : DefRec} {x : Str}
    (hn : l.most = some n) (hn2 : n ≤ sizeLine) (hdf : d.params.defaults = []) (hr : Room k callerA)
    (F : ∀ (w : World) (mg : Str → Option Value) (fa : Addr) (h : Heap), YP w h → h.Ns mainGlobals mg → mg d.name = some (.ref fa) →
      ∃ (K : PySem.W.Frag) (fd : FuncData) (sp : Sp), K.In h ∧ (∀ (s : Shared) (u : Value), BindsTo s fd ⟨[u], []⟩ [(x, u)]) ∧
        (∀ (H : Hp) (a : Addr) (ns : List Int), ns.length ≤ n → Only H → SqL K H a (ns.map V.int) → sp [.ref a] H (fun v _ => v = .bl true) E0) ∧
        ∀ base : Heap, K.In base → base.Ns mainGlobals mg → FnG l.prog w K mg base k fa fd [x] sp) :
    PySem.W.WalkO q loose XP YP l.row.toRowW d [] (fun f vs => PySem.call f vs) := by
  refine Att.attach_call hn hdf ?_
  intro w s0 s1 mg mb fa o pm cd doc a vs ns G Y ho hd hcd hmg hobj hints hlen hg
  obtain ⟨K, fd, sp, KX, bi, hsp, hF⟩ := F w mg fa _ Y G.T.g hmg
  exact law_callG KX G.T.g G.T.b G.T.builtins G.T.nolimit hg hobj hints (Nat.le_trans hlen hn2) hr hF bi fun H hO hS => hsp H a ns hlen hO hS
end Gd

set_option Elab.async false
set_option linter.all false
set_option maxRecDepth 100000
set_option maxHeartbeats 4000000
/-! G2: repr of data and of own instances, ==, !=, +, len by own methods. -/
namespace Gd
open PySem PySem.Spec PyProof.Rows L2
open PySem.W (findIn isFn notFirst subIn selfFirst)

/-! ### data hold no dicts -/
mutual
theorem dp_noDict {K : PySem.W.Frag} {H : Hp} : ∀ (d : PyData) (v : V), Dp K H v d → d.hasDict = false
  | .none, _, _ => by simp [PyData.hasDict]
  | .bool _, _, _ => by simp [PyData.hasDict]
  | .int _, _, _ => by simp [PyData.hasDict]
  | .str _, _, _ => by simp [PyData.hasDict]
  | .list ds, _, h => by
    cases h with
    | lst _ a => simp only [PyData.hasDict]; exact dp_noDictAll ds _ a
  | .tuple ds, _, h => by
    cases h with
    | tup _ a => simp only [PyData.hasDict]; exact dp_noDictAll ds _ a
  | .dict _, _, h => by cases h
theorem dp_noDictAll {K : PySem.W.Frag} {H : Hp} : ∀ (ds : List PyData) (vs : List V), DpAll K H vs ds → PyData.hasDictAll ds = false
  | [], _, _ => by simp [PyData.hasDictAll]
  | d :: ds, _, h => by
    cases h with
    | cons h1 h2 => simp only [PyData.hasDictAll, dp_noDict d _ h1, dp_noDictAll ds _ h2, Bool.or_false]
end

/-- what may be shown: its text fits, its depth is small -/
structure Shows (d : PyData) : Prop where
  sh : d.showable = true
  dep : d.depth ≤ 50
  len : d.shown.length ≤ 1000000

section
variable {X : Cx}
theorem line_big : (1000000 : Nat) ≤ sizeLine := by rw [sizeLine_eq]; decide
/-- repr(x), x a list or a tuple of data -/
def rReprD (K : PySem.W.Frag) : List V → Hp → VK → Prop := fun xs H Q => ∃ a d, xs = [.ref a] ∧ Dp K H (.ref a) d ∧ Shows d ∧ Q (.str d.shown) H
theorem call_repr_d (gu : X.A.guards = some []) (hu : X.A.units + 64 < cLine) : CallR X (.builtin "repr") (rReprD X.K) := by
  intro pins s σ H xs us Q I r h
  obtain ⟨a, d, rfl, hd, hs, q⟩ := h
  rw [Vals.ref1 r]
  obtain ⟨as, rd⟩ := Dp.reads I d _ (.ref a) hd rfl
  refine repr_of_reads' rd hs.sh (fun z => by rw [dp_noDict d _ hd] at z; cases z) gu (by have := hs.dep; omega) (fun _ _ e => e) (fun h' u tk k => ?_) (Nat.le_trans hs.len line_big)
  exact ⟨.str d.shown, H, I.kept k, ⟨_, rfl⟩, q⟩
/-- {x!r}, x a list or a tuple of data -/
def tFmtD (K : PySem.W.Frag) (te : TE) : TE := fun σ H Q => te σ H fun x H1 => ∃ a d, x = .ref a ∧ Dp K H1 (.ref a) d ∧ Shows d ∧ Q (.str d.shown) H1
theorem pe_fmtD {e : Expr} {te : TE} {pos : Pos} (gu : X.A.guards = some []) (hu : X.A.units + 64 < cLine) (he : PE X e te) : PE X (.FormattedValue e 114 none pos) (tFmtD X.K te) := by
  constructor
  intro pins s σ H Q I h
  refine wpAny_FormattedValue_repr (thn (he.run pins s σ H _ I h) ?_)
  rintro v s1 ⟨x, H1, I1, r1, a, d, rfl, hd, hs, q⟩
  have e1 : v = Value.ref a := r1
  subst e1
  obtain ⟨as, rd⟩ := Dp.reads I1 d _ (.ref a) hd rfl
  have hz := Nat.le_trans hs.len line_big
  refine pyReprObj_of_reads rd hs.sh (fun z => by rw [dp_noDict d _ hd] at z; cases z) gu (by have := hs.dep; omega) (fun _ _ e => e) (fun h' u tk k => ?_) hz
  have I2 := I1.kept (t' := tk) k
  exact wpAny_formatField_str ⟨.str d.shown, H1, I2.tok _, ⟨_, rfl⟩, q⟩ ⟨.str d.shown, H1, I2.tok _, ⟨_, rfl⟩, q⟩ hz

section
variable {C f : Addr} {fd : FuncData} {ps : List Str} {sp : Sp} {k : Nat}
/-- repr(x), x an instance whose class has a __repr__ -/
def rReprO (C : Addr) (sp : Sp) : List V → Hp → VK → Prop := fun xs H Q => ∃ a dx fs, xs = [.ref a] ∧ H a = some (.ins C dx fs) ∧ sp [.ref a] H (fun v H' => ∃ t, v = .str t ∧ Q (.str t) H') E0
theorem call_repr_o (gu : X.A.guards = some []) (F : FnG X.prog X.w X.K X.mg X.base k f fd ps sp) (hr : Room (k + 1) X.A) (bi : Binds X.K fd ps [])
    (hs : findIn X.K (.ref C) "__repr__" = some (some (.ref f))) (hf : isFn X.K (.ref f) = true) : CallR X (.builtin "repr") (rReprO C sp) := by
  intro pins s σ H xs us Q I r h
  obtain ⟨a, dx, fs, rfl, ha, q⟩ := h
  rw [Vals.ref1 r]
  obtain ⟨mA, J, _⟩ := ins_get I.hok ha
  obtain ⟨od, J, _⟩ := J.look
  obtain ⟨m, hF⟩ := I.fr
  refine PySem.W.repr_K (Room.in1 hr).units0 hF I.ok.mod.kin J hs hf ?_
  refine thn (F.callAt (A := X.A.in1) (ds := []) rfl gu (Room.in1 hr) bi .nil I (show Vals [V.ref a] [Value.ref a] from .cons rfl .nil) (by rw [List.append_nil]; exact q)) ?_
  rintro u s' ⟨v, H', I', rv, t, rfl, q'⟩
  obtain ⟨tk, rfl⟩ := rv
  exact ⟨.str t, H', I', ⟨tk, rfl⟩, q'⟩

/-- x == y by x's own __eq__ (which gives a truth value) -/
def rEqO (K : PySem.W.Frag) (C : Addr) (sp : Sp) : R2 := fun x y H Q => ∃ a dx fs tb, x = .ref a ∧ H a = some (.ins C dx fs) ∧ TyX K H y tb ∧ notFirst K C tb = true ∧ sp [x, y] H (fun v H' => ∃ b, v = .bl b ∧ Q (.bl b) H') E0
theorem op_eqO (gu : X.A.guards = some []) (F : FnG X.prog X.w X.K X.mg X.base k f fd ps sp) (hr : Room k X.A) (bi : Binds X.K fd ps [])
    (hs : findIn X.K (.ref C) "__eq__" = some (some (.ref f))) (hf : isFn X.K (.ref f) = true) : OpR X (compareOp .Eq) (rEqO X.K C sp) := by
  intro pins s σ H x y v u Q I rx ry h
  obtain ⟨a, dx, fs, tb, rfl, ha, ty, nf, q⟩ := h
  have e1 : v = Value.ref a := rx
  subst e1
  obtain ⟨mA, J, _⟩ := ins_get I.hok ha
  obtain ⟨od, J, _⟩ := J.look
  obtain ⟨m, hF⟩ := I.fr
  obtain ⟨Pk, kk, pk, _⟩ := kit_of I ry ty
  show wpAny (model X.prog X.w) X.A (richCompare .Eq (Value.ref a) u) (EP X pins σ Q) X.xe s
  refine PySem.W.cmp_K (op := .Eq) hr.units0 hF I.ok.mod.kin J (kk.ty _ _ I.kIn pk) nf hs hf ?_
  refine thn (F.callAt (ds := []) rfl gu hr bi .nil I (show Vals [V.ref a, y] [Value.ref a, u] from .cons rfl (.cons ry .nil)) (by rw [List.append_nil]; exact q)) ?_
  rintro u' s' ⟨v', H', I', rv, b, rfl, q'⟩
  have e2 : u' = Value.bool b := rv
  subst e2
  exact ⟨.bl b, H', I', rfl, q'⟩

theorem ifBound_B {M : Model} {A : Around} {E : Value → Shared → Prop} {s : Shared} {x C : Addr} {ox : Obj} {od : Option Obj} {name : Str} {id : String} {args : List Value} {Q : Option Value → Shared → Prop}
    (XK : X.K.In s.heap) (J : PySem.W.InstAt s.heap x ox C od) (hs : findIn X.K (.ref C) name = some (some (.builtin id))) (S : Slot "object" name id)
    (h : wpAny M A (call (.builtin id) (.ref x :: args)) (fun v => Q (some v)) E s) : wpAny M A (callSpecialIfBound? (.ref x) name args) Q E s := by
  have fin : wpAny M A (call (.builtin id) ([.ref x] ++ args) >>= fun v => pure (some v)) Q E s := wpAny_bind (wpAny_mono h (fun _ _ z => wpAny_pure z) fun _ _ z => z)
  simp only [callSpecialIfBound?, bindSpecialIfBound?]
  refine wpAny_holding (wpAny_bind (wpAny_bind (wpAny_bind (J.type.here ((PySem.W.looks_findIn XK hs).here ?_)))))
  simp only [S.bind]
  refine wpAny_bind (wpAny_askSetting (wpAny_ite ?_))
  split
  · exact wpAny_bind (wpAny_pure (wpAny_pure fin))
  · exact wpAny_tryCatch (wpAny_bind (wpAny_pure (wpAny_pure fin)))

theorem ne_body {A : Around} {E : Value → Shared → Prop} {s : Shared} {x C : Addr} {ox : Obj} {od : Option Obj} {y : Value} {Q : Fin → Shared → Prop}
    (XK : X.K.In s.heap) (J : PySem.W.InstAt s.heap x ox C od) (hs : findIn X.K (.ref C) "__eq__" = some (some (.ref f))) (hf : isFn X.K (.ref f) = true) (hu : A.units < cLine)
    (h : wpAny (model X.prog X.w) A (call (.ref f) [.ref x, y]) (fun v s' => ∃ b, v = .bool b ∧ Q (.done (.ret (.bool (!b)))) s') E s) :
    wpAny (model X.prog X.w) A (Builtin.«object.__ne__» ⟨[.ref x, y], []⟩) Q E s := by
  have one : wpAny (model X.prog X.w) A (callSpecialIfBound? (.ref x) (Str.ofString "__eq__") [y]) (fun r s' => ∃ b, r = some (.bool b) ∧ Q (.done (.ret (.bool (!b)))) s') E s := by
    refine PySem.W.ifBound_K XK J hs hf (wpAny_mono h (fun v s' z => ?_) fun _ _ z => z)
    obtain ⟨b, rfl, q⟩ := z
    exact ⟨b, rfl, q⟩
  obtain ⟨hh, g, d, t, os⟩ := s
  unfold Builtin.«object.__ne__»
  repeat (first
    | with_reducible refine wpAny_cRoomFor hu ?_
    | (refine wpAny_bind (m := callSpecialIfBound? (.ref x) (Str.ofString "__eq__") [y]) (wpAny_mono one (fun r s' z => ?_) fun _ _ z => z))
    | wp_step)
  obtain ⟨b, rfl, q⟩ := z
  obtain ⟨hh', g', d', t', os'⟩ := s'
  repeat (first | exact q | exact wpAny_pure q | exact wpAny_truthy_bool q | (refine wpAny_bind (m := truthy (.bool _)) (wpAny_truthy_bool ?_)) | wp_step)
end
end
end Gd

set_option Elab.async false
set_option linter.all false
set_option maxRecDepth 100000
set_option maxHeartbeats 4000000
/-! G3: !=, +, len by own methods. -/
namespace Gd
open PySem PySem.Spec PyProof.Rows L2
open PySem.W (findIn isFn notFirst subIn selfFirst Looks InstAt looks_subIn looks_findIn)

section
variable {X : Cx} {C f : Addr} {fd : FuncData} {ps : List Str} {sp : Sp} {k : Nat}
/-- an instance's comparison, from what its own method says (not a subclass's on the right) -/
theorem rc_core {A : Around} {E : Value → Shared → Prop} {s : Shared} {x : Addr} {b tb : Value} {ox : Obj} {od : Option Obj} {op : CmpOp} {Q : Value → Shared → Prop} (XK : X.K.In s.heap) (J : InstAt s.heap x ox C od) (hu : A.units < cLine)
    (hb : Looks (model X.prog X.w) s.heap (typeOf b) tb) (nf : notFirst X.K C tb = true)
    (one : wpAny (model X.prog X.w) A (tryCompare (.ref x) (cmpInfo op).2.1 b) (fun r s' => ∃ v, r = some v ∧ Q v s') E s) : wpAny (model X.prog X.w) A (richCompare op (.ref x) b) Q E s := by
  have rest : wpAny (model X.prog X.w) A (do
      if let some v ← tryCompare (.ref x) (cmpInfo op).2.1 b then return v
      if let some v ← tryCompare b (cmpInfo op).2.2 (.ref x) then return v
      match op with
      | .Eq => rule "compare.eq-identity"; return .bool (← isSame (.ref x) b)
      | .NotEq => rule "compare.ne-identity"; return .bool (!(← isSame (.ref x) b))
      | _ =>
        rule "compare.unsupported"
        raiseError "TypeError" s!"'{(cmpInfo op).1}' not supported between instances of '{← typeNameOf (.ref x)}' and '{← typeNameOf b}'") Q E s := by
    refine wpAny_bind (wpAny_mono one ?_ fun _ _ z => z)
    rintro r s' ⟨v, rfl, q⟩
    exact wpAny_pure q
  unfold richCompare
  simp only [oneThing_ref]
  refine wpAny_holding (wpAny_bind (wpAny_cRoomFor hu ?_))
  refine wpAny_bind (J.type.here (wpAny_bind (hb.here ?_)))
  by_cases e : tb = .ref C
  · have e1 : (Value.ref C != tb) = false := by rw [e]; simp
    simp only [e1, Bool.false_eq_true, if_false]
    exact wpAny_bind (wpAny_pure rest)
  · have e1 : (Value.ref C != tb) = true := by
      rw [bne_iff_ne]
      exact fun z => e z.symm
    have sub : subIn X.K tb (.ref C) = some false := by
      unfold notFirst at nf
      rw [beq_eq_false_iff_ne.mpr e, Bool.false_or] at nf
      exact beq_iff_eq.mp nf
    simp only [e1, if_true]
    refine wpAny_bind ((looks_subIn XK sub).here ?_)
    simp only [Bool.false_eq_true, if_false]
    exact rest

/-- a call of object.__ne__ of an instance -/
theorem ne_call {A : Around} {E : Value → Shared → Prop} {s : Shared} {x : Addr} {ox : Obj} {od : Option Obj} {y : Value} {Q : Value → Shared → Prop}
    (XK : X.K.In s.heap) (J : InstAt s.heap x ox C od) (hob : subIn X.K (.ref C) (.type "object") = some true) (hs : findIn X.K (.ref C) "__eq__" = some (some (.ref f))) (hf : isFn X.K (.ref f) = true) (hu : A.units + 1 < cLine)
    (h : wpAny (model X.prog X.w) A.in1 (call (.ref f) [.ref x, y]) (fun v s' => ∃ b, v = .bool b ∧ Q (.bool (!b)) s') E s) :
    wpAny (model X.prog X.w) A (call (.builtin "object.__ne__") [.ref x, y]) Q E s := by
  refine wpAny_call (codeAny_call_builtin PySem.F.cmp_object.ne.plain PySem.F.cmpEntry_ne ?_)
  have body := ne_body (A := A.in1) (Q := fun fin s' => match fin with | .done f => wants Q E (.ok f) s' | .again c' => c'.quiet = true ∧ codeAny (model X.prog X.w) A c' (wants Q E) s') XK J hs hf hu (wpAny_mono h (fun v s' z => by
    obtain ⟨b, rfl, q⟩ := z
    exact ⟨b, rfl, q⟩) fun _ _ z => z)
  simp only [checkBuiltinCall, PySem.F.cmpKind_ne, PySem.F.cmpSplit_ne]
  refine wpAny_bind (wpAny_bind ?_)
  refine J.type.here ((looks_subIn XK hob).here ?_)
  simp only [Bool.not_true, Bool.false_eq_true, if_false]
  refine wpAny_pure ?_
  exact body

/-- x != y by x's own __eq__ -/
def rNeO (K : PySem.W.Frag) (C : Addr) (sp : Sp) : R2 := fun x y H Q => ∃ a dx fs tb, x = .ref a ∧ H a = some (.ins C dx fs) ∧ TyX K H y tb ∧ notFirst K C tb = true ∧ sp [x, y] H (fun v H' => ∃ b, v = .bl b ∧ Q (.bl (!b)) H') E0
theorem op_neO (gu : X.A.guards = some []) (F : FnG X.prog X.w X.K X.mg X.base k f fd ps sp) (hr : Room (k + 1) X.A) (bi : Binds X.K fd ps [])
    (hob : subIn X.K (.ref C) (.type "object") = some true) (hne : findIn X.K (.ref C) "__ne__" = some (some (.builtin "object.__ne__")))
    (hs : findIn X.K (.ref C) "__eq__" = some (some (.ref f))) (hf : isFn X.K (.ref f) = true) : OpR X (compareOp .NotEq) (rNeO X.K C sp) := by
  intro pins s σ H x y v u Q I rx ry h
  obtain ⟨a, dx, fs, tb, rfl, ha, ty, nf, q⟩ := h
  have e1 : v = Value.ref a := rx
  subst e1
  obtain ⟨mA, J, _⟩ := ins_get I.hok ha
  obtain ⟨od, J, _⟩ := J.look
  obtain ⟨Pk, kk, pk, _⟩ := kit_of I ry ty
  show wpAny (model X.prog X.w) X.A (richCompare .NotEq (Value.ref a) u) (EP X pins σ Q) X.xe s
  refine rc_core I.kIn J hr.units0 (kk.ty _ _ I.kIn pk) nf ?_
  unfold tryCompare
  refine wpAny_bind (ifBound_B I.kIn J hne PySem.F.cmp_object.ne (wpAny_mono (ne_call (Q := EP X pins σ Q) I.kIn J hob hs hf (by have := hr.un; omega) ?_) ?_ fun _ _ z => z))
  · refine thn (F.callAt (A := X.A.in1) (ds := []) rfl gu (Room.in1 hr) bi .nil I (show Vals [V.ref a, y] [Value.ref a, u] from .cons rfl (.cons ry .nil)) (by rw [List.append_nil]; exact q)) ?_
    rintro u' s' ⟨v', H', I', rv, b, rfl, q'⟩
    have e2 : u' = Value.bool b := rv
    subst e2
    exact ⟨b, rfl, .bl (!b), H', I', rfl, q'⟩
  · rintro r s' ⟨v', H', I', rv, q'⟩
    cases r with
    | notImplemented => cases v' <;> first | (obtain ⟨t, e⟩ := rv; cases e) | cases rv
    | _ => exact wpAny_pure ⟨_, rfl, v', H', I', rv, q'⟩

/-- x + y by x's own __add__, y of another, built-in type T -/
def rAddO (K : PySem.W.Frag) (C : Addr) (T : String) (sp : Sp) : R2 := fun x y H Q => ∃ a dx fs, x = .ref a ∧ H a = some (.ins C dx fs) ∧ TyX K H y (.type T) ∧ sp [x, y] H Q E0
theorem op_addO {T : String} {fo ro rc : Option Value} (gu : X.A.guards = some []) (F : FnG X.prog X.w X.K X.mg X.base k f fd ps sp) (hr : Room k X.A) (bi : Binds X.K fd ps []) (hc : selfFirst X.K C = true)
    (hs : findIn X.K (.ref C) "__add__" = some (some (.ref f))) (hf : isFn X.K (.ref f) = true) (hrr : findIn X.K (.ref C) "__radd__" = some rc) (hp : rc = none ∨ ∃ g : Addr, rc = some (.ref g))
    (h1 : findIn X.K (.type T) "__add__" = some fo) (h2 : findIn X.K (.type T) "__radd__" = some ro) (hsub : subIn X.K (.type T) (.ref C) = some false) : OpR X (binaryOp .Add) (rAddO X.K C T sp) := by
  intro pins s σ H x y v u Q I rx ry h
  obtain ⟨a, dx, fs, rfl, ha, ty, q⟩ := h
  have e1 : v = Value.ref a := rx
  subst e1
  obtain ⟨mA, J, _⟩ := ins_get I.hok ha
  obtain ⟨od, J, _⟩ := J.look
  obtain ⟨Pk, kk, pk, _⟩ := kit_of I ry ty
  have XK := I.kIn
  have hb := kk.ty (model X.prog X.w) _ XK pk
  have run : wpAny (model X.prog X.w) X.A (call (.ref f) [.ref a, u]) (PySem.W.CmpBack (EP X pins σ Q)) X.xe s := by
    refine thn (F.callAt (ds := []) rfl gu hr bi .nil I (show Vals [V.ref a, y] [Value.ref a, u] from .cons rfl (.cons ry .nil)) (by rw [List.append_nil]; exact q)) ?_
    rintro r s' ⟨v', H', I', rv, q'⟩
    cases r with
    | notImplemented => cases v' <;> first | (obtain ⟨t, e⟩ := rv; cases e) | cases rv
    | _ => exact ⟨v', H', I', rv, q'⟩
  have one := PySem.W.ksp_try XK J hs hf run
  obtain ⟨cd, rest, hcd, hm⟩ := PySem.W.ksp_first hc
  have f1 : Looks (model X.prog X.w) s.heap (fillsNumberSlot (.ref C) "add") true := PySem.W.fills_K XK hcd hm hs
  have f2 : Looks (model X.prog X.w) s.heap (fillsNumberSlot (.type T) "add") ((fo.isSome && !isSeqSlot fo) || (ro.isSome && !isSeqSlot ro)) := PySem.W.ksp_fillsT XK h1 h2
  have f3 := looks_subIn (M := model X.prog X.w) XK hsub
  have f4 : Looks (model X.prog X.w) s.heap (numberSlotInPython (.ref C) "add") true := PySem.W.ksp_inPy XK hs hrr hp
  have f5 : Looks (model X.prog X.w) s.heap (numberSlotInPython (.type T) "add") false := Looks.of_pure rfl
  have f6 : Looks (model X.prog X.w) s.heap (typeLookup (.type T) (dunderR "add")) ro := looks_findIn XK h2
  generalize ((fo.isSome && !isSeqSlot fo) || (ro.isSome && !isSeqSlot ro)) = rt at f2
  have jt := J.type (M := model X.prog X.w)
  obtain ⟨hh, g, d, tt, os⟩ := s
  have ne : (Value.ref C == Value.type T) = false := Bool.eq_false_iff.mpr fun z => by cases beq_iff_eq.mp z
  show wpAny _ _ (binaryOp .Add (.ref a) u) _ _ _
  simp only [binaryOp, Operator.info]
  refine wpAny_holding (wpAny_bind ?_)
  unfold binaryOp1
  refine wpAny_bind (jt.at (wpAny_bind (hb.at (wpAny_bind (f1.at ?_)))))
  simp only [ne, Bool.false_eq_true, if_false]
  cases rt <;>
  · ksp_lk
    refine wpAny_mono one ?_ fun _ _ z => z
    rintro r s' ⟨v', rfl, q'⟩
    ksp_lk
    exact q'

/-- len(x) by x's own __len__ -/
def rLenO (C : Addr) (sp : Sp) : List V → Hp → VK → Prop := fun xs H Q => ∃ a dx fs, xs = [.ref a] ∧ H a = some (.ins C dx fs) ∧ sp [.ref a] H (fun v H' => ∃ n : Int, v = .int n ∧ 0 ≤ n ∧ n < 2 ^ 62 ∧ Q (.int n) H') E0
theorem call_len_o (gu : X.A.guards = some []) (F : FnG X.prog X.w X.K X.mg X.base k f fd ps sp) (hr : Room (k + 1) X.A) (bi : Binds X.K fd ps [])
    (hs : findIn X.K (.ref C) "__len__" = some (some (.ref f))) (hf : isFn X.K (.ref f) = true) : CallR X (.builtin "len") (rLenO C sp) := by
  intro pins s σ H xs us Q I r h
  obtain ⟨a, dx, fs, rfl, ha, q⟩ := h
  rw [Vals.ref1 r]
  obtain ⟨mA, J, _⟩ := ins_get I.hok ha
  obtain ⟨od, J, _⟩ := J.look
  obtain ⟨m, hF⟩ := I.fr
  refine PySem.W.len_K hF I.ok.mod.kin J hs hf ?_
  refine thn (F.callAt (A := X.A.in1) (ds := []) rfl gu (Room.in1 hr) bi .nil I (show Vals [V.ref a] [Value.ref a] from .cons rfl .nil) (by rw [List.append_nil]; exact q)) ?_
  rintro u s' ⟨v, H', I', rv, n, rfl, h0, h1, q'⟩
  obtain ⟨tk, rfl⟩ := rv
  exact ⟨⟨h0, by omega⟩, .int n, H', I'.tok _, ⟨_, rfl⟩, q'⟩
end
end Gd

set_option Elab.async false
set_option linter.all false
set_option maxRecDepth 100000
set_option maxHeartbeats 4000000
/-! G4: sorted of a tuple of texts; enumerate of a tuple. -/
namespace Gd
open PySem PySem.Spec PyProof.Rows L2

section
variable {X : Cx}
/-- sorted(t), t a tuple of texts -/
def rSortST (K : PySem.W.Frag) : List V → Hp → VK → Prop := fun vs H Q => ∃ (a : Addr) (ss : List Str), vs = [V.ref a] ∧ SqT K H a (ss.map V.str) ∧ ss.length < 64 ∧
  ∀ (ys : List Str) (p : Addr), ys.Perm ss → sortedS ys = true → H p = none → Q (.ref p) (upd H p (.lst (ys.map V.str)))
theorem cr_sortST : CallR X (.builtin "sorted") (rSortST X.K) := by
  intro pins s σ H vs us Q I r h
  obtain ⟨a, ss, rfl, ht, h64, q⟩ := h
  obtain ⟨its, rv, ⟨o, ho, hc, n, hd⟩, _⟩ := I.tuple ht
  rw [Vals.ref1 r]
  have hS := rv.strs
  have hl : its.length = ss.length := by
    have := rv.length
    rw [List.length_map] at this
    exact this.symm
  refine Calls.call_function_entry PyProof.Rows.kind_sorted PyProof.Rows.plain_sorted PyProof.Rows.entry_sorted (PyProof.Rows.args_sorted1 _) ?_
  unfold Builtin.«sorted»
  refine wpAny_bind (m := checkCount "sorted" 1 1 _) (wpAny_pure (wpAny_bind ?_))
  refine wpAny_collect_seq a (.inr rfl) ho hc hd (fun h' keep => ?_) (by rw [List.size_toArray, hl, sizeLine_eq]; omega)
  have I1 : Inv X pins σ H { s with heap := h' } := I.kept (t' := s.toks) keep
  refine wpAny_bind (wpAny_newList ?_ (by rw [hl, sizeLine_eq]; omega))
  have new : (h'.push (seqObj "list" its.toArray 0)).get? h'.objs.size = some (seqObj "list" its.toArray 0) := Heap.get?_push_size _ rfl
  show wpAny _ _ _ _ _ { s with heap := h'.push (seqObj "list" its.toArray 0) }
  refine wpAny_bind (wpAny_holding (wpAny_call_entry PyProof.Rows.slot_list_sort ⟨_, new, rfl⟩ PyProof.Rows.entry_list_sort ?srt (PyProof.Rows.args_list_sort _)))
  refine list_sort_treeK (s := { s with heap := h'.push (seqObj "list" its.toArray 0) }) strKind_oneLt new hS.keysOf (fun v1 v2 more e => keyKind_strs (e ▸ hS)) (hl ▸ h64) ?_
  intro st' hp hs
  refine ⟨_, rfl, ?_⟩
  obtain ⟨ys, g1, g2, g3⟩ := sorted_out_str hS hp hs
  obtain ⟨e', at'⟩ := PyProof.Rows.sortedHeap_at (vs := its) (out := (arrOf st').map (·.2)) new
  have fits : (ys.map V.str).length ≤ sizeLine := by rw [List.length_map, g2.length_eq]; exact small64 h64
  have ok : ObjOk X.prog X.w (upd H h'.objs.size (.lst (ys.map V.str))) (PyProof.Rows.sortedHeap (h'.push (seqObj "list" its.toArray 0)) h'.objs.size its ((arrOf st').map (·.2))) h'.objs.size (.lst (ys.map V.str)) :=
    ⟨fits, ((arrOf st').map (·.2)).toList, e', vals_of_strs g1, by rw [Array.toArray_toList]; exact at'⟩
  refine wpAny_pure ⟨_, rfl, .ref h'.objs.size, _, I1.laid (t' := s.toks) (fun b u z => ?_) (Nat.le_refl _) ok, rfl, q ys _ g2 g3 (I1.hok.fresh (Nat.le_refl _))⟩
  have lt : b < h'.objs.size := Heap.lt_size z
  rw [PyProof.Rows.sortedHeap_old (Nat.ne_of_lt lt) (by rw [size_push']; exact Nat.lt_succ_of_lt lt)]
  exact Heap.get?_push_of_some _ z
end

/-! ### enumerate(t) -/
set_option maxHeartbeats 4000000 in
theorem meets_enum1 {v : Value} {o : Obj} {H : Heap → Prop} (B : Begins v o H) :
    Meets (Builtin.«enumerate.__new__» ⟨[.type "enumerate", v], []⟩) (fun _ R s => H s.heap ∧
      R (.ok (.ret (.ref (s.heap.push o).objs.size))) { s with heap := (s.heap.push o).push { cls := .type "enumerate", data := .fields #[.none, .bool false, .ref s.heap.objs.size, rawInt 0, .none, .none] } }) := by
  refine .of_wp fun prog w A R s h => ?_
  obtain ⟨hp, g, d, tk, os⟩ := s
  obtain ⟨h1, h⟩ := h
  have hsub := sub_enumerate
  have it : ∀ {A' : Around} {E : Value → Shared → Prop} {Q : Value → Shared → Prop}, Q (.ref hp.objs.size) ⟨hp.push o, g, d, tk, os⟩ → wpAny (model prog w) A' (pyIter v) Q E ⟨hp, g, d, tk, os⟩ :=
    fun q => B.iter prog w _ _ ⟨hp, g, d, tk, os⟩ _ h1 q
  wp_walk using it
  refine wpAny_stack_any fun st => wpAny_pure ?_
  split
  · rename_i c _ _ _ _ _
    cases (c == Value.type "enumerate") <;>
    · wp_walk using it
      exact ⟨_, rfl, h⟩
  · wp_walk using it
    exact ⟨_, rfl, h⟩
theorem enum_begins1 {prog : Program} {w : World} {A : Around} {E : Value → Shared → Prop} {s : Shared} {v : Value} {o : Obj} {H : Heap → Prop} {Q : Value → Shared → Prop} (B : Begins v o H) (h1 : H s.heap)
    (h : ∀ h', IsEnum h' (s.heap.objs.size + 1) s.heap.objs.size 0 .none → h'.get? s.heap.objs.size = some o → (∀ b o, s.heap.get? b = some o → h'.get? b = some o) → Q (.ref (s.heap.objs.size + 1)) { s with heap := h' }) :
    wpAny (model prog w) A (call (.type "enumerate") [v]) Q E s := by
  let eo : Obj := { cls := .type "enumerate", data := .fields #[.none, .bool false, .ref s.heap.objs.size, rawInt 0, .none, .none] }
  have z : (s.heap.push o).objs.size = s.heap.objs.size + 1 := Heap.size_push ..
  have he : IsEnum ((s.heap.push o).push eo) (s.heap.objs.size + 1) s.heap.objs.size 0 .none := z ▸ Heap.get?_push_size (s.heap.push o) (o := eo) rfl
  refine callType_new F.called_enumerate (by decide) (F.typeCall_enumerate_1 _) (F.newCall_enumerate_1 _) (fun obj => F.args_object_init_2 obj _) F.entry_enumerate_new (meets_enum1 B) ⟨h1, ?_⟩
  show _ ∧ _
  rw [z]
  exact ⟨⟨_, he, rfl⟩, h _ he (Heap.get?_push_of_some _ (Heap.get?_push_size _ B.free)) fun b u q => Heap.get?_push_of_some _ (Heap.get?_push_of_some _ q)⟩

/-- the places and items of the tuple at a -/
def IteT (K : PySem.W.Frag) (a : Addr) : It where
  go := fun i H => ∃ (xs : List V) (x : V), SqT K H a xs ∧ xs[i]? = some x
  yld := fun i H v H' => ∃ T x, v = .ref T ∧ H T = none ∧ H' = upd H T (.tup [.int (i : Nat), x]) ∧ ∀ xs, SqT K H a xs → xs[i]? = some x
  stop := fun i H => ∃ xs : List V, SqT K H a xs ∧ xs.length = i
theorem turn_enumT {P : Program} {w : World} {K : PySem.W.Frag} {elts : List Expr} {kk : Nat} {tpos : Pos} (a e it : Addr) :
    Turn P w K (.Tuple elts kk tpos) (IteT K a) [e, it] e (fun i h => (∃ old, IsEnum h e it ((i : Nat) : Int) old) ∧ h.IsTupleIter it a i ∧ e ≠ it) where
  mem := by simp
  obj := by
    intro i h st b hb
    obtain ⟨⟨old, he⟩, ⟨o, ho, hc, hd⟩, _⟩ := st
    rcases (show b = e ∨ b = it by simpa using hb) with rfl | rfl
    · exact ⟨_, he, fun v q => nomatch q⟩
    · exact ⟨o, ho, fun v q => by rw [hd] at q; cases q⟩
  keep := by
    rintro i h h' ⟨⟨old, he⟩, hi, ne⟩ k
    exact ⟨⟨old, k e (by simp) _ he⟩, hi.at (fun o q => k it (by simp) o q), ne⟩
  item := by
    intro X hP hw hK hc i pins s σ H E I hf st hg
    subst hP hw hK
    obtain ⟨⟨old, he⟩, hit, hne⟩ := st
    obtain ⟨xs, x, hq, hx⟩ := hg
    obtain ⟨its, rv, p, _⟩ := I.tuple hq
    have il : i < its.toArray.size := by
      rw [List.size_toArray, ← rv.length]
      exact (List.getElem?_eq_some_iff.mp hx).1
    have nit : it ≠ a := by
      intro z
      obtain ⟨o1, q1, c1, _⟩ := hit
      obtain ⟨o2, q2, c2, _⟩ := p
      rw [z, q2] at q1
      cases q1
      rw [c2] at c1
      exact absurd c1 (by decide)
    have nea : e ≠ a := by
      intro z
      obtain ⟨o2, q2, c2, _⟩ := p
      have q1 : s.heap.get? e = some _ := he
      rw [z, q2] at q1
      cases q1
      have c3 : Value.type "enumerate" = Value.type "tuple" := c2
      exact absurd (Value.type.inj c3) (by decide)
    have lt : ∀ b ∈ [e, it], b < s.heap.objs.size := by
      intro b hb
      rcases (show b = e ∨ b = it by simpa using hb) with rfl | rfl
      · exact Heap.lt_size he
      · obtain ⟨_, q, _⟩ := hit
        exact Heap.lt_size q
    refine wpAny_pyNext_enum_itemD (Draws.tuple (A := X.A.in1) (I.ok.hd hc) it a nit.symm its.toArray) he ⟨hit, p⟩ il hne (by simp [hne, nea]) ?_
    intro u h' tk hu ho hst hT hsz hk
    refine ⟨_, rfl, wpAny_letOwnedTupleGo_enum (s := { s with heap := h', toks := tk + 1 }) ho fun h2 he' sb => ?_⟩
    obtain ⟨u', hu', ru⟩ := rv.get hx
    have euu : u = u' := by
      have : its[i]? = some u := by simpa using hu
      rw [hu'] at this
      exact (Option.some.inj this).symm
    subst euu
    have hT2 : h2.get? s.heap.objs.size = some { cls := .type "tuple", data := .seq #[.int i tk, u] } := (sb.2 _ (Nat.ne_of_gt (lt e (by simp)))).trans hT
    have new : ObjOk X.prog X.w (upd H s.heap.objs.size (.tup [.int (i : Nat), x])) h2 s.heap.objs.size (.tup [.int (i : Nat), x]) :=
      ⟨by show 2 ≤ sizeLine; decide, [.int i tk, u], .cons ⟨_, rfl⟩ (.cons ru .nil), ⟨_, hT2, rfl, _, rfl⟩⟩
    have I1 : Inv X pins σ (upd H s.heap.objs.size (.tup [.int (i : Nat), x])) { s with heap := h2, toks := tk + 1 } := by
      refine I.turnedNew (ch := [e, it]) (fun b ob hb q => ?_) hf (Nat.le_refl _) new
      have b1 : b ≠ e := fun z => hb (by simp [z])
      have b2 : b ≠ it := fun z => hb (by simp [z])
      exact (sb.2 b b1).trans (hk b ob b1 b2 q)
    refine ⟨.ref s.heap.objs.size, _, I1, rfl, ⟨_, x, rfl, I.hok.fresh (Nat.le_refl _), rfl, fun ys hy => I.tuple_inj hy hq ▸ hx⟩, ⟨⟨u, ?_⟩, hst.1.at (fun o q => (sb.2 it hne.symm).trans q), hne⟩, ?_⟩
    · rw [show ((i + 1 : Nat) : Int) = (i : Int) + 1 by omega]
      exact he'
    · intro b hb
      rw [upd_ne (Nat.ne_of_lt (lt b hb))]
      exact (hf b hb).1
  done := by
    intro X hP hw hK hc i pins s σ H E I hf st hg
    subst hP hw hK
    obtain ⟨⟨old, he⟩, hit, hne⟩ := st
    obtain ⟨xs, hq, hx⟩ := hg
    obtain ⟨its, rv, p, _⟩ := I.tuple hq
    obtain ⟨f0, f1, f2, f3, f4, f5⟩ := hf it (by simp)
    have nit : it ≠ a := by
      intro z
      obtain ⟨o1, q1, c1, _⟩ := hit
      obtain ⟨o2, q2, c2, _⟩ := p
      rw [z, q2] at q1
      cases q1
      rw [c2] at c1
      exact absurd c1 (by decide)
    have en : i = its.toArray.size := by rw [List.size_toArray, ← rv.length, hx]
    rw [en] at hit
    exact wpAny_pyNext_enum_endD (Draws.tuple (A := X.A.in1) (I.ok.hd hc) it a nit.symm its.toArray) he ⟨hit, p⟩ fun h' eb => ⟨rfl, I.turned (t' := s.toks) (fun b o hb q => eb b o hb q) f0 f1 f3 f4 f5⟩
  self := fun A i s Q E st h => let ⟨⟨_, he⟩, _⟩ := st; wpAny_pyIter_enum he h
/-- for i, x in enumerate(xs), xs a list or a tuple -/
def iEnumQ (K : PySem.W.Frag) (ta : TA) : TI := fun σ H R => ta σ H fun vs H1 => ∃ a xs, vs = [.ref a] ∧ ((SqL K H1 a xs ∧ R (Ite K a) H1) ∨ (SqT K H1 a xs ∧ R (IteT K a) H1))
theorem pi_enumQ {X : Cx} {e : Expr} {ta : TA} {p pos tpos : Pos} {elts : List Expr} {kk : Nat} (hg : Gl X "enumerate") (hm : X.mg "enumerate" = none) (ha : PA X [e] ta)
    (hs : starEach [e] X.env = [(false, eval e X.env)] := by rfl) : PI X (.Tuple elts kk tpos) (.Call (.Name "enumerate" p) [e] [] pos) (iEnumQ X.K ta) := by
  constructor
  intro pins s σ H R I h
  refine Call_ (ld_blt I hg hm boot_enumerate (PyProof.Rows.callWith_type1 (thn (ha.run pos pins s σ H _ I h) ?_) hs rfl))
  rintro us s1 ⟨vs, H1, I1, r1, a, xs, rfl, q⟩
  rw [Vals.ref1 r1]
  have two : ∀ b ∈ [s1.heap.objs.size + 1, s1.heap.objs.size], FpOk X pins H1 b := by
    intro b hb
    have le : s1.heap.objs.size ≤ b := by
      rcases (show b = s1.heap.objs.size + 1 ∨ b = s1.heap.objs.size by simpa using hb) with z | z <;> rw [z]
      · exact Nat.le_succ _
      · exact Nat.le_refl _
    exact I1.fpOk le (I1.hok.fresh le)
  rcases q with ⟨hq, q⟩ | ⟨hq, q⟩
  · obtain ⟨its, rv, pl, _⟩ := I1.list hq
    refine call_enumerate_list pl.isList fun h' he hit _ hk => wpAny_pyIter_enum he ?_
    exact ⟨s1.heap.objs.size + 1, _, _, Ite X.K a, H1, rfl, I1.kept (t' := s1.toks) hk, turn_enum a (s1.heap.objs.size + 1) s1.heap.objs.size, ⟨⟨.none, he⟩, hit, Nat.succ_ne_self _⟩, two, q⟩
  · obtain ⟨its, rv, pl, _⟩ := I1.tuple hq
    refine enum_begins1 (begins_tuple a its.toArray) pl fun h' he hit hk => wpAny_pyIter_enum he ?_
    exact ⟨s1.heap.objs.size + 1, _, _, IteT X.K a, H1, rfl, I1.kept (t' := s1.toks) hk, turn_enumT a (s1.heap.objs.size + 1) s1.heap.objs.size, ⟨⟨.none, he⟩, ⟨_, hit, rfl, rfl⟩, Nat.succ_ne_self _⟩, two, q⟩
theorem walk_enumT {K : PySem.W.Frag} {a : Addr} {xs : List V} : Walk (IteT K a) xs.length (fun H => SqT K H a xs) (YPair (fun i => some (.int (i : Nat))) (fun i => xs[i]?)) := by
  constructor
  · exact fun i H hi q => ⟨xs, xs[i], q, by simp [hi]⟩
  · exact fun H q => ⟨xs, q, rfl⟩
  · rintro i H v H' _ q ⟨T, x, h1, h2, h3, h4⟩
    exact ⟨T, _, x, h1, h2, h3, rfl, h4 xs q⟩
end Gd

set_option Elab.async false
set_option linter.all false
set_option maxRecDepth 100000
set_option maxHeartbeats 4000000
/-! G5: deep data over a frozen part of the heap; how a step leaves both. -/
namespace Gd
open PySem PySem.Spec PyProof.Rows L2
open Evl (Ex Ex.refl Ex.trans Ex.new Ex.mut ex_t ex_l sq_of st_of fresh_back)

/-- deep data -/
inductive Dt where
  | non | bl (b : Bool) | int (i : Int) | str (x : Str)
  | lst (xs : List Dt) | tup (xs : List Dt)
  | ins (C : Addr) (fs : List (Str × Dt))
  | dK (kvs : List (Key × Dt)) | dT (kvs : List (List Key × Dt))

mutual
/-- in H (a frozen heap) the value v is the data d -/
inductive Dv (K : PySem.W.Frag) (H : Hp) : V → Dt → Prop
  | non : Dv K H .non .non
  | bl (b : Bool) : Dv K H (.bl b) (.bl b)
  | int (i : Int) : Dv K H (.int i) (.int i)
  | str (x : Str) : Dv K H (.str x) (.str x)
  | lst {a : Addr} {xs : List V} {ds : List Dt} : H a = some (.lst xs) → DvAll K H xs ds → Dv K H (.ref a) (.lst ds)
  | tup {a : Addr} {xs : List V} {ds : List Dt} : SqT K H a xs → DvAll K H xs ds → Dv K H (.ref a) (.tup ds)
  | ins {a C dx : Addr} {fs : List (Str × V)} {gs : List (Str × Dt)} : H a = some (.ins C dx fs) → fs.map (·.1) = gs.map (·.1) → DvAll K H (fs.map (·.2)) (gs.map (·.2)) → Dv K H (.ref a) (.ins C gs)
  | dK {a : Addr} {kvs : List (Key × V)} {gs : List (Key × Dt)} : H a = some (.dK kvs) → kvs.map (·.1) = gs.map (·.1) → DvAll K H (kvs.map (·.2)) (gs.map (·.2)) → Dv K H (.ref a) (.dK gs)
  | dT {a : Addr} {kvs : List (List Key × V)} {gs : List (List Key × Dt)} : H a = some (.dT kvs) → kvs.map (·.1) = gs.map (·.1) → DvAll K H (kvs.map (·.2)) (gs.map (·.2)) → Dv K H (.ref a) (.dT gs)
inductive DvAll (K : PySem.W.Frag) (H : Hp) : List V → List Dt → Prop
  | nil : DvAll K H [] []
  | cons {v : V} {vs : List V} {d : Dt} {ds : List Dt} : Dv K H v d → DvAll K H vs ds → DvAll K H (v :: vs) (d :: ds)
end

section
variable {K : PySem.W.Frag} {H H' S S' S1 S2 H1 H2 : Hp} {L L2 : List Addr}
theorem sqT_mono (e : Ex H H') {a : Addr} {xs : List V} (h : SqT K H a xs) : SqT K H' a xs := ex_t e h
mutual
theorem Dv.mono (e : Ex H H') : ∀ {v : V} {d : Dt}, Dv K H v d → Dv K H' v d
  | _, _, .non => .non
  | _, _, .bl b => .bl b
  | _, _, .int i => .int i
  | _, _, .str x => .str x
  | _, _, .lst h1 h2 => .lst (e _ _ h1) (DvAll.mono e h2)
  | _, _, .tup h1 h2 => .tup (sqT_mono e h1) (DvAll.mono e h2)
  | _, _, .ins h1 h2 h3 => .ins (e _ _ h1) h2 (DvAll.mono e h3)
  | _, _, .dK h1 h2 h3 => .dK (e _ _ h1) h2 (DvAll.mono e h3)
  | _, _, .dT h1 h2 h3 => .dT (e _ _ h1) h2 (DvAll.mono e h3)
theorem DvAll.mono (e : Ex H H') : ∀ {vs : List V} {ds : List Dt}, DvAll K H vs ds → DvAll K H' vs ds
  | _, _, .nil => .nil
  | _, _, .cons h1 h2 => .cons (Dv.mono e h1) (DvAll.mono e h2)
end
theorem DvAll.length : ∀ {vs : List V} {ds : List Dt}, DvAll K H vs ds → vs.length = ds.length
  | _, _, .nil => rfl
  | _, _, .cons _ t => congrArg (· + 1) (DvAll.length t)
theorem DvAll.get : ∀ {vs : List V} {ds : List Dt} {i : Nat} {d : Dt}, DvAll K H vs ds → ds[i]? = some d → ∃ v, vs[i]? = some v ∧ Dv K H v d
  | _, _, _, _, .nil, e => by simp at e
  | _, _, 0, _, .cons h _, e => by
    simp at e
    subst e
    exact ⟨_, rfl, h⟩
  | _, _, i + 1, d, .cons _ t, e => by
    obtain ⟨v, h1, h2⟩ := DvAll.get (i := i) (d := d) t (by simpa using e)
    exact ⟨v, by simpa using h1, h2⟩
theorem DvAll.get' : ∀ {vs : List V} {ds : List Dt} {i : Nat} {v : V}, DvAll K H vs ds → vs[i]? = some v → ∃ d, ds[i]? = some d ∧ Dv K H v d
  | _, _, _, _, .nil, e => by simp at e
  | _, _, 0, _, .cons h _, e => by
    simp at e
    subst e
    exact ⟨_, rfl, h⟩
  | _, _, i + 1, v, .cons _ t, e => by
    obtain ⟨d, h1, h2⟩ := DvAll.get' (i := i) (v := v) t (by simpa using e)
    exact ⟨d, by simpa using h1, h2⟩
theorem DvAll.append : ∀ {vs ws : List V} {ds es : List Dt}, DvAll K H vs ds → DvAll K H ws es → DvAll K H (vs ++ ws) (ds ++ es)
  | _, _, _, _, .nil, h => h
  | _, _, _, _, .cons a t, h => .cons a (DvAll.append t h)
theorem DvAll.take : ∀ {vs : List V} {ds : List Dt} (n : Nat), DvAll K H vs ds → DvAll K H (vs.take n) (ds.take n)
  | _, _, 0, _ => by simpa using DvAll.nil
  | _, _, n + 1, .nil => by simpa using DvAll.nil
  | _, _, n + 1, .cons a t => .cons a (DvAll.take n t)
theorem DvAll.drop : ∀ {vs : List V} {ds : List Dt} (n : Nat), DvAll K H vs ds → DvAll K H (vs.drop n) (ds.drop n)
  | _, _, 0, h => by simpa using h
  | _, _, n + 1, .nil => by simpa using DvAll.nil
  | _, _, n + 1, .cons _ t => DvAll.drop n t
theorem DvAll.reverse {vs : List V} {ds : List Dt} (h : DvAll K H vs ds) : DvAll K H vs.reverse ds.reverse := by
  induction vs generalizing ds with
  | nil => cases h; exact .nil
  | cons v vs ih =>
    cases h with
    | cons h1 h2 =>
      rw [List.reverse_cons, List.reverse_cons]
      exact (ih h2).append (.cons h1 .nil)
theorem DvAll.eraseIdx : ∀ {vs : List V} {ds : List Dt} (n : Nat), DvAll K H vs ds → DvAll K H (vs.eraseIdx n) (ds.eraseIdx n)
  | _, _, _, .nil => .nil
  | _, _, 0, .cons _ t => t
  | _, _, n + 1, .cons a t => .cons a (DvAll.eraseIdx n t)
theorem dvAll_strs : ∀ (ss : List Str), DvAll K H (ss.map V.str) (ss.map Dt.str)
  | [] => .nil
  | s :: r => .cons (.str s) (dvAll_strs r)
theorem dvAll_strs_inv : ∀ {vs : List V} {ss : List Str}, DvAll K H vs (ss.map Dt.str) → vs = ss.map V.str
  | _, [], h => by cases h; rfl
  | _, s :: r, h => by
    cases h with
    | cons h1 h2 =>
      cases h1
      rw [dvAll_strs_inv h2]
      rfl
theorem dvAll_bls : ∀ (bs : List Bool), DvAll K H (bs.map V.bl) (bs.map Dt.bl)
  | [] => .nil
  | b :: r => .cons (.bl b) (dvAll_bls r)
theorem Dv.int_inv {v : V} {i : Int} (h : Dv K H v (.int i)) : v = .int i := by cases h; rfl
theorem Dv.str_inv {v : V} {i : Str} (h : Dv K H v (.str i)) : v = .str i := by cases h; rfl
theorem Dv.bl_inv {v : V} {i : Bool} (h : Dv K H v (.bl i)) : v = .bl i := by cases h; rfl
theorem Dv.non_inv {v : V} (h : Dv K H v .non) : v = .non := by cases h; rfl
theorem Dv.lst_inv {v : V} {ds : List Dt} (h : Dv K H v (.lst ds)) : ∃ a xs, v = .ref a ∧ H a = some (.lst xs) ∧ DvAll K H xs ds := by
  cases h with
  | lst h1 h2 => exact ⟨_, _, rfl, h1, h2⟩
theorem Dv.tup_inv {v : V} {ds : List Dt} (h : Dv K H v (.tup ds)) : ∃ a xs, v = .ref a ∧ SqT K H a xs ∧ DvAll K H xs ds := by
  cases h with
  | tup h1 h2 => exact ⟨_, _, rfl, h1, h2⟩
theorem Dv.ins_inv {v : V} {C : Addr} {gs : List (Str × Dt)} (h : Dv K H v (.ins C gs)) : ∃ a dx fs, v = .ref a ∧ H a = some (.ins C dx fs) ∧ fs.map (·.1) = gs.map (·.1) ∧ DvAll K H (fs.map (·.2)) (gs.map (·.2)) := by
  cases h with
  | ins h1 h2 h3 => exact ⟨_, _, _, rfl, h1, h2, h3⟩

/-! ### plain data as the library's -/
mutual
def pyD : Dt → PyData
  | .non => .none
  | .bl b => .bool b
  | .int i => .int i
  | .str x => .str x
  | .lst ds => .list (pyAll ds)
  | .tup ds => .tuple (pyAll ds)
  | _ => .none
def pyAll : List Dt → List PyData
  | [] => []
  | d :: ds => pyD d :: pyAll ds
end
mutual
def plainD : Dt → Bool
  | .non => true
  | .bl _ => true
  | .int _ => true
  | .str _ => true
  | .lst ds => plainAll ds
  | .tup ds => plainAll ds
  | _ => false
def plainAll : List Dt → Bool
  | [] => true
  | d :: ds => plainD d && plainAll ds
end
theorem pyAll_eq : ∀ ds : List Dt, pyAll ds = ds.map pyD
  | [] => by simp [pyAll]
  | d :: ds => by simp [pyAll, pyAll_eq ds]
theorem plainAll_eq : ∀ ds : List Dt, plainAll ds = ds.all plainD
  | [] => by simp [plainAll]
  | d :: ds => by simp [plainAll, plainAll_eq ds]
mutual
theorem Dv.dp : ∀ {v : V} {d : Dt}, Dv K H v d → plainD d = true → Dp K H v (pyD d)
  | _, _, .non, _ => by rw [pyD]; exact .non
  | _, _, .bl b, _ => by rw [pyD]; exact .bl b
  | _, _, .int i, _ => by rw [pyD]; exact .int i
  | _, _, .str x, _ => by rw [pyD]; exact .str x
  | _, _, .lst h1 h2, p => by
    rw [plainD] at p
    rw [pyD]
    exact .lst (sq_of h1) (DvAll.dp h2 p)
  | _, _, .tup h1 h2, p => by
    rw [plainD] at p
    rw [pyD]
    exact .tup h1 (DvAll.dp h2 p)
  | _, _, .ins _ _ _, p => by simp [plainD] at p
  | _, _, .dK _ _ _, p => by simp [plainD] at p
  | _, _, .dT _ _ _, p => by simp [plainD] at p
theorem DvAll.dp : ∀ {vs : List V} {ds : List Dt}, DvAll K H vs ds → plainAll ds = true → DpAll K H vs (pyAll ds)
  | _, _, .nil, _ => by rw [pyAll]; exact .nil
  | _, _, .cons h1 h2, p => by
    rw [plainAll, Bool.and_eq_true] at p
    rw [pyAll]
    exact .cons (Dv.dp h1 p.1) (DvAll.dp h2 p.2)
end

/-! ### how a step leaves the frozen part and the heap: L: what it may change -/
structure Gr (L : List Addr) (S H S' H' : Hp) : Prop where
  s : Ex S S'
  i : Ex S' H'
  h : ∀ a o, a ∉ L → H a = some o → H' a = some o
  n : ∀ a o, a ∉ L → H a = some o → S a = none → S' a = none
theorem Gr.refl (f : Ex S H) : Gr L S H S H := ⟨Ex.refl S, f, fun _ _ _ e => e, fun _ _ _ _ e => e⟩
theorem Gr.trans (a : Gr L S H S1 H1) (b : Gr L2 S1 H1 S2 H2) (c : ∀ x ∈ L2, x ∈ L ∨ H x = none) : Gr L S H S2 H2 where
  s := a.s.trans b.s
  i := b.i
  h := by
    intro x o nx e
    refine b.h x o (fun m => ?_) (a.h x o nx e)
    rcases c x m with z | z
    · exact nx z
    · rw [z] at e; cases e
  n := by
    intro x o nx e z
    refine b.n x o (fun m => ?_) (a.h x o nx e) (a.n x o nx e z)
    rcases c x m with y | y
    · exact nx y
    · rw [y] at e; cases e
/-- a step that changes nothing that stood -/
theorem Gr.then (a : Gr L S H S1 H1) (b : Gr [] S1 H1 S2 H2) : Gr L S H S2 H2 := a.trans b fun _ m => nomatch m
theorem Gr.more (a : Gr L S H S1 H1) (c : ∀ x ∈ L, x ∈ L2) : Gr L2 S H S1 H1 :=
  ⟨a.s, a.i, fun x o nx => a.h x o fun m => nx (c x m), fun x o nx => a.n x o fun m => nx (c x m)⟩
theorem Gr.same (f : Ex S H) (e : Ex H H') : Gr L S H S H' := ⟨Ex.refl S, f.trans e, fun a o _ z => e a o z, fun _ _ _ _ z => z⟩
theorem Gr.newF (f : Ex S H) {p : Addr} {o : HO} (hp : H p = none) : Gr L S H (upd S p o) (upd H p o) := by
  have sp : S p = none := fresh_back f hp
  refine ⟨Ex.new sp, fun a u e => ?_, fun a u _ e => Ex.new hp a u e, fun a u _ e z => ?_⟩
  · by_cases h : a = p
    · subst h
      rw [upd_same] at e ⊢
      exact e
    · rw [upd_ne h] at e ⊢
      exact f a u e
  · rw [upd_ne (ne_of_none e hp)]
    exact z
theorem Gr.newO (f : Ex S H) {p : Addr} {o : HO} (hp : H p = none) : Gr L S H S (upd H p o) := Gr.same f (Ex.new hp)
theorem Gr.mut (f : Ex S H) {p : Addr} {o : HO} (sp : S p = none) (m : p ∈ L) : Gr L S H S (upd H p o) := by
  refine ⟨Ex.refl S, Ex.mut f sp, fun a u na e => ?_, fun _ _ _ _ z => z⟩
  rw [upd_ne (show a ≠ p from fun z => na (by rw [z]; exact m))]
  exact e
theorem Gr.frz (f : Ex S H) {p : Addr} {o : HO} (sp : S p = none) (hp : H p = some o) (m : p ∈ L) : Gr L S H (upd S p o) H := by
  refine ⟨Ex.new sp, fun a u e => ?_, fun _ _ _ e => e, fun a u na _ z => ?_⟩
  · by_cases h : a = p
    · subst h
      rw [upd_same] at e
      rw [hp]
      exact e
    · rw [upd_ne h] at e
      exact f a u e
  · rw [upd_ne (show a ≠ p from fun q => na (by rw [q]; exact m))]
    exact z
/-- what is owned stays -/
theorem Gr.own (g : Gr L S H S' H') {a : Addr} {o : HO} (na : a ∉ L) (h : H a = some o) (z : S a = none) : H' a = some o ∧ S' a = none := ⟨g.h a o na h, g.n a o na h z⟩
theorem Gr.nil_h (g : Gr [] S H S' H') : Ex H H' := fun a o e => g.h a o (fun m => nomatch m) e

/-- the data d come back -/
def RetD (K : PySem.W.Frag) (L : List Addr) (S H : Hp) (Q : VK) (d : Dt) : Prop := ∀ S' H' v, Gr L S H S' H' → Dv K S' v d → Q v H'
theorem RetD.int {Q : VK} {i : Int} (k : RetD K L S H Q (.int i)) (g : Gr L S H S' H') : Q (.int i) H' := k S' H' _ g (.int i)
theorem RetD.bl {Q : VK} {i : Bool} (k : RetD K L S H Q (.bl i)) (g : Gr L S H S' H') : Q (.bl i) H' := k S' H' _ g (.bl i)
theorem RetD.str {Q : VK} {i : Str} (k : RetD K L S H Q (.str i)) (g : Gr L S H S' H') : Q (.str i) H' := k S' H' _ g (.str i)
theorem RetD.non {Q : VK} (k : RetD K L S H Q .non) (g : Gr L S H S' H') : Q .non H' := k S' H' _ g .non
/-- a fresh list, not yet frozen, as data -/
theorem dv_lst_new {p : Addr} {xs : List V} {ds : List Dt} (sp : S p = none) (h : DvAll K S xs ds) : Dv K (upd S p (.lst xs)) (.ref p) (.lst ds) := .lst upd_same (h.mono (Ex.new sp))
theorem dv_tup_new {p : Addr} {xs : List V} {ds : List Dt} (sp : S p = none) (h : DvAll K S xs ds) : Dv K (upd S p (.tup xs)) (.ref p) (.tup ds) := .tup (st_of upd_same) (h.mono (Ex.new sp))
end
end Gd

set_option Elab.async false
set_option linter.all false
set_option maxRecDepth 100000
set_option maxHeartbeats 4000000
/-! G6: operators whatever the kinds of their values are; what to show at each. -/
namespace Gd
open PySem PySem.Spec PyProof.Rows L2
open Evl (Ex Ex.refl Ex.trans Ex.new Ex.mut ex_t ex_l sq_of st_of fresh_back)

section
variable {X : Cx}
def rAddX (K : PySem.W.Frag) : R2 := fun x y H Q => rI0 (fun i j => .int (i + j)) x y H Q ∨ ((∃ i j, x = .str i ∧ y = .str j ∧ i.length + j.length ≤ sizeLine ∧ Q (.str (i ++ j)) H) ∨ (rCat x y H Q ∨ rCatA K x y H Q))
theorem op_addX : OpR X (binaryOp .Add) (rAddX X.K) := op_add.or (op_add_str.or (op_cat.or op_catA))
def rLenX (K : PySem.W.Frag) : List V → Hp → VK → Prop := fun xs H Q => (∃ p ys, xs = [.ref p] ∧ (SqL K H p ys ∨ SqT K H p ys) ∧ Q (.int ys.length) H) ∨ (∃ z, xs = [.str z] ∧ z.length ≤ sizeLine ∧ Q (.int z.length) H)
theorem call_lenX : CallR X (.builtin "len") (rLenX X.K) := call_len_seq.or call_len_str
def rSortX (K : PySem.W.Frag) : List V → Hp → VK → Prop := fun xs H Q => rSortedS K xs H Q ∨ rSortST K xs H Q
theorem call_sortX : CallR X (.builtin "sorted") (rSortX X.K) := cr_sortedS.or cr_sortST
def rSlX (K : PySem.W.Frag) : V → Option Int → Option Int → Hp → VK → Prop := fun x lo hi H Q => rSlL K x lo hi H Q ∨ rSlA K x lo hi H Q
theorem sl_X : SlR X (rSlX X.K) := sl_list.or sl_tupA
theorem ix_X : IxR X (fun x y H Q => rIxL X.K x y H Q ∨ rIxT X.K x y H Q) := ix_list.or ix_tup
end

/-! ### what to show -/
section
variable {K : PySem.W.Frag} {H S : Hp} {Q : VK}
theorem i_add {i j : Int} (q : Q (.int (i + j)) H) : rAddX K (.int i) (.int j) H Q := .inl ⟨_, _, rfl, rfl, q⟩
theorem i_addS {i j : Str} (z : i.length + j.length ≤ 2000000) (q : Q (.str (i ++ j)) H) : rAddX K (.str i) (.str j) H Q := .inr (.inl ⟨_, _, rfl, rfl, Nat.le_trans z (by rw [sizeLine_eq]; decide), q⟩)
theorem i_cat {a b : Addr} {xs ys : List V} (h1 : H a = some (.lst xs)) (h2 : H b = some (.lst ys)) (z : xs.length + ys.length ≤ 1000000) (q : ∀ p, H p = none → Q (.ref p) (upd H p (.lst (xs ++ ys)))) : rAddX K (.ref a) (.ref b) H Q :=
  .inr (.inr (.inl ⟨a, b, xs, ys, rfl, rfl, h1, h2, Nat.le_trans z line_big, q⟩))
/-- tuples: the sum, as data -/
theorem i_catT {a b : Addr} {xs ys : List V} {ds es : List Dt} {L : List Addr} (f : Ex S H) (h1 : SqT K H a xs) (h2 : SqT K H b ys) (d1 : DvAll K S xs ds) (d2 : DvAll K S ys es) (e1 : Dv K S (.ref a) (.tup ds)) (e2 : Dv K S (.ref b) (.tup es))
    (z : xs.length + ys.length ≤ 1000000) (q : RetD K L S H Q (.tup (ds ++ es))) : rAddX K (.ref a) (.ref b) H Q := by
  refine .inr (.inr (.inr ⟨a, b, xs, ys, rfl, rfl, h1, h2, Nat.le_trans z line_big, ?_, ?_, ?_⟩))
  · rintro rfl
    cases d1
    exact q S H _ (Gr.refl f) e2
  · rintro _ rfl
    cases d2
    rw [List.append_nil] at q
    exact q S H _ (Gr.refl f) e1
  · intro _ _ p hp
    exact q _ _ _ (Gr.newF f hp) (dv_tup_new (fresh_back f hp) (d1.append d2))
theorem i_lenL {p : Addr} {ys : List V} (h : H p = some (.lst ys)) (q : Q (.int ys.length) H) : rLenX K [.ref p] H Q := .inl ⟨p, ys, rfl, .inl (sq_of h), q⟩
theorem i_lenQ {p : Addr} {ys : List V} (h : SqL K H p ys ∨ SqT K H p ys) (q : Q (.int ys.length) H) : rLenX K [.ref p] H Q := .inl ⟨p, ys, rfl, h, q⟩
theorem i_lenS {z : Str} (h : z.length ≤ 1000000) (q : Q (.int z.length) H) : rLenX K [.str z] H Q := .inr ⟨z, rfl, Nat.le_trans h line_big, q⟩

/-- a list or a tuple -/
inductive SqD (K : PySem.W.Frag) (S : Hp) (v : V) (ds : List Dt) : Prop where
  | l (h : Dv K S v (.lst ds))
  | t (h : Dv K S v (.tup ds))
theorem SqD.mono {S' : Hp} {v : V} {ds : List Dt} (e : Ex S S') : SqD K S v ds → SqD K S' v ds
  | .l h => .l (h.mono e)
  | .t h => .t (h.mono e)
theorem SqD.inv {v : V} {ds : List Dt} (f : Ex S H) (h : SqD K S v ds) : ∃ a xs, v = .ref a ∧ (SqL K H a xs ∨ SqT K H a xs) ∧ DvAll K S xs ds := by
  cases h with
  | l h =>
    obtain ⟨a, xs, e, h1, h2⟩ := h.lst_inv
    exact ⟨a, xs, e, .inl (sq_of (f _ _ h1)), h2⟩
  | t h =>
    obtain ⟨a, xs, e, h1, h2⟩ := h.tup_inv
    exact ⟨a, xs, e, .inr (sqT_mono f h1), h2⟩
theorem i_lenD {v : V} {ds : List Dt} (f : Ex S H) (h : SqD K S v ds) (q : Q (.int ds.length) H) : rLenX K [v] H Q := by
  obtain ⟨a, xs, rfl, h1, h2⟩ := h.inv f
  rw [← h2.length] at q
  exact i_lenQ h1 q
/-- an item -/
theorem i_ixD {v : V} {ds : List Dt} {d : Dt} {i : Int} {j : Nat} (f : Ex S H) (h : SqD K S v ds) (e : i = (j : Int)) (hd : ds[j]? = some d) (q : ∀ u, Dv K S u d → Q u H) : (rIxL K v (.int i) H Q ∨ rIxT K v (.int i) H Q) := by
  obtain ⟨a, xs, rfl, h1, h2⟩ := h.inv f
  obtain ⟨u, hu, du⟩ := h2.get hd
  subst e
  rcases h1 with h1 | h1
  · exact .inl ⟨a, xs, _, u, rfl, rfl, h1, atI_nat hu, q u du⟩
  · exact .inr ⟨a, xs, _, u, rfl, rfl, h1, atI_nat hu, q u du⟩
theorem i_ixL {a : Addr} {xs : List V} {x : V} {i : Int} {j : Nat} (h : H a = some (.lst xs)) (e : i = (j : Int)) (hx : xs[j]? = some x) (q : Q x H) : (rIxL K (.ref a) (.int i) H Q ∨ rIxT K (.ref a) (.int i) H Q) := by
  subst e
  exact .inl ⟨a, xs, _, x, rfl, rfl, sq_of h, atI_nat hx, q⟩
/-- sorted(xs): the texts in order -/
theorem i_sort {v : V} {ss : List Str} {L : List Addr} (f : Ex S H) (h : SqD K S v (ss.map Dt.str)) (z : ss.length < 64) (q : ∀ ys p, ys.Perm ss → sortedS ys = true → H p = none → Q (.ref p) (upd H p (.lst (ys.map V.str)))) : rSortX K [v] H Q := by
  obtain ⟨a, xs, rfl, h1, h2⟩ := h.inv f
  have e := dvAll_strs_inv h2
  subst e
  rcases h1 with h1 | h1
  · exact .inl ⟨a, ss, rfl, h1, z, q⟩
  · exact .inr ⟨a, ss, rfl, h1, z, q⟩
/-- tuple(x): as data -/
theorem i_tuple {v : V} {ds : List Dt} {L : List Addr} (f : Ex S H) (h : SqD K S v ds) (q : RetD K L S H Q (.tup ds)) :
    ∃ p ys, [v] = [V.ref p] ∧ ((SqL K H p ys ∧ ∀ l, H l = none → Q (.ref l) (upd H l (.tup ys))) ∨ (SqT K H p ys ∧ Q (.ref p) H)) := by
  cases h with
  | l h =>
    obtain ⟨a, xs, rfl, h1, h2⟩ := h.lst_inv
    exact ⟨a, xs, rfl, .inl ⟨sq_of (f _ _ h1), fun l hl => q _ _ _ (Gr.newF f hl) (dv_tup_new (fresh_back f hl) h2)⟩⟩
  | t h =>
    obtain ⟨a, xs, rfl, h1, h2⟩ := id h.tup_inv
    exact ⟨a, xs, rfl, .inr ⟨sqT_mono f h1, q _ _ _ (Gr.refl f) h⟩⟩
/-- list(x): a new list -/
theorem i_list {v : V} {ds : List Dt} (f : Ex S H) (h : SqD K S v ds) (q : ∀ l xs, H l = none → DvAll K S xs ds → Q (.ref l) (upd H l (.lst xs))) :
    ∃ p ys, [v] = [V.ref p] ∧ (SqL K H p ys ∨ SqT K H p ys) ∧ ∀ l, H l = none → Q (.ref l) (upd H l (.lst ys)) := by
  obtain ⟨a, xs, rfl, h1, h2⟩ := h.inv f
  exact ⟨a, xs, rfl, h1, fun l hl => q l xs hl h2⟩
/-- == of plain data -/
theorem i_eq {x y : V} {d e : Dt} (f : Ex S H) (h1 : Dv K S x d) (h2 : Dv K S y e) (p1 : plainD d = true) (p2 : plainD e = true) (s1 : SeqAt.shaped (pyD d) = true) (s2 : SeqAt.shaped (pyD e) = true)
    (q : Q (.bl (PyData.eqv (pyD d) (pyD e))) H) : rEqD K x y H Q := ⟨_, _, (h1.mono f).dp p1, (h2.mono f).dp p2, s1, s2, q⟩
theorem i_ne {x y : V} {d e : Dt} (f : Ex S H) (h1 : Dv K S x d) (h2 : Dv K S y e) (p1 : plainD d = true) (p2 : plainD e = true) (s1 : SeqAt.shaped (pyD d) = true) (s2 : SeqAt.shaped (pyD e) = true)
    (q : Q (.bl (!PyData.eqv (pyD d) (pyD e))) H) : rNeD K x y H Q := ⟨_, _, (h1.mono f).dp p1, (h2.mono f).dp p2, s1, s2, q⟩
end
end Gd

set_option Elab.async false
set_option linter.all false
set_option maxRecDepth 100000
set_option maxHeartbeats 4000000
/-! G7: comprehensions of truth values, isinstance, small words. -/
namespace Gd
open PySem PySem.Spec PyProof.Rows L2
open Evl (Ex Ex.refl Ex.trans Ex.new Ex.mut ex_t ex_l sq_of st_of fresh_back)

section
variable {K : PySem.W.Frag} {J : It} {n : Nat} {G : Hp → Prop} {Y : Nat → Hp → V → Hp → Prop} {g : TG} {tt : TT} {te : TE} {vs : List Nat} {σ : L2.St} {S H1 : Hp} {D : Addr}
/-- a comprehension of data: its i-th element is e i, each step leaves the frozen part and the heap by Gr -/
theorem lc_data (w : Walk J n G Y) (e : Nat → V) (P : Nat → Hp → Prop) (mono : ∀ i S S', Ex S S' → P i S → P i S') (f : Ex S H1) (hD : H1 D = none) (hz : n < sizeLine) (hG : ∀ S1 Hc, Gr [] S H1 S1 Hc → G Hc)
    (turn : ∀ i x S1 Hc Hc' (Qe : VK) (Nx : Hp → Prop), i < n → Gr [] S H1 S1 Hc → (∀ j, j < i → P j S1) → Y i Hc x Hc' → (∀ S' H4, Gr [] S1 Hc S' H4 → P i S' → Qe (e i) H4) →
      g x (wipe σ vs) Hc' fun σ2 H2 => wipe σ2 vs = wipe σ vs ∧ tt σ2 H2 fun b H3 => if b = true then te σ2 H3 Qe else Nx H3)
    {Qd : Hp → Prop} (done : ∀ S' H', Gr [] S H1 S' H' → S' D = none → H' D = some (.lst ((List.range n).map e)) → (∀ j, j < n → P j S') → Qd H') :
    ∃ W : Nat → Nat → Hp → Prop, (∃ m, W 0 m (upd H1 D (.lst []))) ∧ ∀ i m H, W i m H →
      (J.stop i H ∧ Qd H) ∨ (J.go i H ∧ ∃ Nx : Hp → Prop, (∀ H', Nx H' → ∃ m', m' < m ∧ W (i + 1) m' H') ∧ ∀ x H', J.yld i H x H' → g x (wipe σ vs) H' fun σ2 H2 => wipe σ2 vs = wipe σ vs ∧ tt σ2 H2 fun b H3 =>
        if b = true then te σ2 H3 fun y H4 => ∃ acc, H4 D = some (.lst acc) ∧ acc.length < sizeLine ∧ Nx (upd H4 D (.lst (acc ++ [y]))) else Nx H3) := by
  have sD : S D = none := fresh_back f hD
  refine lc_it w (fun i H => ∃ S1, Gr [] S H1 S1 H ∧ S1 D = none ∧ H D = some (.lst ((List.range i).map e)) ∧ ∀ j, j < i → P j S1) ?_ ?_ ?_ ?_
  · exact ⟨S, Gr.newO f hD, sD, upd_same, fun j h => absurd h (Nat.not_lt_zero j)⟩
  · rintro i H _ ⟨S1, g1, _⟩
    exact hG S1 H g1
  · rintro i x H H' hi ⟨S1, g1, s1, hl, hp⟩ y
    refine turn i x S1 H H' _ _ hi g1 hp y ?_
    intro S' H4 g2 p'
    obtain ⟨h4, s4⟩ := g2.own (fun m => nomatch m) hl s1
    refine ⟨_, h4, ?_, S', ?_, s4, ?_, ?_⟩
    · rw [List.length_map, List.length_range]
      exact Nat.lt_trans hi hz
    · refine (g1.then g2).trans (Gr.mut (L := [D]) g2.i s4 (by simp)) ?_
      intro z hz
      have e1 : z = D := by simpa using hz
      subst e1
      exact .inr hD
    · rw [upd_same, List.range_succ, List.map_append]
      rfl
    · intro j hj
      rcases Nat.lt_or_eq_of_le (Nat.le_of_lt_succ hj) with h | h
      · exact mono _ _ _ g2.s (hp j h)
      · rw [h]
        exact p'
  · rintro H ⟨S1, g1, s1, hl, hp⟩
    exact done S1 H g1 s1 hl hp
end
/-! ### isinstance -/
section
variable {K : PySem.W.Frag} {H : Hp} {Q : VK}
theorem i_isi {x : V} {a n : String} {b : Bool} (ty : TyX K H x (.type a)) (h : kitB a n = some b) (q : Q (.bl b) H) : rIsi K [x, .ty n] H Q := ⟨x, _, _, _, b, rfl, .ty n, ty, kit_ty h, q⟩
theorem ty_int {i : Int} : TyX K H (.int i) (.type "int") := .base (.int i)
theorem ty_str {z : Str} : TyX K H (.str z) (.type "str") := .base (.str z)
theorem ty_bl {z : Bool} : TyX K H (.bl z) (.type "bool") := .base (.bl z)
theorem ty_non : TyX K H .non (.type "NoneType") := .base .non
theorem ty_tup {a : Addr} {xs : List V} (h : SqT K H a xs) : TyX K H (.ref a) (.type "tuple") := by
  rcases h with (h | ⟨o, h⟩) | ⟨o, its, n, h, c, _⟩
  · exact .base (.tup h)
  · exact .fTuple h
  · exact .kTuple h c
theorem ty_lst {a : Addr} {xs : List V} (h : SqL K H a xs) : TyX K H (.ref a) (.type "list") := by
  rcases h with (h | ⟨o, h⟩) | ⟨o, its, n, h, c, _⟩
  · exact .base (.lst h)
  · exact .base (.frz h)
  · exact .kList h c
end
end Gd

set_option Elab.async false
set_option linter.all false
set_option maxRecDepth 100000
set_option maxHeartbeats 4000000
/-! G8: readings opened from their head. -/
namespace Gd
open PySem PySem.Spec PyProof.Rows L2
open Evl (Ex Ex.refl Ex.trans Ex.new Ex.mut ex_t ex_l sq_of st_of fresh_back)
section
variable {K : PySem.W.Frag} {σ : L2.St} {H : Hp} {Q : VK} {D : Ends} {t u : TS} {te ta tb tc : TE} {tt tA tB' : TT} {ar : TA} {r r' : R2} {g : TG} {gs : TGs} {v x : V}
theorem x_seq (h : t { D with nx := u D } σ H) : tSeq t u D σ H := h
theorem x_ret (h : te σ H D.rt) : tRet te D σ H := h
theorem x_retN (h : D.rt .non H) : tRetN D σ H := h
theorem x_next (h : D.nx σ H) : tNext D σ H := h
theorem x_drop (h : te σ H fun _ H1 => D.nx σ H1) : tDrop te D σ H := h
theorem x_if {c : TT} (h : c σ H fun b H1 => if b = true then t D σ H1 else u D σ H1) : tIfS c t u D σ H := h
theorem x_asg (h : te σ H fun x H1 => g x σ H1 D.nx) : tAsg te g D σ H := h
theorem x_par {i j : Nat} (h : ar σ H fun vs H1 => ∃ v w, vs = [v, w] ∧ D.nx ((σ.set i (some v)).set j (some w)) H1) : tPar i j ar D σ H := h
theorem x_par3 {i j l : Nat} (h : ar σ H fun vs H1 => ∃ u v w, vs = [u, v, w] ∧ D.nx (((σ.set i (some u)).set j (some v)).set l (some w)) H1) : tPar3 i j l ar D σ H := h
theorem x_sfld {f : Str} (h : tb σ H fun y H1 => ta σ H1 fun x H2 => ∃ a C dx fs, x = .ref a ∧ H2 a = some (.ins C dx fs) ∧ Cls K C ∧ NoAttr K C f ∧ fs.length < 1000 ∧ D.nx σ (upd H2 a (.ins C dx (putF f y fs)))) : sFld K ta tb f D σ H := h
theorem x_var {i : Nat} (h : σ[i]? = some (some v)) (q : Q v H) : tVar i σ H Q := ⟨v, h, q⟩
theorem x_c (q : Q v H) : tC v σ H Q := q
theorem x_op (h : ta σ H fun x H1 => tb σ H1 fun y H2 => r x y H2 Q) : tOp r ta tb σ H Q := h
theorem x_un {r : V → Hp → VK → Prop} (h : ta σ H fun x H1 => r x H1 Q) : tUn r ta σ H Q := h
theorem x_chain (h : ta σ H fun x H1 => tb σ H1 fun y H2 => r x y H2 fun z H3 => ∃ k, z = .bl k ∧ (if k = true then tc σ H3 fun w' H4 => r' y w' H4 Q else Q (.bl false) H3)) : tChain r r' ta tb tc σ H Q := h
theorem x_andV (h : ta σ H fun x H1 => ∃ c, x = .bl c ∧ if c = true then tb σ H1 Q else Q (.bl false) H1) : tAndV ta tb σ H Q := h
theorem x_orV (h : ta σ H fun x H1 => ∃ c, x = .bl c ∧ if c = true then Q (.bl true) H1 else tb σ H1 Q) : tOrV ta tb σ H Q := h
theorem x_notV (h : ta σ H fun x H1 => ∃ c, x = .bl c ∧ Q (.bl (!c)) H1) : tNotV ta σ H Q := h
theorem x_ifE (h : tt σ H fun c H1 => if c = true then ta σ H1 Q else tb σ H1 Q) : tIf tt ta tb σ H Q := h
theorem x_nil {Q : List V → Hp → Prop} (h : Q [] H) : tNil σ H Q := h
theorem x_cons {Q : List V → Hp → Prop} (h : te σ H fun x H1 => ar σ H1 fun xs H2 => Q (x :: xs) H2) : tCons te ar σ H Q := h
theorem x_star {Q : List V → Hp → Prop} (h : te σ H fun x H1 => ∃ p xs, x = V.ref p ∧ (SqT K H1 p xs ∨ SqL K H1 p xs) ∧ ar σ H1 fun ys H2 => Q (xs ++ ys) H2) : StX.tStar K te ar σ H Q := h
theorem x_tup (h : ar σ H fun xs H1 => xs.length ≤ sizeLine ∧ ∀ p, H1 p = none → Q (.ref p) (upd H1 p (.tup xs))) : tTup ar σ H Q := h
theorem x_lst (h : ar σ H fun xs H1 => xs.length ≤ sizeLine ∧ ∀ p, H1 p = none → Q (.ref p) (upd H1 p (.lst xs))) : tLst ar σ H Q := h
theorem x_cb {r : List V → Hp → VK → Prop} (h : ar σ H fun vs H1 => r vs H1 Q) : tCB r ar σ H Q := h
theorem x_call {sp : Sp} {dvs : List V} {E : XK} (h : ar σ H fun vs H1 => sp (vs ++ dvs) H1 Q E) : tCall sp dvs E ar σ H Q := h
theorem x_meth {C : Addr} {m : Str} {sp : Sp} {dvs : List V} {E : XK} (h : ta σ H fun x H1 => ∃ a dx fs, x = .ref a ∧ H1 a = some (.ins C dx fs) ∧ fs.lookup m = none ∧ ar σ H1 fun vs H2 => sp (x :: (vs ++ dvs)) H2 Q E) : tMeth C m sp dvs E ta ar σ H Q := h
theorem x_make {C : Addr} {sp : Sp} {dvs : List V} {E : XK} (h : ar σ H fun vs H1 => ∀ x dx, H1 x = none → H1 dx = none → dx ≠ x → sp (.ref x :: (vs ++ dvs)) (upd (upd H1 dx (.own x)) x (.ins C dx [])) (fun v H2 => v = .non ∧ Q (.ref x) H2) E) : tMake C sp dvs E ar σ H Q := h
theorem x_fld {f : Str} (h : ta σ H fun x H1 => ∃ a C dx fs v, x = .ref a ∧ H1 a = some (.ins C dx fs) ∧ Cls K C ∧ NoAttr K C f ∧ fs.lookup f = some v ∧ Q v H1) : tFld K ta f σ H Q := h
theorem x_bm0 {T : String} {r : V → List V → Hp → VK → Prop} (h : ta σ H fun x H1 => tyV K T x H1 ∧ r x [] H1 Q) : tBM0 K T r ta σ H Q := h
theorem x_bm {T : String} {r : V → List V → Hp → VK → Prop} (h : ta σ H fun x H1 => tyV K T x H1 ∧ ar σ H1 fun xs H2 => r x xs H2 Q) : tBM K T r ta ar σ H Q := h
theorem x_sl {r : V → Option Int → Option Int → Hp → VK → Prop} {tl th : TO} (h : te σ H fun x H1 => tl σ H1 fun l H2 => th σ H2 fun u H3 => r x l u H3 Q) : tSl r te tl th σ H Q := h
theorem x_no {Q : Option Int → Hp → Prop} (h : Q none H) : tNoPart σ H Q := h
theorem x_part {Q : Option Int → Hp → Prop} (h : te σ H fun x H1 => ∃ i, x = .int i ∧ Q (some i) H1) : tPart te σ H Q := h
theorem x_rev (h : te σ H fun x H1 => ∃ a xs, x = .ref a ∧ SqL K H1 a xs ∧ ∀ p, H1 p = none → Q (.ref p) (upd H1 p (.lst xs.reverse))) : tRevL K te σ H Q := h
theorem x_fmtD (h : te σ H fun x H1 => ∃ a d, x = .ref a ∧ Dp K H1 (.ref a) d ∧ Shows d ∧ Q (.str d.shown) H1) : tFmtD K te σ H Q := h
-- tests
theorem x_test {Q : Bool → Hp → Prop} (h : te σ H fun x H' => ∃ k, x = .bl k ∧ Q k H') : tTest te σ H Q := h
theorem x_tB {Q : Bool → Hp → Prop} (h : te σ H fun x H1 => ∃ c, x = .bl c ∧ Q c H1) : tB te σ H Q := h
theorem x_and {Q : Bool → Hp → Prop} (h : tA σ H fun c H1 => if c = true then tB' σ H1 Q else Q false H1) : tAnd tA tB' σ H Q := h
theorem x_or {Q : Bool → Hp → Prop} (h : tA σ H fun c H1 => if c = true then Q true H1 else tB' σ H1 Q) : tOr tA tB' σ H Q := h
theorem x_not {Q : Bool → Hp → Prop} (h : tA σ H fun c H1 => Q (!c) H1) : tNot tA σ H Q := h
theorem x_yes {Q : Bool → Hp → Prop} (h : Q true H) : tYes σ H Q := h
-- targets
theorem x_gname {i : Nat} {Q : L2.St → Hp → Prop} (h : Q (σ.set i (some v)) H) : gName i v σ H Q := h
theorem x_gtup {n : Nat} {Q : L2.St → Hp → Prop} (h : ∃ a xs, v = .ref a ∧ SqT K H a xs ∧ xs.length = n ∧ gs xs σ H Q) : gTup K n gs v σ H Q := h
theorem x_gnil {Q : L2.St → Hp → Prop} (h : Q σ H) : gNil [] σ H Q := ⟨rfl, h⟩
theorem x_gcons {vs : List V} {Q : L2.St → Hp → Prop} (h : g v σ H fun σ' H' => gs vs σ' H' Q) : gCons g gs (v :: vs) σ H Q := ⟨v, vs, rfl, h⟩
theorem x_gsub {ts : TSet} {Q : L2.St → Hp → Prop} (h : ta σ H fun o H1 => tb σ H1 fun i H2 => ts o i v H2 fun H3 => Q σ H3) : gSub ta tb ts v σ H Q := h
-- what is walked
theorem x_iList {R : It → Hp → Prop} (h : te σ H fun x H1 => ∃ a, x = .ref a ∧ (∃ xs, SqL K H1 a xs) ∧ R (Itl K a) H1) : iList K te σ H R := h
theorem x_iStr {R : It → Hp → Prop} (h : te σ H fun v H1 => ∃ x, v = .str x ∧ R (Its x) H1) : iStr te σ H R := h
theorem x_iRng1 {R : It → Hp → Prop} (h : ar σ H fun vs H1 => ∃ j : Int, vs = [.int j] ∧ -(2 ^ 62) ≤ j ∧ j < 2 ^ 62 ∧ R (Itr 0 j.toNat) H1) : iRng1 ar σ H R := h
theorem x_iEnumQ {R : It → Hp → Prop} (h : ar σ H fun vs H1 => ∃ a xs, vs = [.ref a] ∧ ((SqL K H1 a xs ∧ R (Ite K a) H1) ∨ (SqT K H1 a xs ∧ R (IteT K a) H1))) : iEnumQ K ar σ H R := h
theorem iteNT {A B : Prop} (h : B) : if (!true) = true then A else B := h
theorem iteNF {A B : Prop} (h : A) : if (!false) = true then A else B := h
-- operators on ints
theorem i_I0 {f : Int → Int → V} {i j : Int} (h : Q (f i j) H) : rI0 f (.int i) (.int j) H Q := ⟨i, j, rfl, rfl, h⟩
theorem i_I {C : Int → Int → Prop} {f : Int → Int → V} {i j : Int} (c : C i j) (h : Q (f i j) H) : rI C f (.int i) (.int j) H Q := ⟨i, j, rfl, rfl, c, h⟩
theorem i_U {f : Int → V} {i : Int} (h : Q (f i) H) : rU f (.int i) H Q := ⟨i, rfl, h⟩
-- an ite whose test is known
theorem x_bl {b : Bool} {P : Bool → Prop} (h : P b) : ∃ c, V.bl b = .bl c ∧ P c := ⟨b, rfl, h⟩
end
end Gd

set_option Elab.async false
set_option linter.all false
set_option maxRecDepth 100000
set_option maxHeartbeats 4000000
/-! G9: lists of texts in order are one; == of data by parts; texts of data. -/
namespace Gd
open PySem PySem.Spec PyProof.Rows L2
open Evl (Ex Ex.refl Ex.trans Ex.new Ex.mut ex_t ex_l sq_of st_of fresh_back)

def leS (a b : Str) : Prop := a.cps.toList ≤ b.cps.toList
theorem leS_trans {a b c : Str} (h1 : leS a b) (h2 : leS b c) : leS a c := List.le_trans h1 h2
theorem leS_anti {a b : Str} (h1 : leS a b) (h2 : leS b a) : a = b := by
  have e : a.cps.toList = b.cps.toList := List.le_antisymm h1 h2
  cases a with
  | mk ca =>
    cases b with
    | mk cb =>
      have e2 : ca = cb := by
        have := congrArg List.toArray e
        simpa using this
      rw [e2]
theorem rising_all : ∀ (r : List Str) (p : Str), risingS p r = true → (∀ x ∈ r, leS p x) ∧ r.Pairwise leS
  | [], _, _ => ⟨(fun _ h => nomatch h), List.Pairwise.nil⟩
  | x :: r, p, h => by
    have h' : (!ltCps x.cps.toList p.cps.toList && risingS x r) = true := h
    rw [Bool.and_eq_true, Bool.not_eq_true', ltCps_eq, decide_eq_false_iff_not] at h'
    have le : leS p x := List.not_lt.mp h'.1
    obtain ⟨a, b⟩ := rising_all r x h'.2
    refine ⟨fun y hy => ?_, List.Pairwise.cons a b⟩
    rcases List.mem_cons.mp hy with rfl | hy
    · exact le
    · exact leS_trans le (a y hy)
theorem sortedS_pw : ∀ {l : List Str}, sortedS l = true → l.Pairwise leS
  | [], _ => List.Pairwise.nil
  | x :: r, h => let ⟨a, b⟩ := rising_all r x h; List.Pairwise.cons a b
theorem sortedS_one {l1 l2 : List Str} (p : l1.Perm l2) (h1 : sortedS l1 = true) (h2 : sortedS l2 = true) : l1 = l2 :=
  List.Perm.eq_of_pairwise (fun _ _ _ _ a b => leS_anti a b) (sortedS_pw h1) (sortedS_pw h2) p

/-! ### == -/
theorem eqvAll_map {α : Type} {f : α → PyData} [DecidableEq α] (h : ∀ a b, PyData.eqv (f a) (f b) = decide (a = b)) : ∀ xs ys : List α, PyData.eqvAll (xs.map f) (ys.map f) = decide (xs = ys)
  | [], [] => by simp [PyData.eqvAll]
  | [], _ :: _ => by simp [PyData.eqvAll]
  | _ :: _, [] => by simp [PyData.eqvAll]
  | x :: xs, y :: ys => by
    simp only [List.map_cons, PyData.eqvAll, h, eqvAll_map h xs ys, List.cons.injEq, Bool.decide_and]
theorem eqv_str (a b : Str) : PyData.eqv (.str a) (.str b) = decide (a = b) := by
  rw [PyData.eqv]
  by_cases h : a = b
  · subst h; simp
  · rw [decide_eq_false h, beq_eq_false_iff_ne.mpr h]
theorem eqv_bool (a b : Bool) : PyData.eqv (.bool a) (.bool b) = decide (a = b) := by
  rw [PyData.eqv]
  cases a <;> cases b <;> rfl
theorem eqv_int (a b : Int) : PyData.eqv (.int a) (.int b) = decide (a = b) := by
  rw [PyData.eqv]
  by_cases h : a = b
  · subst h; simp
  · rw [decide_eq_false h, beq_eq_false_iff_ne.mpr h]

/-! ### data's measures over lists -/
theorem canLayAll_map {α : Type} {f : α → PyData} {l : List α} (h : ∀ a ∈ l, (f a).canLay0 = true) : PyData.canLayAll0 (l.map f) = true := by
  induction l with
  | nil => simp [PyData.canLayAll0]
  | cons a l ih =>
    simp only [List.map_cons, PyData.canLayAll0, Bool.and_eq_true]
    exact ⟨h a (.head _), ih fun b hb => h b (.tail _ hb)⟩
theorem depthAll_map {α : Type} {f : α → PyData} {l : List α} {n : Nat} (h : ∀ a ∈ l, (f a).depth ≤ n) : PyData.depthAll (l.map f) ≤ n := by
  induction l with
  | nil => simp [PyData.depthAll]
  | cons a l ih =>
    simp only [List.map_cons, PyData.depthAll]
    exact Nat.max_le.mpr ⟨h a (.head _), ih fun b hb => h b (.tail _ hb)⟩
theorem showableAll_map {α : Type} {f : α → PyData} {l : List α} (h : ∀ a ∈ l, (f a).showable = true) : PyData.showableAll (l.map f) = true := by
  induction l with
  | nil => simp [PyData.showableAll]
  | cons a l ih =>
    simp only [List.map_cons, PyData.showableAll, Bool.and_eq_true]
    exact ⟨h a (.head _), ih fun b hb => h b (.tail _ hb)⟩
theorem shownAll_map {α : Type} (f : α → PyData) : ∀ l : List α, PyData.shownAll (l.map f) = l.map fun a => (f a).shown
  | [] => by simp [PyData.shownAll]
  | a :: l => by simp only [List.map_cons, PyData.shownAll, shownAll_map f l]
theorem sum_le {α : Type} {g : α → Nat} {l : List α} {B : Nat} (h : ∀ a ∈ l, g a ≤ B) : (l.map g).sum ≤ l.length * B := by
  induction l with
  | nil => simp
  | cons a l ih =>
    simp only [List.map_cons, List.sum_cons, List.length_cons]
    have h1 := h a (.head _)
    have h2 := ih fun b hb => h b (.tail _ hb)
    rw [Nat.add_mul]
    omega
/-- the length of a list's text -/
theorem listLen {α : Type} {f : α → PyData} {l : List α} {B : Nat} (h : ∀ a ∈ l, (f a).shown.length ≤ B) : (PyData.list (l.map f)).shown.length ≤ l.length * (B + 2) + 3 := by
  rw [PyData.shown, shownAll_map]
  refine Nat.le_trans (listText_len_le _) ?_
  have := sum_le (g := fun a => (f a).shown.length) h
  simp only [List.map_map, List.length_map]
  have e : (l.map ((fun x : Str => x.length) ∘ fun a => (f a).shown)).sum = (l.map fun a => (f a).shown.length).sum := rfl
  rw [e, Nat.mul_add]
  omega
theorem tupLen {α : Type} {f : α → PyData} {l : List α} {B : Nat} (h : ∀ a ∈ l, (f a).shown.length ≤ B) : (PyData.tuple (l.map f)).shown.length ≤ l.length * (B + 2) + 3 := by
  rw [PyData.shown, shownAll_map]
  refine Nat.le_trans (tupleText_len_le _) ?_
  have := sum_le (g := fun a => (f a).shown.length) h
  simp only [List.map_map, List.length_map]
  have e : (l.map ((fun x : Str => x.length) ∘ fun a => (f a).shown)).sum = (l.map fun a => (f a).shown.length).sum := rfl
  rw [e, Nat.mul_add]
  omega
end Gd

set_option Elab.async false
set_option linter.all false
set_option maxRecDepth 100000
set_option maxHeartbeats 4000000
/-! G10: loops over data. -/
namespace Gd
open PySem PySem.Spec PyProof.Rows L2
open Evl (Ex Ex.refl Ex.trans Ex.new Ex.mut ex_t ex_l sq_of st_of fresh_back)
section
variable {K : PySem.W.Frag} {σ : L2.St} {H S : Hp} {Q : VK} {D : Ends} {g : TG} {tb : TS} {te : TE} {tt : TT} {wi : TI} {v : V} {ds : List Dt}
theorem x_for (h : wi σ H fun J H1 => ∃ W : Nat → Nat → L2.St → Hp → Prop, (∃ m, W 0 m σ H1) ∧ ∀ i m σ H, W i m σ H →
  (J.stop i H ∧ D.nx σ H) ∨ (J.go i H ∧ ∃ N : L2.St → Hp → Prop, (∀ σ' H', N σ' H' → ∃ m', m' < m ∧ W (i + 1) m' σ' H') ∧ ∀ x H', J.yld i H x H' → g x σ H' fun σ2 H2 => tb { D with nx := N, ct := N, bk := D.nx } σ2 H2)) : tFor wi g tb D σ H := h
theorem x_int {j : Int} {P : Int → Prop} (h : P j) : ∃ i, V.int j = .int i ∧ P i := ⟨j, rfl, h⟩
/-- isinstance(x, (T, ..)) -/
theorem i_isT {x : V} {a n1 n2 : String} {p : Addr} {b : Bool} (hp : H p = some (.tup [.ty n1, .ty n2])) (ty : TyX K H x (.type a)) (b1 b2 : Bool) (h1 : kitB a n1 = some b1) (h2 : kitB a n2 = some b2) (e : (b1 || b2) = b) (q : Q (.bl b) H) : rIsiT K [x, .ref p] H Q := by
  refine ⟨x, p, _, _, [.type n1, .type n2], b, rfl, hp, .cons (.ty n1) (.cons (.ty n2) .nil), ty, ?_, q⟩
  subst e
  refine kitAny_cons (b := b1) (kit_ty h1) (fun z => ?_) (fun z => by rw [z]; rfl)
  subst z
  refine kitAny_cons (b := b2) (kit_ty h2) (fun z => ?_) (fun z => by rw [z]; rfl)
  subst z
  exact kitAny_nil
theorem ty_seq (f : Ex S H) (h : SqD K S v ds) : ∃ a : String, TyX K H v (.type a) ∧ (a = "list" ∨ a = "tuple") := by
  obtain ⟨a, xs, rfl, h1, h2⟩ := h.inv f
  rcases h1 with h1 | h1
  · exact ⟨_, ty_lst h1, .inl rfl⟩
  · exact ⟨_, ty_tup h1, .inr rfl⟩
/-- for i, x in enumerate(xs), at the arguments' values -/
def FE (K : PySem.W.Frag) (g : TG) (tb : TS) (D : Ends) (σ : L2.St) : List V → Hp → Prop := fun vs H => ∃ a xs, vs = [V.ref a] ∧ ((SqL K H a xs ∧ ∃ W : Nat → Nat → L2.St → Hp → Prop, (∃ m, W 0 m σ H) ∧ ∀ i m σ H, W i m σ H →
      ((Ite K a).stop i H ∧ D.nx σ H) ∨ ((Ite K a).go i H ∧ ∃ N : L2.St → Hp → Prop, (∀ σ' H', N σ' H' → ∃ m', m' < m ∧ W (i + 1) m' σ' H') ∧ ∀ x H', (Ite K a).yld i H x H' → g x σ H' fun σ2 H2 => tb { D with nx := N, ct := N, bk := D.nx } σ2 H2)) ∨
      (SqT K H a xs ∧ ∃ W : Nat → Nat → L2.St → Hp → Prop, (∃ m, W 0 m σ H) ∧ ∀ i m σ H, W i m σ H →
      ((IteT K a).stop i H ∧ D.nx σ H) ∨ ((IteT K a).go i H ∧ ∃ N : L2.St → Hp → Prop, (∀ σ' H', N σ' H' → ∃ m', m' < m ∧ W (i + 1) m' σ' H') ∧ ∀ x H', (IteT K a).yld i H x H' → g x σ H' fun σ2 H2 => tb { D with nx := N, ct := N, bk := D.nx } σ2 H2)))
theorem x_forEnum {ta : TA} (h : ta σ H fun vs H1 => FE K g tb D σ vs H1) : tFor (iEnumQ K ta) g tb D σ H := h
theorem i_forEnum (f : Ex S H) (h : SqD K S v ds) (Pv : Nat → L2.St → Hp → Prop) (h0 : Pv 0 σ H) (hG : ∀ i σ H, i ≤ ds.length → Pv i σ H → Ex S H)
    (hs : ∀ i σ H x d T, ds[i]? = some d → Dv K S x d → Pv i σ H → H T = none → g (.ref T) σ (upd H T (.tup [.int (i : Nat), x])) fun σ2 H2 => tb { D with nx := Pv (i + 1), ct := Pv (i + 1), bk := D.nx } σ2 H2) (hd : ∀ σ H, Pv ds.length σ H → D.nx σ H) :
    FE K g tb D σ [v] H := by
  have fin : ∀ {J : It} {xs : List V}, DvAll K S xs ds → Walk J ds.length (fun H => Ex S H) (YPair (fun i => some (.int (i : Nat))) (fun i => xs[i]?)) → ∃ W : Nat → Nat → L2.St → Hp → Prop, (∃ m, W 0 m σ H) ∧ ∀ i m σ H, W i m σ H →
      (J.stop i H ∧ D.nx σ H) ∨ (J.go i H ∧ ∃ N : L2.St → Hp → Prop, (∀ σ' H', N σ' H' → ∃ m', m' < m ∧ W (i + 1) m' σ' H') ∧ ∀ x H', J.yld i H x H' → g x σ H' fun σ2 H2 => tb { D with nx := N, ct := N, bk := D.nx } σ2 H2) := by
    intro J xs hx w
    refine for_it w Pv h0 hG ?_ hd
    rintro i x σ H H' hi pv ⟨T, u, y, rfl, hT, rfl, e1, e2⟩
    cases e1
    obtain ⟨d, hd', dv⟩ := hx.get' e2
    exact hs i σ H y d T hd' dv pv hT
  cases h with
  | l h =>
    obtain ⟨a, xs, rfl, h1, h2⟩ := h.lst_inv
    refine ⟨a, xs, rfl, .inl ⟨sq_of (f _ _ h1), fin h2 ?_⟩⟩
    rw [← h2.length]
    exact walk_enum.mono (fun H f' => sq_of (f' _ _ h1)) fun _ _ _ _ _ _ y => y
  | t h =>
    obtain ⟨a, xs, rfl, h1, h2⟩ := h.tup_inv
    refine ⟨a, xs, rfl, .inr ⟨sqT_mono f h1, fin h2 ?_⟩⟩
    rw [← h2.length]
    exact walk_enumT.mono (fun H f' => sqT_mono f' h1) fun _ _ _ _ _ _ y => y
/-- a pair taken apart -/
theorem i_pair {T : Addr} {a b : V} {gs : TGs} {Q : L2.St → Hp → Prop} (h : gs [a, b] σ (upd H T (.tup [a, b])) Q) : gTup K 2 gs (.ref T) σ (upd H T (.tup [a, b])) Q := ⟨T, _, rfl, st_of upd_same, rfl, h⟩
/-- data taken apart -/
theorem i_gtup {n : Nat} {gs : TGs} {Q : L2.St → Hp → Prop} (f : Ex S H) (h : Dv K S v (.tup ds)) (hn : ds.length = n) (q : ∀ xs, DvAll K S xs ds → gs xs σ H Q) : gTup K n gs v σ H Q := by
  obtain ⟨a, xs, rfl, h1, h2⟩ := h.tup_inv
  exact ⟨a, xs, rfl, sqT_mono f h1, h2.length.trans hn, q xs h2⟩
theorem walk_listD {a : Addr} {xs : List V} (h : S a = some (.lst xs)) (hx : DvAll K S xs ds) : Walk (Itl K a) ds.length (fun H => Ex S H) (fun i H x H' => H' = H ∧ ∃ d, ds[i]? = some d ∧ Dv K S x d) := by
  rw [← hx.length]
  exact walk_list.mono (fun H f => sq_of (f _ _ h)) fun i H x H' _ _ y => ⟨y.1, hx.get' y.2⟩
theorem dvAll_map {α : Type} {f : α → Dt} {as : List α} {xs : List V} (h : DvAll K S xs (as.map f)) {i : Nat} {x : V} (e : xs[i]? = some x) : ∃ a, as[i]? = some a ∧ Dv K S x (f a) := by
  obtain ⟨d, h1, h2⟩ := h.get' e
  rw [List.getElem?_map] at h1
  cases q : as[i]? with
  | none => rw [q] at h1; cases h1
  | some a => rw [q] at h1; cases h1; exact ⟨a, rfl, h2⟩
theorem map_at {α : Type} {f : α → Dt} {as : List α} {i : Nat} {d : Dt} (h : (as.map f)[i]? = some d) : ∃ a, as[i]? = some a ∧ d = f a := by
  rw [List.getElem?_map] at h
  cases q : as[i]? with
  | none => rw [q] at h; cases h
  | some a => rw [q] at h; cases h; exact ⟨a, rfl, rfl⟩
/-- the part of a list between two places -/
def cut {α : Type} (xs : List α) (lo hi : Option Int) : List α := (xs.drop (HT.sIx xs.length 0 lo)).take (HT.sIx xs.length xs.length hi - HT.sIx xs.length 0 lo)
theorem cut_take {α : Type} (xs : List α) (n : Nat) : cut xs none (some (n : Int)) = xs.take n := by
  unfold cut
  rw [HT.sIx_none, HT.sIx_nat, List.drop_zero, Nat.sub_zero]
  by_cases h : n ≤ xs.length
  · rw [Nat.min_eq_left h]
  · rw [Nat.min_eq_right (by omega), List.take_of_length_le (Nat.le_refl _), List.take_of_length_le (by omega)]
theorem cut_drop {α : Type} (xs : List α) (n : Nat) : cut xs (some (n : Int)) none = xs.drop n := by
  unfold cut
  rw [HT.sIx_none, HT.sIx_nat]
  by_cases h : n ≤ xs.length
  · rw [Nat.min_eq_left h, List.take_of_length_le (by rw [List.length_drop]; omega)]
  · rw [Nat.min_eq_right (by omega), Nat.sub_self, List.take_zero, List.drop_of_length_le (by omega)]
theorem cut_map {α β : Type} (f : α → β) (xs : List α) (lo hi : Option Int) : cut (xs.map f) lo hi = (cut xs lo hi).map f := by
  unfold cut
  rw [List.length_map, List.map_take, List.map_drop]
theorem DvAll.cut {vs : List V} (lo hi : Option Int) (h : DvAll K S vs ds) : DvAll K S (cutV vs lo hi) (cut ds lo hi) := by
  show DvAll K S ((vs.drop _).take _) ((ds.drop _).take _)
  rw [h.length]
  exact (h.drop _).take _
theorem i_slL {L : List Addr} {lo hi : Option Int} (f : Ex S H) (h : Dv K S v (.lst ds)) (q : RetD K L S H Q (.lst (cut ds lo hi))) : rSlX K v lo hi H Q := by
  obtain ⟨a, xs, rfl, h1, h2⟩ := h.lst_inv
  exact .inl ⟨a, xs, rfl, sq_of (f _ _ h1), fun p hp => q _ _ _ (Gr.newF f hp) (dv_lst_new (fresh_back f hp) (h2.cut lo hi))⟩
theorem i_slT {L : List Addr} {lo hi : Option Int} (f : Ex S H) (h : Dv K S v (.tup ds)) (q : RetD K L S H Q (.tup (cut ds lo hi))) : rSlX K v lo hi H Q := by
  obtain ⟨a, xs, rfl, h1, h2⟩ := id h.tup_inv
  refine .inr ⟨a, xs, rfl, sqT_mono f h1, fun w => ?_, fun _ p hp => q _ _ _ (Gr.newF f hp) (dv_tup_new (fresh_back f hp) (h2.cut lo hi))⟩
  have e : Gd.cut ds lo hi = ds := by
    unfold Gd.cut
    rw [← h2.length, w.1, w.2, List.drop_zero, Nat.sub_zero, h2.length, List.take_length]
  rw [e] at q
  exact q _ _ _ (Gr.refl f) h
theorem i_sl {L : List Addr} {lo hi : Option Int} (f : Ex S H) (h : SqD K S v ds) (q : ∀ S' H' w, Gr L S H S' H' → SqD K S' w (cut ds lo hi) → Q w H') : rSlX K v lo hi H Q := by
  cases h with
  | l h => exact i_slL (L := L) f h fun S' H' w g d => q S' H' w g (.l d)
  | t h => exact i_slT (L := L) f h fun S' H' w g d => q S' H' w g (.t d)
/-- a text in a list or a tuple of texts -/
theorem inV_str (s : Str) (gs : List Str) : inV (.str s) (gs.map V.str) = gs.contains s := by
  unfold inV
  induction gs with
  | nil => rfl
  | cons g r ih =>
    rw [List.map_cons, List.any_cons, ih, List.contains_cons]
    congr 1
    show eqV (.str g) (.str s) = (s == g)
    have : eqV (.str g) (.str s) = decide (g = s) := rfl
    rw [this, Bool.eq_iff_iff, decide_eq_true_eq, beq_iff_eq]
    exact ⟨Eq.symm, Eq.symm⟩
theorem i_inS {neg : Bool} {s : Str} {gs : List Str} (f : Ex S H) (h : SqD K S v (gs.map Dt.str)) (q : Q (.bl (if neg then !gs.contains s else gs.contains s)) H) : rIn K neg (.str s) v H Q := by
  obtain ⟨a, xs, rfl, h1, h2⟩ := h.inv f
  have e := dvAll_strs_inv h2
  subst e
  refine ⟨a, _, rfl, h1, rfl, ?_, ?_⟩
  · rw [List.all_map, List.all_eq_true]
    exact fun _ _ => rfl
  · rw [inV_str]
    exact q
/-! ### tuple(x), list(x) -/
def rTupX (K : PySem.W.Frag) : List V → Hp → VK → Prop := fun xs H Q => ∃ p ys, xs = [.ref p] ∧ ((SqL K H p ys ∧ ∀ l, H l = none → Q (.ref l) (upd H l (.tup ys))) ∨ (SqT K H p ys ∧ Q (.ref p) H))
def rListX (K : PySem.W.Frag) : List V → Hp → VK → Prop := fun xs H Q => ∃ p ys, xs = [.ref p] ∧ (SqL K H p ys ∨ SqT K H p ys) ∧ ∀ l, H l = none → Q (.ref l) (upd H l (.lst ys))
theorem call_tupX {X : Cx} : CallR X (.type "tuple") (rTupX X.K) := call_tuple_of
theorem call_listX {X : Cx} : CallR X (.type "list") (rListX X.K) := call_list_of
theorem i_tupX {L : List Addr} (f : Ex S H) (h : SqD K S v ds) (q : RetD K L S H Q (.tup ds)) : rTupX K [v] H Q := i_tuple f h q
theorem i_listX (f : Ex S H) (h : SqD K S v ds) (q : ∀ l xs, H l = none → DvAll K S xs ds → Q (.ref l) (upd H l (.lst xs))) : rListX K [v] H Q := i_list f h q
theorem i_listO {a : Addr} {xs : List V} (h : H a = some (.lst xs)) (q : ∀ l, H l = none → Q (.ref l) (upd H l (.lst xs))) : rListX K [.ref a] H Q := ⟨a, xs, rfl, .inl (sq_of h), q⟩
/-- the sum of tuples, as data -/
theorem i_catTD {L : List Addr} {x y : V} {es : List Dt} (f : Ex S H) (h1 : Dv K S x (.tup ds)) (h2 : Dv K S y (.tup es)) (z : ds.length + es.length ≤ 1000000) (q : RetD K L S H Q (.tup (ds ++ es))) : rAddX K x y H Q := by
  obtain ⟨a, xs, rfl, a1, a2⟩ := id h1.tup_inv
  obtain ⟨b, ys, rfl, b1, b2⟩ := id h2.tup_inv
  exact i_catT (L := L) f (sqT_mono f a1) (sqT_mono f b1) a2 b2 h1 h2 (by rw [a2.length, b2.length]; exact z) q
/-- the sum of lists, as data -/
theorem i_catLD {L : List Addr} {x y : V} {es : List Dt} (f : Ex S H) (h1 : Dv K S x (.lst ds)) (h2 : Dv K S y (.lst es)) (z : ds.length + es.length ≤ 1000000) (q : RetD K L S H Q (.lst (ds ++ es))) : rAddX K x y H Q := by
  obtain ⟨a, xs, rfl, a1, a2⟩ := h1.lst_inv
  obtain ⟨b, ys, rfl, b1, b2⟩ := h2.lst_inv
  exact i_cat (f _ _ a1) (f _ _ b1) (by rw [a2.length, b2.length]; exact z) fun p hp => q _ _ _ (Gr.newF f hp) (dv_lst_new (fresh_back f hp) (a2.append b2))
/-! ### a list as it stands, or a tuple of data -/
inductive SqH (K : PySem.W.Frag) (S H : Hp) (v : V) (ds : List Dt) : Prop where
  | l {a : Addr} {xs : List V} (e : v = .ref a) (h : H a = some (.lst xs)) (d : DvAll K S xs ds)
  | t (h : Dv K S v (.tup ds))
theorem SqD.toH (f : Ex S H) (h : SqD K S v ds) : SqH K S H v ds := by
  cases h with
  | l h =>
    obtain ⟨a, xs, e, h1, h2⟩ := h.lst_inv
    exact .l e (f _ _ h1) h2
  | t h => exact .t h
theorem SqH.mono {S' : Hp} (h : SqH K S H v ds) (e : Ex S S') : SqH K S' H v ds := by
  cases h with
  | l e1 h d => exact .l e1 h (d.mono e)
  | t h => exact .t (h.mono e)
theorem SqH.fz (f : Ex S H) (h : SqH K S H v ds) : ∃ S', Ex S S' ∧ Ex S' H ∧ SqD K S' v ds := by
  cases h with
  | @l a xs e h d =>
    subst e
    have e1 : Ex S (upd S a (.lst xs)) := fun b o z => by
      by_cases q : b = a
      · subst q
        rw [upd_same, ← h]
        exact f _ _ z
      · rw [upd_ne q]
        exact z
    refine ⟨upd S a (.lst xs), e1, fun b o z => ?_, .l (.lst upd_same (d.mono e1))⟩
    by_cases q : b = a
    · subst q
      rw [upd_same] at z
      rw [← z]
      exact h
    · rw [upd_ne q] at z
      exact f _ _ z
  | t h => exact ⟨S, Ex.refl S, f, .t h⟩
theorem SqH.gr {L : List Addr} {S' H' : Hp} (s : SqH K S H v ds) (g : Gr L S H S' H') (n : ∀ a ∈ L, ∀ xs, H a ≠ some (.lst xs)) : SqH K S' H' v ds := by
  cases s with
  | @l a xs e h d => exact .l e (g.h a _ (fun m => n a m xs h) h) (d.mono g.s)
  | t h => exact .t (h.mono g.s)
theorem i_tupH {L : List Addr} (f : Ex S H) (s : SqH K S H v ds) (q : RetD K L S H Q (.tup ds)) : rTupX K [v] H Q := by
  cases s with
  | @l a xs e h d =>
    subst e
    exact ⟨a, xs, rfl, .inl ⟨sq_of h, fun l hl => q _ _ _ (Gr.newF f hl) (dv_tup_new (fresh_back f hl) d)⟩⟩
  | t h => exact i_tupX f (.t h) q
end
end Gd

set_option Elab.async false
set_option linter.all false
set_option maxRecDepth 100000
set_option maxHeartbeats 4000000
/-! G11: small calls; the pot of digits. -/
namespace Gd
open PySem PySem.Spec PyProof.Rows L2
open Evl (Ex Ex.refl Ex.trans Ex.new Ex.mut ex_t ex_l sq_of st_of fresh_back)
section
variable {K : PySem.W.Frag} {σ : L2.St} {H H1 S S1 : Hp} {Q : VK} {D : Ends} {L : List Addr}
def rInt1 : List V → Hp → VK → Prop := fun xs H Q => (∃ i, xs = [.int i] ∧ Q (.int i) H) ∨ ∃ k, xs = [.bl k] ∧ Q (.int (if k then 1 else 0)) H
def rAbs : List V → Hp → VK → Prop := fun xs H Q => ∃ i, xs = [.int i] ∧ Q (.int (if i < 0 then -i else i)) H
def rMax2 : List V → Hp → VK → Prop := fun xs H Q => ∃ i j, xs = [.int i, .int j] ∧ Q (.int (if j > i then j else i)) H
def rMin2 : List V → Hp → VK → Prop := fun xs H Q => ∃ i j, xs = [.int i, .int j] ∧ Q (.int (if j < i then j else i)) H
def rDivmod : List V → Hp → VK → Prop := fun xs H Q => ∃ i j, xs = [.int i, .int j] ∧ CDiv i j ∧ ∀ p, H p = none → Q (.ref p) (upd H p (.tup [.int (i / j), .int (i % j)]))
theorem call_intX {X : Cx} : CallR X (.type "int") rInt1 := call_int1
theorem call_absX {X : Cx} : CallR X (.builtin "abs") rAbs := call_abs
theorem call_maxX {X : Cx} (hc : X.calm = true) : CallR X (.builtin "max") rMax2 := call_max2 hc
theorem call_minX {X : Cx} (hc : X.calm = true) : CallR X (.builtin "min") rMin2 := call_min2 hc
theorem call_divmodX {X : Cx} : CallR X (.builtin "divmod") rDivmod := call_divmod
theorem i_int1 {i : Int} (q : Q (.int i) H) : rInt1 [.int i] H Q := .inl ⟨i, rfl, q⟩
theorem i_abs {i : Int} (q : Q (.int (if i < 0 then -i else i)) H) : rAbs [.int i] H Q := ⟨i, rfl, q⟩
theorem i_max {i j : Int} (q : Q (.int (if j > i then j else i)) H) : rMax2 [.int i, .int j] H Q := ⟨i, j, rfl, q⟩
theorem i_min {i j : Int} (q : Q (.int (if j < i then j else i)) H) : rMin2 [.int i, .int j] H Q := ⟨i, j, rfl, q⟩
theorem i_divmod {i j : Int} (h0 : 0 < j) (h1 : j < 1073741824) (q : ∀ p, H p = none → Q (.ref p) (upd H p (.tup [.int (i / j), .int (i % j)]))) : rDivmod [.int i, .int j] H Q := ⟨i, j, rfl, ⟨h0, h1⟩, q⟩
theorem x_sameI {i j : Int} {b : Bool} (e : decide (i = j) = b) (h : Q (.bl b) H) : rEq (.int i) (.int j) H Q := ⟨rfl, by rw [show decide (V.int i = V.int j) = decide (i = j) by rw [dec_int, Bool.eq_iff_iff]; simp, e]; exact h⟩
theorem i_tyL {a : Addr} {xs : List V} (h : H a = some (.lst xs)) : tyV K "list" (.ref a) H := .inl ⟨rfl, xs, sq_of h⟩
theorem i_append {a : Addr} {xs : List V} {y : V} (h : H a = some (.lst xs)) (z : xs.length ≤ 1000000) (q : Q .non (upd H a (.lst (xs ++ [y])))) : rAppend (.ref a) [y] H Q := ⟨a, xs, y, rfl, rfl, h, Nat.lt_of_le_of_lt z (by rw [sizeLine_eq]; decide), q⟩
theorem i_popAt {a : Addr} {xs : List V} {n : Nat} {y : V} (h : H a = some (.lst xs)) (z : xs.length ≤ 1000000) (e : xs[n]? = some y) (q : Q y (upd H a (.lst (xs.eraseIdx n)))) : rPopAt (.ref a) [.int (n : Nat)] H Q := by
  have hn := (List.getElem?_eq_some_iff.mp e).1
  have e2 : ixN xs.length ((n : Nat) : Int) = some n := by
    unfold ixN
    rw [if_pos (by omega), if_pos (by omega), Int.toNat_natCast]
  have c : (2 : Int) ^ 63 = 9223372036854775808 := rfl
  exact ⟨a, xs, _, n, y, rfl, rfl, h, by omega, by omega, (ixN_seq e2).1, e, q⟩
theorem Gr.mutN (g : Gr L S H S1 H1) {l : Addr} {o : HO} (hl : H l = none) (sl : S1 l = none) : Gr L S H S1 (upd H1 l o) :=
  g.trans (Gr.mut (L := [l]) g.i sl (by simp)) fun x hx => .inr (by rw [List.mem_singleton.mp hx]; exact hl)
theorem Gr.frzN (g : Gr L S H S1 H1) {l : Addr} {o : HO} (hl : H l = none) (sl : S1 l = none) (e : H1 l = some o) : Gr L S H (upd S1 l o) H1 :=
  g.trans (Gr.frz (L := [l]) g.i sl e (by simp)) fun x hx => .inr (by rw [List.mem_singleton.mp hx]; exact hl)
/-- a step that changed what is fresh since -/
theorem Gr.thenN {L2 : List Addr} {S2 H2 : Hp} (a : Gr L S H S1 H1) (b : Gr L2 S1 H1 S2 H2) (c : ∀ x ∈ L2, x ∈ L ∨ H x = none) : Gr L S H S2 H2 := a.trans b c

/-! ### the pot -/
structure PotOk (S H : Hp) (p : Addr) : Prop where
  s : S p = none
  h : ∃ a b : Int, 0 ≤ a ∧ 0 ≤ b ∧ b < 4294967296 ∧ H p = some (.lst [.int a, .int b])
theorem PotOk.gr {p : Addr} (k : PotOk S H p) (g : Gr L S H S1 H1) (n : p ∉ L) : PotOk S1 H1 p := by
  obtain ⟨a, b, h0, h1, h2, e⟩ := k.h
  obtain ⟨x, y⟩ := g.own n e k.s
  exact ⟨y, a, b, h0, h1, h2, x⟩
theorem PotOk.new {p l : Addr} {o : HO} (k : PotOk S H p) (hl : H l = none) : PotOk S (upd H l o) p := by
  obtain ⟨a, b, h0, h1, h2, e⟩ := k.h
  exact ⟨k.s, a, b, h0, h1, h2, by rw [upd_ne (ne_of_none e hl)]; exact e⟩
theorem PotOk.mut {p l : Addr} {o : HO} (k : PotOk S H p) (ne : p ≠ l) : PotOk S (upd H l o) p := by
  obtain ⟨a, b, h0, h1, h2, e⟩ := k.h
  exact ⟨k.s, a, b, h0, h1, h2, by rw [upd_ne ne]; exact e⟩
theorem PotOk.frz {p l : Addr} {o : HO} (k : PotOk S H p) (ne : p ≠ l) : PotOk (upd S l o) H p := ⟨by rw [upd_ne ne]; exact k.s, k.h⟩
def spPot (K : PySem.W.Frag) : Sp := fun vs H Q _ => ∃ (a : Addr) (ns : List Int) (k : Nat), vs = [.ref a, .int k] ∧ SqL K H a (ns.map V.int) ∧ k < 1000 ∧ ∀ (p : Addr) (x y : Int), H p = none → 0 ≤ x → 0 ≤ y → y < 4294967296 → Q (.ref p) (upd H p (.lst [.int x, .int y]))
def spDraw : Sp := fun vs H Q _ => ∃ S p, ∃ m : Int, vs = [.ref p, .int m] ∧ Ex S H ∧ PotOk S H p ∧ 0 < m ∧ m < 1000000 ∧ ∀ H' (n : Nat), (n : Int) < m → Gr [p] S H S H' → PotOk S H' p → Q (.int n) H'
def spPick (K : PySem.W.Frag) : Sp := fun vs H Q _ => ∃ (S : Hp) (p : Addr) (v : V) (ds : List Dt), vs = [.ref p, v] ∧ Ex S H ∧ PotOk S H p ∧ SqD K S v ds ∧ ds ≠ [] ∧ ds.length < 1000000 ∧ ∀ (H' : Hp) (i : Nat) (d : Dt) (u : V), ds[i]? = some d → Dv K S u d → Gr [p] S H S H' → PotOk S H' p → Q u H'
/-- the pot is written -/
theorem pot_set {p : Addr} {a b : Int} (f : Ex S H) (k : PotOk S H p) (h0 : 0 ≤ a) (h1 : 0 ≤ b) (h2 : b < 4294967296) : Gr [p] S H S (upd H p (.lst [.int a, .int b])) ∧ PotOk S (upd H p (.lst [.int a, .int b])) p :=
  ⟨Gr.mut f k.s (by simp), k.s, a, b, h0, h1, h2, upd_same⟩
theorem i_setL {p : Addr} {xs : List V} {i : Int} {j : Nat} {v : V} {Q : Hp → Prop} (h : H p = some (.lst xs)) (e : i = (j : Int)) (hj : j < xs.length) (q : Q (upd H p (.lst (xs.set j v)))) : rSetL (.ref p) (.int i) v H Q := by
  refine ⟨p, xs, i, j, rfl, rfl, h, ?_, q⟩
  subst e
  unfold ixN
  rw [if_pos (by omega), if_pos (by omega), Int.toNat_natCast]
end
end Gd

set_option Elab.async false
set_option linter.all false
set_option maxRecDepth 100000
set_option maxHeartbeats 4000000
/-! G12: new data; what is fresh since. -/
namespace Gd
open PySem PySem.Spec PyProof.Rows L2
open Evl (Ex Ex.refl Ex.trans Ex.new Ex.mut ex_t ex_l sq_of st_of fresh_back)
section
variable {K : PySem.W.Frag} {σ : L2.St} {H H0 H1 S S0 S1 : Hp} {Q : VK} {D : Ends} {L : List Addr}
theorem newLD {p : Addr} {xs : List V} {ds : List Dt} (g : Gr L S0 H0 S H) (hp : H p = none) (d : DvAll K S xs ds) : Gr L S0 H0 (upd S p (.lst xs)) (upd H p (.lst xs)) ∧ Dv K (upd S p (.lst xs)) (.ref p) (.lst ds) ∧ Ex S (upd S p (.lst xs)) :=
  ⟨g.then (Gr.newF g.i hp), dv_lst_new (fresh_back g.i hp) d, Ex.new (fresh_back g.i hp)⟩
theorem newTD {p : Addr} {xs : List V} {ds : List Dt} (g : Gr L S0 H0 S H) (hp : H p = none) (d : DvAll K S xs ds) : Gr L S0 H0 (upd S p (.tup xs)) (upd H p (.tup xs)) ∧ Dv K (upd S p (.tup xs)) (.ref p) (.tup ds) ∧ Ex S (upd S p (.tup xs)) :=
  ⟨g.then (Gr.newF g.i hp), dv_tup_new (fresh_back g.i hp) d, Ex.new (fresh_back g.i hp)⟩
theorem Gr.back (g : Gr L S H S1 H1) {l : Addr} (h : H1 l = none) (n : l ∉ L) : H l = none := by
  cases q : H l with
  | none => rfl
  | some o =>
    have := g.h l o n q
    rw [h] at this
    cases this
theorem PotOk.neq {p l : Addr} (k : PotOk S H p) (h : H l = none) : p ≠ l := by
  rintro rfl
  obtain ⟨a, b, _, _, _, e⟩ := k.h
  rw [h] at e
  cases e
theorem PotOk.of_new {p l : Addr} {o : HO} (g : Gr L S0 H0 (upd S l o) (upd H l o)) (k : PotOk S H p) (hl : H l = none) : PotOk (upd S l o) (upd H l o) p := (k.new hl).frz (k.neq hl)
theorem nmem1 {p l : Addr} (h : p ≠ l) : l ∉ [p] := by
  simp
  exact Ne.symm h
theorem i_rng {σ : L2.St} {n : Nat} {R : It → Hp → Prop} (hn : n ≤ 1000000) (h : R (Itr 0 n) H) : ∃ j : Int, [V.int (n : Nat)] = [V.int j] ∧ -(2 ^ 62) ≤ j ∧ j < 2 ^ 62 ∧ R (Itr 0 j.toNat) H := by
  have c : (2 : Int) ^ 62 = 4611686018427387904 := rfl
  exact ⟨n, rfl, by omega, by omega, by rw [Int.toNat_natCast]; exact h⟩
/-- for i in range(n) -/
def FR (g : TG) (tb : TS) (D : Ends) (σ : L2.St) : List V → Hp → Prop := fun vs H => ∃ j : Int, vs = [.int j] ∧ -(2 ^ 62) ≤ j ∧ j < 2 ^ 62 ∧ ∃ W : Nat → Nat → L2.St → Hp → Prop, (∃ m, W 0 m σ H) ∧ ∀ i m σ H, W i m σ H →
  ((Itr 0 j.toNat).stop i H ∧ D.nx σ H) ∨ ((Itr 0 j.toNat).go i H ∧ ∃ N : L2.St → Hp → Prop, (∀ σ' H', N σ' H' → ∃ m', m' < m ∧ W (i + 1) m' σ' H') ∧ ∀ x H', (Itr 0 j.toNat).yld i H x H' → g x σ H' fun σ2 H2 => tb { D with nx := N, ct := N, bk := D.nx } σ2 H2)
theorem x_forRng {ta : TA} {g : TG} {tb : TS} (h : ta σ H fun vs H1 => FR g tb D σ vs H1) : tFor (iRng1 ta) g tb D σ H := h
theorem i_forRng {g : TG} {tb : TS} {n : Nat} (hn : n ≤ 1000000) (Pv : Nat → L2.St → Hp → Prop) (h0 : Pv 0 σ H)
    (hs : ∀ i σ H, i < n → Pv i σ H → g (.int (i : Nat)) σ H fun σ2 H2 => tb { D with nx := Pv (i + 1), ct := Pv (i + 1), bk := D.nx } σ2 H2) (hd : ∀ σ H, Pv n σ H → D.nx σ H) : FR g tb D σ [.int (n : Nat)] H := by
  have c : (2 : Int) ^ 62 = 4611686018427387904 := rfl
  refine ⟨n, rfl, by omega, by omega, ?_⟩
  rw [Int.toNat_natCast]
  refine for_it walk_range Pv h0 (fun _ _ _ _ _ => trivial) ?_ hd
  rintro i x σ H H' hi pv ⟨e, rfl⟩
  subst e
  simp only [Int.zero_add]
  exact hs i σ _ hi pv
theorem x_js {t : TE} {ts : List TE} {acc : Str} {Q : Str → Hp → Prop} (h : t σ H fun x H1 => ∃ y : Str, x = .str y ∧ (acc ++ y).length ≤ sizeLine ∧ tJs ts (acc ++ y) σ H1 Q) : tJs (t :: ts) acc σ H Q := h
theorem x_jsN {acc : Str} {Q : Str → Hp → Prop} (h : Q acc H) : tJs [] acc σ H Q := h
/-- a text of a joined string -/
theorem i_js {acc y : Str} {ts : List TE} {Q : Str → Hp → Prop} (z : (acc ++ y).length ≤ 1000000) (h : tJs ts (acc ++ y) σ H Q) : ∃ y' : Str, V.str y = .str y' ∧ (acc ++ y').length ≤ sizeLine ∧ tJs ts (acc ++ y') σ H Q :=
  ⟨y, rfl, Nat.le_trans z (by rw [sizeLine_eq]; decide), h⟩
theorem str_app_len (a b : Str) : (a ++ b).length = a.length + b.length := by
  show (a.cps ++ b.cps).size = _
  rw [Array.size_append]
  rfl
theorem str_empty_app (a : Str) : Str.empty ++ a = a := by
  cases a
  show Str.mk (#[] ++ _) = _
  rw [Array.empty_append]
/-- {x!r} of data -/
theorem i_fmtD {p : Addr} {d : Dt} {acc : Str} {ts : List TE} {Q : Str → Hp → Prop} (f : Ex S H) (h : Dv K S (.ref p) d) (pl : plainD d = true) (sh : Shows (pyD d)) (z : (acc ++ (pyD d).shown).length ≤ 1000000) (q : tJs ts (acc ++ (pyD d).shown) σ H Q) :
    ∃ a e, V.ref p = .ref a ∧ Dp K H (.ref a) e ∧ Shows e ∧ ∃ y' : Str, V.str e.shown = .str y' ∧ (acc ++ y').length ≤ sizeLine ∧ tJs ts (acc ++ y') σ H Q :=
  ⟨p, pyD d, rfl, (h.mono f).dp pl, sh, i_js z q⟩
/-- repr(x) of data -/
theorem i_reprD {p : Addr} {d : Dt} (f : Ex S H) (h : Dv K S (.ref p) d) (pl : plainD d = true) (sh : Shows (pyD d)) (q : Q (.str (pyD d).shown) H) : rReprD K [.ref p] H Q := ⟨p, pyD d, rfl, (h.mono f).dp pl, sh, q⟩
theorem erase_map {α β : Type} (f : α → β) : ∀ (l : List α) (n : Nat), (l.map f).eraseIdx n = (l.eraseIdx n).map f
  | [], _ => rfl
  | a :: r, 0 => rfl
  | a :: r, n + 1 => by
    show f a :: (r.map f).eraseIdx n = f a :: (r.eraseIdx n).map f
    rw [erase_map f r n]
theorem erase_perm {α : Type} : ∀ {l : List α} {n : Nat} (h : n < l.length), (l[n] :: l.eraseIdx n).Perm l
  | a :: r, 0, _ => List.Perm.refl _
  | a :: r, n + 1, h => by
    have hr : n < r.length := Nat.lt_of_succ_lt_succ h
    show (r[n] :: a :: r.eraseIdx n).Perm (a :: r)
    exact (List.Perm.swap _ _ _).trans (List.Perm.cons a (erase_perm (Nat.lt_of_succ_lt_succ h)))
end
end Gd

set_option Elab.async false
set_option linter.all false
set_option maxRecDepth 100000
set_option maxHeartbeats 4000000
/-! G13: keyword calls of methods; comprehensions over a list of data. -/
namespace Gd
open PySem PySem.Spec PyProof.Rows L2
open Evl (Ex Ex.refl Ex.trans Ex.new Ex.mut ex_t ex_l sq_of st_of fresh_back)
/-- o.m(k = v, ..) -/
def tMethN (C : Addr) (m : Str) (n : Nat) (sp : Sp) (gV : List V → List V → List V) (E : XK) (ta : TE) (tk : TA) : TE := fun σ H Q => ta σ H fun x H1 => ∃ a dx fs, x = .ref a ∧ H1 a = some (.ins C dx fs) ∧ fs.lookup m = none ∧ tk σ H1 fun zs H2 => zs.length = n ∧ sp (gV [x] zs) H2 Q E
theorem x_methN {C : Addr} {m : Str} {n : Nat} {sp : Sp} {gV : List V → List V → List V} {E : XK} {ta : TE} {tk : TA} {σ : L2.St} {H : Hp} {Q : VK} (h : ta σ H fun x H1 => ∃ a dx fs, x = .ref a ∧ H1 a = some (.ins C dx fs) ∧ fs.lookup m = none ∧ tk σ H1 fun zs H2 => zs.length = n ∧ sp (gV [x] zs) H2 Q E) : tMethN C m n sp gV E ta tk σ H Q := h
section
variable {X : Cx} {CX : CXT} {k n : Nat} {f C : Addr} {fd : FuncData} {ps ks : List Str} {sp : Sp} {E : XK} {m : Str} {apos pos : Pos} {o : Expr} {kws : List Keyword} {ta : TE} {tk : TA} {g : List Value → List Value → List Value} {gV : List V → List V → List V}
theorem pe_methK0 {pl : Sem Bool} (he : PE X o ta) (c : Cls X.K C) (hm : Meth X.K C m f) (F : FnOk X.prog X.w X.K X.mg X.base CX k f fd ps sp) (hr : Room k X.A) (hb : KBn X.K fd ps 1 ks g gV) (hx : Passes CX X E) (hkw : PK X kws tk)
    (hall : (backToKw pos (keywordEach kws X.env)).all (·.1.isSome) = true := by rfl) (hks : (backToKw pos (keywordEach kws X.env)).filterMap (·.1) = ks := by rfl)
    (hpl : ((backTo pos (starEach [] X.env)).any (·.1) || (backToKw pos (keywordEach kws X.env)).any (·.1.isNone)) = false := by rfl)
    (ht : eval (.Call (.Attribute o m apos) [] kws pos) X.env = (do
      let ov ← eval o X.env
      standAt apos.atName
      let (f, first) ← holding [ov] (getMethod ov m pl)
      callWith pos f first (backTo pos (starEach [] X.env)) (backToKw pos (keywordEach kws X.env))) := by rfl) :
    PE X (.Call (.Attribute o m apos) [] kws pos) (tMethN C m ks.length sp gV E ta tk) := by
  constructor
  intro pins s σ H Q I h
  refine PySem.W.methodCall_KW (pl := pl) (thn (he.run pins s σ H _ I h) ?_) ht
  rintro u s1 ⟨x, H1, I1, rx, a, dx, fs, rfl, ea, l, q⟩
  obtain rfl : u = Value.ref a := rx
  refine getmeth_ok I1 ea c hm l ?_
  refine PySem.W.callWith_KW0 (first := [.ref a]) (h₀ := X.base) I.ok.mod.kin hm.kp hall ?_ hpl
  refine thn (hkw.run pos pins s1 σ H1 _ I1 q) ?_
  rintro ws s2 ⟨zs, H2, I2, rz, l2, q2⟩
  refine ⟨I2.kIn, ?_⟩
  rw [hks]
  exact run_fnN (us := [.ref a]) (vs := [.ref a]) F hr hb hx I2 (.cons rfl .nil) rz rfl l2 q2
end
/-- keywords, no defaults -/
theorem kbn_app {K : PySem.W.Frag} {x qual : Str} {params : Arguments} {body : List Stmt} {scope : Scope} {kws : List (Str × V)} {f : Addr} {fd : FuncData} {ps : List Str} (F : FunD K x qual params body scope [] kws f fd) (n : Nat) (ks : List Str)
    (h : ∀ (kV doc pm : Value) (an : Option Addr) (cdv ct : Value) (us ws : List Value), us.length = n → ws.length = ks.length → bindArgs (PySem.W.fnOf x qual params body scope .none kV doc pm an cdv ct) ⟨us, ks.zip ws⟩ = pure (ps.zip (us ++ ws))) : KBn K fd ps n ks (fun us ws => us ++ ws) (fun vs zs => vs ++ zs) := by
  obtain ⟨oc, od, dV, kV, doc, pm, an, cdv, ct, osl, rfl, lk, hcd, hD, hK⟩ := F.ex
  rcases hD with ⟨_, rfl⟩ | ⟨e, _⟩
  · exact ⟨fun s us ws _ l1 l2 => .of_eq (h kV doc pm an cdv ct us ws l1 l2), fun r1 r2 => r1.append r2⟩
  · exact absurd rfl e
section
variable {K : PySem.W.Frag} {σ : L2.St} {H1 S : Hp} {g : TG} {tt : TT} {te : TE} {vs : List Nat} {D : Addr}
theorem range_get {α β : Type} (h : Nat → β) (h' : α → β) : ∀ (as : List α), (∀ i a, as[i]? = some a → h i = h' a) → (List.range as.length).map h = as.map h' := by
  intro as e
  apply List.ext_getElem?
  intro i
  by_cases hi : i < as.length
  · simp [hi]
    exact e i _ (List.getElem?_eq_getElem hi)
  · simp [hi]
theorem lc_list {α : Type} {a : Addr} {as : List α} {fD : α → Dt} {xs : List V} (ha : S a = some (.lst xs)) (hx : DvAll K S xs (as.map fD)) (h : α → V) (f : Ex S H1) (hD : H1 D = none) (hz : as.length ≤ 1000)
    (turn : ∀ c x S1 Hc (Qe : VK) (Nx : Hp → Prop), c ∈ as → Gr [] S H1 S1 Hc → Dv K S1 x (fD c) → (∀ S' H4, Gr [] S1 Hc S' H4 → Qe (h c) H4) →
      g x (wipe σ vs) Hc fun σ2 H2 => wipe σ2 vs = wipe σ vs ∧ tt σ2 H2 fun b H3 => if b = true then te σ2 H3 Qe else Nx H3)
    {Qd : Hp → Prop} (done : ∀ S' H', Gr [] S H1 S' H' → S' D = none → H' D = some (.lst (as.map h)) → Qd H') :
    ∃ W : Nat → Nat → Hp → Prop, (∃ m, W 0 m (upd H1 D (.lst []))) ∧ ∀ i m H, W i m H →
      ((Itl K a).stop i H ∧ Qd H) ∨ ((Itl K a).go i H ∧ ∃ Nx : Hp → Prop, (∀ H', Nx H' → ∃ m', m' < m ∧ W (i + 1) m' H') ∧ ∀ x H', (Itl K a).yld i H x H' → g x (wipe σ vs) H' fun σ2 H2 => wipe σ2 vs = wipe σ vs ∧ tt σ2 H2 fun b H3 =>
        if b = true then te σ2 H3 fun y H4 => ∃ acc, H4 D = some (.lst acc) ∧ acc.length < sizeLine ∧ Nx (upd H4 D (.lst (acc ++ [y]))) else Nx H3) := by
  let e : Nat → V := fun i => match as[i]? with
    | some c => h c
    | none => .non
  have he : (List.range as.length).map e = as.map h := range_get e h as fun i c hc => by
    show (match as[i]? with | some c => h c | none => V.non) = h c
    rw [hc]
  have w : Walk (Itl K a) as.length (fun H => Ex S H) (fun i H x H' => H' = H ∧ ∃ d, (as.map fD)[i]? = some d ∧ Dv K S x d) := by
    have := walk_listD ha hx
    rw [List.length_map] at this
    exact this
  refine lc_data w e (fun _ _ => True) (fun _ _ _ _ h => h) f hD (Nat.lt_of_le_of_lt hz (by rw [sizeLine_eq]; decide)) (fun S1 Hc g1 => g1.s.trans g1.i) ?_ ?_
  · rintro i x S1 Hc Hc' Qe Nx hi g1 _ ⟨e1, d, hd, dx⟩ qe
    subst e1
    obtain ⟨c, hc, rfl⟩ := map_at hd
    have ei : e i = h c := by
      show (match as[i]? with | some c => h c | none => V.non) = h c
      rw [hc]
    exact turn c x S1 _ Qe Nx (List.mem_of_getElem? hc) g1 (dx.mono g1.s) fun S' H4 g2 => by
      rw [← ei]
      exact qe S' H4 g2 trivial
  · intro S' H' g1 s1 hl _
    rw [he] at hl
    exact done S' H' g1 s1 hl
/-- a comprehension over a list, at the list's value -/
def LCL (K : PySem.W.Frag) (g : TG) (tt : TT) (te : TE) (vs : List Nat) (σ : L2.St) (Q : VK) : V → Hp → Prop := fun x H1 => ∃ a, x = .ref a ∧ (∃ xs, SqL K H1 a xs) ∧ ∀ D, H1 D = none → ∃ W : Nat → Nat → Hp → Prop, (∃ m, W 0 m (upd H1 D (.lst []))) ∧ ∀ i m H, W i m H →
  ((Itl K a).stop i H ∧ Q (.ref D) H) ∨ ((Itl K a).go i H ∧ ∃ Nx : Hp → Prop, (∀ H', Nx H' → ∃ m', m' < m ∧ W (i + 1) m' H') ∧ ∀ x H', (Itl K a).yld i H x H' → g x (wipe σ vs) H' fun σ2 H2 => wipe σ2 vs = wipe σ vs ∧ tt σ2 H2 fun b H3 =>
    if b = true then te σ2 H3 fun y H4 => ∃ acc, H4 D = some (.lst acc) ∧ acc.length < sizeLine ∧ Nx (upd H4 D (.lst (acc ++ [y]))) else Nx H3)
theorem x_lcL {te0 : TE} {H : Hp} {Q : VK} (h : te0 σ H fun x H1 => LCL K g tt te vs σ Q x H1) : tLc (iList K te0) g tt te vs σ H Q := h
theorem i_lcL {α : Type} {v : V} {as : List α} {fD : α → Dt} {Q : VK} (dv : Dv K S v (.lst (as.map fD))) (h : α → V) (f : Ex S H1) (hz : as.length ≤ 1000)
    (turn : ∀ c x S1 Hc (Qe : VK) (Nx : Hp → Prop), c ∈ as → Gr [] S H1 S1 Hc → Dv K S1 x (fD c) → (∀ S' H4, Gr [] S1 Hc S' H4 → Qe (h c) H4) →
      g x (wipe σ vs) Hc fun σ2 H2 => wipe σ2 vs = wipe σ vs ∧ tt σ2 H2 fun b H3 => if b = true then te σ2 H3 Qe else Nx H3)
    (done : ∀ D S' H', H1 D = none → Gr [] S H1 S' H' → S' D = none → H' D = some (.lst (as.map h)) → Q (.ref D) H') : LCL K g tt te vs σ Q v H1 := by
  obtain ⟨a, xs, rfl, ha, hx⟩ := dv.lst_inv
  refine ⟨a, rfl, ⟨xs, sq_of (f _ _ ha)⟩, fun D hD => ?_⟩
  exact lc_list ha hx h f hD hz turn fun S' H' g1 s1 l1 => done D S' H' hD g1 s1 l1
/-- a comprehension over range(n), at the argument's value -/
def LCR (g : TG) (tt : TT) (te : TE) (vs : List Nat) (σ : L2.St) (Q : VK) : List V → Hp → Prop := fun xs H1 => ∃ j : Int, xs = [.int j] ∧ -(2 ^ 62) ≤ j ∧ j < 2 ^ 62 ∧ ∀ D, H1 D = none → ∃ W : Nat → Nat → Hp → Prop, (∃ m, W 0 m (upd H1 D (.lst []))) ∧ ∀ i m H, W i m H →
  ((Itr 0 j.toNat).stop i H ∧ Q (.ref D) H) ∨ ((Itr 0 j.toNat).go i H ∧ ∃ Nx : Hp → Prop, (∀ H', Nx H' → ∃ m', m' < m ∧ W (i + 1) m' H') ∧ ∀ x H', (Itr 0 j.toNat).yld i H x H' → g x (wipe σ vs) H' fun σ2 H2 => wipe σ2 vs = wipe σ vs ∧ tt σ2 H2 fun b H3 =>
    if b = true then te σ2 H3 fun y H4 => ∃ acc, H4 D = some (.lst acc) ∧ acc.length < sizeLine ∧ Nx (upd H4 D (.lst (acc ++ [y]))) else Nx H3)
theorem x_lcR {ta : TA} {H : Hp} {Q : VK} (h : ta σ H fun xs H1 => LCR g tt te vs σ Q xs H1) : tLc (iRng1 ta) g tt te vs σ H Q := h
theorem i_lcR {n : Nat} {j : Int} {Q : VK} (hj : j = (n : Int)) (h : Nat → V) (f : Ex S H1) (hz : n ≤ 1000)
    (turn : ∀ i S1 Hc (Qe : VK) (Nx : Hp → Prop), i < n → Gr [] S H1 S1 Hc → (∀ S' H4, Gr [] S1 Hc S' H4 → Qe (h i) H4) →
      g (.int (i : Nat)) (wipe σ vs) Hc fun σ2 H2 => wipe σ2 vs = wipe σ vs ∧ tt σ2 H2 fun b H3 => if b = true then te σ2 H3 Qe else Nx H3)
    (done : ∀ D S' H', H1 D = none → Gr [] S H1 S' H' → S' D = none → H' D = some (.lst ((List.range n).map h)) → Q (.ref D) H') : LCR g tt te vs σ Q [.int j] H1 := by
  subst hj
  have c : (2 : Int) ^ 62 = 4611686018427387904 := rfl
  refine ⟨_, rfl, by omega, by omega, fun D hD => ?_⟩
  rw [Int.toNat_natCast]
  refine lc_data walk_range h (fun _ _ => True) (fun _ _ _ _ h => h) f hD (Nat.lt_of_le_of_lt hz (by rw [sizeLine_eq]; decide)) (fun _ _ _ => trivial) ?_ fun S' H' g1 s1 l1 _ => done D S' H' hD g1 s1 l1
  rintro i x S1 Hc Hc' Qe Nx hi g1 _ ⟨e, rfl⟩ qe
  subst e
  simp only [Int.zero_add]
  exact turn i S1 _ Qe Nx hi g1 fun S' H4 g2 => qe S' H4 g2 trivial
end
end Gd

set_option Elab.async false
set_option linter.all false
set_option maxRecDepth 100000
set_option maxHeartbeats 4000000
namespace K51
open PySem PySem.Spec PyProof.Rows L2 Gd
def top (i : Nat) : Stmt := PySem.Challenge.pw_lateledger_k51_moves_told.main.body.getD i (.Pass ⟨0, 0, 0, 0⟩)
abbrev s_is_integer : Stmt := top 12
abbrev s_is_name : Stmt := top 13
abbrev s_is_good : Stmt := top 14
abbrev s_is_list : Stmt := top 15
abbrev s_is_point : Stmt := top 19
abbrev s_is_condition : Stmt := top 20
abbrev s_want_parts : Stmt := top 21
abbrev s_Moves_init : Stmt := inClass (top 22) 0
abbrev s_Moves_goods : Stmt := inClass (top 22) 1
abbrev s_Moves_conditions : Stmt := inClass (top 22) 2
abbrev s_Moves_without : Stmt := inClass (top 22) 3
abbrev s_Moves_tightened : Stmt := inClass (top 22) 4
abbrev s_Moves_add : Stmt := inClass (top 22) 5
abbrev s_Moves_len : Stmt := inClass (top 22) 6
abbrev s_Moves_eq : Stmt := inClass (top 22) 7
abbrev s_Moves_repr : Stmt := inClass (top 22) 8
abbrev s_want_position : Stmt := top 23
abbrev s_law_pot : Stmt := top 25
abbrev s_law_draw : Stmt := top 26
abbrev s_law_pick : Stmt := top 27
abbrev s_law_scene : Stmt := top 28
abbrev s_law_mixed : Stmt := top 29
abbrev s_law_is : Stmt := top 30
abbrev s_law_equal_right : Stmt := top 31
abbrev s_law_changed_right : Stmt := top 32
abbrev s_law_right : Stmt := top 33
abbrev s_law : Stmt := top 34
theorem sc_is_integer : FnScope ["value"] ["value"] (defScope s_is_integer) := ⟨rfl, rfl, rfl, by decide +kernel, rfl, by decide +kernel, by decide +kernel⟩
theorem sc_is_name : FnScope ["value", "letter"] ["value"] (defScope s_is_name) := ⟨rfl, rfl, rfl, by decide +kernel, rfl, by decide +kernel, by decide +kernel⟩
theorem sc_is_good : FnScope ["value"] ["value"] (defScope s_is_good) := ⟨rfl, rfl, rfl, by decide +kernel, rfl, by decide +kernel, by decide +kernel⟩
theorem sc_is_list : FnScope ["value"] ["value"] (defScope s_is_list) := ⟨rfl, rfl, rfl, by decide +kernel, rfl, by decide +kernel, by decide +kernel⟩
theorem sc_is_point : FnScope ["goods", "value"] ["goods", "value"] (defScope s_is_point) := ⟨rfl, rfl, rfl, by decide +kernel, rfl, by decide +kernel, by decide +kernel⟩
theorem sc_is_condition : FnScope ["goods", "value"] ["goods", "value"] (defScope s_is_condition) := ⟨rfl, rfl, rfl, by decide +kernel, rfl, by decide +kernel, by decide +kernel⟩
theorem sc_want_parts : FnScope ["goods", "conditions", "position", "good", "condition"] ["goods", "conditions"] (defScope s_want_parts) := ⟨rfl, rfl, rfl, by decide +kernel, rfl, by decide +kernel, by decide +kernel⟩
theorem sc_Moves_init : FnScope ["self", "goods", "conditions"] ["self", "goods", "conditions"] (defScope s_Moves_init) := ⟨rfl, rfl, rfl, by decide +kernel, rfl, by decide +kernel, by decide +kernel⟩
theorem sc_Moves_goods : FnScope ["self"] ["self"] (defScope s_Moves_goods) := ⟨rfl, rfl, rfl, by decide +kernel, rfl, by decide +kernel, by decide +kernel⟩
theorem sc_Moves_conditions : FnScope ["self"] ["self"] (defScope s_Moves_conditions) := ⟨rfl, rfl, rfl, by decide +kernel, rfl, by decide +kernel, by decide +kernel⟩
theorem sc_Moves_without : FnScope ["self", "position"] ["self", "position"] (defScope s_Moves_without) := ⟨rfl, rfl, rfl, by decide +kernel, rfl, by decide +kernel, by decide +kernel⟩
theorem sc_Moves_tightened : FnScope ["self", "position", "one", "other", "most", "later"] ["self", "position"] (defScope s_Moves_tightened) := ⟨rfl, rfl, rfl, by decide +kernel, rfl, by decide +kernel, by decide +kernel⟩
theorem sc_Moves_add : FnScope ["self", "condition"] ["self", "condition"] (defScope s_Moves_add) := ⟨rfl, rfl, rfl, by decide +kernel, rfl, by decide +kernel, by decide +kernel⟩
theorem sc_Moves_len : FnScope ["self"] ["self"] (defScope s_Moves_len) := ⟨rfl, rfl, rfl, by decide +kernel, rfl, by decide +kernel, by decide +kernel⟩
theorem sc_Moves_eq : FnScope ["self", "other"] ["self", "other"] (defScope s_Moves_eq) := ⟨rfl, rfl, rfl, by decide +kernel, rfl, by decide +kernel, by decide +kernel⟩
theorem sc_Moves_repr : FnScope ["self"] ["self"] (defScope s_Moves_repr) := ⟨rfl, rfl, rfl, by decide +kernel, rfl, by decide +kernel, by decide +kernel⟩
theorem sc_want_position : FnScope ["moves", "value"] ["moves", "value"] (defScope s_want_position) := ⟨rfl, rfl, rfl, by decide +kernel, rfl, by decide +kernel, by decide +kernel⟩
theorem sc_law_pot : FnScope ["script", "k", "cell"] ["script", "k"] (defScope s_law_pot) := ⟨rfl, rfl, rfl, by decide +kernel, rfl, by decide +kernel, by decide +kernel⟩
theorem sc_law_draw : FnScope ["pot", "many", "digit"] ["pot", "many"] (defScope s_law_draw) := ⟨rfl, rfl, rfl, by decide +kernel, rfl, by decide +kernel, by decide +kernel⟩
theorem sc_law_pick : FnScope ["pot", "some"] ["pot", "some"] (defScope s_law_pick) := ⟨rfl, rfl, rfl, by decide +kernel, rfl, by decide +kernel, by decide +kernel⟩
theorem sc_law_scene : FnScope ["pot", "most", "goods", "points", "found", "turn", "one", "other"] ["pot", "most"] (defScope s_law_scene) := ⟨rfl, rfl, rfl, by decide +kernel, rfl, by decide +kernel, by decide +kernel⟩
theorem sc_law_mixed : FnScope ["pot", "some", "left", "found", "turn"] ["pot", "some"] (defScope s_law_mixed) := ⟨rfl, rfl, rfl, by decide +kernel, rfl, by decide +kernel, by decide +kernel⟩
theorem sc_law_is : FnScope ["moves", "goods", "rows", "turn", "told", "again"] ["moves", "goods", "rows"] (defScope s_law_is) := ⟨rfl, rfl, rfl, by decide +kernel, rfl, by decide +kernel, by decide +kernel⟩
theorem sc_law_equal_right : FnScope ["pot", "moves", "goods", "rows", "same", "others", "due", "other", "at", "one", "most", "bent", "turned", "so", "thing"] ["pot", "moves", "goods", "rows"] (defScope s_law_equal_right) := ⟨rfl, rfl, rfl, by decide +kernel, rfl, by decide +kernel, by decide +kernel⟩
theorem sc_law_changed_right : FnScope ["pot", "moves", "goods", "rows", "made", "some", "elder", "turn", "way", "more", "at", "one", "other", "most", "rest"] ["pot", "moves", "goods", "rows"] (defScope s_law_changed_right) := ⟨rfl, rfl, rfl, by decide +kernel, rfl, by decide +kernel, by decide +kernel⟩
theorem sc_law_right : FnScope ["pot", "goods", "rows", "given", "moves"] ["pot"] (defScope s_law_right) := ⟨rfl, rfl, rfl, by decide +kernel, rfl, by decide +kernel, by decide +kernel⟩
theorem sc_law : FnScope ["script", "k"] ["script"] (defScope s_law) := ⟨rfl, rfl, rfl, by decide +kernel, rfl, by decide +kernel, by decide +kernel⟩
def d_is_integer : He.DefD := ⟨("is_integer", none), "is_integer", "is_integer", defArgs s_is_integer, defBody s_is_integer, defScope s_is_integer, [], []⟩
def d_is_name : He.DefD := ⟨("is_name", none), "is_name", "is_name", defArgs s_is_name, defBody s_is_name, defScope s_is_name, [], []⟩
def d_is_good : He.DefD := ⟨("is_good", none), "is_good", "is_good", defArgs s_is_good, defBody s_is_good, defScope s_is_good, [], []⟩
def d_is_list : He.DefD := ⟨("is_list", none), "is_list", "is_list", defArgs s_is_list, defBody s_is_list, defScope s_is_list, [], []⟩
def d_is_point : He.DefD := ⟨("is_point", none), "is_point", "is_point", defArgs s_is_point, defBody s_is_point, defScope s_is_point, [], []⟩
def d_is_condition : He.DefD := ⟨("is_condition", none), "is_condition", "is_condition", defArgs s_is_condition, defBody s_is_condition, defScope s_is_condition, [], []⟩
def d_want_parts : He.DefD := ⟨("want_parts", none), "want_parts", "want_parts", defArgs s_want_parts, defBody s_want_parts, defScope s_want_parts, [], []⟩
def d_Moves_init : He.DefD := ⟨("Moves", some "__init__"), "__init__", "Moves.__init__", defArgs s_Moves_init, defBody s_Moves_init, defScope s_Moves_init, [.adr (He.dflAt ("Moves", some "__init__") 0)], []⟩
def d_Moves_goods : He.DefD := ⟨("Moves", some "goods"), "goods", "Moves.goods", defArgs s_Moves_goods, defBody s_Moves_goods, defScope s_Moves_goods, [], []⟩
def d_Moves_conditions : He.DefD := ⟨("Moves", some "conditions"), "conditions", "Moves.conditions", defArgs s_Moves_conditions, defBody s_Moves_conditions, defScope s_Moves_conditions, [], []⟩
def d_Moves_without : He.DefD := ⟨("Moves", some "without"), "without", "Moves.without", defArgs s_Moves_without, defBody s_Moves_without, defScope s_Moves_without, [], []⟩
def d_Moves_tightened : He.DefD := ⟨("Moves", some "tightened"), "tightened", "Moves.tightened", defArgs s_Moves_tightened, defBody s_Moves_tightened, defScope s_Moves_tightened, [], []⟩
def d_Moves_add : He.DefD := ⟨("Moves", some "__add__"), "__add__", "Moves.__add__", defArgs s_Moves_add, defBody s_Moves_add, defScope s_Moves_add, [], []⟩
def d_Moves_len : He.DefD := ⟨("Moves", some "__len__"), "__len__", "Moves.__len__", defArgs s_Moves_len, defBody s_Moves_len, defScope s_Moves_len, [], []⟩
def d_Moves_eq : He.DefD := ⟨("Moves", some "__eq__"), "__eq__", "Moves.__eq__", defArgs s_Moves_eq, defBody s_Moves_eq, defScope s_Moves_eq, [], []⟩
def d_Moves_repr : He.DefD := ⟨("Moves", some "__repr__"), "__repr__", "Moves.__repr__", defArgs s_Moves_repr, defBody s_Moves_repr, defScope s_Moves_repr, [], []⟩
def d_want_position : He.DefD := ⟨("want_position", none), "want_position", "want_position", defArgs s_want_position, defBody s_want_position, defScope s_want_position, [], []⟩
def d_law_pot : He.DefD := ⟨("_law_pot", none), "_law_pot", "_law_pot", defArgs s_law_pot, defBody s_law_pot, defScope s_law_pot, [], []⟩
def d_law_draw : He.DefD := ⟨("_law_draw", none), "_law_draw", "_law_draw", defArgs s_law_draw, defBody s_law_draw, defScope s_law_draw, [], []⟩
def d_law_pick : He.DefD := ⟨("_law_pick", none), "_law_pick", "_law_pick", defArgs s_law_pick, defBody s_law_pick, defScope s_law_pick, [], []⟩
def d_law_scene : He.DefD := ⟨("_law_scene", none), "_law_scene", "_law_scene", defArgs s_law_scene, defBody s_law_scene, defScope s_law_scene, [], []⟩
def d_law_mixed : He.DefD := ⟨("_law_mixed", none), "_law_mixed", "_law_mixed", defArgs s_law_mixed, defBody s_law_mixed, defScope s_law_mixed, [], []⟩
def d_law_is : He.DefD := ⟨("_law_is", none), "_law_is", "_law_is", defArgs s_law_is, defBody s_law_is, defScope s_law_is, [], []⟩
def d_law_equal_right : He.DefD := ⟨("_law_equal_right", none), "_law_equal_right", "_law_equal_right", defArgs s_law_equal_right, defBody s_law_equal_right, defScope s_law_equal_right, [], []⟩
def d_law_changed_right : He.DefD := ⟨("_law_changed_right", none), "_law_changed_right", "_law_changed_right", defArgs s_law_changed_right, defBody s_law_changed_right, defScope s_law_changed_right, [], []⟩
def d_law_right : He.DefD := ⟨("_law_right", none), "_law_right", "_law_right", defArgs s_law_right, defBody s_law_right, defScope s_law_right, [], []⟩
def d_law : He.DefD := ⟨("law", none), "law", "law", defArgs s_law, defBody s_law, defScope s_law, [], []⟩
def fn : List He.DefD := [d_is_integer, d_is_name, d_is_good, d_is_list, d_is_point, d_is_condition, d_want_parts, d_Moves_init, d_Moves_goods, d_Moves_conditions, d_Moves_without, d_Moves_tightened, d_Moves_add, d_Moves_len, d_Moves_eq, d_Moves_repr, d_want_position, d_law_pot, d_law_draw, d_law_pick, d_law_scene, d_law_mixed, d_law_is, d_law_equal_right, d_law_changed_right, d_law_right, d_law]
def fa : List He.Fa := [.glo "LedgerError", .glo "InvalidGoods", .glo "InvalidConditions", .glo "InvalidCondition", .glo "InvalidPosition", .glo "LimitError", .glo "TooMany", .str "LETTERS" "abcdefghijklmnopqrstuvwxyz", .int "MOST_LETTERS" 8, .glo "KEPT_WORDS", .glo "is_integer", .glo "is_name", .glo "is_good", .glo "is_list", .int "MOST_GOODS" 4, .int "MOST_CONDITIONS" 24, .glo "is_point", .glo "is_condition", .glo "want_parts", .glo "Moves", .glo "want_position", .glo "_law_pot", .glo "_law_draw", .glo "_law_pick", .glo "_law_scene", .glo "_law_mixed", .glo "_law_is", .glo "_law_equal_right", .glo "_law_changed_right", .glo "_law_right", .glo "law", .free "ValueError", .free "isinstance", .free "int", .free "bool", .free "str", .free "len", .free "all", .free "list", .free "tuple", .free "enumerate", .free "sorted", .free "abs", .free "max", .free "divmod", .free "range", .free "repr", .free "any", .free "min", .free "ArithmeticError", .cls "Moves", .mkr "Moves", .noat "Moves" "own_goods", .noat "Moves" "own_conditions", .meth "Moves" "goods", .meth "Moves" "conditions", .meth "Moves" "without", .meth "Moves" "tightened", .meth "Moves" "__add__", .meth "Moves" "__len__", .meth "Moves" "__eq__", .meth "Moves" "__repr__"]
/-- the function object at f -/
def fdOf (K : PySem.W.Frag) (f : Addr) : FuncData := match K.lookup f with
  | some ⟨_, _, .func fd, _⟩ => fd
  | _ => default
abbrev FD (K : PySem.W.Frag) (d : He.DefD) : Prop := FunD K d.name d.qual d.params d.body d.scope (d.dvs K) (d.kws K) (He.fAd K d.at_) (fdOf K (He.fAd K d.at_))
theorem fd_of {K : PySem.W.Frag} {d : He.DefD} (h : ∃ fd, FunD K d.name d.qual d.params d.body d.scope (d.dvs K) (d.kws K) (He.fAd K d.at_) fd) : FD K d := by
  obtain ⟨fd, F⟩ := h
  have e : fdOf K (He.fAd K d.at_) = fd := by
    obtain ⟨oc, od, dV, kV, doc, pm, an, cdv, ct, osl, _, lk, _⟩ := F.ex
    unfold fdOf
    rw [lk]
  unfold FD
  rw [e]
  exact F
/-- what the top has left, by name -/
structure Txt (K : PySem.W.Frag) (mg : Str → Option Value) : Prop where
  g_LedgerError : mg "LedgerError" = some (.ref (He.ga K "LedgerError"))
  g_InvalidGoods : mg "InvalidGoods" = some (.ref (He.ga K "InvalidGoods"))
  g_InvalidConditions : mg "InvalidConditions" = some (.ref (He.ga K "InvalidConditions"))
  g_InvalidCondition : mg "InvalidCondition" = some (.ref (He.ga K "InvalidCondition"))
  g_InvalidPosition : mg "InvalidPosition" = some (.ref (He.ga K "InvalidPosition"))
  g_LimitError : mg "LimitError" = some (.ref (He.ga K "LimitError"))
  g_TooMany : mg "TooMany" = some (.ref (He.ga K "TooMany"))
  c_LETTERS : ∃ t, mg "LETTERS" = some (.str "abcdefghijklmnopqrstuvwxyz" t)
  c_MOST_LETTERS : ∃ t, mg "MOST_LETTERS" = some (.int 8 t)
  g_KEPT_WORDS : mg "KEPT_WORDS" = some (.ref (He.ga K "KEPT_WORDS"))
  g_is_integer : mg "is_integer" = some (.ref (He.ga K "is_integer"))
  g_is_name : mg "is_name" = some (.ref (He.ga K "is_name"))
  g_is_good : mg "is_good" = some (.ref (He.ga K "is_good"))
  g_is_list : mg "is_list" = some (.ref (He.ga K "is_list"))
  c_MOST_GOODS : ∃ t, mg "MOST_GOODS" = some (.int 4 t)
  c_MOST_CONDITIONS : ∃ t, mg "MOST_CONDITIONS" = some (.int 24 t)
  g_is_point : mg "is_point" = some (.ref (He.ga K "is_point"))
  g_is_condition : mg "is_condition" = some (.ref (He.ga K "is_condition"))
  g_want_parts : mg "want_parts" = some (.ref (He.ga K "want_parts"))
  g_Moves : mg "Moves" = some (.ref (He.ga K "Moves"))
  g_want_position : mg "want_position" = some (.ref (He.ga K "want_position"))
  g_law_pot : mg "_law_pot" = some (.ref (He.ga K "_law_pot"))
  g_law_draw : mg "_law_draw" = some (.ref (He.ga K "_law_draw"))
  g_law_pick : mg "_law_pick" = some (.ref (He.ga K "_law_pick"))
  g_law_scene : mg "_law_scene" = some (.ref (He.ga K "_law_scene"))
  g_law_mixed : mg "_law_mixed" = some (.ref (He.ga K "_law_mixed"))
  g_law_is : mg "_law_is" = some (.ref (He.ga K "_law_is"))
  g_law_equal_right : mg "_law_equal_right" = some (.ref (He.ga K "_law_equal_right"))
  g_law_changed_right : mg "_law_changed_right" = some (.ref (He.ga K "_law_changed_right"))
  g_law_right : mg "_law_right" = some (.ref (He.ga K "_law_right"))
  g_law : mg "law" = some (.ref (He.ga K "law"))
  b_ValueError : mg "ValueError" = none
  b_isinstance : mg "isinstance" = none
  b_int : mg "int" = none
  b_bool : mg "bool" = none
  b_str : mg "str" = none
  b_len : mg "len" = none
  b_all : mg "all" = none
  b_list : mg "list" = none
  b_tuple : mg "tuple" = none
  b_enumerate : mg "enumerate" = none
  b_sorted : mg "sorted" = none
  b_abs : mg "abs" = none
  b_max : mg "max" = none
  b_divmod : mg "divmod" = none
  b_range : mg "range" = none
  b_repr : mg "repr" = none
  b_any : mg "any" = none
  b_min : mg "min" = none
  b_ArithmeticError : mg "ArithmeticError" = none
  cl_Moves : Cls K (He.ga K "Moves")
  mk_Moves : Mk K (He.ga K "Moves") (He.ma K (He.ga K "Moves") "__init__")
  na_Moves_own_goods : NoAttr K (He.ga K "Moves") "own_goods"
  na_Moves_own_conditions : NoAttr K (He.ga K "Moves") "own_conditions"
  m_Moves_goods : Meth K (He.ga K "Moves") "goods" (He.ma K (He.ga K "Moves") "goods")
  m_Moves_conditions : Meth K (He.ga K "Moves") "conditions" (He.ma K (He.ga K "Moves") "conditions")
  m_Moves_without : Meth K (He.ga K "Moves") "without" (He.ma K (He.ga K "Moves") "without")
  m_Moves_tightened : Meth K (He.ga K "Moves") "tightened" (He.ma K (He.ga K "Moves") "tightened")
  m_Moves_add : Meth K (He.ga K "Moves") "__add__" (He.ma K (He.ga K "Moves") "__add__")
  m_Moves_len : Meth K (He.ga K "Moves") "__len__" (He.ma K (He.ga K "Moves") "__len__")
  m_Moves_eq : Meth K (He.ga K "Moves") "__eq__" (He.ma K (He.ga K "Moves") "__eq__")
  m_Moves_repr : Meth K (He.ga K "Moves") "__repr__" (He.ma K (He.ga K "Moves") "__repr__")
  f_is_integer : FD K d_is_integer
  f_is_name : FD K d_is_name
  f_is_good : FD K d_is_good
  f_is_list : FD K d_is_list
  f_is_point : FD K d_is_point
  f_is_condition : FD K d_is_condition
  f_want_parts : FD K d_want_parts
  f_Moves_init : FD K d_Moves_init
  f_Moves_goods : FD K d_Moves_goods
  f_Moves_conditions : FD K d_Moves_conditions
  f_Moves_without : FD K d_Moves_without
  f_Moves_tightened : FD K d_Moves_tightened
  f_Moves_add : FD K d_Moves_add
  f_Moves_len : FD K d_Moves_len
  f_Moves_eq : FD K d_Moves_eq
  f_Moves_repr : FD K d_Moves_repr
  f_want_position : FD K d_want_position
  f_law_pot : FD K d_law_pot
  f_law_draw : FD K d_law_draw
  f_law_pick : FD K d_law_pick
  f_law_scene : FD K d_law_scene
  f_law_mixed : FD K d_law_mixed
  f_law_is : FD K d_law_is
  f_law_equal_right : FD K d_law_equal_right
  f_law_changed_right : FD K d_law_changed_right
  f_law_right : FD K d_law_right
  f_law : FD K d_law
theorem txt_of {K : PySem.W.Frag} {h : Heap} {mg : Str → Option Value} (X : K.In h) (G : h.Ns mainGlobals mg) (c : He.SaysD fa fn K) : Txt K mg where
  g_LedgerError := He.glo_ok X G (c.fact 0 rfl)
  g_InvalidGoods := He.glo_ok X G (c.fact 1 rfl)
  g_InvalidConditions := He.glo_ok X G (c.fact 2 rfl)
  g_InvalidCondition := He.glo_ok X G (c.fact 3 rfl)
  g_InvalidPosition := He.glo_ok X G (c.fact 4 rfl)
  g_LimitError := He.glo_ok X G (c.fact 5 rfl)
  g_TooMany := He.glo_ok X G (c.fact 6 rfl)
  c_LETTERS := He.str_ok X G (c.fact 7 rfl)
  c_MOST_LETTERS := He.int_ok X G (c.fact 8 rfl)
  g_KEPT_WORDS := He.glo_ok X G (c.fact 9 rfl)
  g_is_integer := He.glo_ok X G (c.fact 10 rfl)
  g_is_name := He.glo_ok X G (c.fact 11 rfl)
  g_is_good := He.glo_ok X G (c.fact 12 rfl)
  g_is_list := He.glo_ok X G (c.fact 13 rfl)
  c_MOST_GOODS := He.int_ok X G (c.fact 14 rfl)
  c_MOST_CONDITIONS := He.int_ok X G (c.fact 15 rfl)
  g_is_point := He.glo_ok X G (c.fact 16 rfl)
  g_is_condition := He.glo_ok X G (c.fact 17 rfl)
  g_want_parts := He.glo_ok X G (c.fact 18 rfl)
  g_Moves := He.glo_ok X G (c.fact 19 rfl)
  g_want_position := He.glo_ok X G (c.fact 20 rfl)
  g_law_pot := He.glo_ok X G (c.fact 21 rfl)
  g_law_draw := He.glo_ok X G (c.fact 22 rfl)
  g_law_pick := He.glo_ok X G (c.fact 23 rfl)
  g_law_scene := He.glo_ok X G (c.fact 24 rfl)
  g_law_mixed := He.glo_ok X G (c.fact 25 rfl)
  g_law_is := He.glo_ok X G (c.fact 26 rfl)
  g_law_equal_right := He.glo_ok X G (c.fact 27 rfl)
  g_law_changed_right := He.glo_ok X G (c.fact 28 rfl)
  g_law_right := He.glo_ok X G (c.fact 29 rfl)
  g_law := He.glo_ok X G (c.fact 30 rfl)
  b_ValueError := He.free_ok X G (c.fact 31 rfl)
  b_isinstance := He.free_ok X G (c.fact 32 rfl)
  b_int := He.free_ok X G (c.fact 33 rfl)
  b_bool := He.free_ok X G (c.fact 34 rfl)
  b_str := He.free_ok X G (c.fact 35 rfl)
  b_len := He.free_ok X G (c.fact 36 rfl)
  b_all := He.free_ok X G (c.fact 37 rfl)
  b_list := He.free_ok X G (c.fact 38 rfl)
  b_tuple := He.free_ok X G (c.fact 39 rfl)
  b_enumerate := He.free_ok X G (c.fact 40 rfl)
  b_sorted := He.free_ok X G (c.fact 41 rfl)
  b_abs := He.free_ok X G (c.fact 42 rfl)
  b_max := He.free_ok X G (c.fact 43 rfl)
  b_divmod := He.free_ok X G (c.fact 44 rfl)
  b_range := He.free_ok X G (c.fact 45 rfl)
  b_repr := He.free_ok X G (c.fact 46 rfl)
  b_any := He.free_ok X G (c.fact 47 rfl)
  b_min := He.free_ok X G (c.fact 48 rfl)
  b_ArithmeticError := He.free_ok X G (c.fact 49 rfl)
  cl_Moves := He.cls_ok (c.fact 50 rfl)
  mk_Moves := He.mkr_ok (c.fact 51 rfl)
  na_Moves_own_goods := He.noat_ok (c.fact 52 rfl)
  na_Moves_own_conditions := He.noat_ok (c.fact 53 rfl)
  m_Moves_goods := He.meth_ok (c.fact 54 rfl)
  m_Moves_conditions := He.meth_ok (c.fact 55 rfl)
  m_Moves_without := He.meth_ok (c.fact 56 rfl)
  m_Moves_tightened := He.meth_ok (c.fact 57 rfl)
  m_Moves_add := He.meth_ok (c.fact 58 rfl)
  m_Moves_len := He.meth_ok (c.fact 59 rfl)
  m_Moves_eq := He.meth_ok (c.fact 60 rfl)
  m_Moves_repr := He.meth_ok (c.fact 61 rfl)
  f_is_integer := fd_of (c.def_ 0 rfl)
  f_is_name := fd_of (c.def_ 1 rfl)
  f_is_good := fd_of (c.def_ 2 rfl)
  f_is_list := fd_of (c.def_ 3 rfl)
  f_is_point := fd_of (c.def_ 4 rfl)
  f_is_condition := fd_of (c.def_ 5 rfl)
  f_want_parts := fd_of (c.def_ 6 rfl)
  f_Moves_init := fd_of (c.def_ 7 rfl)
  f_Moves_goods := fd_of (c.def_ 8 rfl)
  f_Moves_conditions := fd_of (c.def_ 9 rfl)
  f_Moves_without := fd_of (c.def_ 10 rfl)
  f_Moves_tightened := fd_of (c.def_ 11 rfl)
  f_Moves_add := fd_of (c.def_ 12 rfl)
  f_Moves_len := fd_of (c.def_ 13 rfl)
  f_Moves_eq := fd_of (c.def_ 14 rfl)
  f_Moves_repr := fd_of (c.def_ 15 rfl)
  f_want_position := fd_of (c.def_ 16 rfl)
  f_law_pot := fd_of (c.def_ 17 rfl)
  f_law_draw := fd_of (c.def_ 18 rfl)
  f_law_pick := fd_of (c.def_ 19 rfl)
  f_law_scene := fd_of (c.def_ 20 rfl)
  f_law_mixed := fd_of (c.def_ 21 rfl)
  f_law_is := fd_of (c.def_ 22 rfl)
  f_law_equal_right := fd_of (c.def_ 23 rfl)
  f_law_changed_right := fd_of (c.def_ 24 rfl)
  f_law_right := fd_of (c.def_ 25 rfl)
  f_law := fd_of (c.def_ 26 rfl)
end K51

set_option Elab.async false
set_option linter.all false
set_option maxRecDepth 100000
set_option maxHeartbeats 4000000
/-! K51M: goods, points, rows: the data of the law, without the program. -/
namespace K51
open PySem PySem.Spec PyProof.Rows L2 Gd
open Evl (Ex Ex.refl Ex.trans Ex.new Ex.mut ex_t ex_l sq_of st_of fresh_back)

abbrev Pt := Option Str
abbrev Row := Pt × Pt × Int
def ptV : Pt → V
  | none => .non
  | some s => .str s
def ptD : Pt → Dt
  | none => .non
  | some s => .str s
def rowD (r : Row) : Dt := .tup [ptD r.1, ptD r.2.1, .int r.2.2]
def goodsD (gs : List Str) : List Dt := gs.map Dt.str
def rowsD (rs : List Row) : List Dt := rs.map rowD
theorem dv_pt {K : PySem.W.Frag} {S : Hp} (p : Pt) : Dv K S (ptV p) (ptD p) := by
  cases p with
  | none => exact .non
  | some s => exact .str s
theorem dv_pt_inv {K : PySem.W.Frag} {S : Hp} {v : V} {p : Pt} (h : Dv K S v (ptD p)) : v = ptV p := by
  cases p with
  | none => exact h.non_inv
  | some s => exact h.str_inv
/-! ### as the library's data -/
def ptP : Pt → PyData
  | none => .none
  | some s => .str s
def rowP (r : Row) : PyData := .tuple [ptP r.1, ptP r.2.1, .int r.2.2]
theorem py_pt (p : Pt) : pyD (ptD p) = ptP p := by cases p <;> simp [ptD, ptP, pyD]
theorem py_row (r : Row) : pyD (rowD r) = rowP r := by simp [rowD, rowP, pyD, pyAll, py_pt]
theorem py_goods (gs : List Str) : pyAll (goodsD gs) = gs.map PyData.str := by
  rw [pyAll_eq, goodsD, List.map_map]
  exact List.map_congr_left fun a _ => by simp [pyD]
theorem py_rows (rs : List Row) : pyAll (rowsD rs) = rs.map rowP := by
  rw [pyAll_eq, rowsD, List.map_map]
  exact List.map_congr_left fun a _ => py_row a
theorem plain_pt (p : Pt) : plainD (ptD p) = true := by cases p <;> simp [ptD, plainD]
theorem plain_row (r : Row) : plainD (rowD r) = true := by simp [rowD, plainD, plainAll, plain_pt]
theorem plain_goods (gs : List Str) : plainAll (goodsD gs) = true := by
  rw [plainAll_eq, goodsD, List.all_map, List.all_eq_true]
  exact fun _ _ => by simp [plainD]
theorem plain_rows (rs : List Row) : plainAll (rowsD rs) = true := by
  rw [plainAll_eq, rowsD, List.all_map, List.all_eq_true]
  exact fun a _ => plain_row a
theorem eqv_pt (p q : Pt) : PyData.eqv (ptP p) (ptP q) = decide (p = q) := by
  cases p <;> cases q <;> simp [ptP, PyData.eqv, eqv_str]
theorem eqv_row (a b : Row) : PyData.eqv (rowP a) (rowP b) = decide (a = b) := by
  obtain ⟨p, q, m⟩ := a
  obtain ⟨p', q', m'⟩ := b
  simp only [rowP, PyData.eqv, PyData.eqvAll, eqv_pt, Bool.and_true, Prod.mk.injEq, Bool.decide_and]
  rw [show (m == m') = decide (m = m') by by_cases h : m = m' <;> simp [h]]
theorem eqv_goods (a b : List Str) : PyData.eqvAll (a.map PyData.str) (b.map PyData.str) = decide (a = b) := eqvAll_map eqv_str a b
theorem eqv_rows (a b : List Row) : PyData.eqvAll (a.map rowP) (b.map rowP) = decide (a = b) := eqvAll_map eqv_row a b

/-! ### the menus -/
def menus : List (List Str) := [["x"], ["x", "y"], ["oil", "tea"], ["b", "oil", "tea"], ["a", "b", "c"]]
def menusZ : List (List Str) := menus ++ menus.map (fun l => l ++ [("zz" : Str)])
def names : List Str := ["x", "y", "oil", "tea", "b", "a", "c", "zz"]
def letters : Str := "abcdefghijklmnopqrstuvwxyz"
def nameB (z : Str) : Bool := decide (1 ≤ z.length) && (decide (z.length ≤ 8) && z.cps.toList.all fun c => decide (c ∈ letters.cps.toList))
def keptL : List V := [.str "coin", .str "hall", .str "outside"]
def goodB (z : Str) : Bool := nameB z && !inV (.str z) keptL
theorem menu_names : ∀ gs ∈ menusZ, ∀ g ∈ gs, g ∈ names := by decide +kernel
theorem menu_facts : ∀ gs ∈ menusZ, gs ≠ [] ∧ gs.length ≤ 4 ∧ gs.Nodup ∧ sortedS gs = true := by decide +kernel
theorem name_facts : ∀ g ∈ names, goodB g = true ∧ g.length ≤ 8 ∧ PyData.strOk g = true ∧ (reprText g).length ≤ 12 := by decide +kernel
theorem menu_sub {gs : List Str} (h : gs ∈ menus) : gs ∈ menusZ := List.mem_append_left _ h
theorem menu_zz {gs : List Str} (h : gs ∈ menus) : gs ++ [("zz" : Str)] ∈ menusZ := List.mem_append_right _ (List.mem_map_of_mem h)

/-! ### rows -/
def ptB (gs : List Str) : Pt → Bool
  | none => true
  | some s => gs.contains s
def rowB (gs : List Str) (r : Row) : Bool := ptB gs r.1 && (ptB gs r.2.1 && !decide (r.1 = r.2.1))
/-- a row that is one, of small size -/
structure RowOk (gs : List Str) (r : Row) : Prop where
  b : rowB gs r = true
  z : r.2.2.natAbs ≤ 1000
theorem ptB_perm {gs gs' : List Str} (p : gs'.Perm gs) (q : Pt) : ptB gs' q = ptB gs q := by
  cases q with
  | none => rfl
  | some s =>
    simp only [ptB]
    rw [Bool.eq_iff_iff, List.contains_iff_mem, List.contains_iff_mem]
    exact p.mem_iff
theorem rowB_perm {gs gs' : List Str} (p : gs'.Perm gs) (r : Row) : rowB gs' r = rowB gs r := by
  simp only [rowB, ptB_perm p]
theorem pt_name {gs : List Str} (m : gs ∈ menusZ) {p : Pt} (h : ptB gs p = true) : p = none ∨ ∃ s, p = some s ∧ s ∈ names := by
  cases p with
  | none => exact .inl rfl
  | some s => exact .inr ⟨s, rfl, menu_names gs m s (List.contains_iff_mem.mp h)⟩
theorem pt_small {gs : List Str} (m : gs ∈ menusZ) {p : Pt} (h : ptB gs p = true) : (ptP p).canLay0 = true ∧ (ptP p).depth = 0 ∧ (ptP p).showable = true ∧ (ptP p).shown.length ≤ 12 := by
  rcases pt_name m h with rfl | ⟨s, rfl, hs⟩
  · refine ⟨by simp [ptP, PyData.canLay0], by simp [ptP, PyData.depth], by simp [ptP, PyData.showable], ?_⟩
    rw [ptP, PyData.shown]
    decide
  · obtain ⟨_, _, a, b⟩ := name_facts s hs
    exact ⟨by simp [ptP, PyData.canLay0, a], by simp [ptP, PyData.depth], by simp [ptP, PyData.showable], by rw [ptP, PyData.shown]; exact b⟩
theorem rowB_parts {gs : List Str} {r : Row} (h : rowB gs r = true) : ptB gs r.1 = true ∧ ptB gs r.2.1 = true ∧ r.1 ≠ r.2.1 := by
  simp only [rowB, Bool.and_eq_true, Bool.not_eq_true', decide_eq_false_iff_not] at h
  exact h
theorem int_small {i : Int} (h : i.natAbs ≤ 1000) : (PyData.int i).shown.length ≤ 13 := PyData.shown_int_le (by omega)
theorem row_small {gs : List Str} (m : gs ∈ menusZ) {r : Row} (h : RowOk gs r) : (rowP r).canLay0 = true ∧ (rowP r).depth ≤ 1 ∧ (rowP r).showable = true ∧ (rowP r).shown.length ≤ 60 := by
  obtain ⟨h1, h2, _⟩ := rowB_parts h.b
  obtain ⟨a1, a2, a3, a4⟩ := pt_small m h1
  obtain ⟨b1, b2, b3, b4⟩ := pt_small m h2
  have c := int_small h.z
  refine ⟨by simp [rowP, PyData.canLay0, PyData.canLayAll0, a1, b1], by simp [rowP, PyData.depth, PyData.depthAll, a2, b2], ?_, ?_⟩
  · simp only [rowP, PyData.showable, PyData.showableAll, a3, b3, Bool.true_and, Bool.and_true, decide_eq_true_eq]
    exact log2_small (Nat.lt_of_le_of_lt h.z (by decide))
  · have := tupLen (f := id) (l := [ptP r.1, ptP r.2.1, .int r.2.2]) (B := 13) (by
      intro a ha
      simp only [List.mem_cons, List.not_mem_nil, or_false] at ha
      rcases ha with rfl | rfl | rfl
      · show (ptP r.1).shown.length ≤ 13; omega
      · show (ptP r.2.1).shown.length ≤ 13; omega
      · exact c)
    rw [List.map_id] at this
    exact Nat.le_trans this (by show 3 * (13 + 2) + 3 ≤ 60; decide)
/-! ### lists of them -/
theorem shaped_goods {gs : List Str} (m : ∀ g ∈ gs, g ∈ names) : SeqAt.shaped (.tuple (gs.map PyData.str)) = true ∧ SeqAt.shaped (.list (gs.map PyData.str)) = true := by
  have c : PyData.canLayAll0 (gs.map PyData.str) = true := canLayAll_map fun a ha => by simp [PyData.canLay0, (name_facts a (m a ha)).2.2.1]
  have d : PyData.depthAll (gs.map PyData.str) ≤ 0 := depthAll_map fun a _ => by simp [PyData.depth]
  have e : decide (PyData.depthAll (gs.map PyData.str) + 1 ≤ 64) = true := decide_eq_true (by omega)
  constructor <;> simp [SeqAt.shaped, PyData.canLay0, PyData.depth, c, e]
  all_goals omega
theorem shaped_rows {gs : List Str} (m : gs ∈ menusZ) {rs : List Row} (h : ∀ r ∈ rs, RowOk gs r) : SeqAt.shaped (.tuple (rs.map rowP)) = true ∧ SeqAt.shaped (.list (rs.map rowP)) = true := by
  have c : PyData.canLayAll0 (rs.map rowP) = true := canLayAll_map fun a ha => (row_small m (h a ha)).1
  have d : PyData.depthAll (rs.map rowP) ≤ 1 := depthAll_map fun a ha => (row_small m (h a ha)).2.1
  have e : decide (PyData.depthAll (rs.map rowP) + 1 ≤ 64) = true := decide_eq_true (by omega)
  constructor <;> simp [SeqAt.shaped, PyData.canLay0, PyData.depth, c, e]
  all_goals omega
theorem shows_goods {gs : List Str} (m : ∀ g ∈ gs, g ∈ names) (z : gs.length ≤ 10) : Shows (.list (gs.map PyData.str)) := by
  have d : PyData.depthAll (gs.map PyData.str) ≤ 0 := depthAll_map fun a _ => by simp [PyData.depth]
  refine ⟨?_, ?_, ?_⟩
  · simp only [PyData.showable]
    exact showableAll_map fun a _ => by simp [PyData.showable]
  · simp only [PyData.depth]
    omega
  · refine Nat.le_trans (listLen (B := 12) fun a ha => ?_) ?_
    · rw [PyData.shown]
      exact (name_facts a (m a ha)).2.2.2
    · omega
theorem shows_rows {gs : List Str} (m : gs ∈ menusZ) {rs : List Row} (h : ∀ r ∈ rs, RowOk gs r) (z : rs.length ≤ 100) : Shows (.list (rs.map rowP)) := by
  have d : PyData.depthAll (rs.map rowP) ≤ 1 := depthAll_map fun a ha => (row_small m (h a ha)).2.1
  refine ⟨?_, ?_, ?_⟩
  · simp only [PyData.showable]
    exact showableAll_map fun a ha => (row_small m (h a ha)).2.2.1
  · simp only [PyData.depth]
    omega
  · refine Nat.le_trans (listLen (B := 60) fun a ha => (row_small m (h a ha)).2.2.2) ?_
    omega
/-- [goods, rows] -/
theorem shows_both {gs gs' : List Str} (m : gs ∈ menusZ) (m' : ∀ g ∈ gs', g ∈ names) (z' : gs'.length ≤ 10) {rs : List Row} (h : ∀ r ∈ rs, RowOk gs r) (z : rs.length ≤ 100) : Shows (.list [.list (gs'.map PyData.str), .list (rs.map rowP)]) := by
  obtain ⟨a1, a2, a3⟩ := shows_goods m' z'
  obtain ⟨b1, b2, b3⟩ := shows_rows m h z
  have la : (PyData.list (gs'.map PyData.str)).shown.length ≤ 10000 := Nat.le_trans (listLen (B := 12) fun a ha => by rw [PyData.shown]; exact (name_facts a (m' a ha)).2.2.2) (by omega)
  have lb : (PyData.list (rs.map rowP)).shown.length ≤ 10000 := Nat.le_trans (listLen (B := 60) fun a ha => (row_small m (h a ha)).2.2.2) (by omega)
  refine ⟨by simp only [PyData.showable, PyData.showableAll, Bool.and_true] at a1 b1 ⊢; rw [a1, b1]; rfl, ?_, ?_⟩
  · have da : PyData.depthAll (gs'.map PyData.str) ≤ 0 := depthAll_map fun a _ => by simp [PyData.depth]
    have db : PyData.depthAll (rs.map rowP) ≤ 1 := depthAll_map fun a ha => (row_small m (h a ha)).2.1
    simp only [PyData.depth, PyData.depthAll]
    omega
  · have := listLen (f := id) (l := [PyData.list (gs'.map PyData.str), .list (rs.map rowP)]) (B := 10000) (by
      intro a ha
      simp only [List.mem_cons, List.not_mem_nil, or_false] at ha
      rcases ha with rfl | rfl
      · exact la
      · exact lb)
    rw [List.map_id] at this
    exact Nat.le_trans this (by show 2 * (10000 + 2) + 3 ≤ 1000000; decide)
end K51

set_option Elab.async false
set_option linter.all false
set_option maxRecDepth 100000
set_option maxHeartbeats 4000000
/-! K51A: words, points, conditions, parts. -/
namespace K51
open PySem PySem.Spec PyProof.Rows L2 Gd
open Evl (Ex Ex.refl Ex.trans Ex.new Ex.mut ex_t ex_l sq_of st_of fresh_back)

local macro_rules | `(tactic| walk_at "st") => `(tactic| first
  | with_reducible refine x_seq ?_ | with_reducible refine x_ret ?_ | with_reducible refine x_retN ?_ | with_reducible refine x_next ?_ | with_reducible refine x_drop ?_ | with_reducible refine x_if ?_ | with_reducible refine x_asg ?_
  | with_reducible refine x_par ?_ | with_reducible refine x_par3 ?_ | with_reducible refine x_sfld ?_ | ((with_reducible show tVar _ _ _ _); refine x_var rfl ?_) | with_reducible refine x_c ?_ | with_reducible refine x_op ?_ | with_reducible refine x_un ?_
  | with_reducible refine x_chain ?_ | with_reducible refine x_andV ?_ | with_reducible refine x_orV ?_ | with_reducible refine x_notV ?_ | with_reducible refine x_ifE ?_ | with_reducible refine x_nil ?_ | with_reducible refine x_cons ?_ | with_reducible refine x_star ?_
  | with_reducible refine x_tup ?_ | with_reducible refine x_lst ?_ | with_reducible refine x_cb ?_ | with_reducible refine x_call ?_ | with_reducible refine x_meth ?_ | with_reducible refine x_make ?_ | with_reducible refine x_fld ?_ | with_reducible refine x_bm0 ?_ | with_reducible refine x_bm ?_
  | with_reducible refine x_sl ?_ | with_reducible refine x_no ?_ | with_reducible refine x_part ?_ | with_reducible refine x_rev ?_ | with_reducible refine x_fmtD ?_ | with_reducible refine x_test ?_ | with_reducible refine x_tB ?_ | with_reducible refine x_and ?_ | with_reducible refine x_or ?_ | with_reducible refine x_not ?_ | with_reducible refine x_yes ?_
  | with_reducible refine x_gname ?_ | with_reducible refine x_gtup ?_ | with_reducible refine x_gnil ?_ | with_reducible refine x_gcons ?_ | with_reducible refine x_gsub ?_ | with_reducible refine x_iList ?_ | with_reducible refine x_iStr ?_ | with_reducible refine x_iRng1 ?_ | with_reducible refine x_iEnumQ ?_
  | with_reducible refine i_I0 ?_ | with_reducible refine i_U ?_ | with_reducible refine iteT ?_ | with_reducible refine iteF ?_ | with_reducible refine iteNT ?_ | with_reducible refine iteNF ?_ | with_reducible refine x_bl ?_ | with_reducible refine x_int ?_ | with_reducible refine i_add ?_ | with_reducible refine i_int1 ?_ | with_reducible refine i_abs ?_ | with_reducible refine i_max ?_ | with_reducible refine i_min ?_)
local macro_rules | `(tactic| walk_at "go") => `(tactic| repeat (first | walk_at "st" | dsimp only [Bool.not_true, Bool.not_false, List.nil_append, List.cons_append]))

/-- the class, its instances as data -/
abbrev CM (K : PySem.W.Frag) : Addr := He.ga K "Moves"
def others : List String := ["NoneType", "int", "list", "str", "tuple"]
/-- the tables and the class of the top -/
structure Tabs (K : PySem.W.Frag) : Prop where
  kept : ∀ H : Hp, SqT K H (He.ga K "KEPT_WORDS") [.str "coin", .str "hall", .str "outside"]
  dfl : ∀ H : Hp, SqT K H (He.dflAt ("Moves", some "__init__") 0 K) []
  tyM : ∀ (H : Hp) (a dx : Addr) (fs : List (Str × V)), H a = some (.ins (CM K) dx fs) → TyX K H (.ref a) (.ref (CM K))
  isi : ∀ t ∈ others, PySem.W.kitOne K (.type t) (.ref (CM K)) = some false
  nf : ∀ t ∈ others, PySem.W.notFirst K (CM K) (.type t) = true
  nfM : PySem.W.notFirst K (CM K) (.ref (CM K)) = true
  sf : PySem.W.selfFirst K (CM K) = true
  radd : PySem.W.findIn K (.ref (CM K)) "__radd__" = some none
  ne : PySem.W.findIn K (.ref (CM K)) "__ne__" = some (some (.builtin "object.__ne__"))
  ob : PySem.W.subIn K (.ref (CM K)) (.type "object") = some true
  addT : ∃ fo ro, PySem.W.findIn K (.type "tuple") "__add__" = some fo ∧ PySem.W.findIn K (.type "tuple") "__radd__" = some ro
  subT : PySem.W.subIn K (.type "tuple") (.ref (CM K)) = some false

abbrev FO (P : Program) (w : World) (K : PySem.W.Frag) (mg : Str → Option Value) (base : Heap) (k : Nat) (d : He.DefD) (ps : List Str) (sp : Sp) : Prop :=
  FnOk P w K mg base CX0 k (He.fAd K d.at_) (fdOf K (He.fAd K d.at_)) ps sp

section
variable {P : Program} {w : World} {K : PySem.W.Frag} {mg : Str → Option Value} {base : Heap}
/-! ### is_integer -/
def spIsInt : Sp := fun vs H Q _ => ∃ i, vs = [.int i] ∧ Q (.bl true) H
theorem b_is_integer (T : Txt K mg) : Binds K (fdOf K (He.fAd K d_is_integer.at_)) ["value"] [] := T.f_is_integer.bindsN fun _ _ _ _ _ _ us hl => match us, hl with | [_], _ => rfl
theorem ok_is_integer (T : Txt K mg) : FO P w K mg base 1 d_is_integer ["value"] spIsInt := by
  refine T.f_is_integer.ok sc_is_integer (fun vs H Q E h => ?_) (fun cdv A outer s H vs Q E hr h => ?_)
  · obtain ⟨i, rfl, _⟩ := h
    rfl
  · obtain ⟨i, rfl, q⟩ := h
    refine ⟨_, (pss_one (ps_ret (pe_and (pe_callB call_isi (by rfl) T.b_isinstance (by decide +kernel) (pa_cons (pv 0) (pa_cons (pe_bltn (v := .ty "int") rfl T.b_int (by decide +kernel) rfl) pa_nil))) (pe_one (pe_not (pe_callB call_isi (by rfl) T.b_isinstance (by decide +kernel) (pa_cons (pv 0) (pa_cons (pe_bltn (v := .ty "bool") rfl T.b_bool (by decide +kernel) rfl) pa_nil)))))))), ?_⟩
    walk_at "go"
    refine i_isi ty_int (b := true) (by decide +kernel) ?_
    walk_at "go"
    refine i_isi ty_int (b := false) (by decide +kernel) ?_
    walk_at "go"
    exact q
/-! ### is_name -/
def spIsName : Sp := fun vs H Q _ => ∃ z : Str, vs = [.str z] ∧ z.length ≤ 10000 ∧ ∀ H', Ex H H' → Q (.bl (nameB z)) H'
theorem b_is_name (T : Txt K mg) : Binds K (fdOf K (He.fAd K d_is_name.at_)) ["value"] [] := T.f_is_name.bindsN fun _ _ _ _ _ _ us hl => match us, hl with | [_], _ => rfl
theorem ok_is_name (T : Txt K mg) : FO P w K mg base 1 d_is_name ["value"] spIsName := by
  refine T.f_is_name.ok sc_is_name (fun vs H Q E h => ?_) (fun cdv A outer s H vs Q E hr h => ?_)
  · obtain ⟨i, rfl, _⟩ := h
    rfl
  · obtain ⟨z, rfl, hz, q⟩ := h
    refine ⟨_, (pss_cons (ps_if (PW.pt (pw_or (pt_not (pt_val (pe_callB call_isi (by rfl) T.b_isinstance (by decide +kernel) (pa_cons (pv 0) (pa_cons (pe_bltn (v := .ty "str") rfl T.b_str (by decide +kernel) rfl) pa_nil))))) (pw_or1 (pt_not (pt_chain op_le op_le pe_int (pe_callB call_lenX (by rfl) T.b_len (by decide +kernel) (pa_cons (pv 0) pa_nil)) (pe_glob (v := .int 8) rfl T.c_MOST_LETTERS.choose_spec ⟨_, rfl⟩)))))) (pss_one (ps_ret pe_bl)) pss_nil)
    (pss_one (ps_ret (pe_callB (cr_all rfl) (by rfl) T.b_all (by decide +kernel) (pa_cons (pe_lc (own := [("letter", 1)]) rfl sc_is_name.nd (pi_str (pv 0)) (blkOk_by (N := ["value", "letter"]) (sc := defScope s_is_name) (by decide +kernel)) (fun _ _ _ _ _ => (pg_name (i := 1) sc_is_name.nd rfl (.inl rfl))) (fun _ _ _ _ _ => pts_nil) (fun _ _ _ _ _ => (pe_cmpR op_in_sign (pv 1) (pe_glob (v := .str "abcdefghijklmnopqrstuvwxyz") rfl T.c_LETTERS.choose_spec ⟨_, rfl⟩) (by rfl)))) pa_nil))))), ?_⟩
    walk_at "go"
    refine i_isi ty_str (b := true) (by decide +kernel) ?_
    walk_at "go"
    refine i_lenS (Nat.le_trans hz (by decide)) ?_
    walk_at "go"
    by_cases h1 : 1 ≤ z.length
    · rw [decide_eq_true (show (1 : Int) ≤ (z.length : Int) by omega)]
      walk_at "go"
      by_cases h2 : z.length ≤ 8
      · rw [decide_eq_true (show (z.length : Int) ≤ 8 by omega)]
        walk_at "go"
        refine ⟨_, rfl, z, rfl, fun D hD => ?_⟩
        refine lc_data walk_str (fun i => .bl (decide (z.cps.getD i 0 ∈ letters.cps.toList))) (fun _ _ => True) (fun _ _ _ _ h => h) (Ex.refl H) hD ?_ (fun _ _ _ => trivial) ?_ ?_
        · show z.length < sizeLine
          rw [sizeLine_eq]
          omega
        · rintro i x S1 Hc Hc' Qe Nx hi g _ ⟨rfl, c, hc, rfl⟩ qe
          walk_at "go"
          refine ⟨rfl, ?_⟩
          walk_at "go"
          refine ⟨c, letters, rfl, rfl, ?_⟩
          have ec : z.cps.getD i 0 = c := by rw [Array.getD_eq_getD_getElem?, hc]; rfl
          have := qe S1 Hc' (Gr.refl g.i) trivial
          rw [ec] at this
          exact this
        · intro S' H' g s' hl _
          have hb : (List.range z.cps.size).map (fun i => V.bl (decide (z.cps.getD i 0 ∈ letters.cps.toList))) = (z.cps.toList.map fun c => decide (c ∈ letters.cps.toList)).map V.bl := by
            apply List.ext_getElem?
            intro i
            by_cases hi : i < z.cps.size
            · simp [hi, Array.getD_eq_getD_getElem?]
            · simp [hi]
          refine ⟨D, _, rfl, sq_of (by rw [hl, hb]), ?_⟩
          have := q H' g.nil_h
          unfold nameB at this
          rw [decide_eq_true h1, decide_eq_true h2, Bool.true_and, Bool.true_and] at this
          rw [List.all_map]
          exact this
      · rw [decide_eq_false (show ¬ (z.length : Int) ≤ 8 by omega)]
        walk_at "go"
        have := q H (Ex.refl H)
        unfold nameB at this
        rw [decide_eq_false h2, Bool.false_and, Bool.and_false] at this
        exact this
    · rw [decide_eq_false (show ¬ (1 : Int) ≤ (z.length : Int) by omega)]
      walk_at "go"
      have := q H (Ex.refl H)
      unfold nameB at this
      rw [decide_eq_false h1, Bool.false_and] at this
      exact this
/-! ### is_good -/
def spIsGood : Sp := fun vs H Q _ => ∃ z : Str, vs = [.str z] ∧ z.length ≤ 10000 ∧ ∀ H', Ex H H' → Q (.bl (goodB z)) H'
theorem b_is_good (T : Txt K mg) : Binds K (fdOf K (He.fAd K d_is_good.at_)) ["value"] [] := T.f_is_good.bindsN fun _ _ _ _ _ _ us hl => match us, hl with | [_], _ => rfl
theorem ok_is_good (T : Txt K mg) (B : Tabs K) : FO P w K mg base 2 d_is_good ["value"] spIsGood := by
  have G_is_name := ok_is_name (P := P) (w := w) (base := base) T
  refine T.f_is_good.ok sc_is_good (fun vs H Q E h => ?_) (fun cdv A outer s H vs Q E hr h => ?_)
  · obtain ⟨i, rfl, _⟩ := h
    rfl
  · obtain ⟨z, rfl, hz, q⟩ := h
    refine ⟨_, (pss_one (ps_ret (pe_and (pe_call G_is_name (hr.mono (by decide)) rfl T.g_is_name T.f_is_name.kp (b_is_name T) .nil pass0 (pa_cons (pv 0) pa_nil)) (pe_one (pe_cmpR op_notIn_seq (pv 0) (pe_glob (v := .ref (He.ga K "KEPT_WORDS")) rfl T.g_KEPT_WORDS rfl) (by rfl)))))), ?_⟩
    walk_at "go"
    refine ⟨z, rfl, hz, fun H' f => ?_⟩
    walk_at "go"
    cases h1 : nameB z
    · walk_at "go"
      have := q H' f
      unfold goodB at this
      rw [h1, Bool.false_and] at this
      exact this
    · walk_at "go"
      refine ⟨_, keptL, rfl, .inr (B.kept H'), rfl, rfl, ?_⟩
      have := q H' f
      unfold goodB at this
      rw [h1, Bool.true_and] at this
      exact this
/-! ### is_list -/
def spIsList : Sp := fun vs H Q _ => ∃ S v ds, vs = [v] ∧ Ex S H ∧ SqD K S v ds ∧ ∀ H', Ex H H' → Q (.bl true) H'
theorem b_is_list (T : Txt K mg) : Binds K (fdOf K (He.fAd K d_is_list.at_)) ["value"] [] := T.f_is_list.bindsN fun _ _ _ _ _ _ us hl => match us, hl with | [_], _ => rfl
theorem ok_is_list (T : Txt K mg) : FO P w K mg base 1 d_is_list ["value"] (spIsList (K := K)) := by
  refine T.f_is_list.ok sc_is_list (fun vs H Q E h => ?_) (fun cdv A outer s H vs Q E hr h => ?_)
  · obtain ⟨S, v, ds, rfl, _⟩ := h
    rfl
  · obtain ⟨S, v, ds, rfl, f, sq, q⟩ := h
    refine ⟨_, (pss_one (ps_ret (pe_callB call_isiT (by rfl) T.b_isinstance (by decide +kernel) (pa_cons (pv 0) (pa_cons (pe_tup (pa_cons (pe_bltn (v := .ty "list") rfl T.b_list (by decide +kernel) rfl) (pa_cons (pe_bltn (v := .ty "tuple") rfl T.b_tuple (by decide +kernel) rfl) pa_nil))) pa_nil))))), ?_⟩
    walk_at "go"
    refine ⟨by rw [sizeLine_eq]; decide, fun p hp => ?_⟩
    walk_at "go"
    obtain ⟨a, ty, ha⟩ := ty_seq (f.trans (Ex.new (o := .tup [.ty "list", .ty "tuple"]) hp)) sq
    rcases ha with rfl | rfl
    · exact i_isT upd_same ty true false (by decide +kernel) (by decide +kernel) rfl (q _ (Ex.new hp))
    · exact i_isT upd_same ty false true (by decide +kernel) (by decide +kernel) rfl (q _ (Ex.new hp))
/-! ### is_point -/
def spIsPoint : Sp := fun vs H Q _ => ∃ S vg gs p, vs = [vg, ptV p] ∧ Ex S H ∧ SqD K S vg (goodsD gs) ∧ ptB gs p = true ∧ Q (.bl true) H
theorem b_is_point (T : Txt K mg) : Binds K (fdOf K (He.fAd K d_is_point.at_)) ["goods", "value"] [] := T.f_is_point.bindsN fun _ _ _ _ _ _ us hl => match us, hl with | [_, _], _ => rfl
theorem ok_is_point (T : Txt K mg) : FO P w K mg base 1 d_is_point ["goods", "value"] (spIsPoint (K := K)) := by
  refine T.f_is_point.ok sc_is_point (fun vs H Q E h => ?_) (fun cdv A outer s H vs Q E hr h => ?_)
  · obtain ⟨S, vg, gs, p, rfl, _⟩ := h
    rfl
  · obtain ⟨S, vg, gs, p, rfl, f, sq, hp, q⟩ := h
    refine ⟨_, (pss_one (ps_ret (pe_or (pe_cmpR op_isN (pv 1) pe_non (nomark _)) (pe_one (pe_and (pe_callB call_isi (by rfl) T.b_isinstance (by decide +kernel) (pa_cons (pv 1) (pa_cons (pe_bltn (v := .ty "str") rfl T.b_str (by decide +kernel) rfl) pa_nil))) (pe_one (pe_cmpR op_in_seq (pv 1) (pv 0) (by rfl)))))))), ?_⟩
    walk_at "go"
    refine ⟨rfl, _, rfl, ?_⟩
    cases p with
    | none => exact q
    | some s =>
      rw [show decide (ptV (some s) = V.non) = false from rfl]
      walk_at "go"
      refine i_isi ty_str (b := true) (by decide +kernel) ?_
      walk_at "go"
      refine i_inS f sq ?_
      rw [show gs.contains s = true from hp]
      exact q
/-! ### is_condition -/
def spIsCond : Sp := fun vs H Q _ => ∃ S vg vr gs r, vs = [vg, vr] ∧ Ex S H ∧ SqD K S vg (goodsD gs) ∧ Dv K S vr (rowD r) ∧ (∀ g ∈ gs, PyData.strOk g = true) ∧ rowB gs r = true ∧ ∀ H', Ex H H' → Q (.bl true) H'
theorem b_is_condition (T : Txt K mg) : Binds K (fdOf K (He.fAd K d_is_condition.at_)) ["goods", "value"] [] := T.f_is_condition.bindsN fun _ _ _ _ _ _ us hl => match us, hl with | [_, _], _ => rfl
theorem ok_is_condition (T : Txt K mg) : FO P w K mg base 2 d_is_condition ["goods", "value"] (spIsCond (K := K)) := by
  have G_is_point := ok_is_point (P := P) (w := w) (base := base) T
  have G_is_integer := ok_is_integer (P := P) (w := w) (base := base) T
  refine T.f_is_condition.ok sc_is_condition (fun vs H Q E h => ?_) (fun cdv A outer s H vs Q E hr h => ?_)
  · obtain ⟨S, vg, vr, gs, r, rfl, _⟩ := h
    rfl
  · obtain ⟨S, vg, vr, gs, r, rfl, f, sq, dr, st, hb, q⟩ := h
    have hu := hr.units
    obtain ⟨b1, b2, b3⟩ := rowB_parts hb
    refine ⟨_, (pss_cons (ps_if (PW.pt (pw_or (pt_not (pt_val (pe_callB call_isi (by rfl) T.b_isinstance (by decide +kernel) (pa_cons (pv 1) (pa_cons (pe_bltn (v := .ty "tuple") rfl T.b_tuple (by decide +kernel) rfl) pa_nil))))) (pw_or1 (pt_cmpR op_ne (pe_callB call_lenX (by rfl) T.b_len (by decide +kernel) (pa_cons (pv 1) pa_nil)) pe_int (nomark _))))) (pss_one (ps_ret pe_bl)) pss_nil)
    (pss_cons (ps_if (PW.pt (pw_or (pt_not (pt_val (pe_call G_is_point (hr.mono (by decide)) rfl T.g_is_point T.f_is_point.kp (b_is_point T) .nil pass0 (pa_cons (pv 0) (pa_cons (pe_ix ix_X (pv 1) pe_int (fun _ _ => rfl)) pa_nil))))) (pw_or1 (pt_not (pt_val (pe_call G_is_point (hr.mono (by decide)) rfl T.g_is_point T.f_is_point.kp (b_is_point T) .nil pass0 (pa_cons (pv 0) (pa_cons (pe_ix ix_X (pv 1) pe_int (fun _ _ => rfl)) pa_nil)))))))) (pss_one (ps_ret pe_bl)) pss_nil)
    (pss_one (ps_ret (pe_and (pe_cmpR (op_neD hu) (pe_ix ix_X (pv 1) pe_int (fun _ _ => rfl)) (pe_ix ix_X (pv 1) pe_int (fun _ _ => rfl)) (nomark _)) (pe_one (pe_call G_is_integer (hr.mono (by decide)) rfl T.g_is_integer T.f_is_integer.kp (b_is_integer T) .nil pass0 (pa_cons (pe_ix ix_X (pv 1) pe_int (fun _ _ => rfl)) pa_nil)))))))), ?_⟩
    have sr : SqD K S vr [ptD r.1, ptD r.2.1, .int r.2.2] := .t dr
    walk_at "go"
    obtain ⟨a, xs, rfl, h1, h2⟩ := dr.tup_inv
    refine i_isi (ty_tup (sqT_mono f h1)) (b := true) (by decide +kernel) ?_
    walk_at "go"
    refine i_lenD f sr ?_
    walk_at "go"
    refine ⟨rfl, ?_⟩
    rw [show decide (V.int ((([ptD r.1, ptD r.2.1, Dt.int r.2.2] : List Dt).length : Nat) : Int) = V.int 3) = true from rfl]
    walk_at "go"
    refine i_ixD (j := 0) f sr rfl rfl fun u du => ?_
    cases dv_pt_inv du
    walk_at "go"
    refine ⟨S, vg, gs, _, rfl, f, sq, b1, ?_⟩
    walk_at "go"
    refine i_ixD (j := 1) f sr rfl rfl fun u du => ?_
    cases dv_pt_inv du
    walk_at "go"
    refine ⟨S, vg, gs, _, rfl, f, sq, b2, ?_⟩
    walk_at "go"
    refine i_ixD (j := 0) f sr rfl rfl fun u du => ?_
    walk_at "go"
    refine i_ixD (j := 1) f sr rfl rfl fun w dw => ?_
    have sh : ∀ p : Pt, ptB gs p = true → SeqAt.shaped (pyD (ptD p)) = true := by
      intro p hp
      rw [py_pt]
      cases p with
      | none => rfl
      | some s =>
        have := st s (List.contains_iff_mem.mp hp)
        simp [ptP, SeqAt.shaped, PyData.canLay0, PyData.depth, this]
    refine i_ne f du dw (plain_pt _) (plain_pt _) (sh _ b1) (sh _ b2) ?_
    rw [py_pt, py_pt, eqv_pt, decide_eq_false b3]
    walk_at "go"
    refine i_ixD (j := 2) f sr rfl rfl fun u du => ?_
    cases du.int_inv
    walk_at "go"
    exact ⟨_, rfl, q H (Ex.refl H)⟩
/-! ### want_parts -/
/-- goods that are ones: texts in some order -/
structure GdsOk (gs : List Str) : Prop where
  ne : gs ≠ []
  len : gs.length ≤ 4
  nd : gs.Nodup
  nm : ∀ g ∈ gs, g ∈ names
theorem gds_perm {gs gs' : List Str} (m : gs ∈ menusZ) (p : gs'.Perm gs) : GdsOk gs' := by
  obtain ⟨h1, h2, h3, _⟩ := menu_facts gs m
  refine ⟨fun z => h1 ?_, by rw [p.length_eq]; exact h2, p.nodup_iff.mpr h3, fun g hg => menu_names gs m g (p.mem_iff.mp hg)⟩
  subst z
  exact List.perm_nil.mp p.symm
theorem take_not_mem {α : Type} [DecidableEq α] [BEq α] [LawfulBEq α] : ∀ {l : List α} {i : Nat} {a : α}, l.Nodup → l[i]? = some a → (l.take i).contains a = false := by
  intro l i a nd h
  rw [Bool.eq_false_iff]
  intro hc
  have hm := List.contains_iff_mem.mp hc
  obtain ⟨j, hj, e⟩ := List.mem_iff_getElem.mp hm
  rw [List.length_take] at hj
  rw [List.getElem_take] at e
  obtain ⟨hi, e2⟩ := List.getElem?_eq_some_iff.mp h
  exact List.pairwise_iff_getElem.mp nd j i (by omega) hi (by omega) (e.trans e2.symm)
def spWant : Sp := fun vs H Q _ => ∃ S vg vr gs rs, vs = [vg, vr] ∧ Ex S H ∧ SqD K S vg (goodsD gs) ∧ SqD K S vr (rowsD rs) ∧ GdsOk gs ∧ (∀ r ∈ rs, rowB gs r = true) ∧ rs.length ≤ 24 ∧ ∀ H', Ex H H' → Q .non H'
theorem b_want_parts (T : Txt K mg) : Binds K (fdOf K (He.fAd K d_want_parts.at_)) ["goods", "conditions"] [] := T.f_want_parts.bindsN fun _ _ _ _ _ _ us hl => match us, hl with | [_, _], _ => rfl
theorem ok_want_parts (T : Txt K mg) (B : Tabs K) : FO P w K mg base 3 d_want_parts ["goods", "conditions"] (spWant (K := K)) := by
  have G_is_good := ok_is_good (P := P) (w := w) (base := base) T B
  have G_is_list := ok_is_list (P := P) (w := w) (base := base) T
  have G_is_condition := ok_is_condition (P := P) (w := w) (base := base) T
  refine T.f_want_parts.ok sc_want_parts (fun vs H Q E h => ?_) (fun cdv A outer s H vs Q E hr h => ?_)
  · obtain ⟨S, vg, vr, gs, rs, rfl, _⟩ := h
    rfl
  · obtain ⟨S, vg, vr, gs, rs, rfl, f, sg, sr, ok, hb, hz, q⟩ := h
    refine ⟨_, (pss_cons (ps_if (PW.pt (pw_or (pt_not (pt_val (pe_call G_is_list (hr.mono (by decide)) rfl T.g_is_list T.f_is_list.kp (b_is_list T) .nil pass0 (pa_cons (pv 0) pa_nil)))) (pw_or1 (pt_cmpR op_eq (pe_callB call_lenX (by rfl) T.b_len (by decide +kernel) (pa_cons (pv 0) pa_nil)) pe_int (nomark _))))) pss_never pss_nil)
    (pss_cons (ps_for (passes_of rfl) rfl (pi_enumQ rfl T.b_enumerate (pa_cons (pv 0) pa_nil)) (pg_tup rfl (pgs_cons (pg_name (i := 2) sc_want_parts.nd rfl (.inl rfl)) (pgs_cons (pg_name (i := 3) sc_want_parts.nd rfl (.inl rfl)) pgs_nil))) (pss_one (ps_if (PW.pt (pw_or (pt_not (pt_val (pe_call G_is_good (hr.mono (by decide)) rfl T.g_is_good T.f_is_good.kp (b_is_good T) .nil pass0 (pa_cons (pv 3) pa_nil)))) (pw_or1 (pt_cmpR op_in_seq (pv 3) (pe_slice sl_X (pv 0) po_none (po_some (pv 2))) (by rfl))))) pss_never pss_nil)))
    (pss_cons (ps_if (pt_not (pt_val (pe_call G_is_list (hr.mono (by decide)) rfl T.g_is_list T.f_is_list.kp (b_is_list T) .nil pass0 (pa_cons (pv 1) pa_nil)))) pss_never pss_nil)
    (pss_cons (ps_for (passes_of rfl) rfl (pi_enumQ rfl T.b_enumerate (pa_cons (pv 1) pa_nil)) (pg_tup rfl (pgs_cons (pg_name (i := 2) sc_want_parts.nd rfl (.inl rfl)) (pgs_cons (pg_name (i := 4) sc_want_parts.nd rfl (.inl rfl)) pgs_nil))) (pss_one (ps_if (pt_not (pt_val (pe_call G_is_condition (hr.mono (by decide)) rfl T.g_is_condition T.f_is_condition.kp (b_is_condition T) .nil pass0 (pa_cons (pv 0) (pa_cons (pv 4) pa_nil))))) pss_never pss_nil)))
    (pss_cons (ps_if (pt_cmpR op_gt (pe_callB call_lenX (by rfl) T.b_len (by decide +kernel) (pa_cons (pv 0) pa_nil)) (pe_glob (v := .int 4) rfl T.c_MOST_GOODS.choose_spec ⟨_, rfl⟩) (nomark _)) pss_never pss_nil)
    (pss_one (ps_if (pt_cmpR op_gt (pe_callB call_lenX (by rfl) T.b_len (by decide +kernel) (pa_cons (pv 1) pa_nil)) (pe_glob (v := .int 24) rfl T.c_MOST_CONDITIONS.choose_spec ⟨_, rfl⟩) (nomark _)) pss_never pss_nil))))))), ?_⟩
    walk_at "go"
    refine ⟨S, vg, _, rfl, f, sg, fun H1 e1 => ?_⟩
    have f1 := f.trans e1
    walk_at "go"
    refine i_lenD f1 sg ?_
    refine ⟨rfl, ?_⟩
    have l0 : gs.length ≠ 0 := fun z => ok.ne (List.eq_nil_of_length_eq_zero z)
    rw [show decide (V.int (((goodsD gs).length : Nat) : Int) = V.int 0) = false from decide_eq_false (fun z => by
      have := V.int.inj z
      rw [goodsD, List.length_map] at this
      omega)]
    walk_at "go"
    refine x_forEnum ?_
    walk_at "go"
    refine i_forEnum f1 sg (fun i σ H => Ex S H ∧ Ex H1 H ∧ ∃ a b c, σ = [some vg, some vr, a, b, c]) ⟨f1, Ex.refl _, _, _, _, rfl⟩ (fun _ _ _ _ h => h.1) ?_ ?_
    · rintro i σ H2 x d T2 hd dx ⟨f2, e2, a, b, c, rfl⟩ hT
      obtain ⟨g, hg, rfl⟩ := map_at hd
      cases dx.str_inv
      have e3 := Ex.new (o := HO.tup [.int (i : Nat), .str g]) hT
      have f3 := f2.trans e3
      have gm := List.mem_of_getElem? hg
      obtain ⟨n1, n2, _⟩ := name_facts g (ok.nm g gm)
      refine i_pair ?_
      walk_at "go"
      refine ⟨g, rfl, by omega, fun H3 e4 => ?_⟩
      rw [n1]
      walk_at "go"
      have f4 := f3.trans e4
      refine i_sl (L := []) f4 sg fun S4 H4 w4 g4 s4 => ?_
      rw [cut_take] at s4
      have s4' : SqD K S4 w4 ((gs.take i).map Dt.str) := by
        rw [goodsD, ← List.map_take] at s4
        exact s4
      refine i_inS g4.i s4' ?_
      rw [take_not_mem ok.nd hg]
      walk_at "go"
      exact ⟨g4.s.trans g4.i, (e2.trans e3).trans (e4.trans g4.nil_h), _, _, _, rfl⟩
    · rintro σ H2 ⟨f2, e2, a, b, c, rfl⟩
      walk_at "go"
      refine ⟨S, vr, _, rfl, f2, sr, fun H3 e3 => ?_⟩
      have f3 := f2.trans e3
      walk_at "go"
      refine x_forEnum ?_
      walk_at "go"
      refine i_forEnum f3 sr (fun i σ H => Ex S H ∧ Ex H3 H ∧ ∃ a b c, σ = [some vg, some vr, a, b, c]) ⟨f3, Ex.refl _, _, _, _, rfl⟩ (fun _ _ _ _ h => h.1) ?_ ?_
      · rintro i σ H4 x d T2 hd dx ⟨f4, e4, a, b, c, rfl⟩ hT
        obtain ⟨r, hr', rfl⟩ := map_at hd
        have e5 := Ex.new (o := HO.tup [.int (i : Nat), x]) hT
        refine i_pair ?_
        walk_at "go"
        refine ⟨S, vg, x, gs, r, rfl, f4.trans e5, sg, dx, fun g hg => (name_facts g (ok.nm g hg)).2.2.1, hb r (List.mem_of_getElem? hr'), fun H6 e6 => ?_⟩
        walk_at "go"
        exact ⟨f4.trans (e5.trans e6), e4.trans (e5.trans e6), _, _, _, rfl⟩
      · rintro σ H4 ⟨f4, e4, a, b, c, rfl⟩
        walk_at "go"
        refine i_lenD f4 sg ?_
        walk_at "go"
        rw [decide_eq_false (show ¬ (4 : Int) < (((goodsD gs).length : Nat) : Int) by rw [goodsD, List.length_map]; have := ok.len; omega)]
        walk_at "go"
        refine i_lenD f4 sr ?_
        walk_at "go"
        rw [decide_eq_false (show ¬ (24 : Int) < (((rowsD rs).length : Nat) : Int) by rw [rowsD, List.length_map]; omega)]
        walk_at "go"
        exact q _ (((e1.trans e2).trans e3).trans e4)
end
end K51

set_option Elab.async false
set_option linter.all false
set_option maxRecDepth 100000
set_option maxHeartbeats 4000000
/-! K51B: the class. -/
namespace K51
open PySem PySem.Spec PyProof.Rows L2 Gd
open Evl (Ex Ex.refl Ex.trans Ex.new Ex.mut ex_t ex_l sq_of st_of fresh_back)

local macro_rules | `(tactic| walk_at "st") => `(tactic| first
  | with_reducible refine x_seq ?_ | with_reducible refine x_ret ?_ | with_reducible refine x_retN ?_ | with_reducible refine x_next ?_ | with_reducible refine x_drop ?_ | with_reducible refine x_if ?_ | with_reducible refine x_asg ?_
  | with_reducible refine x_par ?_ | with_reducible refine x_par3 ?_ | with_reducible refine x_sfld ?_ | ((with_reducible show tVar _ _ _ _); refine x_var rfl ?_) | with_reducible refine x_c ?_ | with_reducible refine x_op ?_ | with_reducible refine x_un ?_
  | with_reducible refine x_chain ?_ | with_reducible refine x_andV ?_ | with_reducible refine x_orV ?_ | with_reducible refine x_notV ?_ | with_reducible refine x_ifE ?_ | with_reducible refine x_nil ?_ | with_reducible refine x_cons ?_ | with_reducible refine x_star ?_
  | with_reducible refine x_tup ?_ | with_reducible refine x_lst ?_ | with_reducible refine x_cb ?_ | with_reducible refine x_call ?_ | with_reducible refine x_meth ?_ | with_reducible refine x_make ?_ | with_reducible refine x_fld ?_ | with_reducible refine x_bm0 ?_ | with_reducible refine x_bm ?_
  | with_reducible refine x_sl ?_ | with_reducible refine x_no ?_ | with_reducible refine x_part ?_ | with_reducible refine x_rev ?_ | with_reducible refine x_fmtD ?_ | with_reducible refine x_test ?_ | with_reducible refine x_tB ?_ | with_reducible refine x_and ?_ | with_reducible refine x_or ?_ | with_reducible refine x_not ?_ | with_reducible refine x_yes ?_
  | with_reducible refine x_gname ?_ | with_reducible refine x_gtup ?_ | with_reducible refine x_gnil ?_ | with_reducible refine x_gcons ?_ | with_reducible refine x_gsub ?_ | with_reducible refine x_iList ?_ | with_reducible refine x_iStr ?_ | with_reducible refine x_iRng1 ?_ | with_reducible refine x_iEnumQ ?_
  | with_reducible refine i_I0 ?_ | with_reducible refine i_U ?_ | with_reducible refine iteT ?_ | with_reducible refine iteF ?_ | with_reducible refine iteNT ?_ | with_reducible refine iteNF ?_ | with_reducible refine x_bl ?_ | with_reducible refine x_int ?_ | with_reducible refine i_add ?_ | with_reducible refine i_int1 ?_ | with_reducible refine i_abs ?_ | with_reducible refine i_max ?_ | with_reducible refine i_min ?_)
local macro_rules | `(tactic| walk_at "go") => `(tactic| repeat (first | walk_at "st" | dsimp only [Bool.not_true, Bool.not_false, List.nil_append, List.cons_append]))

def mvD (K : PySem.W.Frag) (gs : List Str) (rs : List Row) : Dt := .ins (CM K) [("own_goods", .tup (goodsD gs)), ("own_conditions", .tup (rowsD rs))]
section
variable {P : Program} {w : World} {K : PySem.W.Frag} {mg : Str → Option Value} {base : Heap}
section
variable {S H : Hp} {L : List Addr}
/-- such an instance, in the frozen heap -/
theorem mv_inv {v : V} {gs : List Str} {rs : List Row} (h : Dv K S v (mvD K gs rs)) : ∃ a dx g r, v = .ref a ∧ S a = some (.ins (CM K) dx [("own_goods", g), ("own_conditions", r)]) ∧ Dv K S g (.tup (goodsD gs)) ∧ Dv K S r (.tup (rowsD rs)) := by
  obtain ⟨a, dx, fs, rfl, h1, h2, h3⟩ := h.ins_inv
  match fs, h2, h3 with
  | [(x, g), (y, r)], h2, h3 =>
    simp only [List.map_cons, List.map_nil, List.cons.injEq, and_true] at h2
    obtain ⟨rfl, rfl⟩ := h2
    cases h3 with
    | cons d1 h3 =>
      cases h3 with
      | cons d2 _ => exact ⟨a, dx, g, r, rfl, h1, d1, d2⟩
theorem mv_mk {a dx : Addr} {g r : V} {gs : List Str} {rs : List Row} (h : S a = some (.ins (CM K) dx [("own_goods", g), ("own_conditions", r)])) (h1 : Dv K S g (.tup (goodsD gs))) (h2 : Dv K S r (.tup (rowsD rs))) : Dv K S (.ref a) (mvD K gs rs) :=
  .ins h rfl (.cons h1 (.cons h2 .nil))
end
/-! ### __init__ -/
def spInit : Sp := fun vs H Q _ => ∃ S x vg vr gs gs0 rs dx, vs = [.ref x, vg, vr] ∧ Ex S H ∧ S x = none ∧ H x = some (.ins (CM K) dx []) ∧ SqH K S H vg (goodsD gs) ∧ SqH K S H vr (rowsD rs) ∧ gs0 ∈ menusZ ∧ gs.Perm gs0 ∧ (∀ r ∈ rs, rowB gs0 r = true) ∧ rs.length ≤ 24 ∧
  ∀ S' H', Gr [x] S H S' H' → Dv K S' (.ref x) (mvD K gs0 rs) → Q .non H'
theorem b_Moves_init2 (T : Txt K mg) : ∃ ds, Vals [] ds ∧ Binds K (fdOf K (He.fAd K d_Moves_init.at_)) ["self", "goods", "conditions"] ds :=
  T.f_Moves_init.binds1 3 1 (by simp [d_Moves_init, He.DefD.dvs]) rfl fun _ _ _ _ _ _ _ us its h1 h2 => match us, its, h1, h2 with | [_, _, _], [_], _, _ => ⟨_, rfl, rfl⟩
theorem b_Moves_init1 (T : Txt K mg) : ∃ ds, Vals [V.ref (He.dflAt ("Moves", some "__init__") 0 K)] ds ∧ Binds K (fdOf K (He.fAd K d_Moves_init.at_)) ["self", "goods", "conditions"] ds :=
  T.f_Moves_init.binds1 2 0 (by simp [d_Moves_init, He.DefD.dvs]) rfl fun _ _ _ _ _ _ _ us its h1 h2 => match us, its, h1, h2 with | [_, _], [_], _, _ => ⟨_, rfl, rfl⟩
theorem ok_Moves_init (T : Txt K mg) (B : Tabs K) : FO P w K mg base 4 d_Moves_init ["self", "goods", "conditions"] (spInit (K := K)) := by
  have G_want_parts := ok_want_parts (P := P) (w := w) (base := base) T B
  refine T.f_Moves_init.ok sc_Moves_init (fun vs H Q E h => ?_) (fun cdv A outer s H vs Q E hr h => ?_)
  · obtain ⟨S, x, vg, vr, gs, gs0, rs, dx, rfl, _⟩ := h
    rfl
  · obtain ⟨S, x, vg, vr, gs, gs0, rs, dx, rfl, f, sx, hx, sg, sr, m, p, hb, hz, q⟩ := h
    refine ⟨_, (pss_cons (ps_expr (pe_call G_want_parts (hr.mono (by decide)) rfl T.g_want_parts T.f_want_parts.kp (b_want_parts T) .nil pass0 (pa_cons (pv 1) (pa_cons (pv 2) pa_nil))))
    (pss_cons (ps_fld (pv 0) (pe_callTy call_tupX (by rfl) T.b_tuple (by decide +kernel) (pa_cons (pe_callB call_sortX (by rfl) T.b_sorted (by decide +kernel) (pa_cons (pv 1) pa_nil)) pa_nil)) rfl)
    (pss_one (ps_fld (pv 0) (pe_callTy call_tupX (by rfl) T.b_tuple (by decide +kernel) (pa_cons (pv 2) pa_nil)) rfl)))), ?_⟩
    obtain ⟨Sa, ea, fa', sga⟩ := sg.fz f
    obtain ⟨Sb, eb, fb, srb⟩ := (sr.mono ea).fz fa'
    have sgb := sga.mono eb
    walk_at "go"
    refine ⟨Sb, vg, vr, gs, rs, rfl, fb, sgb, srb, gds_perm m p, fun r hr => by rw [rowB_perm p]; exact hb r hr, hz, fun H1 e1 => ?_⟩
    have f1 := f.trans e1
    have g1 : Gr [x] S H S H1 := Gr.same f e1
    walk_at "go"
    refine i_sort (L := []) (fb.trans e1) sgb (by have := (gds_perm m p).len; omega) fun ys l pm so hl => ?_
    have ey : ys = gs0 := sortedS_one (pm.trans p) so (menu_facts gs0 m).2.2.2
    subst ey
    have sl := fresh_back f1 hl
    have g2 : Gr [x] S H (upd S l (.lst (ys.map V.str))) (upd H1 l (.lst (ys.map V.str))) := g1.then (Gr.newF f1 hl)
    walk_at "go"
    refine i_tupX (L := []) (S := upd S l (.lst (ys.map V.str))) g2.i (.l (dv_lst_new sl (dvAll_strs ys))) fun S2 H2 vt g3 dt => ?_
    have g4 : Gr [x] S H S2 H2 := g2.then g3
    obtain ⟨hx2, sx2⟩ : H2 x = some (.ins (CM K) dx []) ∧ S2 x = none := (((Gr.same f e1).then (Gr.newF (L := []) f1 hl)).then g3).own (L := []) (fun m => nomatch m) hx sx
    walk_at "go"
    refine ⟨x, _, dx, _, rfl, hx2, T.cl_Moves, T.na_Moves_own_goods, by decide, ?_⟩
    have g5 : Gr [x] S H S2 (upd H2 x (.ins (CM K) dx [("own_goods", vt)])) := g4.trans (Gr.mut (L := [x]) g4.i sx2 (by simp)) (fun z hz => .inl hz)
    walk_at "go"
    refine i_tupH (L := []) (S := S2) g5.i (sr.gr g5 (fun a ha xs z => by
      rw [List.mem_singleton.mp ha, hx] at z
      cases z)) fun S3 H3 vu g6 du => ?_
    obtain ⟨hx3, sx3⟩ := g6.own (fun m => nomatch m) upd_same sx2
    have g7 : Gr [x] S H S3 H3 := g5.then g6
    walk_at "go"
    refine ⟨x, _, dx, _, rfl, hx3, T.cl_Moves, T.na_Moves_own_conditions, (by show 1 < 1000; decide), ?_⟩
    have g8 : Gr [x] S H S3 (upd H3 x (.ins (CM K) dx [("own_goods", vt), ("own_conditions", vu)])) := g7.trans (Gr.mut (L := [x]) g7.i sx3 (by simp)) (fun z hz => .inl hz)
    have g9 := g8.trans (Gr.frz (L := [x]) g8.i sx3 upd_same (by simp)) (fun z hz => .inl hz)
    walk_at "go"
    exact q _ _ g9 (mv_mk upd_same ((dt.mono g6.s).mono (Ex.new sx3)) (du.mono (Ex.new sx3)))
/-- a new instance -/
theorem i_mkH {S H : Hp} {L : List Addr} {Q : VK} {vg vr : V} {gs gs0 : List Str} {rs : List Row} (f : Ex S H) (sg : SqH K S H vg (goodsD gs)) (sr : SqH K S H vr (rowsD rs)) (m : gs0 ∈ menusZ) (p : gs.Perm gs0) (hb : ∀ r ∈ rs, rowB gs0 r = true) (hz : rs.length ≤ 24)
    (q : RetD K L S H Q (mvD K gs0 rs)) : ∀ x dx, H x = none → H dx = none → dx ≠ x → spInit (K := K) (.ref x :: [vg, vr]) (upd (upd H dx (.own x)) x (.ins (CM K) dx [])) (fun v H2 => v = .non ∧ Q (.ref x) H2) E0 := by
  intro x dx hx hd ne
  have g1 : Gr [] S H S (upd H dx (.own x)) := Gr.newO f hd
  have hx1 : (upd H dx (.own x)) x = none := by rw [upd_ne (Ne.symm ne)]; exact hx
  have g2 : Gr [] S H S (upd (upd H dx (.own x)) x (.ins (CM K) dx [])) := g1.then (Gr.newO g1.i hx1)
  refine ⟨S, x, vg, vr, gs, gs0, rs, dx, rfl, g2.i, fresh_back f hx, upd_same, sg.gr g2 (fun _ z => nomatch z), sr.gr g2 (fun _ z => nomatch z), m, p, hb, hz, fun S' H' g d => ⟨rfl, q S' H' _ ?_ d⟩⟩
  refine (g2.more (L2 := L) (fun z hz => nomatch hz)).trans g fun z hz => .inr ?_
  have e : z = x := by simpa using hz
  rw [e]
  exact hx
theorem i_mk {S H : Hp} {L : List Addr} {Q : VK} {vg vr : V} {gs gs0 : List Str} {rs : List Row} (f : Ex S H) (sg : SqD K S vg (goodsD gs)) (sr : SqD K S vr (rowsD rs)) (m : gs0 ∈ menusZ) (p : gs.Perm gs0) (hb : ∀ r ∈ rs, rowB gs0 r = true) (hz : rs.length ≤ 24)
    (q : RetD K L S H Q (mvD K gs0 rs)) : ∀ x dx, H x = none → H dx = none → dx ≠ x → spInit (K := K) (.ref x :: [vg, vr]) (upd (upd H dx (.own x)) x (.ins (CM K) dx [])) (fun v H2 => v = .non ∧ Q (.ref x) H2) E0 :=
  i_mkH f (sg.toH f) (sr.toH f) m p hb hz q
/-- the same, at the arguments' values -/
def MkM (K : PySem.W.Frag) (Q : VK) (vs : List V) (H : Hp) : Prop := ∀ x dx, H x = none → H dx = none → dx ≠ x → spInit (K := K) (.ref x :: vs) (upd (upd H dx (.own x)) x (.ins (CM K) dx [])) (fun v H2 => v = .non ∧ Q (.ref x) H2) E0
theorem x_makeM {σ : L2.St} {H : Hp} {dvs : List V} {ar : TA} {Q : VK} (h : ar σ H fun vs H1 => MkM K Q (vs ++ dvs) H1) : tMake (CM K) (spInit (K := K)) dvs E0 ar σ H Q := h
theorem i_mkM {S H : Hp} {L : List Addr} {Q : VK} {vg vr : V} {gs gs0 : List Str} {rs : List Row} (f : Ex S H) (sg : SqH K S H vg (goodsD gs)) (sr : SqH K S H vr (rowsD rs)) (m : gs0 ∈ menusZ) (p : gs.Perm gs0) (hb : ∀ r ∈ rs, rowB gs0 r = true) (hz : rs.length ≤ 24)
    (q : RetD K L S H Q (mvD K gs0 rs)) : MkM K Q [vg, vr] H := i_mkH f sg sr m p hb hz q
/-! ### goods, conditions -/
def spGoods : Sp := fun vs H Q _ => ∃ S v gs rs, vs = [v] ∧ Ex S H ∧ Dv K S v (mvD K gs rs) ∧ ∀ l, H l = none → Q (.ref l) (upd H l (.lst (gs.map V.str)))
theorem b_Moves_goods (T : Txt K mg) : Binds K (fdOf K (He.fAd K d_Moves_goods.at_)) ["self"] [] := T.f_Moves_goods.bindsN fun _ _ _ _ _ _ us hl => match us, hl with | [_], _ => rfl
theorem ok_Moves_goods (T : Txt K mg) : FO P w K mg base 1 d_Moves_goods ["self"] (spGoods (K := K)) := by
  refine T.f_Moves_goods.ok sc_Moves_goods (fun vs H Q E h => ?_) (fun cdv A outer s H vs Q E hr h => ?_)
  · obtain ⟨S, v, gs, rs, rfl, _⟩ := h
    rfl
  · obtain ⟨S, v, gs, rs, rfl, f, dv, q⟩ := h
    obtain ⟨a, dx, g, r, rfl, ha, dg, dr⟩ := mv_inv dv
    refine ⟨_, (pss_one (ps_ret (pe_callTy call_listX (by rfl) T.b_list (by decide +kernel) (pa_cons (pe_fld (pv 0) rfl) pa_nil)))), ?_⟩
    walk_at "go"
    refine ⟨a, _, dx, _, _, rfl, f _ _ ha, T.cl_Moves, T.na_Moves_own_goods, rfl, ?_⟩
    walk_at "go"
    refine i_listX f (.t dg) fun l xs hl hx => ?_
    rw [dvAll_strs_inv hx]
    exact q l hl
def spConds : Sp := fun vs H Q _ => ∃ S v gs rs, vs = [v] ∧ Ex S H ∧ Dv K S v (mvD K gs rs) ∧ ∀ l xs, H l = none → DvAll K S xs (rowsD rs) → Q (.ref l) (upd H l (.lst xs))
theorem b_Moves_conditions (T : Txt K mg) : Binds K (fdOf K (He.fAd K d_Moves_conditions.at_)) ["self"] [] := T.f_Moves_conditions.bindsN fun _ _ _ _ _ _ us hl => match us, hl with | [_], _ => rfl
theorem ok_Moves_conditions (T : Txt K mg) : FO P w K mg base 1 d_Moves_conditions ["self"] (spConds (K := K)) := by
  refine T.f_Moves_conditions.ok sc_Moves_conditions (fun vs H Q E h => ?_) (fun cdv A outer s H vs Q E hr h => ?_)
  · obtain ⟨S, v, gs, rs, rfl, _⟩ := h
    rfl
  · obtain ⟨S, v, gs, rs, rfl, f, dv, q⟩ := h
    obtain ⟨a, dx, g, r, rfl, ha, dg, dr⟩ := mv_inv dv
    refine ⟨_, (pss_one (ps_ret (pe_callTy call_listX (by rfl) T.b_list (by decide +kernel) (pa_cons (pe_fld (pv 0) rfl) pa_nil)))), ?_⟩
    walk_at "go"
    refine ⟨a, _, dx, _, _, rfl, f _ _ ha, T.cl_Moves, T.na_Moves_own_conditions, rfl, ?_⟩
    walk_at "go"
    exact i_listX f (.t dr) q
/-! ### __len__, want_position -/
def spLen : Sp := fun vs H Q _ => ∃ S v gs rs, vs = [v] ∧ Ex S H ∧ Dv K S v (mvD K gs rs) ∧ Q (.int rs.length) H
theorem b_Moves_len (T : Txt K mg) : Binds K (fdOf K (He.fAd K d_Moves_len.at_)) ["self"] [] := T.f_Moves_len.bindsN fun _ _ _ _ _ _ us hl => match us, hl with | [_], _ => rfl
theorem ok_Moves_len (T : Txt K mg) : FO P w K mg base 1 d_Moves_len ["self"] (spLen (K := K)) := by
  refine T.f_Moves_len.ok sc_Moves_len (fun vs H Q E h => ?_) (fun cdv A outer s H vs Q E hr h => ?_)
  · obtain ⟨S, v, gs, rs, rfl, _⟩ := h
    rfl
  · obtain ⟨S, v, gs, rs, rfl, f, dv, q⟩ := h
    obtain ⟨a, dx, g, r, rfl, ha, dg, dr⟩ := mv_inv dv
    refine ⟨_, (pss_one (ps_ret (pe_callB call_lenX (by rfl) T.b_len (by decide +kernel) (pa_cons (pe_fld (pv 0) rfl) pa_nil)))), ?_⟩
    walk_at "go"
    refine ⟨a, _, dx, _, _, rfl, f _ _ ha, T.cl_Moves, T.na_Moves_own_conditions, rfl, ?_⟩
    walk_at "go"
    refine i_lenD f (.t dr) ?_
    rw [rowsD, List.length_map]
    exact q
def spWantPos : Sp := fun vs H Q _ => ∃ S v gs rs, ∃ n : Nat, vs = [v, .int n] ∧ Ex S H ∧ Dv K S v (mvD K gs rs) ∧ n < rs.length ∧ Q .non H
theorem b_want_position (T : Txt K mg) : Binds K (fdOf K (He.fAd K d_want_position.at_)) ["moves", "value"] [] := T.f_want_position.bindsN fun _ _ _ _ _ _ us hl => match us, hl with | [_, _], _ => rfl
theorem ok_want_position (T : Txt K mg) : FO P w K mg base 2 d_want_position ["moves", "value"] (spWantPos (K := K)) := by
  have G_is_integer := ok_is_integer (P := P) (w := w) (base := base) T
  refine T.f_want_position.ok sc_want_position (fun vs H Q E h => ?_) (fun cdv A outer s H vs Q E hr h => ?_)
  · obtain ⟨S, v, gs, rs, n, rfl, _⟩ := h
    rfl
  · obtain ⟨S, v, gs, rs, n, rfl, f, dv, hn, q⟩ := h
    obtain ⟨a, dx, g, r, rfl, ha, dg, dr⟩ := mv_inv dv
    refine ⟨_, (pss_one (ps_if (PW.pt (pw_or (pt_not (pt_val (pe_call G_is_integer (hr.mono (by decide)) rfl T.g_is_integer T.f_is_integer.kp (b_is_integer T) .nil pass0 (pa_cons (pv 1) pa_nil)))) (pw_or1 (pt_not (pt_chain op_le op_lt pe_int (pv 1) (pe_callB call_lenX (by rfl) T.b_len (by decide +kernel) (pa_cons (pe_fld (pv 0) rfl) pa_nil))))))) pss_never pss_nil)), ?_⟩
    walk_at "go"
    refine ⟨_, rfl, ?_⟩
    walk_at "go"
    rw [decide_eq_true (show (0 : Int) ≤ (n : Int) by omega)]
    walk_at "go"
    refine ⟨a, _, dx, _, _, rfl, f _ _ ha, T.cl_Moves, T.na_Moves_own_conditions, rfl, ?_⟩
    walk_at "go"
    refine i_lenD f (.t dr) ?_
    walk_at "go"
    rw [decide_eq_true (show (n : Int) < (((rowsD rs).length : Nat) : Int) by rw [rowsD, List.length_map]; omega)]
    walk_at "go"
    exact q
/-! ### without, tightened, + -/
/-- such data: goods of a menu, conditions that are ones -/
structure MvB (gs : List Str) (rs : List Row) : Prop where
  m : gs ∈ menusZ
  b : ∀ r ∈ rs, rowB gs r = true
  z : rs.length ≤ 24
theorem rows_take (rs : List Row) (n : Nat) : (rowsD rs).take n = rowsD (rs.take n) := (List.map_take ..).symm
theorem rows_drop (rs : List Row) (n : Nat) : (rowsD rs).drop n = rowsD (rs.drop n) := (List.map_drop ..).symm
theorem rows_app (a b : List Row) : rowsD a ++ rowsD b = rowsD (a ++ b) := (List.map_append ..).symm
theorem rows_len (a : List Row) : (rowsD a).length = a.length := List.length_map ..
theorem goods_len (a : List Str) : (goodsD a).length = a.length := List.length_map ..
def spWithout : Sp := fun vs H Q _ => ∃ S v gs rs, ∃ n : Nat, vs = [v, .int n] ∧ Ex S H ∧ Dv K S v (mvD K gs rs) ∧ n < rs.length ∧ MvB gs rs ∧ RetD K [] S H Q (mvD K gs (rs.take n ++ rs.drop (n + 1)))
theorem b_Moves_without (T : Txt K mg) : Binds K (fdOf K (He.fAd K d_Moves_without.at_)) ["self", "position"] [] := T.f_Moves_without.bindsN fun _ _ _ _ _ _ us hl => match us, hl with | [_, _], _ => rfl
theorem ok_Moves_without (T : Txt K mg) (B : Tabs K) : FO P w K mg base 6 d_Moves_without ["self", "position"] (spWithout (K := K)) := by
  have G_want_position := ok_want_position (P := P) (w := w) (base := base) T
  have G_Moves_init := ok_Moves_init (P := P) (w := w) (base := base) T B
  obtain ⟨ds2, b_Moves_init2⟩ := b_Moves_init2 T
  refine T.f_Moves_without.ok sc_Moves_without (fun vs H Q E h => ?_) (fun cdv A outer s H vs Q E hr h => ?_)
  · obtain ⟨S, v, gs, rs, n, rfl, _⟩ := h
    rfl
  · obtain ⟨S, v, gs, rs, n, rfl, f, dv, hn, mb, q⟩ := h
    obtain ⟨a, dx, g, r, rfl, ha, dg, dr⟩ := mv_inv dv
    refine ⟨_, (pss_cons (ps_expr (pe_call G_want_position (hr.mono (by decide)) rfl T.g_want_position T.f_want_position.kp (b_want_position T) .nil pass0 (pa_cons (pv 0) (pa_cons (pv 1) pa_nil))))
    (pss_one (ps_ret (pe_make T.mk_Moves G_Moves_init (hr.mono (by decide)) rfl T.g_Moves b_Moves_init2.2 b_Moves_init2.1 pass0 (pa_cons (pe_fld (pv 0) rfl) (pa_cons (pe_op op_addX (pe_slice sl_X (pe_fld (pv 0) rfl) po_none (po_some (pv 1))) (pe_slice sl_X (pe_fld (pv 0) rfl) (po_some (pe_op op_addX (pv 1) pe_int)) po_none)) pa_nil)))))), ?_⟩
    walk_at "go"
    refine ⟨S, _, gs, rs, n, rfl, f, dv, hn, ?_⟩
    walk_at "go"
    refine ⟨a, _, dx, _, _, rfl, f _ _ ha, T.cl_Moves, T.na_Moves_own_goods, rfl, ?_⟩
    walk_at "go"
    refine ⟨a, _, dx, _, _, rfl, f _ _ ha, T.cl_Moves, T.na_Moves_own_conditions, rfl, ?_⟩
    walk_at "go"
    refine i_slT (L := []) f dr fun S1 H1 w1 g1 d1 => ?_
    rw [cut_take, rows_take] at d1
    walk_at "go"
    refine ⟨a, _, dx, _, _, rfl, g1.i _ _ (g1.s _ _ ha), T.cl_Moves, T.na_Moves_own_conditions, rfl, ?_⟩
    walk_at "go"
    refine i_slT (L := []) g1.i (dr.mono g1.s) fun S2 H2 w2 g2 d2 => ?_
    rw [show ((n : Int) + 1) = ((n + 1 : Nat) : Int) from rfl, cut_drop, rows_drop] at d2
    walk_at "go"
    have ln : (rs.take n ++ rs.drop (n + 1)).length ≤ 24 := by
      rw [List.length_append, List.length_take, List.length_drop]
      have := mb.z
      omega
    refine i_catTD (L := []) g2.i (d1.mono g2.s) d2 (by rw [← List.length_append, rows_app, rows_len]; omega) fun S3 H3 w3 g3 d3 => ?_
    rw [rows_app] at d3
    walk_at "go"
    have g4 := (g1.then g2).then g3
    refine i_mk (L := []) g4.i (.t (dg.mono g4.s)) (.t d3) mb.m (List.Perm.refl _) (fun r hr => ?_) ln fun S5 H5 w5 g5 d5 => q _ _ _ (g4.then g5) d5
    rcases List.mem_append.mp hr with z | z
    · exact mb.b r (List.mem_of_mem_take z)
    · exact mb.b r (List.mem_of_mem_drop z)
/-- one row a bit tighter -/
def tight (r : Row) : Row := (r.1, r.2.1, r.2.2 - 1)
def spTight : Sp := fun vs H Q _ => ∃ S v gs rs r, ∃ n : Nat, vs = [v, .int n] ∧ Ex S H ∧ Dv K S v (mvD K gs rs) ∧ rs[n]? = some r ∧ MvB gs rs ∧ RetD K [] S H Q (mvD K gs (rs.take n ++ (tight r :: rs.drop (n + 1))))
theorem b_Moves_tightened (T : Txt K mg) : Binds K (fdOf K (He.fAd K d_Moves_tightened.at_)) ["self", "position"] [] := T.f_Moves_tightened.bindsN fun _ _ _ _ _ _ us hl => match us, hl with | [_, _], _ => rfl
theorem ok_Moves_tightened (T : Txt K mg) (B : Tabs K) : FO P w K mg base 6 d_Moves_tightened ["self", "position"] (spTight (K := K)) := by
  have G_want_position := ok_want_position (P := P) (w := w) (base := base) T
  have G_Moves_init := ok_Moves_init (P := P) (w := w) (base := base) T B
  obtain ⟨ds2, b_Moves_init2⟩ := b_Moves_init2 T
  refine T.f_Moves_tightened.ok sc_Moves_tightened (fun vs H Q E h => ?_) (fun cdv A outer s H vs Q E hr h => ?_)
  · obtain ⟨S, v, gs, rs, n, r, rfl, _⟩ := h
    rfl
  · obtain ⟨S, v, gs, rs, r0, n, rfl, f, dv, hn, mb, q⟩ := h
    obtain ⟨a, dx, g, r, rfl, ha, dg, dr⟩ := mv_inv dv
    have hlt : n < rs.length := (List.getElem?_eq_some_iff.mp hn).1
    refine ⟨_, (pss_cons (ps_expr (pe_call G_want_position (hr.mono (by decide)) rfl T.g_want_position T.f_want_position.kp (b_want_position T) .nil pass0 (pa_cons (pv 0) (pa_cons (pv 1) pa_nil))))
    (pss_cons (ps_asg (pe_ix ix_X (pe_fld (pv 0) rfl) (pv 1) (fun _ _ => rfl)) (pg_tup rfl (pgs_cons (pg_name (i := 2) sc_Moves_tightened.nd rfl (.inl rfl)) (pgs_cons (pg_name (i := 3) sc_Moves_tightened.nd rfl (.inl rfl)) (pgs_cons (pg_name (i := 4) sc_Moves_tightened.nd rfl (.inl rfl)) pgs_nil)))))
    (pss_cons (ps_set (i := 5) sc_Moves_tightened.nd rfl (Or.inl rfl) (pe_slice sl_X (pe_fld (pv 0) rfl) (po_some (pe_op op_addX (pv 1) pe_int)) po_none))
    (pss_one (ps_ret (pe_make T.mk_Moves G_Moves_init (hr.mono (by decide)) rfl T.g_Moves b_Moves_init2.2 b_Moves_init2.1 pass0 (pa_cons (pe_fld (pv 0) rfl) (pa_cons (pe_lst (StX.pa_star (pe_slice sl_X (pe_fld (pv 0) rfl) po_none (po_some (pv 1))) (pa_cons (pe_tup (pa_cons (pv 2) (pa_cons (pv 3) (pa_cons (pe_op op_sub (pv 4) pe_int) pa_nil)))) (StX.pa_star (pv 5) pa_nil)))) pa_nil)))))))), ?_⟩
    walk_at "go"
    refine ⟨S, _, gs, rs, n, rfl, f, dv, hlt, ?_⟩
    walk_at "go"
    refine ⟨a, _, dx, _, _, rfl, f _ _ ha, T.cl_Moves, T.na_Moves_own_conditions, rfl, ?_⟩
    walk_at "go"
    refine i_ixD (j := n) (d := rowD r0) f (.t dr) rfl (by rw [rowsD, List.getElem?_map, hn]; rfl) fun u du => ?_
    refine i_gtup f du rfl fun xs hx => ?_
    cases hx with | cons e1 hx => ?_
    cases hx with | cons e2 hx => ?_
    cases hx with | cons e3 hx => ?_
    cases hx
    cases dv_pt_inv e1
    cases dv_pt_inv e2
    cases e3.int_inv
    walk_at "go"
    refine ⟨a, _, dx, _, _, rfl, f _ _ ha, T.cl_Moves, T.na_Moves_own_conditions, rfl, ?_⟩
    walk_at "go"
    refine i_slT (L := []) f dr fun S1 H1 w1 g1 d1 => ?_
    rw [show ((n : Int) + 1) = ((n + 1 : Nat) : Int) from rfl, cut_drop, rows_drop] at d1
    walk_at "go"
    refine ⟨a, _, dx, _, _, rfl, g1.i _ _ (g1.s _ _ ha), T.cl_Moves, T.na_Moves_own_goods, rfl, ?_⟩
    walk_at "go"
    refine ⟨a, _, dx, _, _, rfl, g1.i _ _ (g1.s _ _ ha), T.cl_Moves, T.na_Moves_own_conditions, rfl, ?_⟩
    walk_at "go"
    refine i_slT (L := []) g1.i (dr.mono g1.s) fun S2 H2 w2 g2 d2 => ?_
    rw [cut_take, rows_take] at d2
    obtain ⟨p2, xs2, rfl, t2, a2⟩ := d2.tup_inv
    refine ⟨p2, xs2, rfl, .inl (sqT_mono g2.i t2), ?_⟩
    walk_at "go"
    refine ⟨by rw [sizeLine_eq]; show 3 ≤ 16777216; decide, fun p3 hp3 => ?_⟩
    have g3 := g2.then (Gr.newF (L := []) (o := .tup [ptV r0.1, ptV r0.2.1, .int (r0.2.2 - 1)]) g2.i hp3)
    have s3 := fresh_back g2.i hp3
    have d3 : Dv K (upd S2 p3 (.tup [ptV r0.1, ptV r0.2.1, .int (r0.2.2 - 1)])) (.ref p3) (rowD (tight r0)) := dv_tup_new s3 (.cons (dv_pt _) (.cons (dv_pt _) (.cons (.int _) .nil)))
    walk_at "go"
    obtain ⟨p1, xs1, rfl, t1, a1⟩ := d1.tup_inv
    refine ⟨p1, xs1, rfl, .inl (sqT_mono (g3.s.trans g3.i) t1), ?_⟩
    have al : DvAll K (upd S2 p3 (.tup [ptV r0.1, ptV r0.2.1, .int (r0.2.2 - 1)])) (xs2 ++ (.ref p3 :: (xs1 ++ []))) (rowsD (rs.take n ++ (tight r0 :: rs.drop (n + 1)))) := by
      rw [List.append_nil, ← rows_app]
      exact (a2.mono (Ex.new s3)).append (.cons d3 (a1.mono g3.s))
    have ln : (rs.take n ++ (tight r0 :: rs.drop (n + 1))).length ≤ 24 := by
      rw [List.length_append, List.length_take, List.length_cons, List.length_drop]
      have := mb.z
      omega
    have lx := al.length
    rw [rows_len] at lx
    walk_at "go"
    refine ⟨Nat.le_trans (Nat.le_of_eq lx) (by rw [sizeLine_eq]; omega), fun p4 hp4 => ?_⟩
    have s4 := fresh_back g3.i hp4
    have d4 := dv_lst_new s4 al
    have g4 := (g1.then g3).then (Gr.newF (L := []) (o := .lst (xs2 ++ (.ref p3 :: (xs1 ++ [])))) g3.i hp4)
    walk_at "go"
    refine i_mk (L := []) g4.i (.t (dg.mono g4.s)) (.l d4) mb.m (List.Perm.refl _) (fun r hr => ?_) ln fun S5 H5 w5 g5 d5 => q _ _ _ (g4.then g5) d5
    rcases List.mem_append.mp hr with z | z
    · exact mb.b r (List.mem_of_mem_take z)
    · rcases List.mem_cons.mp z with z | z
      · subst z
        exact mb.b r0 (List.mem_of_getElem? hn)
      · exact mb.b r (List.mem_of_mem_drop z)
def spAdd : Sp := fun vs H Q _ => ∃ S v u gs rs r, vs = [v, u] ∧ Ex S H ∧ Dv K S v (mvD K gs rs) ∧ Dv K S u (rowD r) ∧ rowB gs r = true ∧ MvB gs rs ∧ rs.length < 24 ∧ RetD K [] S H Q (mvD K gs (rs ++ [r]))
theorem b_Moves_add (T : Txt K mg) : Binds K (fdOf K (He.fAd K d_Moves_add.at_)) ["self", "condition"] [] := T.f_Moves_add.bindsN fun _ _ _ _ _ _ us hl => match us, hl with | [_, _], _ => rfl
theorem ok_Moves_add (T : Txt K mg) (B : Tabs K) : FO P w K mg base 6 d_Moves_add ["self", "condition"] (spAdd (K := K)) := by
  have G_is_condition := ok_is_condition (P := P) (w := w) (base := base) T
  have G_Moves_init := ok_Moves_init (P := P) (w := w) (base := base) T B
  obtain ⟨ds2, b_Moves_init2⟩ := b_Moves_init2 T
  refine T.f_Moves_add.ok sc_Moves_add (fun vs H Q E h => ?_) (fun cdv A outer s H vs Q E hr h => ?_)
  · obtain ⟨S, v, u, gs, rs, r, rfl, _⟩ := h
    rfl
  · obtain ⟨S, v, u, gs, rs, r0, rfl, f, dv, du, hb, mb, hz, q⟩ := h
    obtain ⟨a, dx, g, r, rfl, ha, dg, dr⟩ := mv_inv dv
    refine ⟨_, (pss_cons (ps_if (pt_not (pt_val (pe_call G_is_condition (hr.mono (by decide)) rfl T.g_is_condition T.f_is_condition.kp (b_is_condition T) .nil pass0 (pa_cons (pe_fld (pv 0) rfl) (pa_cons (pv 1) pa_nil))))) pss_never pss_nil)
    (pss_one (ps_ret (pe_make T.mk_Moves G_Moves_init (hr.mono (by decide)) rfl T.g_Moves b_Moves_init2.2 b_Moves_init2.1 pass0 (pa_cons (pe_fld (pv 0) rfl) (pa_cons (pe_lst (StX.pa_star (pe_fld (pv 0) rfl) (pa_cons (pv 1) pa_nil))) pa_nil)))))), ?_⟩
    walk_at "go"
    refine ⟨a, _, dx, _, _, rfl, f _ _ ha, T.cl_Moves, T.na_Moves_own_goods, rfl, ?_⟩
    walk_at "go"
    refine ⟨S, _, _, gs, r0, rfl, f, .t dg, du, fun g hg => (name_facts g (menu_names gs mb.m g hg)).2.2.1, hb, fun H1 e1 => ?_⟩
    have g1 : Gr [] S H S H1 := Gr.same f e1
    walk_at "go"
    refine ⟨a, _, dx, _, _, rfl, g1.i _ _ ha, T.cl_Moves, T.na_Moves_own_goods, rfl, ?_⟩
    walk_at "go"
    refine ⟨a, _, dx, _, _, rfl, g1.i _ _ ha, T.cl_Moves, T.na_Moves_own_conditions, rfl, ?_⟩
    obtain ⟨p1, xs1, rfl, t1, a1⟩ := dr.tup_inv
    refine ⟨p1, xs1, rfl, .inl (sqT_mono g1.i t1), ?_⟩
    walk_at "go"
    have al : DvAll K S (xs1 ++ [u]) (rowsD (rs ++ [r0])) := by
      rw [← rows_app]
      exact a1.append (.cons du .nil)
    have lx : (xs1 ++ [u]).length = rs.length + 1 := by
      rw [al.length, rows_len]
      simp
    refine ⟨Nat.le_trans (Nat.le_of_eq lx) (by rw [sizeLine_eq]; omega), fun p4 hp4 => ?_⟩
    have s4 := fresh_back g1.i hp4
    have d4 := dv_lst_new s4 al
    have g4 := g1.then (Gr.newF (L := []) (o := .lst (xs1 ++ [u])) g1.i hp4)
    walk_at "go"
    refine i_mk (L := []) g4.i (.t (dg.mono g4.s)) (.l d4) mb.m (List.Perm.refl _) (fun r hr => ?_) (by rw [List.length_append]; show rs.length + 1 ≤ 24; omega) fun S5 H5 w5 g5 d5 => q _ _ _ (g4.then g5) d5
    rcases List.mem_append.mp hr with z | z
    · exact mb.b r z
    · have : r = r0 := by simpa using z
      rw [this]
      exact hb
/-! ### == -/
def spEq : Sp := fun vs H Q _ => ∃ S v u gs rs, vs = [v, u] ∧ Ex S H ∧ Dv K S v (mvD K gs rs) ∧
  ((∃ t ∈ others, TyX K H u (.type t) ∧ Q (.bl false) H) ∨ ∃ gs' rs', Dv K S u (mvD K gs' rs') ∧ gs ∈ menusZ ∧ gs' ∈ menusZ ∧ (∀ r ∈ rs, RowOk gs r) ∧ (∀ r ∈ rs', RowOk gs' r) ∧ Q (.bl (decide (gs = gs') && decide (rs = rs'))) H)
theorem b_Moves_eq (T : Txt K mg) : Binds K (fdOf K (He.fAd K d_Moves_eq.at_)) ["self", "other"] [] := T.f_Moves_eq.bindsN fun _ _ _ _ _ _ us hl => match us, hl with | [_, _], _ => rfl
theorem ok_Moves_eq (T : Txt K mg) (B : Tabs K) : FO P w K mg base 1 d_Moves_eq ["self", "other"] (spEq (K := K)) := by
  refine T.f_Moves_eq.ok sc_Moves_eq (fun vs H Q E h => ?_) (fun cdv A outer s H vs Q E hr h => ?_)
  · obtain ⟨S, v, u, gs, rs, rfl, _⟩ := h
    rfl
  · obtain ⟨S, v, u, gs, rs, rfl, f, dv, h⟩ := h
    have hu := hr.units
    obtain ⟨a, dx, g, r, rfl, ha, dg, dr⟩ := mv_inv dv
    refine ⟨_, (pss_cons (ps_if (pt_not (pt_val (pe_callB call_isi (by rfl) T.b_isinstance (by decide +kernel) (pa_cons (pv 1) (pa_cons (pe_glob (v := .ref (He.ga K "Moves")) rfl T.g_Moves rfl) pa_nil))))) (pss_one (ps_ret pe_bl)) pss_nil)
    (pss_one (ps_ret (pe_and (pe_cmpR (op_eqD hu) (pe_fld (pv 0) rfl) (pe_fld (pv 1) rfl) (nomark _)) (pe_one (pe_cmpR (op_eqD hu) (pe_fld (pv 0) rfl) (pe_fld (pv 1) rfl) (nomark _))))))), ?_⟩
    walk_at "go"
    rcases h with ⟨t, ht, ty, q⟩ | ⟨gs', rs', du, m, m', ho, ho', q⟩
    · refine ⟨_, _, _, _, false, rfl, .own _, ty, B.isi t ht, ?_⟩
      walk_at "go"
      exact q
    · obtain ⟨b, dy, g', r', rfl, hb, dg', dr'⟩ := mv_inv du
      refine ⟨_, _, _, _, true, rfl, .own _, B.tyM _ _ _ _ (f _ _ hb), ?_, ?_⟩
      · unfold PySem.W.kitOne
        rw [if_pos (by simp)]
      walk_at "go"
      refine ⟨a, _, dx, _, _, rfl, f _ _ ha, T.cl_Moves, T.na_Moves_own_goods, rfl, ?_⟩
      walk_at "go"
      refine ⟨b, _, dy, _, _, rfl, f _ _ hb, T.cl_Moves, T.na_Moves_own_goods, rfl, ?_⟩
      have pg : ∀ gs, plainD (.tup (goodsD gs)) = true := fun gs => by simp only [plainD, plain_goods]
      have pr : ∀ rs, plainD (.tup (rowsD rs)) = true := fun rs => by simp only [plainD, plain_rows]
      have eg : ∀ gs, pyD (.tup (goodsD gs)) = .tuple (gs.map PyData.str) := fun gs => by simp only [pyD, py_goods]
      have er : ∀ rs, pyD (.tup (rowsD rs)) = .tuple (rs.map rowP) := fun rs => by simp only [pyD, py_rows]
      refine i_eq f dg dg' (pg _) (pg _) (by rw [eg]; exact (shaped_goods (menu_names gs m)).1) (by rw [eg]; exact (shaped_goods (menu_names gs' m')).1) ?_
      rw [eg, eg, show PyData.eqv (.tuple (gs.map PyData.str)) (.tuple (gs'.map PyData.str)) = PyData.eqvAll (gs.map PyData.str) (gs'.map PyData.str) by simp only [PyData.eqv], eqv_goods]
      walk_at "go"
      by_cases e : gs = gs'
      · rw [decide_eq_true e]
        rw [decide_eq_true e] at q
        walk_at "go"
        refine ⟨a, _, dx, _, _, rfl, f _ _ ha, T.cl_Moves, T.na_Moves_own_conditions, rfl, ?_⟩
        walk_at "go"
        refine ⟨b, _, dy, _, _, rfl, f _ _ hb, T.cl_Moves, T.na_Moves_own_conditions, rfl, ?_⟩
        refine i_eq f dr dr' (pr _) (pr _) (by rw [er]; exact (shaped_rows m ho).1) (by rw [er]; exact (shaped_rows m' ho').1) ?_
        rw [er, er, show PyData.eqv (.tuple (rs.map rowP)) (.tuple (rs'.map rowP)) = PyData.eqvAll (rs.map rowP) (rs'.map rowP) by simp only [PyData.eqv], eqv_rows]
        exact q
      · rw [decide_eq_false e]
        rw [decide_eq_false e] at q
        walk_at "go"
        exact q
end
end K51

set_option Elab.async false
set_option linter.all false
set_option maxRecDepth 100000
set_option maxHeartbeats 4000000
/-! K51C: the pot. -/
namespace K51
open PySem PySem.Spec PyProof.Rows L2 Gd
open Evl (Ex Ex.refl Ex.trans Ex.new Ex.mut ex_t ex_l sq_of st_of fresh_back)

local macro_rules | `(tactic| walk_at "st") => `(tactic| first
  | with_reducible refine x_seq ?_ | with_reducible refine x_ret ?_ | with_reducible refine x_retN ?_ | with_reducible refine x_next ?_ | with_reducible refine x_drop ?_ | with_reducible refine x_if ?_ | with_reducible refine x_asg ?_
  | with_reducible refine x_par ?_ | with_reducible refine x_par3 ?_ | with_reducible refine x_sfld ?_ | ((with_reducible show tVar _ _ _ _); refine x_var rfl ?_) | with_reducible refine x_c ?_ | with_reducible refine x_op ?_ | with_reducible refine x_un ?_
  | with_reducible refine x_chain ?_ | with_reducible refine x_andV ?_ | with_reducible refine x_orV ?_ | with_reducible refine x_notV ?_ | with_reducible refine x_ifE ?_ | with_reducible refine x_nil ?_ | with_reducible refine x_cons ?_ | with_reducible refine x_star ?_
  | with_reducible refine x_tup ?_ | with_reducible refine x_lst ?_ | with_reducible refine x_cb ?_ | with_reducible refine x_call ?_ | with_reducible refine x_meth ?_ | with_reducible refine x_make ?_ | with_reducible refine x_fld ?_ | with_reducible refine x_bm0 ?_ | with_reducible refine x_bm ?_
  | with_reducible refine x_sl ?_ | with_reducible refine x_no ?_ | with_reducible refine x_part ?_ | with_reducible refine x_rev ?_ | with_reducible refine x_fmtD ?_ | with_reducible refine x_test ?_ | with_reducible refine x_tB ?_ | with_reducible refine x_and ?_ | with_reducible refine x_or ?_ | with_reducible refine x_not ?_ | with_reducible refine x_yes ?_
  | with_reducible refine x_gname ?_ | with_reducible refine x_gtup ?_ | with_reducible refine x_gnil ?_ | with_reducible refine x_gcons ?_ | with_reducible refine x_gsub ?_ | with_reducible refine x_iList ?_ | with_reducible refine x_iStr ?_ | with_reducible refine x_iRng1 ?_ | with_reducible refine x_iEnumQ ?_
  | with_reducible refine i_I0 ?_ | with_reducible refine i_U ?_ | with_reducible refine iteT ?_ | with_reducible refine iteF ?_ | with_reducible refine iteNT ?_ | with_reducible refine iteNF ?_ | with_reducible refine x_bl ?_ | with_reducible refine x_int ?_ | with_reducible refine i_add ?_ | with_reducible refine i_int1 ?_ | with_reducible refine i_abs ?_ | with_reducible refine i_max ?_ | with_reducible refine i_min ?_)
local macro_rules | `(tactic| walk_at "go") => `(tactic| repeat (first | walk_at "st" | dsimp only [Bool.not_true, Bool.not_false, List.nil_append, List.cons_append]))

section
variable {P : Program} {w : World} {K : PySem.W.Frag} {mg : Str → Option Value} {base : Heap}
/-! ### the pot -/
theorem b_law_pot (T : Txt K mg) : Binds K (fdOf K (He.fAd K d_law_pot.at_)) ["script", "k"] [] := T.f_law_pot.bindsN fun _ _ _ _ _ _ us hl => match us, hl with | [_, _], _ => rfl
theorem ok_law_pot (T : Txt K mg) : FO P w K mg base 1 d_law_pot ["script", "k"] (spPot K) := by
  refine T.f_law_pot.ok sc_law_pot (fun vs H Q E h => ?_) (fun cdv A outer s H vs Q E hr h => ?_)
  · obtain ⟨a, ns, k, rfl, _⟩ := h
    rfl
  · obtain ⟨a, ns, k, rfl, sq, hk, q⟩ := h
    have hu := hr.units
    refine ⟨_, (pss_cons (ps_set (i := 2) sc_law_pot.nd rfl (Or.inl rfl) (pe_op op_addX (pe_op op_mul pe_int (pv 1)) pe_int))
    (pss_cons (ps_if (pt_cmpR op_lt (pv 1) (pe_callB call_lenX (by rfl) T.b_len (by decide +kernel) (pa_cons (pv 0) pa_nil)) (nomark _)) (pss_one (ps_set (i := 2) sc_law_pot.nd rfl (Or.inl rfl) (pe_callB call_absX (by rfl) T.b_abs (by decide +kernel) (pa_cons (pe_ix ix_X (pv 0) (pv 1) (fun _ _ => rfl)) pa_nil)))) pss_nil)
    (pss_one (ps_ret (pe_lst (pa_cons (pe_callB (call_maxX rfl) (by rfl) T.b_max (by decide +kernel) (pa_cons pe_int (pa_cons (pe_op op_sub (pv 2) (pe_op op_pow pe_int pe_int)) pa_nil))) (pa_cons (pe_op op_addX (pe_op op_mod (pe_callTy call_intX (by rfl) T.b_int (by decide +kernel) (pa_cons (pe_op op_mul (pe_callTy call_intX (by rfl) T.b_int (by decide +kernel) (pa_cons (pe_op op_addX (pe_op op_mod (pe_callTy call_intX (by rfl) T.b_int (by decide +kernel) (pa_cons (pv 2) pa_nil)) pe_int) pe_int) pa_nil)) (pe_op op_pow (pe_op op_addX (pe_op op_mul pe_int (pv 1)) pe_int) pe_int)) pa_nil)) pe_int) pe_int) pa_nil))))))), ?_⟩
    walk_at "go"
    refine i_I (.inl (by decide)) ?_
    walk_at "go"
    refine i_lenQ (.inl sq) ?_
    walk_at "go"
    have fin : ∀ c : Int, 0 ≤ c → (tRet (tLst (tCons (tCB rMax2 (tCons (tC (.int 0)) (tCons (tOp (rI0 fun i j => .int (i - j)) (tVar 2) (tOp (rI CPow fun i j => .int (i ^ j.toNat)) (tC (.int 10)) (tC (.int 18)))) tNil))) (tCons (tOp (rAddX K) (tOp (rI (fun _ j => 0 < j) fun i j => .int (i % j)) (tCB rInt1 (tCons (tOp (rI CMul fun i j => .int (i * j)) (tCB rInt1 (tCons (tOp (rAddX K) (tOp (rI (fun _ j => 0 < j) fun i j => .int (i % j)) (tCB rInt1 (tCons (tVar 2) tNil)) (tC (.int 2147483549))) (tC (.int 17))) tNil)) (tOp (rI CPow fun i j => .int (i ^ j.toNat)) (tOp (rAddX K) (tOp (rI CMul fun i j => .int (i * j)) (tC (.int 2)) (tVar 1)) (tC (.int 5))) (tC (.int 3)))) tNil)) (tC (.int 2147483477))) (tC (.int 1))) tNil)))) { nx := fun _ H' => Q .non H', rt := Q } [some (.ref a), some (.int k), some (.int c)] H := by
      intro c hc
      walk_at "go"
      refine i_I ⟨by decide, by decide, by decide⟩ ?_
      walk_at "go"
      refine i_I (by decide) ?_
      walk_at "go"
      refine i_I (.inl (by decide)) ?_
      walk_at "go"
      refine i_I ⟨by decide, by decide, ?_⟩ ?_
      · have : (2 : Nat) ^ 64 = 18446744073709551616 := rfl
        omega
      refine i_I (.inl ?_) ?_
      · have : (2 : Int) ^ 64 = 18446744073709551616 := rfl
        omega
      walk_at "go"
      refine i_I (by decide) ?_
      walk_at "go"
      refine ⟨by rw [sizeLine_eq]; show 2 ≤ 16777216; decide, fun p hp => q p _ _ hp ?_ ?_ ?_⟩
      · split <;> omega
      · omega
      · omega
    by_cases h : k < ns.length
    · rw [decide_eq_true (show (k : Int) < (((ns.map V.int).length : Nat) : Int) by rw [List.length_map]; omega)]
      walk_at "go"
      refine .inl ⟨a, _, _, .int ns[k], rfl, rfl, sq, atI_nat (by simp [h]), ?_⟩
      repeat (first | refine fin _ ?_ | walk_at "st")
      split <;> omega
    · rw [decide_eq_false (show ¬ (k : Int) < (((ns.map V.int).length : Nat) : Int) by rw [List.length_map]; omega)]
      repeat (first | refine fin _ ?_ | walk_at "st")
      omega
theorem b_law_draw (T : Txt K mg) : Binds K (fdOf K (He.fAd K d_law_draw.at_)) ["pot", "many"] [] := T.f_law_draw.bindsN fun _ _ _ _ _ _ us hl => match us, hl with | [_, _], _ => rfl
theorem ok_law_draw (T : Txt K mg) : FO P w K mg base 1 d_law_draw ["pot", "many"] spDraw := by
  refine T.f_law_draw.ok sc_law_draw (fun vs H Q E h => ?_) (fun cdv A outer s H vs Q E hr h => ?_)
  · obtain ⟨S, p, m, rfl, _⟩ := h
    rfl
  · obtain ⟨S, p, m, rfl, f, k, m0, m1, q⟩ := h
    have hu := hr.units
    obtain ⟨a, b, ha, hb, hb2, hp⟩ := k.h
    refine ⟨_, (pss_cons (ps_if (pt_cmpR op_gt (pe_ix ix_X (pv 0) pe_int (fun _ _ => rfl)) pe_int (nomark _)) (pss_cons (ps_asg (pe_callB call_divmodX (by rfl) T.b_divmod (by decide +kernel) (pa_cons (pe_ix ix_X (pv 0) pe_int (fun _ _ => rfl)) (pa_cons (pv 1) pa_nil))) (pg_tup rfl (pgs_cons (pg_sub (pv 0) pe_int set_list) (pgs_cons (pg_name (i := 2) sc_law_draw.nd rfl (.inl rfl)) pgs_nil))))
    (pss_one (ps_ret (pv 2)))) pss_nil)
    (pss_cons (ps_asg (pe_op op_mod (pe_callTy call_intX (by rfl) T.b_int (by decide +kernel) (pa_cons (pe_op op_addX (pe_op op_mul (pe_ix ix_X (pv 0) pe_int (fun _ _ => rfl)) pe_int) pe_int) pa_nil)) pe_int) (pg_sub (pv 0) pe_int set_list))
    (pss_one (ps_ret (pe_op op_mod (pe_callTy call_intX (by rfl) T.b_int (by decide +kernel) (pa_cons (pe_op op_fdiv (pe_op op_mod (pe_callTy call_intX (by rfl) T.b_int (by decide +kernel) (pa_cons (pe_op op_mul (pe_ix ix_X (pv 0) pe_int (fun _ _ => rfl)) (pe_ix ix_X (pv 0) pe_int (fun _ _ => rfl))) pa_nil)) pe_int) pe_int) pa_nil)) (pv 1)))))), ?_⟩
    walk_at "go"
    refine i_ixL (j := 0) hp rfl rfl ?_
    walk_at "go"
    by_cases h : 0 < a
    · rw [decide_eq_true (show a > 0 from h)]
      walk_at "go"
      refine i_ixL (j := 0) hp rfl rfl ?_
      walk_at "go"
      refine i_divmod m0 (by omega) fun t ht => ?_
      have hp2 : (upd H t (.tup [.int (a / m), .int (a % m)])) p = some (.lst [.int a, .int b]) := by rw [upd_ne (ne_of_none hp ht)]; exact hp
      refine i_pair ?_
      walk_at "go"
      refine i_setL (j := 0) hp2 rfl (by show 0 < 2; decide) ?_
      walk_at "go"
      have e : a % m = ((a % m).toNat : Int) := (Int.toNat_of_nonneg (Int.emod_nonneg _ (by omega))).symm
      have lt : a % m < m := Int.emod_lt_of_pos _ m0
      have g1 : Gr [p] S H S (upd H t (.tup [.int (a / m), .int (a % m)])) := Gr.newO f ht
      obtain ⟨g2, k2⟩ := pot_set g1.i (k.new ht) (Int.ediv_nonneg ha (by omega)) hb hb2 (a := a / m)
      have := q _ (a % m).toNat (by omega) (g1.trans g2 fun x hx => .inl hx) k2
      rw [← e] at this
      exact this
    · rw [decide_eq_false (show ¬ a > 0 from h)]
      walk_at "go"
      refine i_ixL (j := 1) hp rfl rfl ?_
      walk_at "go"
      refine i_I (.inr (by decide)) ?_
      walk_at "go"
      refine i_I (by decide) ?_
      walk_at "go"
      refine i_setL (j := 1) hp rfl (by show 1 < 2; decide) ?_
      obtain ⟨g2, k2⟩ := pot_set (b := (b * 48271 + 373) % 2147483587) f k ha (by omega) (by omega)
      walk_at "go"
      refine i_ixL (j := 1) upd_same rfl rfl ?_
      walk_at "go"
      refine i_ixL (j := 1) upd_same rfl rfl ?_
      refine i_I (.inl ?_) ?_
      · have : (2 : Int) ^ 64 = 18446744073709551616 := rfl
        omega
      walk_at "go"
      refine i_I (by decide) ?_
      walk_at "go"
      refine i_I ⟨by decide, by decide⟩ ?_
      walk_at "go"
      refine i_I m0 ?_
      generalize (b * 48271 + 373) % 2147483587 * ((b * 48271 + 373) % 2147483587) % 2147483549 / 11 = z
      have e : z % m = ((z % m).toNat : Int) := (Int.toNat_of_nonneg (Int.emod_nonneg _ (by omega))).symm
      have lt : z % m < m := Int.emod_lt_of_pos _ m0
      rw [e]
      exact q _ _ (by omega) g2 k2
theorem b_law_pick (T : Txt K mg) : Binds K (fdOf K (He.fAd K d_law_pick.at_)) ["pot", "some"] [] := T.f_law_pick.bindsN fun _ _ _ _ _ _ us hl => match us, hl with | [_, _], _ => rfl
theorem ok_law_pick (T : Txt K mg) : FO P w K mg base 2 d_law_pick ["pot", "some"] (spPick K) := by
  have G_law_draw := ok_law_draw (P := P) (w := w) (base := base) T
  refine T.f_law_pick.ok sc_law_pick (fun vs H Q E h => ?_) (fun cdv A outer s H vs Q E hr h => ?_)
  · obtain ⟨S, p, v, ds, rfl, _⟩ := h
    rfl
  · obtain ⟨S, p, v, ds, rfl, f, k, sd, ne, hz, q⟩ := h
    have l0 : ds.length ≠ 0 := fun z => ne (List.eq_nil_of_length_eq_zero z)
    refine ⟨_, (pss_one (ps_ret (pe_ix ix_X (pv 1) (pe_call G_law_draw (hr.mono (by decide)) rfl T.g_law_draw T.f_law_draw.kp (b_law_draw T) .nil pass0 (pa_cons (pv 0) (pa_cons (pe_callB call_lenX (by rfl) T.b_len (by decide +kernel) (pa_cons (pv 1) pa_nil)) pa_nil))) (fun _ _ => rfl)))), ?_⟩
    walk_at "go"
    refine i_lenD f sd ?_
    refine ⟨S, p, _, rfl, f, k, by omega, by omega, fun H' n hn g k' => ?_⟩
    have hlt : n < ds.length := by omega
    exact i_ixD (d := ds[n]) g.i sd rfl (List.getElem?_eq_getElem hlt) fun u du => q H' n _ u (List.getElem?_eq_getElem hlt) du g k'
end
end K51

set_option Elab.async false
set_option linter.all false
set_option maxRecDepth 100000
set_option maxHeartbeats 4000000
/-! K51D: scene, mixed. -/
namespace K51
open PySem PySem.Spec PyProof.Rows L2 Gd
open Evl (Ex Ex.refl Ex.trans Ex.new Ex.mut ex_t ex_l sq_of st_of fresh_back)

local macro_rules | `(tactic| walk_at "st") => `(tactic| first
  | with_reducible refine x_seq ?_ | with_reducible refine x_ret ?_ | with_reducible refine x_retN ?_ | with_reducible refine x_next ?_ | with_reducible refine x_drop ?_ | with_reducible refine x_if ?_ | with_reducible refine x_asg ?_
  | with_reducible refine x_par ?_ | with_reducible refine x_par3 ?_ | with_reducible refine x_sfld ?_ | ((with_reducible show tVar _ _ _ _); refine x_var rfl ?_) | with_reducible refine x_c ?_ | with_reducible refine x_op ?_ | with_reducible refine x_un ?_
  | with_reducible refine x_chain ?_ | with_reducible refine x_andV ?_ | with_reducible refine x_orV ?_ | with_reducible refine x_notV ?_ | with_reducible refine x_ifE ?_ | with_reducible refine x_nil ?_ | with_reducible refine x_cons ?_ | with_reducible refine x_star ?_
  | with_reducible refine x_tup ?_ | with_reducible refine x_lst ?_ | with_reducible refine x_cb ?_ | with_reducible refine x_call ?_ | with_reducible refine x_meth ?_ | with_reducible refine x_make ?_ | with_reducible refine x_fld ?_ | with_reducible refine x_bm0 ?_ | with_reducible refine x_bm ?_
  | with_reducible refine x_sl ?_ | with_reducible refine x_no ?_ | with_reducible refine x_part ?_ | with_reducible refine x_rev ?_ | with_reducible refine x_fmtD ?_ | with_reducible refine x_test ?_ | with_reducible refine x_tB ?_ | with_reducible refine x_and ?_ | with_reducible refine x_or ?_ | with_reducible refine x_not ?_ | with_reducible refine x_yes ?_
  | with_reducible refine x_gname ?_ | with_reducible refine x_gtup ?_ | with_reducible refine x_gnil ?_ | with_reducible refine x_gcons ?_ | with_reducible refine x_gsub ?_ | with_reducible refine x_iList ?_ | with_reducible refine x_iStr ?_ | with_reducible refine x_iRng1 ?_ | with_reducible refine x_iEnumQ ?_
  | with_reducible refine i_I0 ?_ | with_reducible refine i_U ?_ | with_reducible refine iteT ?_ | with_reducible refine iteF ?_ | with_reducible refine iteNT ?_ | with_reducible refine iteNF ?_ | with_reducible refine x_bl ?_ | with_reducible refine x_int ?_ | with_reducible refine i_add ?_ | with_reducible refine i_int1 ?_ | with_reducible refine i_abs ?_ | with_reducible refine i_max ?_ | with_reducible refine i_min ?_)
local macro_rules | `(tactic| walk_at "go") => `(tactic| repeat (first | walk_at "st" | dsimp only [Bool.not_true, Bool.not_false, List.nil_append, List.cons_append]))

section
variable {P : Program} {w : World} {K : PySem.W.Frag} {mg : Str → Option Value} {base : Heap}
theorem dvAll_ints {S : Hp} : ∀ (is : List Int), DvAll K S (is.map V.int) (is.map Dt.int)
  | [] => .nil
  | i :: r => .cons (.int i) (dvAll_ints r)
def spScene (K : PySem.W.Frag) : Sp := fun vs H Q _ => ∃ S p, vs = [.ref p, .int 7] ∧ Ex S H ∧ PotOk S H p ∧ ∀ S' H' v gs rs, gs ∈ menus → (∀ r ∈ rs, RowOk gs r ∧ r.2.2.natAbs ≤ 100) → rs.length ≤ 7 → Gr [p] S H S' H' → PotOk S' H' p → Dv K S' v (.tup [.lst (goodsD gs), .lst (rowsD rs)]) → Q v H'
theorem b_law_scene (T : Txt K mg) : Binds K (fdOf K (He.fAd K d_law_scene.at_)) ["pot", "most"] [] := T.f_law_scene.bindsN fun _ _ _ _ _ _ us hl => match us, hl with | [_, _], _ => rfl
def ptsOf (gs : List Str) : List Pt := gs.map some ++ [none]
theorem pts_ok {gs : List Str} {p : Pt} (h : p ∈ ptsOf gs) : ptB gs p = true := by
  rcases List.mem_append.mp h with z | z
  · obtain ⟨s, hs, rfl⟩ := List.mem_map.mp z
    exact List.contains_iff_mem.mpr hs
  · have : p = none := by simpa using z
    subst this
    rfl
theorem shaped_pt {gs : List Str} (m : gs ∈ menusZ) {p : Pt} (h : ptB gs p = true) : SeqAt.shaped (pyD (ptD p)) = true := by
  obtain ⟨a, b, _⟩ := pt_small m h
  rw [py_pt]
  simp [SeqAt.shaped, a, b]
theorem ok_law_scene (T : Txt K mg) : FO P w K mg base 3 d_law_scene ["pot", "most"] (spScene K) := by
  have G_law_draw := ok_law_draw (P := P) (w := w) (base := base) T
  have G_law_pick := ok_law_pick (P := P) (w := w) (base := base) T
  refine T.f_law_scene.ok sc_law_scene (fun vs H Q E h => ?_) (fun cdv A outer s H vs Q E hr h => ?_)
  · obtain ⟨S, p, rfl, _⟩ := h
    rfl
  · obtain ⟨S, p, rfl, f, k, q⟩ := h
    have hu := hr.units
    refine ⟨_, (pss_cons (ps_set (i := 2) sc_law_scene.nd rfl (Or.inl rfl) (pe_call G_law_pick (hr.mono (by decide)) rfl T.g_law_pick T.f_law_pick.kp (b_law_pick T) .nil pass0 (pa_cons (pv 0) (pa_cons (pe_lst (pa_cons (pe_lst (pa_cons pe_str pa_nil)) (pa_cons (pe_lst (pa_cons pe_str (pa_cons pe_str pa_nil))) (pa_cons (pe_lst (pa_cons pe_str (pa_cons pe_str pa_nil))) (pa_cons (pe_lst (pa_cons pe_str (pa_cons pe_str (pa_cons pe_str pa_nil)))) (pa_cons (pe_lst (pa_cons pe_str (pa_cons pe_str (pa_cons pe_str pa_nil)))) pa_nil)))))) pa_nil))))
    (pss_cons (ps_par (i := 3) (j := 4) rfl sc_law_scene.nd rfl rfl (by decide) rfl rfl (pa_cons (pe_op op_addX (pv 2) (pe_lst (pa_cons pe_non pa_nil))) (pa_cons (pe_lst pa_nil) pa_nil)) (by rfl))
    (pss_cons (ps_for (passes_of rfl) rfl (pi_range1 rfl T.b_range (pa_cons (pe_call G_law_draw (hr.mono (by decide)) rfl T.g_law_draw T.f_law_draw.kp (b_law_draw T) .nil pass0 (pa_cons (pv 0) (pa_cons (pe_op op_addX (pv 1) pe_int) pa_nil))) pa_nil)) (pg_name (i := 5) sc_law_scene.nd rfl (.inl rfl)) (pss_cons (ps_par (i := 6) (j := 7) rfl sc_law_scene.nd rfl rfl (by decide) rfl rfl (pa_cons (pe_call G_law_pick (hr.mono (by decide)) rfl T.g_law_pick T.f_law_pick.kp (b_law_pick T) .nil pass0 (pa_cons (pv 0) (pa_cons (pv 3) pa_nil))) (pa_cons (pe_call G_law_pick (hr.mono (by decide)) rfl T.g_law_pick T.f_law_pick.kp (b_law_pick T) .nil pass0 (pa_cons (pv 0) (pa_cons (pv 3) pa_nil))) pa_nil)) (by rfl))
    (pss_one (ps_if (pt_cmpR (op_neD hu) (pv 6) (pv 7) (nomark _)) (pss_one (ps_expr (pe_bm PySem.F.plainAttrs_list PySem.F.slot_list_append PySem.F.type_list_append mt_append (pv 4) (pa_cons (pe_tup (pa_cons (pv 6) (pa_cons (pv 7) (pa_cons (pe_call G_law_pick (hr.mono (by decide)) rfl T.g_law_pick T.f_law_pick.kp (b_law_pick T) .nil pass0 (pa_cons (pv 0) (pa_cons (pe_lst (pa_cons pe_int (pa_cons pe_int (pa_cons pe_int (pa_cons pe_int (pa_cons pe_int (pa_cons (pe_un un_neg pe_int) (pa_cons (pe_un un_neg pe_int) (pa_cons (pe_call G_law_draw (hr.mono (by decide)) rfl T.g_law_draw T.f_law_draw.kp (b_law_draw T) .nil pass0 (pa_cons (pv 0) (pa_cons pe_int pa_nil))) pa_nil))))))))) pa_nil))) pa_nil)))) pa_nil)))) pss_nil))))
    (pss_one (ps_ret (pe_tup (pa_cons (pv 2) (pa_cons (pv 4) pa_nil)))))))), ?_⟩
    have z5 : ∀ n, n ≤ 16777216 → n ≤ sizeLine := fun n h => by rw [sizeLine_eq]; exact h
    walk_at "go"
    refine ⟨z5 _ (by show 1 ≤ 16777216; decide), fun p1 h1 => ?_⟩
    obtain ⟨g1, d1, e1⟩ := newLD (L := []) (Gr.refl f) h1 (dvAll_strs (K := K) ["x"])
    walk_at "go"
    refine ⟨z5 _ (by show 2 ≤ 16777216; decide), fun p2 h2 => ?_⟩
    obtain ⟨g2, d2, e2⟩ := newLD (L := []) g1 h2 (dvAll_strs (K := K) ["x", "y"])
    walk_at "go"
    refine ⟨z5 _ (by show 2 ≤ 16777216; decide), fun p3 h3 => ?_⟩
    obtain ⟨g3, d3, e3⟩ := newLD (L := []) g2 h3 (dvAll_strs (K := K) ["oil", "tea"])
    walk_at "go"
    refine ⟨z5 _ (by show 3 ≤ 16777216; decide), fun p4 h4 => ?_⟩
    obtain ⟨g4, d4, e4⟩ := newLD (L := []) g3 h4 (dvAll_strs (K := K) ["b", "oil", "tea"])
    walk_at "go"
    refine ⟨z5 _ (by show 3 ≤ 16777216; decide), fun p5 h5 => ?_⟩
    obtain ⟨g5, d5, e5⟩ := newLD (L := []) g4 h5 (dvAll_strs (K := K) ["a", "b", "c"])
    walk_at "go"
    refine ⟨z5 _ (by show 5 ≤ 16777216; decide), fun p6 h6 => ?_⟩
    obtain ⟨g6, d6, e6⟩ := newLD (K := K) (L := []) (ds := menus.map fun l => .lst (goodsD l)) g5 h6 (.cons ((((d1.mono e2).mono e3).mono e4).mono e5) (.cons (((d2.mono e3).mono e4).mono e5) (.cons ((d3.mono e4).mono e5) (.cons (d4.mono e5) (.cons d5 .nil)))))
    walk_at "go"
    have k6 := k.gr g6 (by simp)
    refine ⟨_, p, _, _, rfl, g6.i, k6, .l d6, by simp [menus], by show 5 < 1000000; decide, fun H7 i7 dd vg hd7 dg g7 k7 => ?_⟩
    obtain ⟨gs, hg7, rfl⟩ := map_at hd7
    have mgs : gs ∈ menus := List.mem_of_getElem? hg7
    have m := menu_sub mgs
    obtain ⟨n1, n2, n3, n4⟩ := menu_facts gs m
    have g8 := (g6.more (L2 := [p]) (fun _ z => nomatch z)).trans g7 fun x hx => .inl hx
    walk_at "go"
    refine ⟨z5 _ (by show 1 ≤ 16777216; decide), fun p8 h8 => ?_⟩
    obtain ⟨g9, d9, e9⟩ := newLD (K := K) (ds := [.non]) g8 h8 (.cons .non .nil)
    have k9 := PotOk.of_new g9 k7 h8
    refine i_catLD (L := []) g9.i (dg.mono e9) d9 (by rw [goodsD, List.length_map]; show gs.length + 1 ≤ _; omega) fun S10 H10 vp g10 dp => ?_
    have dp' : Dv K S10 vp (.lst ((ptsOf gs).map ptD)) := by
      rw [ptsOf, List.map_append, List.map_map]
      exact dp
    have g11 := g9.then g10
    have k11 := k9.gr g10 (by simp)
    walk_at "go"
    refine ⟨z5 _ (by show 0 ≤ 16777216; decide), fun l hl => ?_⟩
    have nl : p ≠ l := k11.neq hl
    have hl0 : H l = none := g11.back hl (nmem1 nl)
    have sl : S10 l = none := fresh_back g11.i hl
    have g12 := g11.mutN (o := .lst []) hl0 sl
    have k12 : PotOk _ _ p := k11.mut (o := .lst []) nl
    walk_at "go"
    refine ⟨_, _, rfl, ?_⟩
    walk_at "go"
    refine x_forRng ?_
    walk_at "go"
    refine ⟨_, p, 7 + 1, rfl, g12.i, k12, by decide, by decide, fun H13 n13 hn13 g13 k13 => ?_⟩
    have g14 := g12.trans g13 fun x hx => .inl hx
    obtain ⟨l13, s13⟩ := g13.own (nmem1 nl) upd_same sl
    refine i_forRng (by omega) (fun i σ H' => ∃ S' rs xs a b c, σ = [some (.ref p), some (.int 7), some vg, some vp, some (.ref l), a, b, c] ∧ Gr [p] S H S' H' ∧ PotOk S' H' p ∧ Dv K S' vg (.lst (goodsD gs)) ∧ Dv K S' vp (.lst ((ptsOf gs).map ptD)) ∧ S' l = none ∧
      H' l = some (.lst xs) ∧ DvAll K S' xs (rowsD rs) ∧ rs.length ≤ i ∧ ∀ r ∈ rs, RowOk gs r ∧ r.2.2.natAbs ≤ 100) ?_ ?_ ?_
    · exact ⟨S10, [], [], _, _, _, rfl, g14, k13, (dg.mono e9).mono g10.s, dp', sl, l13, .nil, Nat.le_refl _, fun _ h => nomatch h⟩
    · rintro i σ H1 hi ⟨S1, rs, xs, a, b, c, rfl, g1', k1, dg1, dp1, sl1, hl1, dx1, lz, ro⟩
      have pn : (ptsOf gs).map ptD ≠ [] := by simp [ptsOf]
      have pz : ((ptsOf gs).map ptD).length < 1000000 := by
        rw [List.length_map, ptsOf, List.length_append, List.length_map]
        show gs.length + 1 < _
        omega
      walk_at "go"
      refine ⟨_, p, _, _, rfl, g1'.i, k1, .l dp1, pn, pz, fun H2 i2 dd2 u2 hd2 du2 g2' k2 => ?_⟩
      obtain ⟨q2, hq2, rfl⟩ := map_at hd2
      cases dv_pt_inv du2
      walk_at "go"
      refine ⟨_, p, _, _, rfl, g2'.i, k2, .l dp1, pn, pz, fun H3 i3 dd3 u3 hd3 du3 g3' k3 => ?_⟩
      obtain ⟨q3, hq3, rfl⟩ := map_at hd3
      cases dv_pt_inv du3
      have m2 := pts_ok (List.mem_of_getElem? hq2)
      have m3 := pts_ok (List.mem_of_getElem? hq3)
      have g4' := (g1'.trans g2' fun x hx => .inl hx).trans g3' fun x hx => .inl hx
      obtain ⟨hl2, _⟩ := g2'.own (nmem1 nl) hl1 sl1
      obtain ⟨hl3, _⟩ := g3'.own (nmem1 nl) hl2 sl1
      walk_at "go"
      refine ⟨_, _, rfl, ?_⟩
      walk_at "go"
      refine i_ne g3'.i du2 du3 (plain_pt _) (plain_pt _) (shaped_pt m m2) (shaped_pt m m3) ?_
      rw [py_pt, py_pt, eqv_pt]
      by_cases e : q2 = q3
      · rw [decide_eq_true e]
        walk_at "go"
        exact ⟨_, rs, xs, _, _, _, rfl, g4', k3, dg1, dp1, sl1, hl3, dx1, Nat.le_succ_of_le lz, ro⟩
      · rw [decide_eq_false e]
        walk_at "go"
        refine ⟨i_tyL hl3, ?_⟩
        walk_at "go"
        refine ⟨_, p, 9, rfl, g3'.i, k3, by decide, by decide, fun H5 n5 hn5 g5' k5 => ?_⟩
        walk_at "go"
        refine ⟨z5 _ (by show 8 ≤ 16777216; decide), fun p6' h6' => ?_⟩
        obtain ⟨g6', d6', e6'⟩ := newLD (K := K) (L := [p]) g5' h6' (dvAll_ints [0, 1, 2, 3, 5, -1, -2, (n5 : Int)])
        have k6' := PotOk.of_new g6' k5 h6'
        walk_at "go"
        refine ⟨_, p, _, _, rfl, g6'.i, k6', .l d6', by simp, by show 8 < 1000000; decide, fun H7' i7' dd7 u7 hd7' du7 g7' k7' => ?_⟩
        obtain ⟨z, hz, rfl⟩ := map_at hd7'
        cases du7.int_inv
        have zb : z.natAbs ≤ 100 := by
          have := List.mem_of_getElem? hz
          simp only [List.mem_cons, List.not_mem_nil, or_false] at this
          omega
        have g8' := (g4'.trans g6' fun x hx => .inl hx).trans g7' fun x hx => .inl hx
        walk_at "go"
        refine ⟨z5 _ (by show 3 ≤ 16777216; decide), fun p9' h9' => ?_⟩
        obtain ⟨g9', d9', e9'⟩ := newTD (K := K) (ds := [ptD q2, ptD q3, .int z]) g8' h9' (.cons (dv_pt _) (.cons (dv_pt _) (.cons (.int _) .nil)))
        have k9' := PotOk.of_new g9' k7' h9'
        obtain ⟨hl5, sl5⟩ := g6'.own (nmem1 nl) hl3 sl1
        obtain ⟨hl7, sl7⟩ := g7'.own (nmem1 nl) hl5 sl5
        have hl9 : (upd H7' p9' (.tup [ptV q2, ptV q3, .int z])) l = some (.lst xs) := by rw [upd_ne (ne_of_none hl7 h9')]; exact hl7
        have sl9 : (upd _ p9' (.tup [ptV q2, ptV q3, .int z])) l = none := (upd_ne (ne_of_none hl7 h9')).trans sl7
        walk_at "go"
        have lx := dx1.length
        rw [rows_len] at lx
        refine i_append hl9 (by omega) ?_
        walk_at "go"
        have eS := (e6'.trans e9')
        refine ⟨_, rs ++ [(q2, q3, z)], _, _, _, _, rfl, g9'.mutN hl0 sl9, k9'.mut nl, dg1.mono eS, dp1.mono eS, sl9, upd_same, ?_, by rw [List.length_append]; show rs.length + 1 ≤ i + 1; omega, ?_⟩
        · rw [← rows_app]
          exact (dx1.mono eS).append (.cons d9' .nil)
        · intro r hr
          rcases List.mem_append.mp hr with y | y
          · exact ro r y
          · have : r = (q2, q3, z) := by simpa using y
            subst this
            refine ⟨⟨?_, by show z.natAbs ≤ 1000; omega⟩, zb⟩
            simp [rowB, m2, m3, e]
    · rintro σ H1 ⟨S1, rs, xs, a, b, c, rfl, g1', k1, dg1, dp1, sl1, hl1, dx1, lz, ro⟩
      have g2' := g1'.frzN hl0 sl1 hl1
      have k2 : PotOk _ _ p := k1.frz (o := .lst xs) nl
      have d2' := dv_lst_new (K := K) sl1 dx1
      walk_at "go"
      refine ⟨z5 _ (by show 2 ≤ 16777216; decide), fun p9' h9' => ?_⟩
      obtain ⟨g9', d9', e9'⟩ := newTD (K := K) (ds := [.lst (goodsD gs), .lst (rowsD rs)]) g2' h9' (.cons (dg1.mono (Ex.new sl1)) (.cons d2' .nil))
      have k9' := PotOk.of_new g9' k2 h9'
      exact q _ _ _ gs rs mgs ro (by omega) g9' k9' d9'
/-! ### mixed -/
def spMixed (K : PySem.W.Frag) : Sp := fun vs H Q _ => ∃ S p v gs, vs = [.ref p, v] ∧ Ex S H ∧ PotOk S H p ∧ SqD K S v (goodsD gs) ∧ gs.length ≤ 1000 ∧ ∀ (H' : Hp) (l : Addr) (gs' : List Str), gs'.Perm gs → Gr [p] S H S H' → PotOk S H' p → H l = none → H' l = some (.lst (gs'.map V.str)) → Q (.ref l) H'
theorem b_law_mixed (T : Txt K mg) : Binds K (fdOf K (He.fAd K d_law_mixed.at_)) ["pot", "some"] [] := T.f_law_mixed.bindsN fun _ _ _ _ _ _ us hl => match us, hl with | [_, _], _ => rfl
theorem ok_law_mixed (T : Txt K mg) : FO P w K mg base 2 d_law_mixed ["pot", "some"] (spMixed K) := by
  have G_law_draw := ok_law_draw (P := P) (w := w) (base := base) T
  refine T.f_law_mixed.ok sc_law_mixed (fun vs H Q E h => ?_) (fun cdv A outer s H vs Q E hr h => ?_)
  · obtain ⟨S, p, v, gs, rfl, _⟩ := h
    rfl
  · obtain ⟨S, p, v, gs, rfl, f, k, sd, hz, q⟩ := h
    have hu := hr.units
    refine ⟨_, (pss_cons (ps_par (i := 2) (j := 3) rfl sc_law_mixed.nd rfl rfl (by decide) rfl rfl (pa_cons (pe_callTy call_listX (by rfl) T.b_list (by decide +kernel) (pa_cons (pv 1) pa_nil)) (pa_cons (pe_lst pa_nil) pa_nil)) (by rfl))
    (pss_cons (ps_for (passes_of rfl) rfl (pi_range1 rfl T.b_range (pa_cons (pe_callB call_lenX (by rfl) T.b_len (by decide +kernel) (pa_cons (pv 2) pa_nil)) pa_nil)) (pg_name (i := 4) sc_law_mixed.nd rfl (.inl rfl)) (pss_one (ps_expr (pe_bm PySem.F.plainAttrs_list PySem.F.slot_list_append PySem.F.type_list_append mt_append (pv 3) (pa_cons (pe_bm PySem.F.plainAttrs_list PySem.F.slot_list_pop PySem.F.type_list_pop mt_popAt (pv 2) (pa_cons (pe_call G_law_draw (hr.mono (by decide)) rfl T.g_law_draw T.f_law_draw.kp (b_law_draw T) .nil pass0 (pa_cons (pv 0) (pa_cons (pe_callB call_lenX (by rfl) T.b_len (by decide +kernel) (pa_cons (pv 2) pa_nil)) pa_nil))) pa_nil)) pa_nil)))))
    (pss_one (ps_ret (pv 3))))), ?_⟩
    have z5 : ∀ n, n ≤ 16777216 → n ≤ sizeLine := fun n h => by rw [sizeLine_eq]; exact h
    walk_at "go"
    refine i_listX f sd fun l1 xs h1 hx => ?_
    cases dvAll_strs_inv hx
    have n1 : p ≠ l1 := k.neq h1
    have g1 : Gr [p] S H S (upd H l1 (.lst (gs.map V.str))) := Gr.newO f h1
    have k1 := k.new (o := .lst (gs.map V.str)) h1
    have s1 : S l1 = none := fresh_back f h1
    walk_at "go"
    refine ⟨z5 _ (by show 0 ≤ 16777216; decide), fun l2 h2 => ?_⟩
    have n2 : p ≠ l2 := k1.neq h2
    have n12 : l1 ≠ l2 := fun z => by
      subst z
      rw [upd_same] at h2
      cases h2
    have h2' : H l2 = none := by rw [upd_ne (Ne.symm n12)] at h2; exact h2
    have s2 : S l2 = none := fresh_back f h2'
    have g2 := g1.then (Gr.newO (L := []) (o := .lst []) g1.i h2)
    have k2 := k1.new (o := .lst []) h2
    walk_at "go"
    refine ⟨_, _, rfl, ?_⟩
    walk_at "go"
    refine x_forRng ?_
    walk_at "go"
    refine i_lenL (ys := gs.map V.str) (by rw [upd_ne n12, upd_same]) ?_
    walk_at "go"
    refine i_forRng (by rw [List.length_map]; omega) (fun i σ H' => ∃ (as bs : List Str) (c : Option V), σ = [some (.ref p), some v, some (.ref l1), some (.ref l2), c] ∧ Gr [p] S H S H' ∧ PotOk S H' p ∧ H' l1 = some (.lst (as.map V.str)) ∧ H' l2 = some (.lst (bs.map V.str)) ∧ (bs ++ as).Perm gs ∧ as.length + i = gs.length) ?_ ?_ ?_
    · exact ⟨gs, [], _, rfl, g2, k2, by rw [upd_ne n12, upd_same], upd_same, List.Perm.refl _, rfl⟩
    · rintro i σ H3 hi ⟨as, bs, c, rfl, g3, k3, e1, e2, pm, ln⟩
      rw [List.length_map] at hi
      have lb := pm.length_eq
      rw [List.length_append] at lb
      walk_at "go"
      refine ⟨i_tyL e2, ?_⟩
      walk_at "go"
      refine ⟨i_tyL e1, ?_⟩
      walk_at "go"
      refine i_lenL e1 ?_
      rw [List.length_map]
      refine ⟨S, p, _, rfl, g3.i, k3, by omega, by omega, fun H4 n hn g4 k4 => ?_⟩
      have hlt : n < as.length := by omega
      obtain ⟨e1', _⟩ := g4.own (nmem1 n1) e1 s1
      obtain ⟨e2', _⟩ := g4.own (nmem1 n2) e2 s2
      walk_at "go"
      refine i_popAt (y := .str as[n]) e1' (by rw [List.length_map]; omega) (by simp [hlt]) ?_
      have g5 := (g3.trans g4 fun x hx => .inl hx).mutN (o := .lst ((as.map V.str).eraseIdx n)) h1 s1
      have k5 := k4.mut (o := .lst ((as.map V.str).eraseIdx n)) n1
      have e2'' : (upd H4 l1 (.lst ((as.map V.str).eraseIdx n))) l2 = some (.lst (bs.map V.str)) := by rw [upd_ne (Ne.symm n12)]; exact e2'
      walk_at "go"
      refine i_append e2'' (by rw [List.length_map]; omega) ?_
      have g6 := g5.mutN (o := .lst (bs.map V.str ++ [.str as[n]])) h2' s2
      have k6 := k5.mut (o := .lst (bs.map V.str ++ [.str as[n]])) n2
      walk_at "go"
      refine ⟨as.eraseIdx n, bs ++ [as[n]], _, rfl, g6, k6, ?_, ?_, ?_, ?_⟩
      · rw [upd_ne n12, upd_same]
        congr 2
        exact erase_map _ _ _
      · rw [upd_same, List.map_append]
        rfl
      · rw [List.append_assoc]
        exact (List.Perm.append_left bs (erase_perm hlt)).trans pm
      · rw [List.length_eraseIdx, if_pos hlt]
        omega
    · rintro σ H3 ⟨as, bs, c, rfl, g3, k3, e1, e2, pm, ln⟩
      rw [List.length_map] at ln
      have : as = [] := List.eq_nil_of_length_eq_zero (by omega)
      subst this
      rw [List.append_nil] at pm
      walk_at "go"
      exact q H3 l2 bs pm g3 k3 h2' e2
/-! ### repr -/
def shG (gs : List Str) : Str := (PyData.list (gs.map PyData.str)).shown
def shR (rs : List Row) : Str := (PyData.list (rs.map rowP)).shown
def reprM (gs : List Str) (rs : List Row) : Str := ((((("Moves(" : Str) ++ shG gs) ++ (", " : Str)) ++ shR rs) ++ (")" : Str))
theorem shG_len {gs : List Str} (m : ∀ g ∈ gs, g ∈ names) (z : gs.length ≤ 10) : (shG gs).length ≤ 10000 := Nat.le_trans (listLen (B := 12) fun a ha => by rw [PyData.shown]; exact (name_facts a (m a ha)).2.2.2) (by omega)
theorem shR_len {gs : List Str} (m : gs ∈ menusZ) {rs : List Row} (h : ∀ r ∈ rs, RowOk gs r) (z : rs.length ≤ 100) : (shR rs).length ≤ 10000 := Nat.le_trans (listLen (B := 60) fun a ha => (row_small m (h a ha)).2.2.2) (by omega)
abbrev FG (P : Program) (w : World) (K : PySem.W.Frag) (mg : Str → Option Value) (base : Heap) (k : Nat) (d : He.DefD) (ps : List Str) (sp : Sp) : Prop :=
  FnG P w K mg base k (He.fAd K d.at_) (fdOf K (He.fAd K d.at_)) ps sp
def spRepr : Sp := fun vs H Q _ => ∃ S v gs rs, vs = [v] ∧ Ex S H ∧ Dv K S v (mvD K gs rs) ∧ gs ∈ menusZ ∧ (∀ r ∈ rs, RowOk gs r) ∧ rs.length ≤ 100 ∧ ∀ H', Ex H H' → Q (.str (reprM gs rs)) H'
theorem b_Moves_repr (T : Txt K mg) : Binds K (fdOf K (He.fAd K d_Moves_repr.at_)) ["self"] [] := T.f_Moves_repr.bindsN fun _ _ _ _ _ _ us hl => match us, hl with | [_], _ => rfl
theorem pyL_goods (gs : List Str) : pyD (.lst (goodsD gs)) = .list (gs.map PyData.str) := by simp only [pyD, py_goods]
theorem pyL_rows (rs : List Row) : pyD (.lst (rowsD rs)) = .list (rs.map rowP) := by simp only [pyD, py_rows]
theorem plL_goods (gs : List Str) : plainD (.lst (goodsD gs)) = true := by simp only [plainD, plain_goods]
theorem plL_rows (rs : List Row) : plainD (.lst (rowsD rs)) = true := by simp only [plainD, plain_rows]
theorem ok_Moves_repr (T : Txt K mg) : FG P w K mg base 1 d_Moves_repr ["self"] (spRepr (K := K)) := by
  refine FnG.mk_of T.f_Moves_repr sc_Moves_repr (fun vs H Q E h => ?_) (fun cdv A outer s H vs Q E gu hr h => ?_)
  · obtain ⟨S, v, gs, rs, rfl, _⟩ := h
    rfl
  · obtain ⟨S, v, gs, rs, rfl, f, dv, m, ro, rz, q⟩ := h
    have hu := hr.units
    obtain ⟨a, dx, g, r, rfl, ha, dg, dr⟩ := mv_inv dv
    have lg := shG_len (menu_names gs m) (Nat.le_trans (menu_facts gs m).2.1 (by decide))
    have lr := shR_len m ro rz
    refine ⟨_, (pss_one (ps_ret (pe_joined (PJ.cons pe_str (PJ.cons (pe_fmtD gu hu (pe_callTy call_listX (by rfl) T.b_list (by decide +kernel) (pa_cons (pe_fld (pv 0) rfl) pa_nil))) (PJ.cons pe_str (PJ.cons (pe_fmtD gu hu (pe_callTy call_listX (by rfl) T.b_list (by decide +kernel) (pa_cons (pe_fld (pv 0) rfl) pa_nil))) (PJ.cons pe_str PJ.nil)))))))), ?_⟩
    walk_at "go"
    refine x_js ?_
    walk_at "go"
    refine i_js (by decide) ?_
    rw [str_empty_app]
    refine x_js (x_fmtD ?_)
    walk_at "go"
    refine ⟨a, _, dx, _, _, rfl, f _ _ ha, T.cl_Moves, T.na_Moves_own_goods, rfl, ?_⟩
    walk_at "go"
    refine i_listX f (.t dg) fun l xs hl hx => ?_
    obtain ⟨g1, d1, e1⟩ := newLD (L := []) (Gr.refl f) hl hx
    have sg := shows_goods (menu_names gs m) (Nat.le_trans (menu_facts gs m).2.1 (by decide))
    have sr := shows_rows m ro rz
    have c0 : ("Moves(" : Str).length = 6 := by decide
    have c1 : (", " : Str).length = 2 := by decide
    have c2 : (")" : Str).length = 1 := by decide
    have eg : (pyD (.lst (goodsD gs))).shown = shG gs := by rw [pyL_goods]; rfl
    have er : (pyD (.lst (rowsD rs))).shown = shR rs := by rw [pyL_rows]; rfl
    refine i_fmtD g1.i d1 (plL_goods _) (by rw [pyL_goods]; exact sg) (by rw [eg, str_app_len, c0]; omega) ?_
    rw [eg]
    refine x_js ?_
    walk_at "go"
    refine i_js (by simp only [str_app_len, c0, c1]; omega) ?_
    refine x_js (x_fmtD ?_)
    walk_at "go"
    refine ⟨a, _, dx, _, _, rfl, g1.i _ _ (g1.s _ _ ha), T.cl_Moves, T.na_Moves_own_conditions, rfl, ?_⟩
    walk_at "go"
    refine i_listX g1.i (.t (dr.mono g1.s)) fun l2 xs2 hl2 hx2 => ?_
    obtain ⟨g2, d2, e2⟩ := newLD (L := []) g1 hl2 hx2
    refine i_fmtD g2.i d2 (plL_rows _) (by rw [pyL_rows]; exact sr) (by rw [er]; simp only [str_app_len, c0, c1]; omega) ?_
    rw [er]
    refine x_js ?_
    walk_at "go"
    refine i_js (by simp only [str_app_len, c0, c1, c2]; omega) ?_
    refine x_jsN ?_
    exact q _ g2.nil_h
end
end K51

set_option Elab.async false
set_option linter.all false
set_option maxRecDepth 100000
set_option maxHeartbeats 4000000
/-! K51E: _law_is. -/
namespace K51
open PySem PySem.Spec PyProof.Rows L2 Gd
open Evl (Ex Ex.refl Ex.trans Ex.new Ex.mut ex_t ex_l sq_of st_of fresh_back)

local macro_rules | `(tactic| walk_at "st") => `(tactic| first
  | with_reducible refine x_seq ?_ | with_reducible refine x_ret ?_ | with_reducible refine x_retN ?_ | with_reducible refine x_next ?_ | with_reducible refine x_drop ?_ | with_reducible refine x_if ?_ | with_reducible refine x_asg ?_
  | with_reducible refine x_par ?_ | with_reducible refine x_par3 ?_ | with_reducible refine x_sfld ?_ | ((with_reducible show tVar _ _ _ _); refine x_var rfl ?_) | with_reducible refine x_c ?_ | with_reducible refine x_op ?_ | with_reducible refine x_un ?_
  | with_reducible refine x_chain ?_ | with_reducible refine x_andV ?_ | with_reducible refine x_orV ?_ | with_reducible refine x_notV ?_ | with_reducible refine x_ifE ?_ | with_reducible refine x_nil ?_ | with_reducible refine x_cons ?_ | with_reducible refine x_star ?_
  | with_reducible refine x_tup ?_ | with_reducible refine x_lst ?_ | with_reducible refine x_cb ?_ | with_reducible refine x_call ?_ | with_reducible refine x_meth ?_ | with_reducible refine x_makeM ?_ | with_reducible refine x_fld ?_ | with_reducible refine x_bm0 ?_ | with_reducible refine x_bm ?_
  | with_reducible refine x_sl ?_ | with_reducible refine x_no ?_ | with_reducible refine x_part ?_ | with_reducible refine x_rev ?_ | with_reducible refine x_fmtD ?_ | with_reducible refine x_test ?_ | with_reducible refine x_tB ?_ | with_reducible refine x_and ?_ | with_reducible refine x_or ?_ | with_reducible refine x_not ?_ | with_reducible refine x_yes ?_
  | with_reducible refine x_gname ?_ | with_reducible refine x_gtup ?_ | with_reducible refine x_gnil ?_ | with_reducible refine x_gcons ?_ | with_reducible refine x_gsub ?_ | with_reducible refine x_iList ?_ | with_reducible refine x_iStr ?_ | with_reducible refine x_iRng1 ?_ | with_reducible refine x_iEnumQ ?_
  | with_reducible refine i_I0 ?_ | with_reducible refine i_U ?_ | with_reducible refine iteT ?_ | with_reducible refine iteF ?_ | with_reducible refine iteNT ?_ | with_reducible refine iteNF ?_ | with_reducible refine x_bl ?_ | with_reducible refine x_int ?_ | with_reducible refine i_add ?_ | with_reducible refine i_int1 ?_ | with_reducible refine i_abs ?_ | with_reducible refine i_max ?_ | with_reducible refine i_min ?_)
local macro_rules | `(tactic| walk_at "go") => `(tactic| repeat (first | walk_at "st" | dsimp only [Bool.not_true, Bool.not_false, List.nil_append, List.cons_append]))

section
variable {P : Program} {w : World} {K : PySem.W.Frag} {mg : Str → Option Value} {base : Heap}
def spIs : Sp := fun vs H Q _ => ∃ S v vg vr gs rs, vs = [v, vg, vr] ∧ Ex S H ∧ Dv K S v (mvD K gs rs) ∧ Dv K S vg (.lst (goodsD gs)) ∧ Dv K S vr (.lst (rowsD rs)) ∧ gs ∈ menus ∧ (∀ r ∈ rs, RowOk gs r) ∧ rs.length ≤ 24 ∧ ∀ H', Ex H H' → Q (.bl true) H'
theorem b_law_is (T : Txt K mg) : Binds K (fdOf K (He.fAd K d_law_is.at_)) ["moves", "goods", "rows"] [] := T.f_law_is.bindsN fun _ _ _ _ _ _ us hl => match us, hl with | [_, _, _], _ => rfl
def bothD (gs : List Str) (rs : List Row) : Dt := .lst [.lst (goodsD gs), .lst (rowsD rs)]
theorem py_both (gs : List Str) (rs : List Row) : pyD (bothD gs rs) = .list [.list (gs.map PyData.str), .list (rs.map rowP)] := by
  simp only [bothD, pyD, pyAll, py_goods, py_rows]
theorem pl_both (gs : List Str) (rs : List Row) : plainD (bothD gs rs) = true := by
  simp only [bothD, plainD, plainAll, plain_goods, plain_rows, Bool.and_self]
/-- [v.goods(), v.conditions()] -/
theorem i_told {i : Nat} {σ : L2.St} {S H : Hp} {Q : VK} {v : V} {gs : List Str} {rs : List Row} (hv : σ[i]? = some (some v)) (f : Ex S H) (dv : Dv K S v (mvD K gs rs))
    (q : ∀ (t l1 l2 : Addr) (xs : List V) (H3 : Hp), H l1 = none → H l2 = none → H t = none → l1 ≠ l2 → l1 ≠ t → l2 ≠ t → H3 l1 = some (.lst (gs.map V.str)) → H3 l2 = some (.lst xs) → H3 t = some (.lst [.ref l1, .ref l2]) → DvAll K S xs (rowsD rs) → Gr [] S H S H3 → (∃ S3, Ex S3 H3 ∧ Dv K S3 (.ref t) (bothD gs rs)) → Q (.ref t) H3) :
    tLst (tCons (tMeth (CM K) "goods" (spGoods (K := K)) [] E0 (tVar i) tNil) (tCons (tMeth (CM K) "conditions" (spConds (K := K)) [] E0 (tVar i) tNil) tNil)) σ H Q := by
  obtain ⟨a, dx, wg, wr, rfl, ha, wdg, wdr⟩ := mv_inv dv
  refine x_lst (x_cons (x_meth (x_var hv ?_)))
  refine ⟨a, dx, _, rfl, f _ _ ha, rfl, x_nil ?_⟩
  refine ⟨S, _, gs, rs, rfl, f, dv, fun l1 h1 => ?_⟩
  obtain ⟨g2, d2, e2⟩ := newLD (K := K) (L := []) (Gr.refl f) h1 (dvAll_strs gs)
  refine x_cons (x_meth (x_var hv ?_))
  refine ⟨a, dx, _, rfl, g2.i _ _ (g2.s _ _ ha), rfl, x_nil ?_⟩
  have fo : Ex S (upd H l1 (.lst (gs.map V.str))) := f.trans (Ex.new h1)
  refine ⟨S, _, gs, rs, rfl, fo, dv, fun l2 xs h2 hx => ?_⟩
  obtain ⟨g3, d3, e3⟩ := newLD (K := K) (L := []) g2 h2 (hx.mono e2)
  refine x_nil ⟨by rw [sizeLine_eq]; show 2 ≤ 16777216; decide, fun t ht => ?_⟩
  obtain ⟨g4, d4, e4⟩ := newLD (K := K) (L := []) (ds := [.lst (goodsD gs), .lst (rowsD rs)]) g3 ht (.cons (d2.mono e3) (.cons d3 .nil))
  have n12 : l1 ≠ l2 := fun z => by
    subst z
    rw [upd_same] at h2
    cases h2
  have h2' : H l2 = none := by rw [upd_ne (Ne.symm n12)] at h2; exact h2
  have n2t : l2 ≠ t := fun z => by
    subst z
    rw [upd_same] at ht
    cases ht
  have n1t : l1 ≠ t := fun z => by
    subst z
    rw [upd_ne n12, upd_same] at ht
    cases ht
  have ht' : H t = none := by rw [upd_ne (Ne.symm n2t), upd_ne (Ne.symm n1t)] at ht; exact ht
  refine q t l1 l2 xs _ h1 h2' ht' n12 n1t n2t ?_ ?_ upd_same hx ?_ ⟨_, g4.i, d4⟩
  · rw [upd_ne n1t, upd_ne n12, upd_same]
  · rw [upd_ne n2t, upd_same]
  · exact Gr.same f (((Ex.new h1).trans (Ex.new h2)).trans (Ex.new ht))
/-- sorted(goods) -/
theorem i_srt {S H : Hp} {Q : VK} {vg : V} {gs : List Str} (f : Ex S H) (m : gs ∈ menusZ) (dg : Dv K S vg (.lst (goodsD gs))) (q : ∀ p, H p = none → Q (.ref p) (upd H p (.lst (gs.map V.str)))) : rSortX K [vg] H Q := by
  obtain ⟨mf1, mf2, mf3, mf4⟩ := menu_facts gs m
  refine i_sort (L := []) f (.l dg) (by omega) fun ys p pm so hp => ?_
  rw [sortedS_one pm so mf4]
  exact q p hp
/-- repr([sorted(goods), rows]) -/
theorem i_due {i j : Nat} {σ : L2.St} {S H : Hp} {Q : VK} {vg vr : V} {gs : List Str} {rs : List Row} (hg : σ[i]? = some (some vg)) (hr : σ[j]? = some (some vr)) (f : Ex S H) (m : gs ∈ menusZ) (dg : Dv K S vg (.lst (goodsD gs))) (dr : Dv K S vr (.lst (rowsD rs)))
    (sh : Shows (pyD (bothD gs rs))) (q : ∀ H', Ex H H' → Q (.str (pyD (bothD gs rs)).shown) H') :
    tCB (rReprD K) (tCons (tLst (tCons (tCB (rSortX K) (tCons (tVar i) tNil)) (tCons (tVar j) tNil))) tNil) σ H Q := by
  refine x_cb (x_cons (x_lst (x_cons (x_cb (x_cons (x_var hg (x_nil ?_)))))))
  refine i_srt f m dg fun p hp => ?_
  obtain ⟨g2, d2, e2⟩ := newLD (K := K) (L := []) (Gr.refl f) hp (dvAll_strs gs)
  refine x_cons (x_var hr (x_nil ⟨by rw [sizeLine_eq]; show 2 ≤ 16777216; decide, fun t ht => x_nil ?_⟩))
  obtain ⟨g3, d3, e3⟩ := newLD (K := K) (L := []) (ds := [.lst (goodsD gs), .lst (rowsD rs)]) g2 ht (.cons d2 (.cons (dr.mono e2) .nil))
  exact i_reprD g3.i d3 (pl_both _ _) sh (q _ g3.nil_h)
theorem ok_law_is (T : Txt K mg) (B : Tabs K) : FG P w K mg base 6 d_law_is ["moves", "goods", "rows"] (spIs (K := K)) := by
  have G_Moves_goods := ok_Moves_goods (P := P) (w := w) (base := base) T
  have G_Moves_conditions := ok_Moves_conditions (P := P) (w := w) (base := base) T
  have G_Moves_len := ok_Moves_len (P := P) (w := w) (base := base) T
  have G_Moves_eq := ok_Moves_eq (P := P) (w := w) (base := base) T B
  have G_Moves_repr := ok_Moves_repr (P := P) (w := w) (base := base) T
  have G_Moves_init := ok_Moves_init (P := P) (w := w) (base := base) T B
  obtain ⟨ds2, b_Moves_init2⟩ := b_Moves_init2 T
  refine FnG.mk_of T.f_law_is sc_law_is (fun vs H Q E h => ?_) (fun cdv A outer s H vs Q E gu hr h => ?_)
  · obtain ⟨S, v, vg, vr, gs, rs, rfl, _⟩ := h
    rfl
  · obtain ⟨S, v, vg, vr, gs, rs, rfl, f, dv, dg, dr, mm, ro, rz, q⟩ := h
    have hu := hr.units
    have m := menu_sub mm
    obtain ⟨mf1, mf2, mf3, mf4⟩ := menu_facts gs m
    have z5 : ∀ n, n ≤ 16777216 → n ≤ sizeLine := fun n h => by rw [sizeLine_eq]; exact h
    have shB := shows_both m (menu_names gs m) (Nat.le_trans mf2 (by decide)) ro (Nat.le_trans rz (by decide))
    have rb : ∀ r ∈ rs, rowB gs r = true := fun r hr => (ro r hr).b
    obtain ⟨a, dx, wg, wr, rfl, ha, wdg, wdr⟩ := mv_inv dv
    refine ⟨_, (pss_cons (ps_for (passes_of rfl) rfl (pi_range1 rfl T.b_range (pa_cons pe_int pa_nil)) (pg_name (i := 3) sc_law_is.nd rfl (.inl rfl)) (pss_cons (ps_set (i := 4) sc_law_is.nd rfl (Or.inl rfl) (pe_lst (pa_cons (pe_meth0 (pv 0) T.cl_Moves T.m_Moves_goods G_Moves_goods (hr.mono (by decide)) (b_Moves_goods T) .nil pass0) (pa_cons (pe_meth0 (pv 0) T.cl_Moves T.m_Moves_conditions G_Moves_conditions (hr.mono (by decide)) (b_Moves_conditions T) .nil pass0) pa_nil))))
    (pss_cons (ps_if (PW.pt (pw_or (pt_cmpR op_ne (pe_callB (call_repr_d gu hu) (by rfl) T.b_repr (by decide +kernel) (pa_cons (pv 4) pa_nil)) (pe_callB (call_repr_d gu hu) (by rfl) T.b_repr (by decide +kernel) (pa_cons (pe_lst (pa_cons (pe_callB call_sortX (by rfl) T.b_sorted (by decide +kernel) (pa_cons (pv 1) pa_nil)) (pa_cons (pv 2) pa_nil))) pa_nil)) (nomark _)) (pw_or1 (pt_cmpR op_ne (pe_callB (call_len_o gu (FnG.of G_Moves_len) (hr.mono (by decide)) (b_Moves_len T) T.m_Moves_len.at_ T.m_Moves_len.fn) (by rfl) T.b_len (by decide +kernel) (pa_cons (pv 0) pa_nil)) (pe_callB call_lenX (by rfl) T.b_len (by decide +kernel) (pa_cons (pv 2) pa_nil)) (nomark _))))) (pss_one (ps_ret pe_bl)) pss_nil)
    (pss_cons (ps_expr (pe_bm PySem.F.plainAttrs_list PySem.F.slot_list_append PySem.F.type_list_append mt_append (pe_ix ix_X (pv 4) pe_int (fun _ _ => rfl)) (pa_cons pe_str pa_nil)))
    (pss_cons (ps_expr (pe_bm0 PySem.F.plainAttrs_list PySem.F.slot_list_reverse PySem.F.type_list_reverse mt_reverse (pe_ix ix_X (pv 4) pe_int (fun _ _ => rfl))))
    (pss_one (ps_expr (pe_bm PySem.F.plainAttrs_list PySem.F.slot_list_append PySem.F.type_list_append mt_append (pe_ix ix_X (pv 4) pe_int (fun _ _ => rfl)) (pa_cons pe_non pa_nil)))))))))
    (pss_cons (ps_set (i := 4) sc_law_is.nd rfl (Or.inl rfl) (pe_lst (pa_cons (pe_meth0 (pv 0) T.cl_Moves T.m_Moves_goods G_Moves_goods (hr.mono (by decide)) (b_Moves_goods T) .nil pass0) (pa_cons (pe_meth0 (pv 0) T.cl_Moves T.m_Moves_conditions G_Moves_conditions (hr.mono (by decide)) (b_Moves_conditions T) .nil pass0) pa_nil))))
    (pss_cons (ps_set (i := 5) sc_law_is.nd rfl (Or.inl rfl) (pe_make T.mk_Moves G_Moves_init (hr.mono (by decide)) rfl T.g_Moves b_Moves_init2.2 b_Moves_init2.1 pass0 (pa_cons (pe_ix ix_X (pv 4) pe_int (fun _ _ => rfl)) (pa_cons (pe_ix ix_X (pv 4) pe_int (fun _ _ => rfl)) pa_nil))))
    (pss_cons (ps_expr (pe_bm0 PySem.F.plainAttrs_list PySem.F.slot_list_clear PySem.F.type_list_clear mt_clear (pe_ix ix_X (pv 4) pe_int (fun _ _ => rfl))))
    (pss_cons (ps_expr (pe_bm0 PySem.F.plainAttrs_list PySem.F.slot_list_clear PySem.F.type_list_clear mt_clear (pe_ix ix_X (pv 4) pe_int (fun _ _ => rfl))))
    (pss_cons (ps_if (PW.pt (pw_or (pt_cmpR (op_neO gu (FnG.of G_Moves_eq) (hr.mono (by decide)) (b_Moves_eq T) B.ob B.ne T.m_Moves_eq.at_ T.m_Moves_eq.fn) (pv 5) (pv 0) (nomark _)) (pw_or1 (pt_cmpR op_ne (pe_callB (call_repr_d gu hu) (by rfl) T.b_repr (by decide +kernel) (pa_cons (pe_lst (pa_cons (pe_meth0 (pv 5) T.cl_Moves T.m_Moves_goods G_Moves_goods (hr.mono (by decide)) (b_Moves_goods T) .nil pass0) (pa_cons (pe_meth0 (pv 5) T.cl_Moves T.m_Moves_conditions G_Moves_conditions (hr.mono (by decide)) (b_Moves_conditions T) .nil pass0) pa_nil))) pa_nil)) (pe_callB (call_repr_d gu hu) (by rfl) T.b_repr (by decide +kernel) (pa_cons (pe_lst (pa_cons (pe_callB call_sortX (by rfl) T.b_sorted (by decide +kernel) (pa_cons (pv 1) pa_nil)) (pa_cons (pv 2) pa_nil))) pa_nil)) (nomark _))))) (pss_one (ps_ret pe_bl)) pss_nil)
    (pss_one (ps_ret (pe_cmpR op_eq (pe_callB (call_repr_o gu G_Moves_repr (hr.mono (by decide)) (b_Moves_repr T) T.m_Moves_repr.at_ T.m_Moves_repr.fn) (by rfl) T.b_repr (by decide +kernel) (pa_cons (pv 0) pa_nil)) (pe_op op_addX (pe_op op_addX (pe_op op_addX (pe_op op_addX pe_str (pe_callB (call_repr_d gu hu) (by rfl) T.b_repr (by decide +kernel) (pa_cons (pe_callB call_sortX (by rfl) T.b_sorted (by decide +kernel) (pa_cons (pv 1) pa_nil)) pa_nil))) pe_str) (pe_callB (call_repr_d gu hu) (by rfl) T.b_repr (by decide +kernel) (pa_cons (pv 2) pa_nil))) pe_str) (nomark _)))))))))), ?_⟩
    walk_at "go"
    refine x_forRng ?_
    walk_at "go"
    refine i_forRng (n := 2) (by decide) (fun i σ H' => ∃ a1 b1 c1, σ = [some (.ref a), some vg, some vr, a1, b1, c1] ∧ Gr [] S H S H') ⟨_, _, _, rfl, Gr.refl f⟩ ?_ ?_
    · rintro i σ H1 hi ⟨a1, b1, c1, rfl, g1⟩
      walk_at "st"
      walk_at "st"
      refine x_asg (i_told (v := .ref a) rfl g1.i dv fun t l1 l2 xs H3 h1 h2 ht n12 n1t n2t k1 k2 kt hx g2 fz => ?_)
      obtain ⟨S3, f3, d3⟩ := fz
      have g3 := g1.trans g2 fun _ z => nomatch z
      walk_at "go"
      refine i_reprD f3 d3 (pl_both _ _) (by rw [py_both]; exact shB) ?_
      refine i_due (vg := vg) (vr := vr) rfl rfl g2.i m dg dr (by rw [py_both]; exact shB) fun H4 e4 => ?_
      refine ⟨rfl, ?_⟩
      rw [decide_eq_true rfl]
      walk_at "go"
      have g4 : Gr [] S H S H4 := g3.then (Gr.same g3.i e4)
      refine ⟨a, dx, _, rfl, g4.i _ _ ha, ?_⟩
      refine ⟨S, _, gs, rs, rfl, g4.i, dv, rs.length, rfl, by omega, by omega, ?_⟩
      walk_at "go"
      refine i_lenD g4.i (.l dr) ?_
      rw [rows_len]
      refine ⟨rfl, ?_⟩
      rw [decide_eq_true rfl]
      have hl : ∀ {l : Addr}, H1 l = none → H l = none := fun z => g1.back z (by simp)
      have k1' := e4 _ _ k1
      have k2' := e4 _ _ k2
      have kt' := e4 _ _ kt
      have s1 : S l1 = none := fresh_back f (hl h1)
      have s2 : S l2 = none := fresh_back f (hl h2)
      have lx := hx.length
      rw [rows_len] at lx
      walk_at "go"
      refine i_ixL (j := 0) kt' rfl rfl ?_
      refine ⟨i_tyL k1', ?_⟩
      walk_at "go"
      refine i_append k1' (by rw [List.length_map]; omega) ?_
      have g5 := g4.mutN (o := .lst (gs.map V.str ++ [.str "no"])) (hl h1) s1
      have kt5 : (upd H4 l1 (.lst (gs.map V.str ++ [.str "no"]))) t = _ := (upd_ne (Ne.symm n1t)).trans kt'
      have k25 : (upd H4 l1 (.lst (gs.map V.str ++ [.str "no"]))) l2 = _ := (upd_ne (Ne.symm n12)).trans k2'
      walk_at "go"
      refine i_ixL (j := 1) kt5 rfl rfl ?_
      refine ⟨i_tyL k25, l2, xs, rfl, rfl, k25, ?_⟩
      have g6 := g5.mutN (o := .lst xs.reverse) (hl h2) s2
      have kt6 := (upd_ne (H := upd H4 l1 (.lst (gs.map V.str ++ [.str "no"]))) (o := .lst xs.reverse) (Ne.symm n2t)).trans kt5
      walk_at "go"
      refine i_ixL (j := 1) kt6 rfl rfl ?_
      refine ⟨i_tyL upd_same, ?_⟩
      walk_at "go"
      refine i_append upd_same (by rw [List.length_reverse]; omega) ?_
      have g7 := g6.mutN (o := .lst (xs.reverse ++ [.non])) (hl h2) s2
      walk_at "go"
      exact ⟨_, _, _, rfl, g7⟩
    · rintro σ H1 ⟨a1, b1, c1, rfl, g1⟩
      walk_at "st"
      refine x_asg (i_told (v := .ref a) rfl g1.i dv fun t l1 l2 xs H3 h1 h2 ht n12 n1t n2t k1 k2 kt hx g2 _ => ?_)
      have g3 := g1.trans g2 fun _ z => nomatch z
      have lx := hx.length
      rw [rows_len] at lx
      have hl : ∀ {l : Addr}, H1 l = none → H l = none := fun z => g1.back z (by simp)
      have s1 : S l1 = none := fresh_back f (hl h1)
      have s2 : S l2 = none := fresh_back f (hl h2)
      have st : S t = none := fresh_back f (hl ht)
      walk_at "go"
      refine i_ixL (j := 0) kt rfl rfl ?_
      walk_at "go"
      refine i_ixL (j := 1) kt rfl rfl ?_
      walk_at "go"
      refine i_mkM (L := []) g3.i (.l rfl k1 (dvAll_strs gs)) (.l rfl k2 hx) m (List.Perm.refl _) rb rz fun S4 H4 w4 g4 d4 => ?_
      obtain ⟨k14, s14⟩ := g4.own (fun z => nomatch z) k1 s1
      obtain ⟨k24, s24⟩ := g4.own (fun z => nomatch z) k2 s2
      obtain ⟨kt4, st4⟩ := g4.own (fun z => nomatch z) kt st
      have g5 := g3.trans g4 fun _ z => nomatch z
      walk_at "go"
      refine i_ixL (j := 0) kt4 rfl rfl ?_
      refine ⟨i_tyL k14, l1, _, rfl, rfl, k14, ?_⟩
      have g6 := g5.mutN (o := .lst []) (hl h1) s14
      have kt6 := (upd_ne (H := H4) (o := .lst []) (Ne.symm n1t)).trans kt4
      have k26 := (upd_ne (H := H4) (o := .lst []) (Ne.symm n12)).trans k24
      walk_at "go"
      refine i_ixL (j := 1) kt6 rfl rfl ?_
      refine ⟨i_tyL k26, l2, _, rfl, rfl, k26, ?_⟩
      have g7 := g6.mutN (o := .lst []) (hl h2) s24
      obtain ⟨a2, dx2, wg2, wr2, rfl, ha2, wdg2, wdr2⟩ := mv_inv d4
      walk_at "go"
      refine ⟨a2, dx2, _, _, rfl, g7.i _ _ ha2, B.tyM _ _ _ _ (g7.i _ _ (g7.s _ _ ha)), B.nfM, ?_⟩
      refine ⟨S4, _, _, gs, rs, rfl, g7.i, d4, .inr ⟨gs, rs, dv.mono g7.s, m, m, ro, ro, _, rfl, ?_⟩⟩
      rw [decide_eq_true rfl, decide_eq_true rfl, Bool.true_and]
      repeat (first | refine i_told (v := .ref a2) rfl g7.i d4 ?_ | walk_at "st" | dsimp only [Bool.not_true, Bool.not_false])
      intro t' l1' l2' xs' H8 h1' h2' ht' n12' n1t' n2t' k1' k2' kt' hx' g8 fz
      obtain ⟨S8, f8, d8⟩ := fz
      walk_at "go"
      refine i_reprD f8 d8 (pl_both _ _) (by rw [py_both]; exact shB) ?_
      have e8 := g7.s.trans g8.i
      refine i_due (vg := vg) (vr := vr) rfl rfl e8 m dg dr (by rw [py_both]; exact shB) fun H9 e9 => ?_
      refine ⟨rfl, ?_⟩
      rw [decide_eq_true rfl]
      walk_at "go"
      have g10 := (g7.trans g8 fun _ z => nomatch z)
      have g9 : Gr [] S H S4 H9 := g10.then (Gr.same g10.i e9)
      have f9 : Ex S H9 := g9.s.trans g9.i
      refine ⟨a, dx, _, rfl, f9 _ _ ha, ?_⟩
      refine ⟨S, _, gs, rs, rfl, f9, dv, m, ro, by omega, fun H10 e10 => ⟨_, rfl, ?_⟩⟩
      have f10 := f9.trans e10
      have lg := shG_len (menu_names gs m) (Nat.le_trans (menu_facts gs m).2.1 (by decide))
      have lr := shR_len m ro (Nat.le_trans rz (by decide))
      have c0 : ("Moves(" : Str).length = 6 := by decide
      have c1 : (", " : Str).length = 2 := by decide
      have c2 : (")" : Str).length = 1 := by decide
      have eg : (pyD (.lst (goodsD gs))).shown = shG gs := by rw [pyL_goods]; rfl
      have er : (pyD (.lst (rowsD rs))).shown = shR rs := by rw [pyL_rows]; rfl
      have sg := shows_goods (menu_names gs m) (Nat.le_trans (menu_facts gs m).2.1 (by decide))
      have sr := shows_rows m ro (Nat.le_trans rz (by decide))
      walk_at "go"
      refine i_srt f10 m dg fun p hp => ?_
      obtain ⟨g11, d11, e11⟩ := newLD (K := K) (L := []) (Gr.refl f10) hp (dvAll_strs gs)
      walk_at "go"
      refine i_reprD (d := .lst (goodsD gs)) g11.i d11 (plL_goods _) (by rw [pyL_goods]; exact sg) ?_
      rw [eg]
      refine i_addS (by rw [c0]; omega) ?_
      walk_at "go"
      refine i_addS (by simp only [str_app_len, c0, c1]; omega) ?_
      walk_at "go"
      obtain ⟨pr, xr, rfl, hr1, hr2⟩ := id dr.lst_inv
      refine i_reprD g11.i (dr.mono e11) (plL_rows _) (by rw [pyL_rows]; exact sr) ?_
      rw [er]
      refine i_addS (by simp only [str_app_len, c0, c1]; omega) ?_
      walk_at "go"
      refine i_addS (by simp only [str_app_len, c0, c1, c2]; omega) ?_
      refine ⟨rfl, ?_⟩
      unfold reprM
      rw [decide_eq_true rfl]
      exact q _ ((g9.nil_h.trans e10).trans g11.nil_h)
end
end K51

set_option Elab.async false
set_option linter.all false
set_option maxRecDepth 100000
set_option maxHeartbeats 4000000
/-! K51F: _law_equal_right. -/
namespace K51
open PySem PySem.Spec PyProof.Rows L2 Gd
open Evl (Ex Ex.refl Ex.trans Ex.new Ex.mut ex_t ex_l sq_of st_of fresh_back)

local macro_rules | `(tactic| walk_at "st") => `(tactic| first
  | with_reducible refine x_seq ?_ | with_reducible refine x_ret ?_ | with_reducible refine x_retN ?_ | with_reducible refine x_next ?_ | with_reducible refine x_drop ?_ | with_reducible refine x_if ?_ | with_reducible refine x_asg ?_
  | with_reducible refine x_par ?_ | with_reducible refine x_par3 ?_ | with_reducible refine x_sfld ?_ | ((with_reducible show tVar _ _ _ _); refine x_var rfl ?_) | with_reducible refine x_c ?_ | with_reducible refine x_op ?_ | with_reducible refine x_un ?_
  | with_reducible refine x_chain ?_ | with_reducible refine x_andV ?_ | with_reducible refine x_orV ?_ | with_reducible refine x_notV ?_ | with_reducible refine x_ifE ?_ | with_reducible refine x_nil ?_ | with_reducible refine x_cons ?_ | with_reducible refine x_star ?_
  | with_reducible refine x_tup ?_ | with_reducible refine x_lst ?_ | with_reducible refine x_cb ?_ | with_reducible refine x_call ?_ | with_reducible refine x_meth ?_ | with_reducible refine x_makeM ?_ | with_reducible refine x_fld ?_ | with_reducible refine x_bm0 ?_ | with_reducible refine x_bm ?_
  | with_reducible refine x_sl ?_ | with_reducible refine x_no ?_ | with_reducible refine x_part ?_ | with_reducible refine x_rev ?_ | with_reducible refine x_fmtD ?_ | with_reducible refine x_test ?_ | with_reducible refine x_tB ?_ | with_reducible refine x_and ?_ | with_reducible refine x_or ?_ | with_reducible refine x_not ?_ | with_reducible refine x_yes ?_
  | with_reducible refine x_gname ?_ | with_reducible refine x_gtup ?_ | with_reducible refine x_gnil ?_ | with_reducible refine x_gcons ?_ | with_reducible refine x_gsub ?_ | with_reducible refine x_iList ?_ | with_reducible refine x_iStr ?_ | with_reducible refine x_iRng1 ?_ | with_reducible refine x_iEnumQ ?_
  | with_reducible refine i_I0 ?_ | with_reducible refine i_U ?_ | with_reducible refine iteT ?_ | with_reducible refine iteF ?_ | with_reducible refine iteNT ?_ | with_reducible refine iteNF ?_ | with_reducible refine x_bl ?_ | with_reducible refine x_int ?_ | with_reducible refine i_add ?_ | with_reducible refine i_int1 ?_ | with_reducible refine i_abs ?_ | with_reducible refine i_max ?_ | with_reducible refine i_min ?_)
local macro_rules | `(tactic| walk_at "go") => `(tactic| repeat (first | walk_at "st" | dsimp only [Bool.not_true, Bool.not_false, List.nil_append, List.cons_append]))

section
variable {P : Program} {w : World} {K : PySem.W.Frag} {mg : Str → Option Value} {base : Heap}
theorem kb_Moves (T : Txt K mg) : ∃ its : List Value, KBn K (fdOf K (He.fAd K d_Moves_init.at_)) ["self", "goods", "conditions"] 1 ["conditions", "goods"] (fun us ws => us ++ ws.reverse) (fun vs zs => vs ++ zs.reverse) :=
  T.f_Moves_init.kbindsD 1 ["conditions", "goods"] (fun us _ ws => us ++ ws.reverse) (by simp [d_Moves_init, He.DefD.dvs]) (fun r1 _ r3 => r1.append r3.reverse) fun _ _ _ _ _ _ _ us its ws h1 h2 h3 => match us, its, ws, h1, h2, h3 with | [_], [_], [_, _], _, _, _ => ⟨_, rfl, rfl⟩
theorem kb_Moves_without (T : Txt K mg) : KBn K (fdOf K (He.fAd K d_Moves_without.at_)) ["self", "position"] 1 ["position"] (fun us ws => us ++ ws) (fun vs zs => vs ++ zs) :=
  kbn_app T.f_Moves_without 1 ["position"] fun _ _ _ _ _ _ us ws h1 h2 => match us, ws, h1, h2 with | [_], [_], _, _ => rfl
theorem x_makeKM {σ : L2.St} {H : Hp} {tk : TA} {Q : VK} (h : tk σ H fun zs H2 => ([] : List V).length = 0 ∧ zs.length = 2 ∧ MkM K Q zs.reverse H2) : tMakeK (CM K) 0 2 (spInit (K := K)) (fun vs zs => vs ++ zs.reverse) E0 tNil tk σ H Q := h
section
variable {S H : Hp} {Q : VK} {v u : V} {gs gs' : List Str} {rs rs' : List Row}
theorem q_eqM (B : Tabs K) (f : Ex S H) (d1 : Dv K S v (mvD K gs rs)) (d2 : Dv K S u (mvD K gs' rs')) (m : gs ∈ menusZ) (m' : gs' ∈ menusZ) (ro : ∀ r ∈ rs, RowOk gs r) (ro' : ∀ r ∈ rs', RowOk gs' r) (q : Q (.bl (decide (gs = gs') && decide (rs = rs'))) H) : rEqO K (CM K) (spEq (K := K)) v u H Q := by
  obtain ⟨a, dx, _, _, rfl, ha, _, _⟩ := mv_inv d1
  obtain ⟨b, dy, _, _, rfl, hb, _, _⟩ := mv_inv d2
  exact ⟨a, dx, _, _, rfl, f _ _ ha, B.tyM _ _ _ _ (f _ _ hb), B.nfM, S, _, _, gs, rs, rfl, f, d1, .inr ⟨gs', rs', d2, m, m', ro, ro', _, rfl, q⟩⟩
theorem q_neM (B : Tabs K) (f : Ex S H) (d1 : Dv K S v (mvD K gs rs)) (d2 : Dv K S u (mvD K gs' rs')) (m : gs ∈ menusZ) (m' : gs' ∈ menusZ) (ro : ∀ r ∈ rs, RowOk gs r) (ro' : ∀ r ∈ rs', RowOk gs' r) (q : Q (.bl (!(decide (gs = gs') && decide (rs = rs')))) H) : rNeO K (CM K) (spEq (K := K)) v u H Q := by
  obtain ⟨a, dx, _, _, rfl, ha, _, _⟩ := mv_inv d1
  obtain ⟨b, dy, _, _, rfl, hb, _, _⟩ := mv_inv d2
  exact ⟨a, dx, _, _, rfl, f _ _ ha, B.tyM _ _ _ _ (f _ _ hb), B.nfM, S, _, _, gs, rs, rfl, f, d1, .inr ⟨gs', rs', d2, m, m', ro, ro', _, rfl, q⟩⟩
theorem q_eqT (B : Tabs K) {t : String} (f : Ex S H) (d1 : Dv K S v (mvD K gs rs)) (ht : t ∈ others) (ty : TyX K H u (.type t)) (q : Q (.bl false) H) : rEqO K (CM K) (spEq (K := K)) v u H Q := by
  obtain ⟨a, dx, _, _, rfl, ha, _, _⟩ := mv_inv d1
  exact ⟨a, dx, _, _, rfl, f _ _ ha, ty, B.nf t ht, S, _, _, gs, rs, rfl, f, d1, .inl ⟨t, ht, ty, _, rfl, q⟩⟩
theorem q_addM {r : Row} (f : Ex S H) (d1 : Dv K S v (mvD K gs rs)) (d2 : Dv K S u (rowD r)) (hb : rowB gs r = true) (mb : MvB gs rs) (hz : rs.length < 24) (q : RetD K [] S H Q (mvD K gs (rs ++ [r]))) : rAddO K (CM K) "tuple" (spAdd (K := K)) v u H Q := by
  obtain ⟨a, dx, _, _, rfl, ha, _, _⟩ := mv_inv d1
  obtain ⟨b, xs, rfl, hb', _⟩ := id d2.tup_inv
  exact ⟨a, dx, _, rfl, f _ _ ha, ty_tup (sqT_mono f hb'), S, _, _, gs, rs, r, rfl, f, d1, d2, hb, mb, hz, q⟩
end
/-! ### rows bent -/
theorem ptB_zz {gs : List Str} {p : Pt} (h : ptB gs p = true) : ptB (gs ++ [("zz" : Str)]) p = true := by
  cases p with
  | none => rfl
  | some s => exact List.contains_iff_mem.mpr (List.mem_append_left _ (List.contains_iff_mem.mp h))
theorem rowOk_zz {gs : List Str} {r : Row} (h : RowOk gs r) : RowOk (gs ++ [("zz" : Str)]) r := by
  obtain ⟨h1, h2, h3⟩ := rowB_parts h.b
  exact ⟨by simp [rowB, ptB_zz h1, ptB_zz h2, h3], h.z⟩
theorem rowOk_head {gs : List Str} {g0 : Str} (h : g0 ∈ gs) (z : Int) (hz : z.natAbs ≤ 1000) : RowOk gs (some g0, none, z) ∧ RowOk gs (none, some g0, z) := by
  have : ptB gs (some g0) = true := List.contains_iff_mem.mpr h
  have n : ptB gs none = true := rfl
  exact ⟨⟨by simp [rowB, this, n], hz⟩, ⟨by simp [rowB, this, n], hz⟩⟩
def swapR (r : Row) : Row := (r.2.1, r.1, r.2.2)
def bentR (r : Row) : Row := (r.1, r.2.1, r.2.2 + 1)
theorem rowOk_swap {gs : List Str} {r : Row} (h : RowOk gs r) : RowOk gs (swapR r) ∧ swapR r ≠ r := by
  obtain ⟨h1, h2, h3⟩ := rowB_parts h.b
  refine ⟨⟨by simp [rowB, swapR, h1, h2, Ne.symm h3], h.z⟩, fun e => h3 ?_⟩
  have := congrArg Prod.fst e
  exact this.symm
theorem rowOk_bent {gs : List Str} {r : Row} (h : RowOk gs r) (z : r.2.2.natAbs ≤ 100) : RowOk gs (bentR r) ∧ bentR r ≠ r := by
  obtain ⟨h1, h2, h3⟩ := rowB_parts h.b
  refine ⟨⟨by simp [rowB, bentR, h1, h2, h3], by show (r.2.2 + 1).natAbs ≤ 1000; omega⟩, fun e => ?_⟩
  have : r.2.2 + 1 = r.2.2 := congrArg (fun r : Row => r.2.2) e
  omega
theorem put_ne {rs : List Row} {i : Nat} {r r' : Row} (h : rs[i]? = some r) (n : r' ≠ r) : rs ≠ (rs.take i ++ [r']) ++ rs.drop (i + 1) := by
  intro e
  have hi := (List.getElem?_eq_some_iff.mp h).1
  have e2 := congrArg (fun l : List Row => l[i]?) e
  have e3 : rs[i]? = ((rs.take i ++ [r']) ++ rs.drop (i + 1))[i]? := e2
  rw [h, List.getElem?_append_left (by rw [List.length_append, List.length_take]; show i < _ + 1; omega), List.getElem?_append_right (by rw [List.length_take]; omega), List.length_take, Nat.min_eq_left (Nat.le_of_lt hi), Nat.sub_self] at e3
  exact n (Option.some.inj e3).symm
theorem put_mem {rs : List Row} {i : Nat} {r r' : Row} (h : r ∈ (rs.take i ++ [r']) ++ rs.drop (i + 1)) : r ∈ rs ∨ r = r' := by
  rcases List.mem_append.mp h with z | z
  · rcases List.mem_append.mp z with z | z
    · exact .inl (List.mem_of_mem_take z)
    · exact .inr (by simpa using z)
  · exact .inl (List.mem_of_mem_drop z)
theorem put_len {rs : List Row} {i : Nat} {r' : Row} (h : i < rs.length) : ((rs.take i ++ [r']) ++ rs.drop (i + 1)).length = rs.length := by
  rw [List.length_append, List.length_append, List.length_take, List.length_drop]
  show min i rs.length + 1 + _ = _
  omega
theorem shapedBls (bs : List Bool) : SeqAt.shaped (pyD (.lst (bs.map Dt.bl))) = true ∧ pyD (.lst (bs.map Dt.bl)) = .list (bs.map PyData.bool) ∧ plainD (.lst (bs.map Dt.bl)) = true := by
  have e : pyD (.lst (bs.map Dt.bl)) = .list (bs.map PyData.bool) := by
    simp only [pyD, pyAll_eq, List.map_map]
    congr 1
  have c : PyData.canLayAll0 (bs.map PyData.bool) = true := canLayAll_map fun a _ => by simp [PyData.canLay0]
  have d : PyData.depthAll (bs.map PyData.bool) ≤ 0 := depthAll_map fun a _ => by simp [PyData.depth]
  refine ⟨?_, e, ?_⟩
  · rw [e]
    have e : decide (PyData.depthAll (bs.map PyData.bool) + 1 ≤ 64) = true := decide_eq_true (by omega)
    simp only [SeqAt.shaped, PyData.canLay0, PyData.depth, c, Bool.true_and]
    exact e
  · simp only [plainD, plainAll_eq, List.all_map, List.all_eq_true]
    exact fun _ _ => by simp [plainD]
theorem i_neBls {S H : Hp} {Q : VK} {x y : V} {bs : List Bool} (f : Ex S H) (d1 : Dv K S x (.lst (bs.map Dt.bl))) (d2 : Dv K S y (.lst (bs.map Dt.bl))) (q : Q (.bl false) H) : rNeD K x y H Q := by
  obtain ⟨a, b, c⟩ := shapedBls bs
  refine i_ne f d1 d2 c c a a ?_
  rw [b, show PyData.eqv (.list (bs.map PyData.bool)) (.list (bs.map PyData.bool)) = PyData.eqvAll (bs.map PyData.bool) (bs.map PyData.bool) by simp only [PyData.eqv], eqvAll_map eqv_bool, decide_eq_true rfl]
  exact q
theorem i_eqRows {S H : Hp} {Q : VK} {x y : V} {gs : List Str} {rs rs' : List Row} (f : Ex S H) (m : gs ∈ menusZ) (d1 : Dv K S x (.lst (rowsD rs))) (d2 : Dv K S y (.lst (rowsD rs'))) (h : ∀ r ∈ rs, RowOk gs r) (h' : ∀ r ∈ rs', RowOk gs r) (q : Q (.bl (decide (rs = rs'))) H) : rEqD K x y H Q := by
  refine i_eq f d1 d2 (plL_rows _) (plL_rows _) (by rw [pyL_rows]; exact (shaped_rows m h).2) (by rw [pyL_rows]; exact (shaped_rows m h').2) ?_
  rw [pyL_rows, pyL_rows, show PyData.eqv (.list (rs.map rowP)) (.list (rs'.map rowP)) = PyData.eqvAll (rs.map rowP) (rs'.map rowP) by simp only [PyData.eqv], eqv_rows]
  exact q
def okT : Dt → Bool
  | .non => true
  | .int _ => true
  | .str _ => true
  | .lst _ => true
  | .tup _ => true
  | _ => false
theorem ty_dt {S H : Hp} {x : V} {d : Dt} (f : Ex S H) (h : Dv K S x d) (o : okT d = true) : ∃ t ∈ others, TyX K H x (.type t) := by
  cases h with
  | non => exact ⟨_, by decide, ty_non⟩
  | int i => exact ⟨_, by decide, ty_int⟩
  | str i => exact ⟨_, by decide, ty_str⟩
  | lst h1 _ => exact ⟨_, by decide, ty_lst (sq_of (f _ _ h1))⟩
  | tup h1 _ => exact ⟨_, by decide, ty_tup (sqT_mono f h1)⟩
  | bl _ => cases o
  | ins _ _ _ => cases o
  | dK _ _ _ => cases o
  | dT _ _ _ => cases o
def spEqual (K : PySem.W.Frag) : Sp := fun vs H Q _ => ∃ S p v vg vr gs rs, vs = [.ref p, v, vg, vr] ∧ Ex S H ∧ PotOk S H p ∧ Dv K S v (mvD K gs rs) ∧ Dv K S vg (.lst (goodsD gs)) ∧ Dv K S vr (.lst (rowsD rs)) ∧ gs ∈ menus ∧ (∀ r ∈ rs, RowOk gs r ∧ r.2.2.natAbs ≤ 100) ∧ rs.length ≤ 20 ∧
  ∀ S' H', Gr [p] S H S' H' → PotOk S' H' p → Q (.bl true) H'
theorem b_law_equal_right (T : Txt K mg) : Binds K (fdOf K (He.fAd K d_law_equal_right.at_)) ["pot", "moves", "goods", "rows"] [] := T.f_law_equal_right.bindsN fun _ _ _ _ _ _ us hl => match us, hl with | [_, _, _, _], _ => rfl
theorem ok_law_equal_right (T : Txt K mg) (B : Tabs K) : FG P w K mg base 7 d_law_equal_right ["pot", "moves", "goods", "rows"] (spEqual K) := by
  have G_Moves_eq := ok_Moves_eq (P := P) (w := w) (base := base) T B
  have G_Moves_add := ok_Moves_add (P := P) (w := w) (base := base) T B
  have G_Moves_repr := ok_Moves_repr (P := P) (w := w) (base := base) T
  have G_Moves_init := ok_Moves_init (P := P) (w := w) (base := base) T B
  have G_law_mixed := ok_law_mixed (P := P) (w := w) (base := base) T
  obtain ⟨ds2, b_Moves_init2⟩ := b_Moves_init2 T
  obtain ⟨ds1, b_Moves_init1⟩ := b_Moves_init1 T
  obtain ⟨dsk, kb_Moves⟩ := kb_Moves T
  obtain ⟨fo, ro, hfo, hro⟩ := B.addT
  refine FnG.mk_of T.f_law_equal_right sc_law_equal_right (fun vs H Q E h => ?_) (fun cdv A outer s H vs Q E gu hr h => ?_)
  · obtain ⟨S, p, v, vg, vr, gs, rs, rfl, _⟩ := h
    rfl
  · obtain ⟨S, p, v, vg, vr, gs, rs, rfl, f, k, dv, dg, dr, mm, ro, rz, q⟩ := h
    have hu := hr.units
    have m := menu_sub mm
    obtain ⟨mf1, mf2, mf3, mf4⟩ := menu_facts gs m
    have z5 : ∀ n, n ≤ 16777216 → n ≤ sizeLine := fun n h => by rw [sizeLine_eq]; exact h
    have rok : ∀ r ∈ rs, RowOk gs r := fun r hr => (ro r hr).1
    have rb : ∀ r ∈ rs, rowB gs r = true := fun r hr => (ro r hr).1.b
    refine ⟨_, (pss_cons (ps_set (i := 4) sc_law_equal_right.nd rfl (Or.inl rfl) (pe_makeK0 T.mk_Moves G_Moves_init (hr.mono (by decide)) rfl T.g_Moves kb_Moves pass0 (pk_cons (pe_callTy call_tupX (by rfl) T.b_tuple (by decide +kernel) (pa_cons (pv 3) pa_nil)) (pk_cons (pe_callTy call_tupX (by rfl) T.b_tuple (by decide +kernel) (pa_cons (pe_call G_law_mixed (hr.mono (by decide)) rfl T.g_law_mixed T.f_law_mixed.kp (b_law_mixed T) .nil pass0 (pa_cons (pv 0) (pa_cons (pv 2) pa_nil))) pa_nil)) pk_nil))))
    (pss_cons (ps_if (PW.pt (pw_or (pt_not (pt_cmpR (op_eqO gu (FnG.of G_Moves_eq) (hr.mono (by decide)) (b_Moves_eq T) T.m_Moves_eq.at_ T.m_Moves_eq.fn) (pv 1) (pv 4) (nomark _))) (pw_or1 (pt_cmpR (op_neO gu (FnG.of G_Moves_eq) (hr.mono (by decide)) (b_Moves_eq T) B.ob B.ne T.m_Moves_eq.at_ T.m_Moves_eq.fn) (pv 1) (pv 4) (nomark _))))) (pss_one (ps_ret pe_bl)) pss_nil)
    (pss_cons (ps_set (i := 5) sc_law_equal_right.nd rfl (Or.inl rfl) (pe_lst (pa_cons (pe_make T.mk_Moves G_Moves_init (hr.mono (by decide)) rfl T.g_Moves b_Moves_init2.2 b_Moves_init2.1 pass0 (pa_cons (pe_op op_addX (pv 2) (pe_lst (pa_cons pe_str pa_nil))) (pa_cons (pv 3) pa_nil))) (pa_cons (pe_op (op_addO gu (FnG.of G_Moves_add) (hr.mono (by decide)) (b_Moves_add T) B.sf T.m_Moves_add.at_ T.m_Moves_add.fn B.radd (.inl rfl) hfo hro B.subT) (pv 1) (pe_tup (pa_cons (pe_ix ix_X (pv 2) pe_int (fun _ _ => rfl)) (pa_cons pe_non (pa_cons pe_int pa_nil))))) (pa_cons (pe_make T.mk_Moves G_Moves_init (hr.mono (by decide)) rfl T.g_Moves b_Moves_init2.2 b_Moves_init2.1 pass0 (pa_cons (pv 2) (pa_cons (pe_revL (pv 3)) pa_nil))) (pa_cons (pe_make T.mk_Moves G_Moves_init (hr.mono (by decide)) rfl T.g_Moves b_Moves_init1.2 b_Moves_init1.1 pass0 (pa_cons (pv 2) pa_nil)) pa_nil))))))
    (pss_cons (ps_set (i := 6) sc_law_equal_right.nd rfl (Or.inl rfl) (pe_lst (pa_cons pe_bl (pa_cons pe_bl (pa_cons (pe_cmpR (op_eqD hu) (pv 3) (pe_revL (pv 3)) (nomark _)) (pa_cons (pe_cmpR (op_eqD hu) (pv 3) (pe_lst pa_nil) (nomark _)) pa_nil))))))
    (pss_cons (ps_if (PW.pt (pw_or (pt_cmpR (op_neD hu) (pe_lc (own := [("other", 7)]) rfl sc_law_equal_right.nd (pi_list (pv 5)) (blkOk_by (N := ["pot", "moves", "goods", "rows", "same", "others", "due", "other", "at", "one", "most", "bent", "turned", "so", "thing"]) (sc := defScope s_law_equal_right) (by decide +kernel)) (fun _ _ _ _ _ => (pg_name (i := 7) sc_law_equal_right.nd rfl (.inl rfl))) (fun _ _ _ _ _ => pts_nil) (fun _ _ _ _ _ => (pe_cmpR (show OpR _ (compareOp .Eq) (rEqO K (CM K) (spEq (K := K))) from (op_eqO gu (FnG.of G_Moves_eq) (hr.mono (by decide)) (b_Moves_eq T) T.m_Moves_eq.at_ T.m_Moves_eq.fn)) (pv 1) (pv 7) (nomark _)))) (pv 6) (nomark _)) (pw_or1 (pt_cmpR (op_neD hu) (pe_lc (own := [("other", 7)]) rfl sc_law_equal_right.nd (pi_list (pv 5)) (blkOk_by (N := ["pot", "moves", "goods", "rows", "same", "others", "due", "other", "at", "one", "most", "bent", "turned", "so", "thing"]) (sc := defScope s_law_equal_right) (by decide +kernel)) (fun _ _ _ _ _ => (pg_name (i := 7) sc_law_equal_right.nd rfl (.inl rfl))) (fun _ _ _ _ _ => pts_nil) (fun _ _ _ _ _ => (pe_cmpR (show OpR _ (compareOp .NotEq) (rNeO K (CM K) (spEq (K := K))) from (op_neO gu (FnG.of G_Moves_eq) (hr.mono (by decide)) (b_Moves_eq T) B.ob B.ne T.m_Moves_eq.at_ T.m_Moves_eq.fn)) (pv 7) (pv 1) (nomark _)))) (pe_lc (own := [("so", 13)]) rfl sc_law_equal_right.nd (pi_list (pv 6)) (blkOk_by (N := ["pot", "moves", "goods", "rows", "same", "others", "due", "other", "at", "one", "most", "bent", "turned", "so", "thing"]) (sc := defScope s_law_equal_right) (by decide +kernel)) (fun _ _ _ _ _ => (pg_name (i := 13) sc_law_equal_right.nd rfl (.inl rfl))) (fun _ _ _ _ _ => pts_nil) (fun _ _ _ _ _ => (pe_not (pv 13)))) (nomark _))))) (pss_one (ps_ret pe_bl)) pss_nil)
    (pss_cons (ps_for (passes_of rfl) rfl (pi_enumQ rfl T.b_enumerate (pa_cons (pv 3) pa_nil)) (pg_tup rfl (pgs_cons (pg_name (i := 8) sc_law_equal_right.nd rfl (.inl rfl)) (pgs_cons (pg_tup rfl (pgs_cons (pg_name (i := 9) sc_law_equal_right.nd rfl (.inl rfl)) (pgs_cons (pg_name (i := 7) sc_law_equal_right.nd rfl (.inl rfl)) (pgs_cons (pg_name (i := 10) sc_law_equal_right.nd rfl (.inl rfl)) pgs_nil)))) pgs_nil))) (pss_cons (ps_set (i := 11) sc_law_equal_right.nd rfl (Or.inl rfl) (pe_op op_addX (pe_op op_addX (pe_slice sl_X (pv 3) po_none (po_some (pv 8))) (pe_lst (pa_cons (pe_tup (pa_cons (pv 9) (pa_cons (pv 7) (pa_cons (pe_op op_addX (pv 10) pe_int) pa_nil)))) pa_nil))) (pe_slice sl_X (pv 3) (po_some (pe_op op_addX (pv 8) pe_int)) po_none)))
    (pss_cons (ps_set (i := 12) sc_law_equal_right.nd rfl (Or.inl rfl) (pe_op op_addX (pe_op op_addX (pe_slice sl_X (pv 3) po_none (po_some (pv 8))) (pe_lst (pa_cons (pe_tup (pa_cons (pv 7) (pa_cons (pv 9) (pa_cons (pv 10) pa_nil)))) pa_nil))) (pe_slice sl_X (pv 3) (po_some (pe_op op_addX (pv 8) pe_int)) po_none)))
    (pss_one (ps_if (PW.pt (pw_or (pt_cmpR (op_eqO gu (FnG.of G_Moves_eq) (hr.mono (by decide)) (b_Moves_eq T) T.m_Moves_eq.at_ T.m_Moves_eq.fn) (pv 1) (pe_make T.mk_Moves G_Moves_init (hr.mono (by decide)) rfl T.g_Moves b_Moves_init2.2 b_Moves_init2.1 pass0 (pa_cons (pv 2) (pa_cons (pv 11) pa_nil))) (nomark _)) (pw_or1 (pt_cmpR (op_eqO gu (FnG.of G_Moves_eq) (hr.mono (by decide)) (b_Moves_eq T) T.m_Moves_eq.at_ T.m_Moves_eq.fn) (pv 1) (pe_make T.mk_Moves G_Moves_init (hr.mono (by decide)) rfl T.g_Moves b_Moves_init2.2 b_Moves_init2.1 pass0 (pa_cons (pv 2) (pa_cons (pv 12) pa_nil))) (nomark _))))) (pss_one (ps_ret pe_bl)) pss_nil)))))
    (pss_one (ps_ret (pe_not (pe_callB (cr_any rfl) (by rfl) T.b_any (by decide +kernel) (pa_cons (pe_lc (own := [("thing", 14)]) rfl sc_law_equal_right.nd (pi_list (pe_lst (pa_cons pe_non (pa_cons pe_int (pa_cons (pv 2) (pa_cons (pv 3) (pa_cons (pe_callB (call_repr_o gu G_Moves_repr (hr.mono (by decide)) (b_Moves_repr T) T.m_Moves_repr.at_ T.m_Moves_repr.fn) (by rfl) T.b_repr (by decide +kernel) (pa_cons (pv 1) pa_nil)) (pa_cons (pe_tup (pa_cons (pv 2) (pa_cons (pv 3) pa_nil))) pa_nil)))))))) (blkOk_by (N := ["pot", "moves", "goods", "rows", "same", "others", "due", "other", "at", "one", "most", "bent", "turned", "so", "thing"]) (sc := defScope s_law_equal_right) (by decide +kernel)) (fun _ _ _ _ _ => (pg_name (i := 14) sc_law_equal_right.nd rfl (.inl rfl))) (fun _ _ _ _ _ => pts_nil) (fun _ _ _ _ _ => (pe_cmpR (show OpR _ (compareOp .Eq) (rEqO K (CM K) (spEq (K := K))) from (op_eqO gu (FnG.of G_Moves_eq) (hr.mono (by decide)) (b_Moves_eq T) T.m_Moves_eq.at_ T.m_Moves_eq.fn)) (pv 1) (pv 14) (nomark _)))) pa_nil))))))))))), ?_⟩
    walk_at "st"
    refine x_asg (x_makeKM ?_)
    walk_at "go"
    refine i_tupX (L := []) f (.l dr) fun S1 H1 w1 g1 d1 => ?_
    have k1 := k.gr g1 (by simp)
    walk_at "go"
    refine ⟨S1, p, vg, gs, rfl, g1.i, k1, .l (dg.mono g1.s), by omega, fun H2 l2 gs' pm g2 k2 h2n hl2 => ?_⟩
    have g3 := (g1.more (L2 := [p]) (fun _ z => nomatch z)).trans g2 fun x hx => .inl hx
    walk_at "go"
    refine i_tupH (L := []) g2.i (.l rfl hl2 (dvAll_strs gs')) fun S4 H4 w4 g4 d4 => ?_
    have g5 := g3.then g4
    have k5 := k2.gr g4 (by simp)
    walk_at "go"
    refine ⟨rfl, rfl, i_mkM (L := []) g5.i (.t d4) (.t (d1.mono g4.s)) m pm rb (by omega) fun S6 H6 w6 g6 d6 => ?_⟩
    have g7 := g5.then g6
    have k7 := k5.gr g6 (by simp)
    walk_at "go"
    refine q_eqM B g7.i (dv.mono g7.s) d6 m m rok rok ?_
    rw [decide_eq_true rfl, decide_eq_true rfl, Bool.true_and]
    walk_at "go"
    refine q_neM B g7.i (dv.mono g7.s) d6 m m rok rok ?_
    rw [decide_eq_true rfl, decide_eq_true rfl, Bool.true_and]
    walk_at "go"
    -- others
    refine ⟨z5 _ (by show 1 ≤ 16777216; decide), fun p8 h8 => ?_⟩
    obtain ⟨g9, d9, e9⟩ := newLD (K := K) (ds := [.str "zz"]) g7 h8 (.cons (.str _) .nil)
    have k9 := PotOk.of_new g9 k7 h8
    refine i_catLD (L := []) g9.i (dg.mono g9.s) d9 (by rw [goods_len]; show gs.length + 1 ≤ _; omega) fun S10 H10 w10 g10 d10 => ?_
    have d10' : Dv K S10 w10 (.lst (goodsD (gs ++ [("zz" : Str)]))) := by
      rw [goodsD, List.map_append]
      exact d10
    have g11 := g9.then g10
    have k11 := k9.gr g10 (by simp)
    walk_at "go"
    refine i_mkM (L := []) g11.i ((SqD.l d10').toH g11.i) ((SqD.l (dr.mono g11.s)).toH g11.i) (menu_zz mm) (List.Perm.refl _) (fun r hr => (rowOk_zz (rok r hr)).b) (by omega) fun S12 H12 w12 g12 d12 => ?_
    have g13 := g11.then g12
    have k13 := k11.gr g12 (by simp)
    obtain ⟨g0, hg0⟩ : ∃ g0, gs[0]? = some g0 := by
      cases hgs : gs with
      | nil => exact absurd hgs mf1
      | cons a b => exact ⟨a, rfl⟩
    have hg0m := List.mem_of_getElem? hg0
    walk_at "go"
    refine i_ixD (j := 0) (d := .str g0) g13.i (.l (dg.mono g13.s)) rfl (by rw [goodsD, List.getElem?_map, hg0]; rfl) fun u du => ?_
    cases du.str_inv
    walk_at "go"
    refine ⟨z5 _ (by show 3 ≤ 16777216; decide), fun p14 h14 => ?_⟩
    obtain ⟨g14, d14, e14⟩ := newTD (K := K) (ds := [.str g0, .non, .int 0]) g13 h14 (.cons (.str _) (.cons .non (.cons (.int _) .nil)))
    have k14 := PotOk.of_new g14 k13 h14
    have d14' : Dv K _ (.ref p14) (rowD (some g0, none, 0)) := d14
    have ro0 := (rowOk_head hg0m 0 (by decide)).1
    refine q_addM g14.i (dv.mono g14.s) d14' ro0.b ⟨m, rb, by omega⟩ (by omega) fun S15 H15 w15 g15 d15 => ?_
    have g16 := g14.then g15
    have k16 := k14.gr g15 (by simp)
    walk_at "go"
    obtain ⟨pr, xr, rfl, hr1, hr2⟩ := id dr.lst_inv
    refine ⟨pr, xr, rfl, sq_of (g16.i _ _ (g16.s _ _ hr1)), fun p17 h17 => ?_⟩
    obtain ⟨g17, d17, e17⟩ := newLD (K := K) g16 h17 ((hr2.reverse).mono g16.s)
    have k17 := PotOk.of_new g17 k16 h17
    rw [show (rowsD rs).reverse = rowsD rs.reverse from List.map_reverse.symm] at d17
    have rokR : ∀ r ∈ rs.reverse, RowOk gs r := fun r hr => rok r (List.mem_reverse.mp hr)
    walk_at "go"
    refine i_mkM (L := []) g17.i ((SqD.l (dg.mono g17.s)).toH g17.i) ((SqD.l d17).toH g17.i) m (List.Perm.refl _) (fun r hr => (rokR r hr).b) (by rw [List.length_reverse]; omega) fun S18 H18 w18 g18 d18 => ?_
    have g19 := g17.then g18
    have k19 := k17.gr g18 (by simp)
    walk_at "go"
    refine i_mkM (rs := []) (L := []) g19.i ((SqD.l (dg.mono g19.s)).toH g19.i) (.t (.tup (B.dfl _) .nil)) m (List.Perm.refl _) (fun _ h => nomatch h) (by decide) fun S20 H20 w20 g20 d20 => ?_
    have g21 := g19.then g20
    have k21 := k19.gr g20 (by simp)
    walk_at "go"
    refine ⟨z5 _ (by show 4 ≤ 16777216; decide), fun p22 h22 => ?_⟩
    obtain ⟨g22, d22, e22⟩ := newLD (K := K) (ds := [(gs ++ [("zz" : Str)], rs), (gs, rs ++ [((some g0, none, 0) : Row)]), (gs, rs.reverse), (gs, [])].map fun c : List Str × List Row => mvD K c.1 c.2) g21 h22
      (.cons ((((((d12.mono e14).mono g15.s).mono e17).mono g18.s).mono g20.s)) (.cons (((d15.mono e17).mono g18.s).mono g20.s) (.cons (d18.mono g20.s) (.cons d20 .nil))))
    have k22 := PotOk.of_new g22 k21 h22
    have okO : ∀ c ∈ [(gs ++ [("zz" : Str)], rs), (gs, rs ++ [((some g0, none, 0) : Row)]), (gs, rs.reverse), (gs, ([] : List Row))], c.1 ∈ menusZ ∧ ∀ r ∈ c.2, RowOk c.1 r := by
      intro c hc
      simp only [List.mem_cons, List.not_mem_nil, or_false] at hc
      rcases hc with rfl | rfl | rfl | rfl
      · exact ⟨menu_zz mm, fun r hr => rowOk_zz (rok r hr)⟩
      · refine ⟨m, fun r hr => ?_⟩
        rcases List.mem_append.mp hr with z | z
        · exact rok r z
        · have : r = (some g0, none, 0) := by simpa using z
          subst this
          exact ro0
      · exact ⟨m, rokR⟩
      · exact ⟨m, fun _ h => nomatch h⟩
    have hmap : ([(gs ++ [("zz" : Str)], rs), (gs, rs ++ [((some g0, none, 0) : Row)]), (gs, rs.reverse), (gs, ([] : List Row))].map fun c => decide (gs = c.1) && decide (rs = c.2)) = [false, false, decide (rs = rs.reverse), decide (rs = [])] := by
      have n1 : gs ≠ gs ++ [("zz" : Str)] := fun e => by
        have := congrArg List.length e
        rw [List.length_append] at this
        have : gs.length = gs.length + 1 := this
        omega
      have n2 : rs ≠ rs ++ [((some g0, none, 0) : Row)] := fun e => by
        have := congrArg List.length e
        rw [List.length_append] at this
        have : rs.length = rs.length + 1 := this
        omega
      simp only [List.map_cons, List.map_nil, decide_eq_false n1, decide_eq_false n2, decide_true, Bool.false_and, Bool.and_false, Bool.true_and]
    generalize hps : [(gs ++ [("zz" : Str)], rs), (gs, rs ++ [((some g0, none, 0) : Row)]), (gs, rs.reverse), (gs, ([] : List Row))] = ps at d22 okO hmap
    have lps : ps.length = 4 := by rw [← hps]; rfl
    -- due
    walk_at "go"
    have f22 := g22.s.trans g22.i
    refine ⟨pr, xr, rfl, sq_of (f22 _ _ hr1), fun p23 h23 => ?_⟩
    obtain ⟨g23, d23, e23⟩ := newLD (K := K) g22 h23 ((hr2.reverse).mono g22.s)
    have k23 := PotOk.of_new g23 k22 h23
    rw [show (rowsD rs).reverse = rowsD rs.reverse from List.map_reverse.symm] at d23
    refine i_eqRows g23.i m (dr.mono g23.s) d23 rok rokR ?_
    walk_at "go"
    refine ⟨z5 _ (by show 0 ≤ 16777216; decide), fun p24 h24 => ?_⟩
    obtain ⟨g24, d24, e24⟩ := newLD (K := K) (ds := rowsD []) g23 h24 .nil
    have k24 := PotOk.of_new g24 k23 h24
    refine i_eqRows g24.i m (dr.mono g24.s) d24 rok (fun _ h => nomatch h) ?_
    walk_at "go"
    refine ⟨z5 _ (by show 4 ≤ 16777216; decide), fun p25 h25 => ?_⟩
    generalize hbs : [false, false, decide (rs = rs.reverse), decide (rs = [])] = bs at hmap
    have lbs : bs.length = 4 := by rw [← hbs]; rfl
    obtain ⟨g25, d25, e25⟩ := newLD (K := K) (ds := bs.map Dt.bl) g24 h25 (by rw [← hbs]; exact .cons (.bl _) (.cons (.bl _) (.cons (.bl _) (.cons (.bl _) .nil))))
    have k25 := PotOk.of_new g25 k24 h25
    have d22' := ((d22.mono e23).mono e24).mono e25
    obtain ⟨po, xo, epo, ho1, ho2⟩ := id d22'.lst_inv
    cases epo
    obtain ⟨pb, xb, epb, hb1, hb2⟩ := id d25.lst_inv
    cases epb
    walk_at "go"
    refine ⟨_, rfl, p22, rfl, ⟨xo, sq_of (g25.i _ _ ho1)⟩, fun D1 hD1 => ?_⟩
    refine lc_list ho1 ho2 (fun c => .bl (decide (gs = c.1) && decide (rs = c.2))) g25.i hD1 (by omega) (fun c x Sx Hx Qe Nx hc gx dx qe => ?_) fun S26 H26 g26 s26 l26 => ?_
    · walk_at "go"
      refine ⟨rfl, ?_⟩
      walk_at "go"
      obtain ⟨c1, c2⟩ := okO c hc
      exact q_eqM B gx.i ((dv.mono g25.s).mono gx.s) dx m c1 rok c2 (qe Sx Hx (Gr.refl gx.i))
    have hD1n : H D1 = none := g25.back hD1 (nmem1 (k25.neq hD1))
    have g27 := (g25.then g26).frzN hD1n s26 l26
    have k27 := (k25.gr g26 (by simp)).frz (o := .lst (ps.map fun c => .bl (decide (gs = c.1) && decide (rs = c.2)))) (k25.neq hD1)
    have e27 : Ex (upd _ p25 _) (upd S26 D1 (.lst (ps.map fun c => V.bl (decide (gs = c.1) && decide (rs = c.2))))) := g26.s.trans (Ex.new s26)
    have dD1 : Dv K (upd S26 D1 (.lst (ps.map fun c => V.bl (decide (gs = c.1) && decide (rs = c.2))))) (.ref D1) (.lst (bs.map Dt.bl)) := by
      refine .lst upd_same ?_
      rw [← hmap, List.map_map, show (ps.map fun c => V.bl (decide (gs = c.1) && decide (rs = c.2))) = (ps.map fun c => decide (gs = c.1) && decide (rs = c.2)).map V.bl from (List.map_map ..).symm, ← List.map_map]
      exact dvAll_bls _
    walk_at "go"
    refine i_neBls g27.i dD1 (d25.mono e27) ?_
    walk_at "go"
    refine ⟨_, rfl, p22, rfl, ⟨xo, sq_of (g27.i _ _ (e27 _ _ ho1))⟩, fun D2 hD2 => ?_⟩
    refine lc_list (e27 _ _ ho1) (ho2.mono e27) (fun c => .bl (!(decide (c.1 = gs) && decide (c.2 = rs)))) g27.i hD2 (by omega) (fun c x Sx Hx Qe Nx hc gx dx qe => ?_) fun S28 H28 g28 s28 l28 => ?_
    · walk_at "go"
      refine ⟨rfl, ?_⟩
      walk_at "go"
      obtain ⟨c1, c2⟩ := okO c hc
      exact q_neM B gx.i dx ((dv.mono g27.s).mono gx.s) c1 m c2 rok (qe Sx Hx (Gr.refl gx.i))
    have hD2n : H D2 = none := g27.back hD2 (nmem1 (k27.neq hD2))
    have k29 := (k27.gr g28 (by simp)).frz (o := .lst (ps.map fun c => .bl (!(decide (c.1 = gs) && decide (c.2 = rs))))) (k27.neq hD2)
    have g29 := (g27.then g28).frzN hD2n s28 l28
    have hmap2 : (ps.map fun c => !(decide (c.1 = gs) && decide (c.2 = rs))) = bs.map fun b => !b := by
      rw [← hmap, List.map_map]
      refine List.map_congr_left fun c _ => ?_
      show _ = !(decide (gs = c.1) && decide (rs = c.2))
      rw [show decide (c.1 = gs) = decide (gs = c.1) by rw [Bool.eq_iff_iff, decide_eq_true_eq, decide_eq_true_eq]; exact ⟨Eq.symm, Eq.symm⟩, show decide (c.2 = rs) = decide (rs = c.2) by rw [Bool.eq_iff_iff, decide_eq_true_eq, decide_eq_true_eq]; exact ⟨Eq.symm, Eq.symm⟩]
    have dD2 : Dv K (upd S28 D2 (.lst (ps.map fun c => V.bl (!(decide (c.1 = gs) && decide (c.2 = rs)))))) (.ref D2) (.lst ((bs.map fun b => !b).map Dt.bl)) := by
      refine .lst upd_same ?_
      rw [← hmap2, show (ps.map fun c => V.bl (!(decide (c.1 = gs) && decide (c.2 = rs)))) = (ps.map fun c => !(decide (c.1 = gs) && decide (c.2 = rs))).map V.bl from (List.map_map ..).symm]
      exact dvAll_bls _
    have e29 := e27.trans (g28.s.trans (Ex.new (o := .lst (ps.map fun c => V.bl (!(decide (c.1 = gs) && decide (c.2 = rs))))) s28))
    walk_at "go"
    refine ⟨_, rfl, p25, rfl, ⟨xb, sq_of (g29.i _ _ (e29 _ _ hb1))⟩, fun D3 hD3 => ?_⟩
    refine lc_list (e29 _ _ hb1) (hb2.mono e29) (fun b => .bl (!b)) g29.i hD3 (by omega) (fun c x Sx Hx Qe Nx hc gx dx qe => ?_) fun S30 H30 g30 s30 l30 => ?_
    · cases dx.bl_inv
      walk_at "go"
      refine ⟨rfl, ?_⟩
      walk_at "go"
      exact qe Sx Hx (Gr.refl gx.i)
    have hD3n : H D3 = none := g29.back hD3 (nmem1 (k29.neq hD3))
    have k31 := (k29.gr g30 (by simp)).frz (o := .lst (bs.map fun b => .bl (!b))) (k29.neq hD3)
    have g31 := (g29.then g30).frzN hD3n s30 l30
    have dD3 : Dv K (upd S30 D3 (.lst (bs.map fun b => V.bl (!b)))) (.ref D3) (.lst ((bs.map fun b => !b).map Dt.bl)) := by
      refine .lst upd_same ?_
      rw [show (bs.map fun b => V.bl (!b)) = (bs.map fun b => !b).map V.bl from (List.map_map ..).symm]
      exact dvAll_bls _
    walk_at "go"
    refine i_neBls g31.i (dD2.mono (g30.s.trans (Ex.new s30))) dD3 ?_
    walk_at "go"
    refine x_forEnum ?_
    walk_at "go"
    refine i_forEnum (S := S) (g31.s.trans g31.i) (.l dr) (fun i σ H' => ∃ S', ∃ a4 a5 a6 a7 a8 a9 a10 a11 a12 a13 a14, σ = [some (.ref p), some v, some vg, some (.ref pr), a4, a5, a6, a7, a8, a9, a10, a11, a12, a13, a14] ∧ Gr [p] S H S' H' ∧ PotOk S' H' p) ⟨_, _, _, _, _, _, _, _, _, _, _, _, rfl, g31, k31⟩ (fun _ _ _ _ h => ?_) ?_ ?_
    · obtain ⟨S', a4, a5, a6, a7, a8, a9, a10, a11, a12, a13, a14, _, gz, _⟩ := h
      exact gz.s.trans gz.i
    · rintro i σ H32 x d T2 hd dx ⟨S32, a4, a5, a6, a7, a8, a9, a10, a11, a12, a13, a14, rfl, g32, k32⟩ hT
      obtain ⟨r, hr', rfl⟩ := map_at hd
      have hi : i < rs.length := (List.getElem?_eq_some_iff.mp hr').1
      have rm := ro r (List.mem_of_getElem? hr')
      obtain ⟨ob, nb⟩ := rowOk_bent rm.1 rm.2
      obtain ⟨os, ns⟩ := rowOk_swap rm.1
      have g33 := g32.then (Gr.newO (L := []) (o := .tup [.int (i : Nat), x]) g32.i hT)
      have k33 := k32.new (o := .tup [.int (i : Nat), x]) hT
      obtain ⟨ax, xx, rfl, tx, hx⟩ := dx.tup_inv
      cases hx with | cons e1 hx => ?_
      cases hx with | cons e2 hx => ?_
      cases hx with | cons e3 hx => ?_
      cases hx
      cases dv_pt_inv e1
      cases dv_pt_inv e2
      cases e3.int_inv
      refine i_pair ?_
      walk_at "go"
      refine ⟨ax, _, rfl, sqT_mono (g33.s.trans g33.i) tx, rfl, ?_⟩
      walk_at "go"
      refine i_slL (L := []) g33.i (dr.mono g33.s) fun S34 H34 w34 g34 d34 => ?_
      rw [cut_take, rows_take] at d34
      have g35 := g33.then g34
      have k35 := k33.gr g34 (by simp)
      walk_at "go"
      refine ⟨z5 _ (by show 3 ≤ 16777216; decide), fun p36 h36 => ?_⟩
      obtain ⟨g36, d36, e36⟩ := newTD (K := K) (ds := [ptD r.1, ptD r.2.1, .int (r.2.2 + 1)]) g35 h36 (.cons (dv_pt _) (.cons (dv_pt _) (.cons (.int _) .nil)))
      have k36 := PotOk.of_new g36 k35 h36
      walk_at "go"
      refine ⟨z5 _ (by show 1 ≤ 16777216; decide), fun p37 h37 => ?_⟩
      obtain ⟨g37, d37, e37⟩ := newLD (K := K) (ds := rowsD [bentR r]) g36 h37 (.cons d36 .nil)
      have k37 := PotOk.of_new g37 k36 h37
      refine i_catLD (L := []) g37.i ((d34.mono e36).mono e37) d37 (by rw [rows_len, rows_len, List.length_take]; show _ + 1 ≤ _; omega) fun S38 H38 w38 g38 d38 => ?_
      rw [rows_app] at d38
      have g39 := g37.then g38
      have k39 := k37.gr g38 (by simp)
      walk_at "go"
      refine i_slL (L := []) g39.i (dr.mono g39.s) fun S40 H40 w40 g40 d40 => ?_
      rw [show ((i : Int) + 1) = ((i + 1 : Nat) : Int) from rfl, cut_drop, rows_drop] at d40
      have g41 := g39.then g40
      have k41 := k39.gr g40 (by simp)
      refine i_catLD (L := []) g41.i (d38.mono g40.s) d40 (by rw [← List.length_append, rows_app, rows_len, put_len hi]; omega) fun S42 H42 w42 g42 d42 => ?_
      rw [rows_app] at d42
      have g43 := g41.then g42
      have k43 := k41.gr g42 (by simp)
      walk_at "go"
      refine i_slL (L := []) g43.i (dr.mono g43.s) fun S44 H44 w44 g44 d44 => ?_
      rw [cut_take, rows_take] at d44
      have g45 := g43.then g44
      have k45 := k43.gr g44 (by simp)
      walk_at "go"
      refine ⟨z5 _ (by show 3 ≤ 16777216; decide), fun p46 h46 => ?_⟩
      obtain ⟨g46, d46, e46⟩ := newTD (K := K) (ds := [ptD r.2.1, ptD r.1, .int r.2.2]) g45 h46 (.cons (dv_pt _) (.cons (dv_pt _) (.cons (.int _) .nil)))
      have k46 := PotOk.of_new g46 k45 h46
      walk_at "go"
      refine ⟨z5 _ (by show 1 ≤ 16777216; decide), fun p47 h47 => ?_⟩
      obtain ⟨g47, d47, e47⟩ := newLD (K := K) (ds := rowsD [swapR r]) g46 h47 (.cons d46 .nil)
      have k47 := PotOk.of_new g47 k46 h47
      refine i_catLD (L := []) g47.i ((d44.mono e46).mono e47) d47 (by rw [rows_len, rows_len, List.length_take]; show _ + 1 ≤ _; omega) fun S48 H48 w48 g48 d48 => ?_
      rw [rows_app] at d48
      have g49 := g47.then g48
      have k49 := k47.gr g48 (by simp)
      walk_at "go"
      refine i_slL (L := []) g49.i (dr.mono g49.s) fun S50 H50 w50 g50 d50 => ?_
      rw [show ((i : Int) + 1) = ((i + 1 : Nat) : Int) from rfl, cut_drop, rows_drop] at d50
      have g51 := g49.then g50
      have k51 := k49.gr g50 (by simp)
      refine i_catLD (L := []) g51.i (d48.mono g50.s) d50 (by rw [← List.length_append, rows_app, rows_len, put_len hi]; omega) fun S52 H52 w52 g52 d52 => ?_
      rw [rows_app] at d52
      have g53 := g51.then g52
      have k53 := k51.gr g52 (by simp)
      have d42' := (((((d42.mono g44.s).mono e46).mono e47).mono g48.s).mono g50.s).mono g52.s
      have okB : ∀ r' ∈ (rs.take i ++ [bentR r]) ++ rs.drop (i + 1), RowOk gs r' := fun r' h' => by
        rcases put_mem h' with z | rfl
        · exact rok _ z
        · exact ob
      have okS : ∀ r' ∈ (rs.take i ++ [swapR r]) ++ rs.drop (i + 1), RowOk gs r' := fun r' h' => by
        rcases put_mem h' with z | rfl
        · exact rok _ z
        · exact os
      walk_at "go"
      refine i_mkM (L := []) g53.i ((SqD.l (dg.mono g53.s)).toH g53.i) ((SqD.l d42').toH g53.i) m (List.Perm.refl _) (fun r' h' => (okB r' h').b) (by rw [put_len hi]; omega) fun S54 H54 w54 g54 d54 => ?_
      have g55 := g53.then g54
      have k55 := k53.gr g54 (by simp)
      refine q_eqM B g55.i (dv.mono g55.s) d54 m m rok okB ?_
      rw [decide_eq_false (put_ne hr' nb), Bool.and_false]
      walk_at "go"
      refine i_mkM (L := []) g55.i ((SqD.l (dg.mono g55.s)).toH g55.i) ((SqD.l (d52.mono g54.s)).toH g55.i) m (List.Perm.refl _) (fun r' h' => (okS r' h').b) (by rw [put_len hi]; omega) fun S56 H56 w56 g56 d56 => ?_
      have g57 := g55.then g56
      have k57 := k55.gr g56 (by simp)
      refine q_eqM B g57.i (dv.mono g57.s) d56 m m rok okS ?_
      rw [decide_eq_false (put_ne hr' ns), Bool.and_false]
      walk_at "go"
      exact ⟨_, _, _, _, _, _, _, _, _, _, _, _, rfl, g57, k57⟩
    · rintro σ H32 ⟨S32, a4, a5, a6, a7, a8, a9, a10, a11, a12, a13, a14, rfl, g32, k32⟩
      walk_at "go"
      refine x_lcL ?_
      walk_at "go"
      obtain ⟨a, dx, wg, wr, rfl, ha, _, _⟩ := mv_inv dv
      have f32 := g32.s.trans g32.i
      refine ⟨a, dx, _, rfl, f32 _ _ ha, S, _, gs, rs, rfl, f32, dv, m, rok, by omega, fun H33 e33 => ⟨_, rfl, ?_⟩⟩
      have g33 := g32.then (Gr.same (L := []) g32.i e33)
      have k33 := k32.gr (Gr.same (L := []) g32.i e33) (by simp)
      walk_at "go"
      refine ⟨z5 _ (by show 2 ≤ 16777216; decide), fun p34 h34 => ?_⟩
      have dgr : DvAll K S32 [vg, .ref pr] [.lst (goodsD gs), .lst (rowsD rs)] := .cons (dg.mono g33.s) (.cons (dr.mono g33.s) .nil)
      obtain ⟨g34, d34, e34⟩ := newTD (K := K) g33 h34 dgr
      have k34 := PotOk.of_new g34 k33 h34
      walk_at "go"
      refine ⟨z5 _ (by show 6 ≤ 16777216; decide), fun p35 h35 => ?_⟩
      obtain ⟨g35, d35, e35⟩ := newLD (K := K) (ds := [.non, .int 0, .lst (goodsD gs), .lst (rowsD rs), .str (reprM gs rs), .tup [.lst (goodsD gs), .lst (rowsD rs)]].map id) g34 h35 (.cons .non (.cons (.int _) (.cons (dg.mono g34.s) (.cons (dr.mono g34.s) (.cons (.str _) (.cons d34 .nil))))))
      have k35 := PotOk.of_new g35 k34 h35
      refine i_lcL d35 (fun _ => .bl false) g35.i (by show 6 ≤ 1000; decide) (fun c x Sx Hx Qe Nx hc gx dx qe => ?_) fun D S36 H36 hD g36 s36 l36 => ?_
      · walk_at "go"
        refine ⟨rfl, ?_⟩
        walk_at "go"
        have oc : okT c = true := by
          simp only [List.mem_cons, List.not_mem_nil, or_false] at hc
          rcases hc with rfl | rfl | rfl | rfl | rfl | rfl <;> rfl
        obtain ⟨t, ht, ty⟩ := ty_dt gx.i dx oc
        exact q_eqT B gx.i ((dv.mono g35.s).mono gx.s) ht ty (qe Sx Hx (Gr.refl gx.i))
      · walk_at "go"
        refine ⟨D, [false, false, false, false, false, false], rfl, sq_of l36, ?_⟩
        walk_at "go"
        exact q _ _ (g35.then g36) (k35.gr g36 (by simp))
end
end K51

set_option Elab.async false
set_option linter.all false
set_option maxRecDepth 100000
set_option maxHeartbeats 4000000
/-! K51G: _law_changed_right, _law_right, law. -/
namespace K51
open PySem PySem.Spec PyProof.Rows L2 Gd
open Evl (Ex Ex.refl Ex.trans Ex.new Ex.mut ex_t ex_l sq_of st_of fresh_back)

local macro_rules | `(tactic| walk_at "st") => `(tactic| first
  | with_reducible refine x_seq ?_ | with_reducible refine x_ret ?_ | with_reducible refine x_retN ?_ | with_reducible refine x_next ?_ | with_reducible refine x_drop ?_ | with_reducible refine x_if ?_ | with_reducible refine x_asg ?_
  | with_reducible refine x_par ?_ | with_reducible refine x_par3 ?_ | with_reducible refine x_sfld ?_ | ((with_reducible show tVar _ _ _ _); refine x_var rfl ?_) | with_reducible refine x_c ?_ | with_reducible refine x_op ?_ | with_reducible refine x_un ?_
  | with_reducible refine x_chain ?_ | with_reducible refine x_andV ?_ | with_reducible refine x_orV ?_ | with_reducible refine x_notV ?_ | with_reducible refine x_ifE ?_ | with_reducible refine x_nil ?_ | with_reducible refine x_cons ?_ | with_reducible refine x_star ?_
  | with_reducible refine x_tup ?_ | with_reducible refine x_lst ?_ | with_reducible refine x_cb ?_ | with_reducible refine x_call ?_ | with_reducible refine x_meth ?_ | with_reducible refine x_methN ?_ | with_reducible refine x_makeM ?_ | with_reducible refine x_fld ?_ | with_reducible refine x_bm0 ?_ | with_reducible refine x_bm ?_
  | with_reducible refine x_sl ?_ | with_reducible refine x_no ?_ | with_reducible refine x_part ?_ | with_reducible refine x_rev ?_ | with_reducible refine x_fmtD ?_ | with_reducible refine x_test ?_ | with_reducible refine x_tB ?_ | with_reducible refine x_and ?_ | with_reducible refine x_or ?_ | with_reducible refine x_not ?_ | with_reducible refine x_yes ?_
  | with_reducible refine x_gname ?_ | with_reducible refine x_gtup ?_ | with_reducible refine x_gnil ?_ | with_reducible refine x_gcons ?_ | with_reducible refine x_gsub ?_ | with_reducible refine x_iList ?_ | with_reducible refine x_iStr ?_ | with_reducible refine x_iRng1 ?_ | with_reducible refine x_iEnumQ ?_
  | with_reducible refine i_I0 ?_ | with_reducible refine i_U ?_ | with_reducible refine iteT ?_ | with_reducible refine iteF ?_ | with_reducible refine iteNT ?_ | with_reducible refine iteNF ?_ | with_reducible refine x_bl ?_ | with_reducible refine x_int ?_ | with_reducible refine i_add ?_ | with_reducible refine i_int1 ?_ | with_reducible refine i_abs ?_ | with_reducible refine i_max ?_ | with_reducible refine i_min ?_)
local macro_rules | `(tactic| walk_at "go") => `(tactic| repeat (first | walk_at "st" | dsimp only [Bool.not_true, Bool.not_false, List.nil_append, List.cons_append]))

section
variable {P : Program} {w : World} {K : PySem.W.Frag} {mg : Str → Option Value} {base : Heap}
/-- rows that are ones, none bigger than n -/
def RsOk (gs : List Str) (n : Nat) (rs : List Row) : Prop := ∀ r ∈ rs, rowB gs r = true ∧ r.2.2.natAbs ≤ n
theorem RsOk.row {gs : List Str} {n : Nat} {rs : List Row} (h : RsOk gs n rs) (z : n ≤ 1000) : ∀ r ∈ rs, RowOk gs r := fun r hr => ⟨(h r hr).1, Nat.le_trans (h r hr).2 z⟩
theorem RsOk.le {gs : List Str} {n m : Nat} {rs : List Row} (h : RsOk gs n rs) (z : n ≤ m) : RsOk gs m rs := fun r hr => ⟨(h r hr).1, Nat.le_trans (h r hr).2 z⟩
theorem RsOk.app {gs : List Str} {n : Nat} {rs : List Row} {r : Row} (h : RsOk gs n rs) (hr : RowOk gs r) (z : r.2.2.natAbs ≤ n) : RsOk gs n (rs ++ [r]) := fun r' h' => by
  rcases List.mem_append.mp h' with y | y
  · exact h r' y
  · have : r' = r := by simpa using y
    subst this
    exact ⟨hr.b, z⟩
theorem RsOk.cut {gs : List Str} {n : Nat} {rs : List Row} (i : Nat) (h : RsOk gs n rs) : RsOk gs n (rs.take i ++ rs.drop (i + 1)) := fun r hr => by
  rcases List.mem_append.mp hr with y | y
  · exact h r (List.mem_of_mem_take y)
  · exact h r (List.mem_of_mem_drop y)
theorem RsOk.tight {gs : List Str} {n i : Nat} {rs : List Row} {r : Row} (h : RsOk gs n rs) (hr : rs[i]? = some r) : RsOk gs (n + 1) ((rs.take i ++ [tight r]) ++ rs.drop (i + 1)) := fun r' h' => by
  rcases put_mem h' with y | rfl
  · exact (h.le (Nat.le_succ n)) r' y
  · obtain ⟨b, z⟩ := h r (List.mem_of_getElem? hr)
    exact ⟨b, by show (r.2.2 - 1).natAbs ≤ n + 1; omega⟩
def eD (K : PySem.W.Frag) (gs : List Str) (e : List Row) : Dt := .tup [mvD K gs e, .lst (rowsD e)]
def spChanged (K : PySem.W.Frag) : Sp := fun vs H Q _ => ∃ S p v vg vr gs rs, vs = [.ref p, v, vg, vr] ∧ Ex S H ∧ PotOk S H p ∧ Dv K S v (mvD K gs rs) ∧ Dv K S vg (.lst (goodsD gs)) ∧ Dv K S vr (.lst (rowsD rs)) ∧ gs ∈ menus ∧ RsOk gs 100 rs ∧ rs.length ≤ 15 ∧
  ∀ S' H', Gr [p] S H S' H' → PotOk S' H' p → Q (.bl true) H'
theorem b_law_changed_right (T : Txt K mg) : Binds K (fdOf K (He.fAd K d_law_changed_right.at_)) ["pot", "moves", "goods", "rows"] [] := T.f_law_changed_right.bindsN fun _ _ _ _ _ _ us hl => match us, hl with | [_, _, _, _], _ => rfl
theorem or_way {σ : L2.St} {S H : Hp} {R : Bool → Hp → Prop} {way : Nat} {vs : V} {gs : List Str} {rs : List Row} (h8 : σ[8]? = some (some (.int (way : Nat)))) (h5 : σ[5]? = some (some vs)) (f : Ex S H) (m : gs ∈ menusZ) (ds : Dv K S vs (.lst (rowsD rs))) (ok : ∀ r ∈ rs, RowOk gs r)
    (h : ∀ b H8, Gr [] S H S H8 → (b = false → way ≠ 0 ∧ rs ≠ []) → R b H8) : tOr (tTest (tOp rEq (tVar 8) (tC (.int 0)))) (tTest (tOp (rEqD K) (tVar 5) (tLst tNil))) σ H R := by
  refine x_or (x_test (x_op (x_var h8 (x_c ?_))))
  by_cases e : way = 0
  · refine x_sameI (b := true) (decide_eq_true (by omega)) ?_
    exact ⟨true, rfl, h true H (Gr.refl f) (fun z => nomatch z)⟩
  · refine x_sameI (b := false) (decide_eq_false (by omega)) ?_
    refine ⟨false, rfl, x_test (x_op (x_var h5 (x_lst (x_nil ⟨by rw [sizeLine_eq]; show 0 ≤ 16777216; decide, fun p hp => ?_⟩))))⟩
    obtain ⟨g1, d1, e1⟩ := newLD (K := K) (L := []) (ds := rowsD []) (Gr.refl f) hp .nil
    refine i_eqRows g1.i m (ds.mono e1) d1 ok (fun _ h => nomatch h) ?_
    refine ⟨_, rfl, h _ _ (Gr.newO f hp) fun z => ⟨e, of_decide_eq_false z⟩⟩
theorem ok_law_changed_right (T : Txt K mg) (B : Tabs K) : FG P w K mg base 7 d_law_changed_right ["pot", "moves", "goods", "rows"] (spChanged K) := by
  have G_Moves_add := ok_Moves_add (P := P) (w := w) (base := base) T B
  have G_Moves_without := ok_Moves_without (P := P) (w := w) (base := base) T B
  have G_Moves_tightened := ok_Moves_tightened (P := P) (w := w) (base := base) T B
  have G_law_draw := ok_law_draw (P := P) (w := w) (base := base) T
  have G_law_pick := ok_law_pick (P := P) (w := w) (base := base) T
  have G_law_is := ok_law_is (P := P) (w := w) (base := base) T B
  obtain ⟨fo, ro, hfo, hro⟩ := B.addT
  refine FnG.mk_of T.f_law_changed_right sc_law_changed_right (fun vs H Q E h => ?_) (fun cdv A outer s H vs Q E gu hr h => ?_)
  · obtain ⟨S, p, v, vg, vr, gs, rs, rfl, _⟩ := h
    rfl
  · obtain ⟨S, p, v, vg, vr, gs, rs, rfl, f, k, dv, dg, dr, mm, ro, rz, q⟩ := h
    have hu := hr.units
    have m := menu_sub mm
    obtain ⟨mf1, mf2, mf3, mf4⟩ := menu_facts gs m
    have z5 : ∀ n, n ≤ 16777216 → n ≤ sizeLine := fun n h => by rw [sizeLine_eq]; exact h
    refine ⟨_, (pss_cons (ps_par3 (i := 4) (j := 5) (l := 6) rfl sc_law_changed_right.nd rfl rfl rfl (by decide) (by decide) (by decide) rfl rfl rfl (pa_cons (pv 1) (pa_cons (pe_callTy call_listX (by rfl) T.b_list (by decide +kernel) (pa_cons (pv 3) pa_nil)) (pa_cons (pe_lst pa_nil) pa_nil))) (by rfl))
    (pss_cons (ps_for (passes_of rfl) rfl (pi_range1 rfl T.b_range (pa_cons pe_int pa_nil)) (pg_name (i := 7) sc_law_changed_right.nd rfl (.inl rfl)) (pss_cons (ps_expr (pe_bm PySem.F.plainAttrs_list PySem.F.slot_list_append PySem.F.type_list_append mt_append (pv 6) (pa_cons (pe_tup (pa_cons (pv 4) (pa_cons (pe_callTy call_listX (by rfl) T.b_list (by decide +kernel) (pa_cons (pv 5) pa_nil)) pa_nil))) pa_nil)))
    (pss_cons (ps_set (i := 8) sc_law_changed_right.nd rfl (Or.inl rfl) (pe_call G_law_draw (hr.mono (by decide)) rfl T.g_law_draw T.f_law_draw.kp (b_law_draw T) .nil pass0 (pa_cons (pv 0) (pa_cons pe_int pa_nil))))
    (pss_cons (ps_if (PW.pt (pw_or (pt_cmpR op_eq (pv 8) pe_int (nomark _)) (pw_or1 (pt_cmpR (op_eqD hu) (pv 5) (pe_lst pa_nil) (nomark _))))) (pss_cons (ps_set (i := 9) sc_law_changed_right.nd rfl (Or.inl rfl) (pe_tup (pa_cons (pe_call G_law_pick (hr.mono (by decide)) rfl T.g_law_pick T.f_law_pick.kp (b_law_pick T) .nil pass0 (pa_cons (pv 0) (pa_cons (pv 2) pa_nil))) (pa_cons pe_non (pa_cons (pe_op op_sub (pe_call G_law_draw (hr.mono (by decide)) rfl T.g_law_draw T.f_law_draw.kp (b_law_draw T) .nil pass0 (pa_cons (pv 0) (pa_cons pe_int pa_nil))) pe_int) pa_nil)))))
    (pss_cons (ps_set (i := 9) sc_law_changed_right.nd rfl (Or.inl rfl) (pe_ifExp (pt_cmpR op_eq (pe_call G_law_draw (hr.mono (by decide)) rfl T.g_law_draw T.f_law_draw.kp (b_law_draw T) .nil pass0 (pa_cons (pv 0) (pa_cons pe_int pa_nil))) pe_int (nomark _)) (pv 9) (pe_tup (pa_cons pe_non (pa_cons (pe_ix ix_X (pv 9) pe_int (fun _ _ => rfl)) (pa_cons (pe_ix ix_X (pv 9) pe_int (fun _ _ => rfl)) pa_nil))))))
    (pss_one (ps_par (i := 4) (j := 5) rfl sc_law_changed_right.nd rfl rfl (by decide) rfl rfl (pa_cons (pe_op (op_addO gu (FnG.of G_Moves_add) (hr.mono (by decide)) (b_Moves_add T) B.sf T.m_Moves_add.at_ T.m_Moves_add.fn B.radd (.inl rfl) hfo hro B.subT) (pv 4) (pv 9)) (pa_cons (pe_op op_addX (pv 5) (pe_lst (pa_cons (pv 9) pa_nil))) pa_nil)) (by rfl))))) (pss_cons (ps_set (i := 10) sc_law_changed_right.nd rfl (Or.inl rfl) (pe_call G_law_draw (hr.mono (by decide)) rfl T.g_law_draw T.f_law_draw.kp (b_law_draw T) .nil pass0 (pa_cons (pv 0) (pa_cons (pe_callB call_lenX (by rfl) T.b_len (by decide +kernel) (pa_cons (pv 5) pa_nil)) pa_nil))))
    (pss_cons (ps_asg (pe_ix ix_X (pv 5) (pv 10) (fun _ _ => rfl)) (pg_tup rfl (pgs_cons (pg_name (i := 11) sc_law_changed_right.nd rfl (.inl rfl)) (pgs_cons (pg_name (i := 12) sc_law_changed_right.nd rfl (.inl rfl)) (pgs_cons (pg_name (i := 13) sc_law_changed_right.nd rfl (.inl rfl)) pgs_nil)))))
    (pss_one (ps_if (pt_cmpR op_eq (pv 8) pe_int (nomark _)) (pss_one (ps_par (i := 4) (j := 5) rfl sc_law_changed_right.nd rfl rfl (by decide) rfl rfl (pa_cons (pe_methK0 (pv 4) T.cl_Moves T.m_Moves_without G_Moves_without (hr.mono (by decide)) (kb_Moves_without T) pass0 (pk_cons (pv 10) pk_nil)) (pa_cons (pe_op op_addX (pe_slice sl_X (pv 5) po_none (po_some (pv 10))) (pe_slice sl_X (pv 5) (po_some (pe_op op_addX (pv 10) pe_int)) po_none)) pa_nil)) (by rfl))) (pss_one (ps_par (i := 4) (j := 5) rfl sc_law_changed_right.nd rfl rfl (by decide) rfl rfl (pa_cons (pe_meth (pv 4) T.cl_Moves T.m_Moves_tightened G_Moves_tightened (hr.mono (by decide)) (b_Moves_tightened T) .nil pass0 (pa_cons (pv 10) pa_nil)) (pa_cons (pe_op op_addX (pe_op op_addX (pe_slice sl_X (pv 5) po_none (po_some (pv 10))) (pe_lst (pa_cons (pe_tup (pa_cons (pv 11) (pa_cons (pv 12) (pa_cons (pe_op op_sub (pv 13) pe_int) pa_nil)))) pa_nil))) (pe_slice sl_X (pv 5) (po_some (pe_op op_addX (pv 10) pe_int)) po_none)) pa_nil)) (by rfl))))))))
    (pss_one (ps_if (pt_not (pt_val (pe_callG G_law_is gu (hr.mono (by decide)) rfl T.g_law_is T.f_law_is.kp (b_law_is T) .nil (pa_cons (pv 4) (pa_cons (pv 2) (pa_cons (pv 5) pa_nil)))))) (pss_one (ps_ret pe_bl)) pss_nil))))))
    (pss_one (ps_ret (pe_callB (cr_all rfl) (by rfl) T.b_all (by decide +kernel) (pa_cons (pe_lc (own := [("one", 11), ("rest", 14)]) rfl sc_law_changed_right.nd (pi_list (pv 6)) (blkOk_by (N := ["pot", "moves", "goods", "rows", "made", "some", "elder", "turn", "way", "more", "at", "one", "other", "most", "rest"]) (sc := defScope s_law_changed_right) (by decide +kernel)) (fun _ _ _ _ _ => (show PG _ _ (gTup K 2 _) from (pg_tup rfl (pgs_cons (pg_name (i := 11) sc_law_changed_right.nd rfl (.inl rfl)) (pgs_cons (pg_name (i := 14) sc_law_changed_right.nd rfl (.inl rfl)) pgs_nil))))) (fun _ _ _ _ _ => pts_nil) (fun _ _ _ _ _ => (pe_callG G_law_is gu (hr.mono (by decide)) rfl T.g_law_is T.f_law_is.kp (b_law_is T) .nil (pa_cons (pv 11) (pa_cons (pv 2) (pa_cons (pv 14) pa_nil)))))) pa_nil)))))), ?_⟩
    walk_at "go"
    refine i_listX f (.l dr) fun p1 x1 h1 hx1 => ?_
    obtain ⟨g1, d1, e1⟩ := newLD (K := K) (L := [p]) (Gr.refl f) h1 hx1
    have k1 := PotOk.of_new g1 k h1
    walk_at "go"
    refine ⟨z5 _ (by show 0 ≤ 16777216; decide), fun l hl => ?_⟩
    have nl : p ≠ l := k1.neq hl
    have hl0 : H l = none := g1.back hl (nmem1 nl)
    have sl : upd S p1 (.lst x1) l = none := fresh_back g1.i hl
    have g2 := g1.mutN (o := .lst []) hl0 sl
    have k2 : PotOk _ _ p := k1.mut (o := .lst []) nl
    walk_at "go"
    refine ⟨_, _, _, rfl, ?_⟩
    walk_at "go"
    refine x_forRng ?_
    walk_at "go"
    refine i_forRng (n := 8) (by decide) (fun i σ H' => ∃ (S' : Hp) (rs' : List Row) (es : List (List Row)) (xs : List V) (vm vs' : V) (a7 a8 a9 a10 a11 a12 a13 a14 : Option V), σ = [some (.ref p), some v, some vg, some vr, some vm, some vs', some (.ref l), a7, a8, a9, a10, a11, a12, a13, a14] ∧ Gr [p] S H S' H' ∧ PotOk S' H' p ∧ Dv K S' vm (mvD K gs rs') ∧ Dv K S' vs' (.lst (rowsD rs')) ∧ S' l = none ∧ H' l = some (.lst xs) ∧
      DvAll K S' xs (es.map (eD K gs)) ∧ es.length ≤ i ∧ (∀ e ∈ es, RsOk gs 200 e ∧ e.length ≤ 24) ∧ RsOk gs (100 + i) rs' ∧ rs'.length ≤ 15 + i) ?_ ?_ ?_
    · exact ⟨_, rs, [], [], v, .ref p1, _, _, _, _, _, _, _, _, rfl, g2, k2, dv.mono e1, d1, sl, upd_same, .nil, Nat.le_refl _, fun _ h => (nomatch h), ro, rz⟩
    · rintro i σ H3 hi ⟨S3, r3, es, xs, vm, vs', a7, a8, a9, a10, a11, a12, a13, a14, rfl, g3, k3, dm, ds, sl3, hl3, dx3, ez, eo, ok3, ln3⟩
      walk_at "go"
      refine ⟨i_tyL hl3, ?_⟩
      walk_at "go"
      refine i_listX g3.i (.l ds) fun p4 x4 h4 hx4 => ?_
      obtain ⟨g4, d4, e4⟩ := newLD (K := K) g3 h4 hx4
      have k4 := PotOk.of_new g4 k3 h4
      walk_at "go"
      refine ⟨z5 _ (by show 2 ≤ 16777216; decide), fun p5 h5 => ?_⟩
      obtain ⟨g5, d5, e5⟩ := newTD (K := K) (ds := [mvD K gs r3, .lst (rowsD r3)]) g4 h5 (.cons (dm.mono e4) (.cons d4 .nil))
      have k5 := PotOk.of_new g5 k4 h5
      have ne4 : l ≠ p4 := ne_of_none hl3 h4
      have hl4 : (upd H3 p4 (.lst x4)) l = some (.lst xs) := (upd_ne ne4).trans hl3
      have sl4 : (upd S3 p4 (.lst x4)) l = none := (upd_ne ne4).trans sl3
      have ne5 : l ≠ p5 := ne_of_none hl4 h5
      have hl5 : (upd (upd H3 p4 (.lst x4)) p5 (.tup [vm, .ref p4])) l = some (.lst xs) := (upd_ne ne5).trans hl4
      have sl5 : (upd (upd S3 p4 (.lst x4)) p5 (.tup [vm, .ref p4])) l = none := (upd_ne ne5).trans sl4
      have lx := dx3.length
      rw [List.length_map] at lx
      walk_at "go"
      refine i_append hl5 (by omega) ?_
      have g6 := g5.mutN (o := .lst (xs ++ [.ref p5])) hl0 sl5
      have k6 := k5.mut (o := .lst (xs ++ [.ref p5])) nl
      have e6 := e4.trans e5
      have dm6 := dm.mono e6
      have ds6 := ds.mono e6
      have dx6 : DvAll K (upd (upd S3 p4 (.lst x4)) p5 (.tup [vm, .ref p4])) (xs ++ [.ref p5]) ((es ++ [r3]).map (eD K gs)) := by
        rw [List.map_append]
        exact (dx3.mono e6).append (.cons d5 .nil)
      have ez6 : (es ++ [r3]).length ≤ i + 1 := by
        rw [List.length_append]
        show es.length + 1 ≤ i + 1
        omega
      have eo6 : ∀ e ∈ es ++ [r3], RsOk gs 200 e ∧ e.length ≤ 24 := by
        intro e he
        rcases List.mem_append.mp he with z | z
        · exact eo e z
        · have : e = r3 := by simpa using z
          subst this
          exact ⟨ok3.le (by omega), by omega⟩
      walk_at "go"
      refine ⟨_, p, 3, rfl, g6.i, k6, by decide, by decide, fun H7 way hway g7 k7 => ?_⟩
      have g8 := g6.trans g7 fun x hx => .inl hx
      obtain ⟨hl7, sl7⟩ := g7.own (nmem1 nl) upd_same sl5
      have mb : MvB gs r3 := ⟨m, fun r hr => (ok3 r hr).1, by omega⟩
      repeat (first | refine or_way (way := way) (vs := vs') rfl rfl g8.i m ds6 (ok3.row (by omega)) ?_ | walk_at "st")
      intro b H8 g9 hb
      have g10 := g8.then g9
      have k10 := k7.gr g9 (by simp)
      obtain ⟨hl8, _⟩ := g9.own (fun z => nomatch z) hl7 sl7
      cases b
      · obtain ⟨hw, hne⟩ := hb rfl
        have l0 : r3.length ≠ 0 := fun z => hne (List.eq_nil_of_length_eq_zero z)
        walk_at "go"
        refine i_lenD g10.i (.l ds6) ?_
        rw [rows_len]
        refine ⟨_, p, _, rfl, g10.i, k10, by omega, by omega, fun H11 n hn g11 k11 => ?_⟩
        have hlt : n < r3.length := by omega
        obtain ⟨r, hr0⟩ : ∃ r, r3[n]? = some r := ⟨_, List.getElem?_eq_getElem hlt⟩
        obtain ⟨am, dxm, wm1, wm2, rfl, hm1, hm2, hm3⟩ := mv_inv dm6
        walk_at "go"
        refine i_ixD (j := n) (d := rowD r) g11.i (.l ds6) rfl (by rw [rowsD, List.getElem?_map, hr0]; rfl) fun u du => ?_
        refine i_gtup g11.i du rfl fun xu hu => ?_
        cases hu with | cons e1 hu => ?_
        cases hu with | cons e2 hu => ?_
        cases hu with | cons e3 hu => ?_
        cases hu
        cases dv_pt_inv e1
        cases dv_pt_inv e2
        cases e3.int_inv
        walk_at "go"
        by_cases hw1 : way = 1
        · refine x_sameI (b := true) (decide_eq_true (by omega)) ?_
          walk_at "go"
          refine ⟨am, dxm, _, rfl, g11.i _ _ hm1, rfl, ?_⟩
          walk_at "go"
          refine ⟨rfl, _, _, gs, r3, n, rfl, g11.i, dm6, hlt, mb, fun S12 H12 w12 g12 d12 => ?_⟩
          have gz12 := g11.then g12
          have k12 := k11.gr g12 (by simp)
          walk_at "go"
          refine i_slL (L := []) gz12.i (ds6.mono gz12.s) fun S13 H13 w13 g13 d13 => ?_
          rw [cut_take, rows_take] at d13
          have gz13 := gz12.then g13
          have k13 := k12.gr g13 (by simp)
          walk_at "go"
          refine i_slL (L := []) gz13.i (ds6.mono gz13.s) fun S14 H14 w14 g14 d14 => ?_
          rw [show ((n : Int) + 1) = ((n + 1 : Nat) : Int) from rfl, cut_drop, rows_drop] at d14
          have gz14 := gz13.then g14
          have k14 := k13.gr g14 (by simp)
          refine i_catLD (L := []) gz14.i (d13.mono g14.s) d14 (by rw [rows_len, rows_len, List.length_take, List.length_drop]; omega) fun S15 H15 w15 g15 d15 => ?_
          rw [rows_app] at d15
          have k30 := k14.gr g15 (by simp)
          have gz30 := gz14.then g15
          obtain ⟨hlE, slE⟩ := gz30.own (nmem1 nl) hl8 sl7
          have gE := g10.trans gz30 fun x hx => .inl hx
          walk_at "go"
          refine ⟨_, _, rfl, ?_⟩
          walk_at "go"
          have okE : RsOk gs (100 + i + 1) (r3.take n ++ r3.drop (n + 1)) := (ok3.cut n).le (by omega)
          have lnE : (r3.take n ++ r3.drop (n + 1)).length ≤ r3.length := by
            first | (rw [put_len hlt]; exact Nat.le_refl _) | (rw [List.length_append, List.length_take, List.length_drop]; omega)
          refine ⟨_, _, vg, _, gs, (r3.take n ++ r3.drop (n + 1)), rfl, gE.i, (((d12.mono g13.s).mono g14.s).mono g15.s), dg.mono gE.s, d15, mm, okE.row (by omega), (by omega), fun H90 e90 => ?_⟩
          walk_at "go"
          have g90 := gE.then (Gr.same (L := []) gE.i e90)
          exact ⟨_, (r3.take n ++ r3.drop (n + 1)), (es ++ [r3]), (xs ++ [.ref p5]), _, _, _, _, _, _, _, _, _, _, rfl, g90, k30.gr (Gr.same (L := []) gE.i e90) (by simp), (((d12.mono g13.s).mono g14.s).mono g15.s), d15, slE, e90 _ _ hlE, (dx6.mono gz30.s), ez6, eo6, okE.le (by omega), (by omega)⟩
        · refine x_sameI (b := false) (decide_eq_false (by omega)) ?_
          walk_at "go"
          refine ⟨am, dxm, _, rfl, g11.i _ _ hm1, rfl, ?_⟩
          walk_at "go"
          refine ⟨_, _, gs, r3, r, n, rfl, g11.i, dm6, hr0, mb, fun S12 H12 w12 g12 d12 => ?_⟩
          rw [show r3.take n ++ (tight r :: r3.drop (n + 1)) = (r3.take n ++ [tight r]) ++ r3.drop (n + 1) by rw [List.append_assoc]; rfl] at d12
          have gz12 := g11.then g12
          have k12 := k11.gr g12 (by simp)
          walk_at "go"
          refine i_slL (L := []) gz12.i (ds6.mono gz12.s) fun S13 H13 w13 g13 d13 => ?_
          rw [cut_take, rows_take] at d13
          have gz13 := gz12.then g13
          have k13 := k12.gr g13 (by simp)
          walk_at "go"
          refine ⟨z5 _ (by show 3 ≤ 16777216; decide), fun p16 h16 => ?_⟩
          obtain ⟨gz16, d16, e16⟩ := newTD (K := K) (ds := [ptD r.1, ptD r.2.1, .int (r.2.2 - 1)]) gz13 h16 (.cons (dv_pt _) (.cons (dv_pt _) (.cons (.int _) .nil)))
          have k16 := PotOk.of_new gz16 k13 h16
          walk_at "go"
          refine ⟨z5 _ (by show 1 ≤ 16777216; decide), fun p17 h17 => ?_⟩
          obtain ⟨gz17, d17, e17⟩ := newLD (K := K) (ds := rowsD [tight r]) gz16 h17 (.cons d16 .nil)
          have k17 := PotOk.of_new gz17 k16 h17
          refine i_catLD (L := []) gz17.i ((d13.mono e16).mono e17) d17 (by rw [rows_len, rows_len, List.length_take]; show _ + 1 ≤ _; omega) fun S18 H18 w18 g18 d18 => ?_
          rw [rows_app] at d18
          have gz18 := gz17.then g18
          have k18 := k17.gr g18 (by simp)
          walk_at "go"
          refine i_slL (L := []) gz18.i (ds6.mono gz18.s) fun S14 H14 w14 g14 d14 => ?_
          rw [show ((n : Int) + 1) = ((n + 1 : Nat) : Int) from rfl, cut_drop, rows_drop] at d14
          have gz14 := gz18.then g14
          have k14 := k18.gr g14 (by simp)
          refine i_catLD (L := []) gz14.i (d18.mono g14.s) d14 (by rw [← List.length_append, rows_app, rows_len, put_len hlt]; omega) fun S15 H15 w15 g15 d15 => ?_
          rw [rows_app] at d15
          have k30 := k14.gr g15 (by simp)
          have gz30 := gz14.then g15
          obtain ⟨hlE, slE⟩ := gz30.own (nmem1 nl) hl8 sl7
          have gE := g10.trans gz30 fun x hx => .inl hx
          walk_at "go"
          refine ⟨_, _, rfl, ?_⟩
          walk_at "go"
          have okE : RsOk gs (100 + i + 1) ((r3.take n ++ [tight r]) ++ r3.drop (n + 1)) := ok3.tight hr0
          have lnE : ((r3.take n ++ [tight r]) ++ r3.drop (n + 1)).length ≤ r3.length := by
            first | (rw [put_len hlt]; exact Nat.le_refl _) | (rw [List.length_append, List.length_take, List.length_drop]; omega)
          refine ⟨_, _, vg, _, gs, ((r3.take n ++ [tight r]) ++ r3.drop (n + 1)), rfl, gE.i, ((((((d12.mono g13.s).mono e16).mono e17).mono g18.s).mono g14.s).mono g15.s), dg.mono gE.s, d15, mm, okE.row (by omega), (by omega), fun H90 e90 => ?_⟩
          walk_at "go"
          have g90 := gE.then (Gr.same (L := []) gE.i e90)
          exact ⟨_, ((r3.take n ++ [tight r]) ++ r3.drop (n + 1)), (es ++ [r3]), (xs ++ [.ref p5]), _, _, _, _, _, _, _, _, _, _, rfl, g90, k30.gr (Gr.same (L := []) gE.i e90) (by simp), ((((((d12.mono g13.s).mono e16).mono e17).mono g18.s).mono g14.s).mono g15.s), d15, slE, e90 _ _ hlE, (dx6.mono gz30.s), ez6, eo6, okE.le (by omega), (by omega)⟩
      · walk_at "go"
        refine ⟨_, p, vg, goodsD gs, rfl, g10.i, k10, .l (dg.mono g10.s), fun z => mf1 (List.map_eq_nil_iff.mp z), by rw [goods_len]; omega, fun H11 i11 d11 u11 hd11 du11 g11 k11 => ?_⟩
        obtain ⟨g0, hg0, rfl⟩ := map_at hd11
        have hg0m := List.mem_of_getElem? hg0
        cases du11.str_inv
        walk_at "go"
        refine ⟨_, p, 9, rfl, g11.i, k11, by decide, by decide, fun H12 n12 hn12 g12 k12 => ?_⟩
        have gz12 := g11.trans g12 fun x hx => .inl hx
        walk_at "go"
        refine ⟨z5 _ (by show 3 ≤ 16777216; decide), fun p13 h13 => ?_⟩
        obtain ⟨gz13, d13, e13⟩ := newTD (K := K) (ds := [.str g0, .non, .int ((n12 : Int) - 3)]) gz12 h13 (.cons (.str _) (.cons .non (.cons (.int _) .nil)))
        have k13 := PotOk.of_new gz13 k12 h13
        obtain ⟨okA, okB⟩ := rowOk_head hg0m ((n12 : Int) - 3) (by omega)
        walk_at "go"
        refine ⟨_, p, 2, rfl, gz13.i, k13, by decide, by decide, fun H14 n14 hn14 g14 k14 => ?_⟩
        have gz14 := gz13.trans g14 fun x hx => .inl hx
        walk_at "go"
        by_cases hn0 : n14 = 0
        · refine x_sameI (b := true) (decide_eq_true (by omega)) ?_
          have dA : Dv K _ (.ref p13) (rowD (some g0, none, (n12 : Int) - 3)) := d13
          walk_at "go"
          have fz := g10.trans gz14 fun x hx => .inl hx
          refine q_addM fz.i (dm6.mono gz14.s) dA okA.b mb (by omega) fun S20 H20 w20 g20 d20 => ?_
          have gz20 := gz14.then g20
          have k20 := k14.gr g20 (by simp)
          walk_at "go"
          refine ⟨z5 _ (by show 1 ≤ 16777216; decide), fun p21 h21 => ?_⟩
          obtain ⟨gz21, d21, e21⟩ := newLD (K := K) (ds := rowsD [((some g0, none, (n12 : Int) - 3) : Row)]) gz20 h21 (.cons ((dA).mono g20.s) .nil)
          have k21 := PotOk.of_new gz21 k20 h21
          refine i_catLD (L := []) gz21.i (ds6.mono gz21.s) d21 (by rw [rows_len, rows_len]; show _ + 1 ≤ _; omega) fun S22 H22 w22 g22 d22 => ?_
          rw [rows_app] at d22
          have gz22 := gz21.then g22
          have k22 := k21.gr g22 (by simp)
          obtain ⟨hlE, slE⟩ := gz22.own (nmem1 nl) hl8 sl7
          have gE := g10.trans gz22 fun x hx => .inl hx
          walk_at "go"
          refine ⟨_, _, rfl, ?_⟩
          walk_at "go"
          have okE : RsOk gs (100 + i) (r3 ++ [((some g0, none, (n12 : Int) - 3) : Row)]) := ok3.app okA (by show (((some g0, none, (n12 : Int) - 3) : Row)).2.2.natAbs ≤ 100 + i; show ((n12 : Int) - 3).natAbs ≤ 100 + i; omega)
          have lnE : (r3 ++ [((some g0, none, (n12 : Int) - 3) : Row)]).length = r3.length + 1 := List.length_append ..
          refine ⟨S22, w20, vg, w22, gs, (r3 ++ [((some g0, none, (n12 : Int) - 3) : Row)]), rfl, gE.i, ((d20.mono e21).mono g22.s), dg.mono gE.s, d22, mm, okE.row (by omega), (by omega), fun H90 e90 => ?_⟩
          walk_at "go"
          have g90 := gE.then (Gr.same (L := []) gE.i e90)
          exact ⟨S22, (r3 ++ [((some g0, none, (n12 : Int) - 3) : Row)]), (es ++ [r3]), (xs ++ [.ref p5]), w20, w22, _, _, _, _, _, _, _, _, rfl, g90, k22.gr (Gr.same (L := []) gE.i e90) (by simp), ((d20.mono e21).mono g22.s), d22, slE, e90 _ _ hlE, (dx6.mono gz22.s), ez6, eo6, okE.le (by omega), (by omega)⟩
        · refine x_sameI (b := false) (decide_eq_false (by omega)) ?_
          walk_at "go"
          refine i_ixD (j := 0) (d := .str g0) gz14.i (.t d13) rfl rfl fun u du => ?_
          cases du.str_inv
          walk_at "go"
          refine i_ixD (j := 2) (d := .int ((n12 : Int) - 3)) gz14.i (.t d13) rfl rfl fun u du => ?_
          cases du.int_inv
          walk_at "go"
          refine ⟨z5 _ (by show 3 ≤ 16777216; decide), fun p15 h15 => ?_⟩
          obtain ⟨gz15, d15, e15⟩ := newTD (K := K) (ds := [.non, .str g0, .int ((n12 : Int) - 3)]) gz14 h15 (.cons .non (.cons (.str _) (.cons (.int _) .nil)))
          have k15 := PotOk.of_new gz15 k14 h15
          have dA : Dv K _ (.ref p15) (rowD (none, some g0, (n12 : Int) - 3)) := d15
          walk_at "go"
          have fz := g10.trans gz15 fun x hx => .inl hx
          refine q_addM fz.i (dm6.mono gz15.s) dA okB.b mb (by omega) fun S20 H20 w20 g20 d20 => ?_
          have gz20 := gz15.then g20
          have k20 := k15.gr g20 (by simp)
          walk_at "go"
          refine ⟨z5 _ (by show 1 ≤ 16777216; decide), fun p21 h21 => ?_⟩
          obtain ⟨gz21, d21, e21⟩ := newLD (K := K) (ds := rowsD [((none, some g0, (n12 : Int) - 3) : Row)]) gz20 h21 (.cons ((dA).mono g20.s) .nil)
          have k21 := PotOk.of_new gz21 k20 h21
          refine i_catLD (L := []) gz21.i (ds6.mono gz21.s) d21 (by rw [rows_len, rows_len]; show _ + 1 ≤ _; omega) fun S22 H22 w22 g22 d22 => ?_
          rw [rows_app] at d22
          have gz22 := gz21.then g22
          have k22 := k21.gr g22 (by simp)
          obtain ⟨hlE, slE⟩ := gz22.own (nmem1 nl) hl8 sl7
          have gE := g10.trans gz22 fun x hx => .inl hx
          walk_at "go"
          refine ⟨_, _, rfl, ?_⟩
          walk_at "go"
          have okE : RsOk gs (100 + i) (r3 ++ [((none, some g0, (n12 : Int) - 3) : Row)]) := ok3.app okB (by show (((none, some g0, (n12 : Int) - 3) : Row)).2.2.natAbs ≤ 100 + i; show ((n12 : Int) - 3).natAbs ≤ 100 + i; omega)
          have lnE : (r3 ++ [((none, some g0, (n12 : Int) - 3) : Row)]).length = r3.length + 1 := List.length_append ..
          refine ⟨S22, w20, vg, w22, gs, (r3 ++ [((none, some g0, (n12 : Int) - 3) : Row)]), rfl, gE.i, ((d20.mono e21).mono g22.s), dg.mono gE.s, d22, mm, okE.row (by omega), (by omega), fun H90 e90 => ?_⟩
          walk_at "go"
          have g90 := gE.then (Gr.same (L := []) gE.i e90)
          exact ⟨S22, (r3 ++ [((none, some g0, (n12 : Int) - 3) : Row)]), (es ++ [r3]), (xs ++ [.ref p5]), w20, w22, _, _, _, _, _, _, _, _, rfl, g90, k22.gr (Gr.same (L := []) gE.i e90) (by simp), ((d20.mono e21).mono g22.s), d22, slE, e90 _ _ hlE, (dx6.mono gz22.s), ez6, eo6, okE.le (by omega), (by omega)⟩
    · rintro σ H3 ⟨S3, r3, es, xs, vm, vs', a7, a8, a9, a10, a11, a12, a13, a14, rfl, g3, k3, dm, ds, sl3, hl3, dx3, ez, eo, ok3, ln3⟩
      have g4 := g3.frzN hl0 sl3 hl3
      have k4 := k3.frz (o := .lst xs) nl
      have d4 := dv_lst_new (K := K) sl3 dx3
      walk_at "go"
      refine x_lcL ?_
      walk_at "go"
      refine i_lcL d4 (fun _ => .bl true) g4.i (by omega) (fun c x Sx Hx Qe Nx hc gx dx qe => ?_) fun D S5 H5 hD g5 s5 l5 => ?_
      · obtain ⟨pe, xe, rfl, te, hxe⟩ := dx.tup_inv
        cases hxe with | cons c1 hxe => ?_
        cases hxe with | cons c2 hxe => ?_
        cases hxe
        obtain ⟨o1, o2⟩ := eo c hc
        walk_at "go"
        refine ⟨pe, _, rfl, sqT_mono gx.i te, rfl, ?_⟩
        walk_at "go"
        refine ⟨rfl, ?_⟩
        walk_at "go"
        refine ⟨Sx, _, vg, _, gs, c, rfl, gx.i, c1, (dg.mono g4.s).mono gx.s, c2, mm, o1.row (by decide), o2, fun H6 e6 => ?_⟩
        exact qe Sx H6 (Gr.same gx.i e6)
      · walk_at "go"
        refine ⟨D, es.map fun _ => true, rfl, sq_of (by rw [l5, List.map_map]; rfl), ?_⟩
        rw [show (es.map fun _ => true).all id = true by rw [List.all_map, List.all_eq_true]; exact fun _ _ => rfl]
        exact q _ _ (g4.then g5) (k4.gr g5 (by simp))
end
end K51

set_option Elab.async false
set_option linter.all false
set_option maxRecDepth 100000
set_option maxHeartbeats 4000000
/-! K51I: _law_right, law. -/
namespace K51
open PySem PySem.Spec PyProof.Rows L2 Gd
open Evl (Ex Ex.refl Ex.trans Ex.new Ex.mut ex_t ex_l sq_of st_of fresh_back)

local macro_rules | `(tactic| walk_at "st") => `(tactic| first
  | with_reducible refine x_seq ?_ | with_reducible refine x_ret ?_ | with_reducible refine x_retN ?_ | with_reducible refine x_next ?_ | with_reducible refine x_drop ?_ | with_reducible refine x_if ?_ | with_reducible refine x_asg ?_
  | with_reducible refine x_par ?_ | with_reducible refine x_par3 ?_ | with_reducible refine x_sfld ?_ | ((with_reducible show tVar _ _ _ _); refine x_var rfl ?_) | with_reducible refine x_c ?_ | with_reducible refine x_op ?_ | with_reducible refine x_un ?_
  | with_reducible refine x_chain ?_ | with_reducible refine x_andV ?_ | with_reducible refine x_orV ?_ | with_reducible refine x_notV ?_ | with_reducible refine x_ifE ?_ | with_reducible refine x_nil ?_ | with_reducible refine x_cons ?_ | with_reducible refine x_star ?_
  | with_reducible refine x_tup ?_ | with_reducible refine x_lst ?_ | with_reducible refine x_cb ?_ | with_reducible refine x_call ?_ | with_reducible refine x_meth ?_ | with_reducible refine x_methN ?_ | with_reducible refine x_makeM ?_ | with_reducible refine x_fld ?_ | with_reducible refine x_bm0 ?_ | with_reducible refine x_bm ?_
  | with_reducible refine x_sl ?_ | with_reducible refine x_no ?_ | with_reducible refine x_part ?_ | with_reducible refine x_rev ?_ | with_reducible refine x_fmtD ?_ | with_reducible refine x_test ?_ | with_reducible refine x_tB ?_ | with_reducible refine x_and ?_ | with_reducible refine x_or ?_ | with_reducible refine x_not ?_ | with_reducible refine x_yes ?_
  | with_reducible refine x_gname ?_ | with_reducible refine x_gtup ?_ | with_reducible refine x_gnil ?_ | with_reducible refine x_gcons ?_ | with_reducible refine x_gsub ?_ | with_reducible refine x_iList ?_ | with_reducible refine x_iStr ?_ | with_reducible refine x_iRng1 ?_ | with_reducible refine x_iEnumQ ?_
  | with_reducible refine i_I0 ?_ | with_reducible refine i_U ?_ | with_reducible refine iteT ?_ | with_reducible refine iteF ?_ | with_reducible refine iteNT ?_ | with_reducible refine iteNF ?_ | with_reducible refine x_bl ?_ | with_reducible refine x_int ?_ | with_reducible refine i_add ?_ | with_reducible refine i_int1 ?_ | with_reducible refine i_abs ?_ | with_reducible refine i_max ?_ | with_reducible refine i_min ?_)
local macro_rules | `(tactic| walk_at "go") => `(tactic| repeat (first | walk_at "st" | dsimp only [Bool.not_true, Bool.not_false, List.nil_append, List.cons_append]))

section
variable {P : Program} {w : World} {K : PySem.W.Frag} {mg : Str → Option Value} {base : Heap}
theorem dvall_cons {S : Hp} {vs : List V} {d : Dt} {ds : List Dt} (h : DvAll K S vs (d :: ds)) : ∃ v vs', vs = v :: vs' ∧ Dv K S v d ∧ DvAll K S vs' ds := by
  cases h with
  | cons a b => exact ⟨_, _, rfl, a, b⟩
def spRight : Sp := fun vs H Q _ => ∃ S p, vs = [.ref p] ∧ Ex S H ∧ PotOk S H p ∧ ∀ S' H', Gr [p] S H S' H' → Q (.bl true) H'
theorem b_law_right (T : Txt K mg) : Binds K (fdOf K (He.fAd K d_law_right.at_)) ["pot"] [] := T.f_law_right.bindsN fun _ _ _ _ _ _ us hl => match us, hl with | [_], _ => rfl
theorem ok_law_right (T : Txt K mg) (B : Tabs K) : FG P w K mg base 8 d_law_right ["pot"] spRight := by
  have G_law_scene := ok_law_scene (P := P) (w := w) (base := base) T
  have G_law_mixed := ok_law_mixed (P := P) (w := w) (base := base) T
  have G_law_draw := ok_law_draw (P := P) (w := w) (base := base) T
  have G_Moves_init := ok_Moves_init (P := P) (w := w) (base := base) T B
  have G_law_is := ok_law_is (P := P) (w := w) (base := base) T B
  have G_law_equal_right := ok_law_equal_right (P := P) (w := w) (base := base) T B
  have G_law_changed_right := ok_law_changed_right (P := P) (w := w) (base := base) T B
  obtain ⟨ds2, b_Moves_init2⟩ := b_Moves_init2 T
  obtain ⟨ds1, b_Moves_init1⟩ := b_Moves_init1 T
  refine FnG.mk_of T.f_law_right sc_law_right (fun vs H Q E h => ?_) (fun cdv A outer s H vs Q E gu hr h => ?_)
  · obtain ⟨S, p, rfl, _⟩ := h
    rfl
  · obtain ⟨S, p, rfl, f, k, q⟩ := h
    have hu := hr.units
    have z5 : ∀ n, n ≤ 16777216 → n ≤ sizeLine := fun n h => by rw [sizeLine_eq]; exact h
    refine ⟨_, (pss_cons (ps_asg (pe_call G_law_scene (hr.mono (by decide)) rfl T.g_law_scene T.f_law_scene.kp (b_law_scene T) .nil pass0 (pa_cons (pv 0) (pa_cons pe_int pa_nil))) (pg_tup rfl (pgs_cons (pg_name (i := 1) sc_law_right.nd rfl (.inl rfl)) (pgs_cons (pg_name (i := 2) sc_law_right.nd rfl (.inl rfl)) pgs_nil))))
    (pss_cons (ps_set (i := 2) sc_law_right.nd rfl (Or.inl rfl) (pe_op op_addX (pv 2) (pe_slice sl_X (pv 2) po_none (po_some (pe_call G_law_draw (hr.mono (by decide)) rfl T.g_law_draw T.f_law_draw.kp (b_law_draw T) .nil pass0 (pa_cons (pv 0) (pa_cons pe_int pa_nil)))))))
    (pss_cons (ps_set (i := 3) sc_law_right.nd rfl (Or.inl rfl) (pe_lst (pa_cons (pe_call G_law_mixed (hr.mono (by decide)) rfl T.g_law_mixed T.f_law_mixed.kp (b_law_mixed T) .nil pass0 (pa_cons (pv 0) (pa_cons (pv 1) pa_nil))) (pa_cons (pe_callTy call_listX (by rfl) T.b_list (by decide +kernel) (pa_cons (pv 2) pa_nil)) pa_nil))))
    (pss_cons (ps_set (i := 4) sc_law_right.nd rfl (Or.inl rfl) (pe_make T.mk_Moves G_Moves_init (hr.mono (by decide)) rfl T.g_Moves b_Moves_init2.2 b_Moves_init2.1 pass0 (pa_cons (pe_ix ix_X (pv 3) pe_int (fun _ _ => rfl)) (pa_cons (pe_ix ix_X (pv 3) pe_int (fun _ _ => rfl)) pa_nil))))
    (pss_cons (ps_expr (pe_bm PySem.F.plainAttrs_list PySem.F.slot_list_append PySem.F.type_list_append mt_append (pe_ix ix_X (pv 3) pe_int (fun _ _ => rfl)) (pa_cons pe_str pa_nil)))
    (pss_cons (ps_expr (pe_bm0 PySem.F.plainAttrs_list PySem.F.slot_list_clear PySem.F.type_list_clear mt_clear (pe_ix ix_X (pv 3) pe_int (fun _ _ => rfl))))
    (pss_cons (ps_if (PW.pt (pw_or (pt_not (pt_val (pe_callG G_law_is gu (hr.mono (by decide)) rfl T.g_law_is T.f_law_is.kp (b_law_is T) .nil (pa_cons (pv 4) (pa_cons (pv 1) (pa_cons (pv 2) pa_nil)))))) (pw_or1 (pt_not (pt_val (pe_callG G_law_equal_right gu (hr.mono (by decide)) rfl T.g_law_equal_right T.f_law_equal_right.kp (b_law_equal_right T) .nil (pa_cons (pv 0) (pa_cons (pv 4) (pa_cons (pv 1) (pa_cons (pv 2) pa_nil)))))))))) (pss_one (ps_ret pe_bl)) pss_nil)
    (pss_cons (ps_if (PW.pt (pw_or (pt_not (pt_val (pe_callG G_law_changed_right gu (hr.mono (by decide)) rfl T.g_law_changed_right T.f_law_changed_right.kp (b_law_changed_right T) .nil (pa_cons (pv 0) (pa_cons (pv 4) (pa_cons (pv 1) (pa_cons (pv 2) pa_nil))))))) (pw_or1 (pt_not (pt_val (pe_callG G_law_is gu (hr.mono (by decide)) rfl T.g_law_is T.f_law_is.kp (b_law_is T) .nil (pa_cons (pv 4) (pa_cons (pv 1) (pa_cons (pv 2) pa_nil))))))))) (pss_one (ps_ret pe_bl)) pss_nil)
    (pss_one (ps_ret (pe_callG G_law_is gu (hr.mono (by decide)) rfl T.g_law_is T.f_law_is.kp (b_law_is T) .nil (pa_cons (pe_make T.mk_Moves G_Moves_init (hr.mono (by decide)) rfl T.g_Moves b_Moves_init1.2 b_Moves_init1.1 pass0 (pa_cons (pv 1) pa_nil)) (pa_cons (pv 1) (pa_cons (pe_lst pa_nil) pa_nil)))))))))))))), ?_⟩
    walk_at "go"
    refine ⟨S, p, rfl, f, k, fun S1 H1 v1 gs r1 mm ro rz g1 k1 d1 => ?_⟩
    have m := menu_sub mm
    obtain ⟨mf1, mf2, mf3, mf4⟩ := menu_facts gs m
    refine i_gtup g1.i d1 rfl fun xs hx => ?_
    obtain ⟨vg, xs1, rfl, dg1, hx1⟩ := dvall_cons hx
    obtain ⟨vr1, xs2, rfl, dr1, hx2⟩ := dvall_cons hx1
    cases hx2
    walk_at "go"
    refine ⟨_, p, 2, rfl, g1.i, k1, by decide, by decide, fun H2 n2 hn2 g2 k2 => ?_⟩
    have g3 := g1.trans g2 fun x hx => .inl hx
    walk_at "go"
    refine i_slL (L := []) g3.i dr1 fun S4 H4 w4 g4 d4 => ?_
    rw [cut_take, rows_take] at d4
    have g5 := g3.then g4
    have k5 := k2.gr g4 (by simp)
    refine i_catLD (L := []) g5.i (dr1.mono g4.s) d4 (by rw [rows_len, rows_len, List.length_take]; omega) fun S6 H6 vr g6 dr => ?_
    rw [rows_app] at dr
    have g7 := g5.then g6
    have k7 := k5.gr g6 (by simp)
    have dg := (dg1.mono g4.s).mono g6.s
    obtain ⟨rs, hrs⟩ : ∃ rs, rs = r1 ++ r1.take n2 := ⟨_, rfl⟩
    rw [← hrs] at dr
    have ro : ∀ r ∈ rs, RowOk gs r ∧ r.2.2.natAbs ≤ 100 := fun r hr => by
      rw [hrs] at hr
      rcases List.mem_append.mp hr with z | z
      · exact ro r z
      · exact ro r (List.mem_of_mem_take z)
    have rz : rs.length ≤ 15 := by
      rw [hrs, List.length_append, List.length_take]
      omega
    have rok : ∀ r ∈ rs, RowOk gs r := fun r hr => (ro r hr).1
    walk_at "go"
    refine ⟨_, p, _, gs, rfl, g7.i, k7, .l dg, by omega, fun H8 l8 gs' pm g8 k8 h8n hl8 => ?_⟩
    have n8 : p ≠ l8 := k7.neq h8n
    have g9 := g7.trans g8 fun x hx => .inl hx
    have s8 : S6 l8 = none := fresh_back g7.i h8n
    have h80 : H l8 = none := g7.back h8n (nmem1 n8)
    walk_at "go"
    refine i_listX g9.i (.l dr) fun l9 x9 h9 hx9 => ?_
    have n9 : p ≠ l9 := k8.neq h9
    have h90 : H l9 = none := g9.back h9 (nmem1 n9)
    have n89 : l8 ≠ l9 := ne_of_none hl8 h9
    have s9 : S6 l9 = none := fresh_back g9.i h9
    have g10 := g9.then (Gr.newO (L := []) (o := .lst x9) g9.i h9)
    have k10 := k8.new (o := .lst x9) h9
    walk_at "go"
    refine ⟨z5 _ (by show 2 ≤ 16777216; decide), fun t ht => ?_⟩
    have g11 := g10.then (Gr.newO (L := []) (o := .lst [.ref l8, .ref l9]) g10.i ht)
    have k11 := k10.new (o := .lst [.ref l8, .ref l9]) ht
    have nt : p ≠ t := k10.neq ht
    have st : S6 t = none := fresh_back g10.i ht
    have e8 : (upd H8 l9 (.lst x9)) l8 = some (.lst (gs'.map V.str)) := (upd_ne n89).trans hl8
    have n8t : l8 ≠ t := ne_of_none e8 ht
    have n9t : l9 ≠ t := ne_of_none upd_same ht
    have q8 : (upd (upd H8 l9 (.lst x9)) t (.lst [.ref l8, .ref l9])) l8 = some (.lst (gs'.map V.str)) := (upd_ne n8t).trans e8
    have q9 : (upd (upd H8 l9 (.lst x9)) t (.lst [.ref l8, .ref l9])) l9 = some (.lst x9) := (upd_ne n9t).trans upd_same
    walk_at "go"
    refine i_ixL (j := 0) upd_same rfl rfl ?_
    walk_at "go"
    refine i_ixL (j := 1) upd_same rfl rfl ?_
    walk_at "go"
    refine i_mkM (L := []) g11.i (.l rfl q8 (dvAll_strs gs')) (.l rfl q9 hx9) m pm (fun r hr => (rok r hr).b) (by omega) fun S12 H12 w12 g12 d12 => ?_
    obtain ⟨y8, z8⟩ := g12.own (fun z => nomatch z) q8 s8
    obtain ⟨y9, z9⟩ := g12.own (fun z => nomatch z) q9 s9
    obtain ⟨yt, zt⟩ := g12.own (fun z => nomatch z) upd_same st
    have g13 := g11.then g12
    have k13 := k11.gr g12 (by simp)
    have lx := pm.length_eq
    walk_at "go"
    refine i_ixL (j := 0) yt rfl rfl ?_
    refine ⟨i_tyL y8, ?_⟩
    walk_at "go"
    refine i_append y8 (by rw [List.length_map]; omega) ?_
    have g14 := g13.mutN (o := .lst (gs'.map V.str ++ [.str "no"])) h80 z8
    have k14 := k13.mut (o := .lst (gs'.map V.str ++ [.str "no"])) n8
    have yt4 := (upd_ne (H := H12) (o := .lst (gs'.map V.str ++ [.str "no"])) (Ne.symm n8t)).trans yt
    have y94 := (upd_ne (H := H12) (o := .lst (gs'.map V.str ++ [.str "no"])) (Ne.symm n89)).trans y9
    walk_at "go"
    refine i_ixL (j := 1) yt4 rfl rfl ?_
    refine ⟨i_tyL y94, l9, _, rfl, rfl, y94, ?_⟩
    have g15 := g14.mutN (o := .lst []) h90 z9
    have k15 := k14.mut (o := .lst []) n9
    have dg5 := dg.mono g12.s
    have dr5 := dr.mono g12.s
    walk_at "go"
    refine ⟨S12, _, vg, vr, gs, rs, rfl, g15.i, d12, dg5, dr5, mm, rok, by omega, fun H16 e16 => ?_⟩
    have g16 := g15.then (Gr.same (L := []) g15.i e16)
    have k16 := k15.gr (Gr.same (L := []) g15.i e16) (by simp)
    walk_at "go"
    refine ⟨S12, p, _, vg, vr, gs, rs, rfl, g16.i, k16, d12, dg5, dr5, mm, ro, by omega, fun S17 H17 g17 k17 => ?_⟩
    have g18 := g16.trans g17 fun x hx => .inl hx
    walk_at "go"
    refine ⟨S17, p, _, vg, vr, gs, rs, rfl, g18.i, k17, d12.mono g17.s, dg5.mono g17.s, dr5.mono g17.s, mm, (fun r hr => ⟨(rok r hr).b, (ro r hr).2⟩), by omega, fun S19 H19 g19 k19 => ?_⟩
    have g20 := g18.trans g19 fun x hx => .inl hx
    have eS := g17.s.trans g19.s
    walk_at "go"
    refine ⟨S19, _, vg, vr, gs, rs, rfl, g20.i, d12.mono eS, dg5.mono eS, dr5.mono eS, mm, rok, by omega, fun H21 e21 => ?_⟩
    have g21 := g20.then (Gr.same (L := []) g20.i e21)
    walk_at "go"
    refine i_mkM (rs := []) (L := []) g21.i ((SqD.l (dg5.mono eS)).toH g21.i) (.t (.tup (B.dfl _) .nil)) m (List.Perm.refl _) (fun _ h => nomatch h) (by decide) fun S22 H22 w22 g22 d22 => ?_
    have g23 := g21.then g22
    walk_at "go"
    refine ⟨z5 _ (by show 0 ≤ 16777216; decide), fun p24 h24 => ?_⟩
    obtain ⟨g24, d24, e24⟩ := newLD (K := K) (ds := rowsD []) g23 h24 .nil
    walk_at "go"
    refine ⟨_, _, vg, _, gs, [], rfl, g24.i, d22.mono e24, ((dg5.mono eS).mono g22.s).mono e24, d24, mm, (fun _ h => nomatch h), by decide, fun H25 e25 => ?_⟩
    exact q _ _ (g24.then (Gr.same (L := []) g24.i e25))
def spLaw (K : PySem.W.Frag) : Sp := fun vs H Q _ => ∃ (a : Addr) (ns : List Int), vs = [.ref a] ∧ SqL K H a (ns.map V.int) ∧ ns.length ≤ 1000000 ∧ ∀ H', Q (.bl true) H'
theorem ok_law (T : Txt K mg) (B : Tabs K) : FG P w K mg base 9 d_law ["script"] (spLaw K) := by
  have G_law_right := ok_law_right (P := P) (w := w) (base := base) T B
  have G_law_pot := ok_law_pot (P := P) (w := w) (base := base) T
  refine FnG.mk_of T.f_law sc_law (fun vs H Q E h => ?_) (fun cdv A outer s H vs Q E gu hr h => ?_)
  · obtain ⟨a, ns, rfl, _⟩ := h
    rfl
  · obtain ⟨a, ns, rfl, sq, hz, q⟩ := h
    have hu := hr.units
    refine ⟨_, (pss_one (ps_ret (pe_callB (cr_all rfl) (by rfl) T.b_all (by decide +kernel) (pa_cons (pe_lc (own := [("k", 1)]) rfl sc_law.nd (pi_range1 rfl T.b_range (pa_cons (pe_callB (call_maxX rfl) (by rfl) T.b_max (by decide +kernel) (pa_cons pe_int (pa_cons (pe_callB (call_minX rfl) (by rfl) T.b_min (by decide +kernel) (pa_cons pe_int (pa_cons (pe_callB call_lenX (by rfl) T.b_len (by decide +kernel) (pa_cons (pv 0) pa_nil)) pa_nil))) pa_nil))) pa_nil)) (blkOk_by (N := ["script", "k"]) (sc := defScope s_law) (by decide +kernel)) (fun _ _ _ _ _ => (pg_name (i := 1) sc_law.nd rfl (.inl rfl))) (fun _ _ _ _ _ => pts_nil) (fun _ _ _ _ _ => (pe_callG G_law_right gu (hr.mono (by decide)) rfl T.g_law_right T.f_law_right.kp (b_law_right T) .nil (pa_cons (pe_call G_law_pot (hr.mono (by decide)) rfl T.g_law_pot T.f_law_pot.kp (b_law_pot T) .nil pass0 (pa_cons (pv 0) (pa_cons (pv 1) pa_nil))) pa_nil)))) pa_nil)))), ?_⟩
    walk_at "go"
    refine x_lcR ?_
    walk_at "go"
    refine i_lenQ (.inl sq) ?_
    walk_at "go"
    rw [List.length_map]
    obtain ⟨n, hn, hn4⟩ : ∃ n : Nat, (if (if ((ns.length : Nat) : Int) < 4 then ((ns.length : Nat) : Int) else 4) > 1 then (if ((ns.length : Nat) : Int) < 4 then ((ns.length : Nat) : Int) else 4) else 1) = (n : Int) ∧ n ≤ 4 :=
      ⟨(if (if ((ns.length : Nat) : Int) < 4 then ((ns.length : Nat) : Int) else 4) > 1 then (if ((ns.length : Nat) : Int) < 4 then ((ns.length : Nat) : Int) else 4) else 1).toNat, by split <;> split <;> omega, by split <;> split <;> omega⟩
    refine i_lcR (n := n) hn (fun _ => .bl true) (Ex.refl H) (by omega) (fun i S1 Hc Qe Nx hi gx qe => ?_) fun D S5 H5 hD g5 s5 l5 => ?_
    · walk_at "go"
      refine ⟨rfl, ?_⟩
      walk_at "go"
      refine ⟨a, ns, i, rfl, ex_l (gx.s.trans gx.i) sq, by omega, fun p x y hp x0 y0 y1 => ?_⟩
      walk_at "go"
      have gp := (Gr.newO (L := []) (o := .lst [.int x, .int y]) gx.i hp)
      refine ⟨S1, p, rfl, gp.i, ⟨fresh_back gx.i hp, x, y, x0, y0, y1, upd_same⟩, fun S6 H6 g6 => ?_⟩
      exact qe S6 H6 (gp.trans g6 fun z hz => .inr (by rw [List.mem_singleton.mp hz]; exact hp))
    · walk_at "go"
      refine ⟨D, (List.range n).map fun _ => true, rfl, sq_of (by rw [l5, List.map_map]; rfl), ?_⟩
      rw [show ((List.range n).map fun _ => true).all id = true by rw [List.all_map, List.all_eq_true]; exact fun _ _ => rfl]
      exact q _
end
end K51

set_option Elab.async false
set_option linter.all false
set_option maxRecDepth 100000
set_option maxHeartbeats 0
namespace K51
open PySem PySem.Spec PyProof.Rows L2 Gd
def exL (K : PySem.W.Frag) : List Bool :=
  [tupAt K (He.ga K "KEPT_WORDS") [.str "coin", .str "hall", .str "outside"],
   tupAt K (He.dflAt ("Moves", some "__init__") 0 K) [],
   He.eqO (PySem.W.findIn K (.ref (CM K)) "__class__") (some (some (.builtin "object.__class__"))),
   He.eqO (PySem.W.specialIn K (.builtin "object.__class__") "__get__") (some (some (.builtin "getset_descriptor.__get__"))),
   decide (PySem.W.takesIn K (.builtin "object.__class__") = some true),
   decide (PySem.W.mroIn K (CM K) (.type "object") = some true),
   others.all fun t => decide (PySem.W.kitOne K (.type t) (.ref (CM K)) = some false),
   others.all fun t => PySem.W.notFirst K (CM K) (.type t),
   PySem.W.notFirst K (CM K) (.ref (CM K)),
   PySem.W.selfFirst K (CM K),
   He.eqO (PySem.W.findIn K (.ref (CM K)) "__radd__") (some none),
   He.eqO (PySem.W.findIn K (.ref (CM K)) "__ne__") (some (some (.builtin "object.__ne__"))),
   decide (PySem.W.subIn K (.ref (CM K)) (.type "object") = some true),
   (PySem.W.findIn K (.type "tuple") "__add__").isSome,
   (PySem.W.findIn K (.type "tuple") "__radd__").isSome,
   decide (PySem.W.subIn K (.type "tuple") (.ref (CM K)) = some false)]
def ex (K : PySem.W.Frag) : Bool := (exL K).all id
theorem ex_at {K : PySem.W.Frag} (h : ex K = true) {b : Bool} {i : Nat} (e : (exL K)[i]? = some b) : b = true := List.all_eq_true.mp h b (List.mem_of_getElem? e)
theorem tabs_of {K : PySem.W.Frag} (h : ex K = true) (cl : Cls K (CM K)) : Tabs K where
  kept H := tupAt_ok (ex_at h (i := 0) rfl) H
  dfl H := tupAt_ok (ex_at h (i := 1) rfl) H
  tyM H a dx fs e := .base (.ins e cl (He.eqO_ok (ex_at h (i := 2) rfl)) (He.eqO_ok (ex_at h (i := 3) rfl)) (of_decide_eq_true (ex_at h (i := 4) rfl)) (of_decide_eq_true (ex_at h (i := 5) rfl)))
  isi t ht := of_decide_eq_true (List.all_eq_true.mp (ex_at h (i := 6) rfl) t ht)
  nf t ht := List.all_eq_true.mp (ex_at h (i := 7) rfl) t ht
  nfM := ex_at h (i := 8) rfl
  sf := ex_at h (i := 9) rfl
  radd := He.eqO_ok (ex_at h (i := 10) rfl)
  ne := He.eqO_ok (ex_at h (i := 11) rfl)
  ob := of_decide_eq_true (ex_at h (i := 12) rfl)
  addT := by
    obtain ⟨fo, h1⟩ := Option.isSome_iff_exists.mp (ex_at h (i := 13) rfl)
    obtain ⟨ro, h2⟩ := Option.isSome_iff_exists.mp (ex_at h (i := 14) rfl)
    exact ⟨fo, ro, h1, h2⟩
  subT := of_decide_eq_true (ex_at h (i := 15) rfl)
abbrev R : PySem.W.OpenRow := PySem.W.OpenLaw.row PySem.Challenge.rw_lateledger_k51_moves_told
abbrev hk : PySem.W.Hook := hookE 6 fa fn ex
def ob (s : PySem.W.SharedT) : AlE := obsE 6 fa fn ex (HandSHeadRun.getT s)
theorem ob_eq (s : PySem.W.SharedT) : ob s = hk.obs s.abs := obsE_eq (HandSHeadRun.getT_eq s)
def loose : List Str := ["__name__", "LedgerError", "InvalidGoods", "InvalidConditions", "InvalidCondition", "InvalidPosition", "LimitError", "TooMany", "LETTERS", "MOST_LETTERS", "KEPT_WORDS", "is_integer", "is_name", "is_good", "is_list", "MOST_GOODS", "MOST_CONDITIONS", "is_point", "is_condition", "want_parts", "Moves", "want_position", "_law_pot", "_law_draw", "_law_pick", "_law_scene", "_law_mixed", "_law_is", "_law_equal_right", "_law_changed_right", "_law_right"]
theorem run (w : World) : HandSHeadRun.RunEq R (PySem.W.view R.prog [34]) hk ob 3000 loose w := by
  intro os
  kernel_rfl
end K51

set_option Elab.async false
set_option linter.all false
set_option maxRecDepth 100000
set_option maxHeartbeats 0
namespace K51
open PySem PySem.Spec PyProof.Rows L2 Gd
theorem facts {P : Program} {w : World} {K : PySem.W.Frag} {h : Heap} {mg : Str → Option Value} {f : Addr} (X : K.In h) (G : h.Ns mainGlobals mg) (hfa : mg ("law" : Str) = some (.ref f)) (c : SaysE fa fn ex K) :
    ∃ fd : FuncData, (∀ (s : Shared) (v : Value), BindsTo s fd ⟨[v], []⟩ [("script", v)]) ∧ ∀ base : Heap, FnG P w K mg base 9 f fd ["script"] (spLaw K) := by
  have T := txt_of X G c.1
  have B := tabs_of c.2 T.cl_Moves
  have e := hfa.symm.trans T.g_law
  cases e
  have b := FunD.bindsA (ps := ["script"]) T.f_law fun _ _ _ _ _ _ us hl => match us, hl with | [_], _ => rfl
  exact ⟨_, fun s v => b s [v] rfl, fun base => ok_law T B⟩
end K51
open PySem PySem.W PySem.Calls PyProof.Rows
theorem PySem.Challenge.cw_lateledger_k51_moves_told_holds : PySem.Challenge.rw_lateledger_k51_moves_told.Holds := by
  w_on; o_law
  refine HandSHeadRun.head_any (r := OpenLaw.row PySem.Challenge.rw_lateledger_k51_moves_told) (q := view (OpenLaw.row PySem.Challenge.rw_lateledger_k51_moves_told).prog [34]) (H := K51.hk) (ob := K51.ob) (M := 3000) (loose := K51.loose)
    (d := HandSHeadRun.topDef (OpenLaw.row PySem.Challenge.rw_lateledger_k51_moves_told).prog 34) (kwd := []) K51.ob_eq
    (by kernel_rfl) (fun s => by kernel_rfl) K51.run (by kernel_rfl) (by kernel_rfl) (by kernel_rfl) (by rfl) (by first | assumption | decide +kernel) (by decide +kernel) ⟨rfl, rfl, rfl, rfl, rfl, by decide +kernel⟩ ?hw ?hc
  case hw => w_witness2
  case hc =>
    refine Gd.walk_G (l := PySem.Challenge.rw_lateledger_k51_moves_told) (n := 63) (k := 9) (x := "script") rfl (by decide) (by kernel_rfl) ⟨rfl, by decide, by decide⟩ ?F
    intro w mg fa h Y G hmg0
    obtain ⟨K, KX, c⟩ := Y
    have hmg : mg ("law" : PySem.Str) = some (.ref fa) := by
      have e : (HandSHeadRun.topDef (OpenLaw.row PySem.Challenge.rw_lateledger_k51_moves_told).prog 34).name = ("law" : PySem.Str) := by kernel_rfl
      rw [← e]
      exact hmg0
    obtain ⟨fd, hb, hF⟩ := K51.facts (P := (PySem.Challenge.rw_lateledger_k51_moves_told).prog) (w := w) KX G hmg c
    exact ⟨K, fd, K51.spLaw K, KX, hb, fun H a ns hl _ hS => ⟨a, ns, rfl, hS, Nat.le_trans hl (by decide), fun _ => rfl⟩, fun base _ _ => hF base⟩

