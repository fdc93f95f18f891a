import PyProof.Rows.All
import Wide.All
import OpenK.AllK
import Wide.FinOn
import KE.KExcInit
import KE.KExcIs
import HandS.Base
import HandS.Call
import HandS.List
import HandS.Ends
import HandS.Exc
import HandS.ExcField
import HandS.ExcIs
import HandS.TryMany
import HandS.Defaults
import HandS.Words
import HandS.WordsExc
import HandS.HeadHook1
import HandS.HeadHook2
import PyProof.EqAt
import PyProof.EqKinds
import PyProof.TupleCall
import HandS.More
import HandS.ExcOwn
import HandS.CallSlots
import HandS.IsInst
import HandS.Comp
import HandS.NoneIn
import HandS.Dict
import HandS.Iter
import KE.KStateDown
import HandS.Head0
import HandS.Head1
import HandS.Head2
import HandS.HeadEnd
import HandS.HeadHook3
import HandS.HeadNt
import HandS.ClsMeth
import HandS.Star
import HandS.ExcInit
import KE.KItemsList
import KE.GoesZip
import KE.GoesMore
import HandS.ListItems
import HandS.Zip
import HandS.WordsList
import HandS.DictComp
import HandS.Walk
import KE.GoesEnum
import HandS.Text
import HandS.StrMore
import HandS.Flow
import HandS.OwnEq
import HandS.Codes
import PyProof.InstEq
import HandS.MakeKwOnly
import HandS.NamedTupGet
import PyProof.StrOps2
import HandS.Evl
import HandS.Wide
import HandS.Style
import PyProof.StrLawsChain
import HandS.Conv
import PySem.Challenge.RW_everywire_k20_yards_there_and_back
set_option Elab.async false
set_option linter.all false
set_option maxRecDepth 100000
set_option maxHeartbeats 4000000
/-! Own exception classes of one field or two, straight over a built-in one. -/
namespace Xo
open PySem PySem.W PySem.Calls PyProof.Rows

def oneArgs (f : Str) (p1 p2 : Pos) : Arguments := { posonlyargs := [], args := [{ arg := "self", annotation := none, pos := p1 }, { arg := f, annotation := none, pos := p2 }], vararg := none, kwonlyargs := [], kw_defaults := [], kwarg := none, defaults := [] }
def oneBody (f : Str) (q1 q2 q3 q4 : Pos) : List Stmt := [.Assign [.Attribute (.Name "self" q1) f q2] (.Name f q3) q4]
def oneScope (f : Str) : Scope := { kind := .function, names := [(PySem.Str.ofString "self", .local), (f, .local)], isGenerator := false, isCoroutine := false, more := [] }

/-- what the written part says of such a class at C, and of its __init__ at fI -/
structure Cl (K : Frag) (C fI : Addr) (bmB : List Value) (newId : String) : Prop where
  ini : excInitIn K C bmB newId = true
  ovr : excOver K C bmB = true
  sa : findIn K (.ref C) "__setattr__" = some (some (.builtin "object.__setattr__"))
  ga : findIn K (.ref C) "__getattribute__" = some (some (.builtin "BaseException.__getattribute__"))
  gg : findIn K (.ref C) "__getattr__" = some none
  iC : findIn K (.ref C) "__init__" = some (some (.ref fI))
  tI : typeIn K (.ref fI) = some (.type "function")
  kC : keepIn K (.ref C) = true
  exC : subIn K (.ref C) (.type "BaseException") = some true
  tyC : typeIn K (.ref C) = some (.type "type")
  hdC : hasDictIn K C = true
structure One (K : Frag) (C fI : Addr) (f qual : Str) (bmB : List Value) (newId : String) : Prop extends Cl K C fI bmB newId where
  no : findIn K (.ref C) f = some none
  fn : ∃ (oc : Value) (od : Option Addr) (kV doc pm : Value) (an : Option Addr) (cdv ct : Value) (osl : Array (Option Value)) (p1 p2 q1 q2 q3 q4 : Pos),
    K.lookup fI = some ⟨oc, od, .func (fnOf "__init__" qual (oneArgs f p1 p2) (oneBody f q1 q2 q3 q4) (oneScope f) .none kV doc pm an cdv ct), osl⟩ ∧ codeIn K cdv qual = true

/-- what is asked of the field's name -/
structure Nm (f : Str) : Prop where
  ns : ¬ f = ("self" : Str)
  db : (f == ("__debug__" : Str)) = false
  bind : ∀ (qual : Str) (kV doc pm : Value) (an : Option Addr) (cdv ct : Value) (p1 p2 q1 q2 q3 q4 : Pos) (a b : Value), bindArgs (fnOf "__init__" qual (oneArgs f p1 p2) (oneBody f q1 q2 q3 q4) (oneScope f) .none kV doc pm an cdv ct) ⟨[a, b], []⟩ = pure [(("self" : Str), a), (f, b)]
theorem nm_what : Nm "what" := ⟨by decide +kernel, by decide +kernel, fun _ _ _ _ _ _ _ _ _ _ _ _ _ _ _ => rfl⟩
theorem nm_name : Nm "name" := ⟨by decide +kernel, by decide +kernel, fun _ _ _ _ _ _ _ _ _ _ _ _ _ _ _ => rfl⟩

theorem ld_loc {M : Model} {s : Shared} {name : Str} {scope : Scope} {L a : Addr} {cd : Value} {m : Str → Option Value} {x : Str} {pos : Pos} {v : Value} {Q : Value → Shared → Prop} {A : Around} {E : Value → Shared → Prop} (hn : s.heap.Ns L m) (hv : m x = some v) (h : Q v s)
    (hk : scope.kind = .function) (hl : (envOfC name scope L a cd).kindOf x = some .local) (hd : (x == ("__debug__" : Str)) = false) :
    wpAny M A (eval (.Name x pos) (envOfC name scope L a cd)) Q E s := wpAny_Name (wpAny_loadName_local hk hl hn hv h) hd

theorem ns1_one {h : Heap} {dx : Addr} {f : Str} {v : Value} {hs : Int} {t : Tok} {n : Nat} (e : h.get? dx = some (dictOf [⟨hs, .str f t, v⟩] n)) : h.Ns1 dx (fun y => if y = f then some v else none) := by
  refine ⟨_, _, _, e, rfl, ?_, ?_, ?_⟩
  · intro d hd
    have hd' : d ∈ ([⟨hs, .str f t, v⟩] : List DictEntry) := by simpa using hd
    rcases List.mem_cons.mp hd' with rfl | z
    · exact ⟨f, t, rfl⟩
    · cases z
  · unfold UniqKeys
    simp
  · intro y
    by_cases hy : y = f
    · subst hy
      simp [nsFind, findBy, Value.isStr]
    · have hy' : ¬ f = y := fun z => hy z.symm
      simp [nsFind, findBy, Value.isStr, hy, hy']

theorem names_one {f qual : Str} {L a : Addr} {cd : Value} (hf : ¬ f = "self") : (envOfC qual (oneScope f) L a cd).kindOf f = some .local ∧ (envOfC qual (oneScope f) L a cd).kindOf "self" = some .local := by
  have e1 : (f == ("self" : Str)) = false := by simpa using hf
  constructor
  · show (oneScope f).names.lookup f = some .local
    unfold oneScope
    rw [List.lookup_cons]
    have : (f == (PySem.Str.ofString "self")) = false := e1
    rw [this]
    simp [List.lookup_cons]
  · show (oneScope f).names.lookup ("self" : Str) = some .local
    unfold oneScope
    rw [List.lookup_cons]
    have : (("self" : Str) == (PySem.Str.ofString "self")) = true := by decide +kernel
    rw [this]

section
variable {prog : Program} {w : World} {A : Around} {E : Value → Shared → Prop} {R : Result → Shared → Prop} {s : Shared} {K : Frag} {C fI : Addr} {f qual : Str} {bmB : List Value} {B newId initId : String}
/-- the exception behind its __init__ -/
structure Made (h h' : Heap) (e C d : Addr) (mA : Str → Option Value) : Prop where
  keep : ∀ b o, h.get? b = some o → h'.get? b = some o
  new : h.objs.size ≤ e
  obj : ∃ oe vs, h'.get? e = some oe ∧ oe.cls = .ref C ∧ oe.dict = some d ∧ oe.data = .fields vs ∧ vs[1]? = some .none
  dbig : h.objs.size ≤ d
  dne : d ≠ e
  ns : h'.Ns1 d mA

theorem one_init (T : One K C fI f qual bmB newId) (SF : StoreFacts B bmB "object.__setattr__" "object") (Z : Nm f) {hp : Heap} {x t0 : Addr} {v : Value} (X0 : K.In hp) (hlim : s.heap.NoLimit)
    (hk : ∀ b o, hp.get? b = some o → s.heap.get? b = some o) (hsz : hp.objs.size ≤ x) (hx : s.heap.get? x = some (HandSPX.excO C t0)) (hroom : A.depth < recursionLimit)
    (hq : ∀ h' tk dx, (∀ b o, hp.get? b = some o → h'.get? b = some o) → h'.get? x = some (excObj C t0 (some dx) .none) → x < dx → h'.Ns1 dx (fun y => if y = f then some v else none) → R (.ok (.ret .none)) { s with heap := h', toks := tk }) :
    codeAny (model prog w) A (.call (.ref fI) ⟨[.ref x, v], []⟩) R s := by
  obtain ⟨oc, od, kV, doc, pm, an, cdv, ct, osl, p1, p2, q1, q2, q3, q4, ho, hcd⟩ := T.fn
  have hf := Z.ns
  have X : K.In s.heap := X0.keeps hk
  obtain ⟨n1, n2⟩ := names_one (qual := qual) (L := s.heap.objs.size) (a := fI) (cd := cdv) hf
  have hfs : (f == ("self" : Str)) = false := by simpa using hf
  have hsf : (("self" : Str) == f) = false := by
    have : ¬ ("self" : Str) = f := fun z => hf z.symm
    simpa using this
  refine Att.call_fn (binds := [("self", .ref x), (f, v)]) X hlim ho hcd hroom (BindsTo.of_eq (Z.bind ..)) ?_ (fun s₁ IC => ?_) rfl rfl rfl
  · have e1 : ((oneScope f).names.lookup ("self" : Str) == some NameKind.local) = true := by
      have : (oneScope f).names.lookup ("self" : Str) = some .local := n2
      rw [this]; rfl
    have e2 : ((oneScope f).names.lookup f == some NameKind.local) = true := by
      have : (oneScope f).names.lookup f = some .local := n1
      rw [this]; rfl
    simp [e1, e2]
  · obtain ⟨h₁, tk₁, rfl⟩ := IC.toInCall.same
    have k : ∀ b o, s.heap.get? b = some o → h₁.get? b = some o := IC.toInCall.keep
    have hn := IC.toInCall.ns
    have X₁ : K.In h₁ := X.keeps k
    have hx₁ := k _ _ hx
    have hxL : x ≠ s.heap.objs.size := Nat.ne_of_lt (Heap.lt_size hx)
    have hszx : hp.objs.size ≤ s.heap.objs.size := Nat.le_trans hsz (Nat.le_of_lt (Heap.lt_size hx))
    have F₁ : Fr hp s.heap.objs.size h₁ _ := ⟨hn, fun b o e => k b o (hk b o e), hszx⟩
    have N₁ : News hp s.heap.objs.size h₁ [(x, excObj C t0 none .none)] := fun p hp' => by
      rcases List.mem_cons.mp hp' with rfl | z
      · exact ⟨hx₁, hxL, Heap.get?_none_of_le hsz⟩
      · cases z
    show wpAny _ _ (execs _ _) _ _ _
    refine wpAny_execs_cons (plainObj_wpAny_Assign_Attribute ?_)
    refine ld_loc (v := v) hn ?_ (ld_loc (v := .ref x) hn ?_ ?_ rfl n2 (by decide +kernel)) rfl n1 Z.db
    · simp [bindL, n1, n2, hfs, hsf]
    · simp [bindL, n1, n2, hfs, hsf]
      exact fun z => absurd z.symm hf
    have ht : takerIn K C f = some none := by
      unfold takerIn
      rw [T.no]; rfl
    refine set_exc0 (s := { s with heap := h₁, toks := tk₁ }) SF F₁ X0 N₁ (List.mem_cons_self ..) T.sa T.ovr ht T.hdC rfl (UpdF.head (fun p hp' => by cases hp')) (by show 1 ≤ 1000; decide) fun dx h₃ F₃ N₃ hlt => ?_
    show wpAny _ _ (execs _ _) _ _ _
    have e1 := (N₃ _ (List.mem_cons_self ..)).1
    have e2 := (N₃ _ (List.mem_cons_of_mem _ (List.mem_cons_self ..))).1
    exact wpAny_execs_nil (hq h₃ _ dx F₃.keep e2 (hlt _ (List.mem_cons_self ..)) (ns1_one e1))
theorem one_made (T : One K C fI f qual bmB newId) (FB : ExcBaseFacts B newId initId bmB) (SF : StoreFacts B bmB "object.__setattr__" "object") (Z : Nm f) {v : Value} (X : K.In s.heap) (hlim : s.heap.NoLimit) (hroom : A.depth + 1 < recursionLimit)
    (hq : ∀ h' tk e d, Made s.heap h' e C d (fun y => if y = f then some v else none) → R (.ok (.ret (.ref e))) { s with heap := h', toks := tk }) :
    codeAny (model prog w) A (.call (.ref C) ⟨[v], []⟩) R s := by
  obtain ⟨nm, N', qn, bs, bm, hdct, sn, sub, ab, col, dd, k0, k1, k2, k3, k5, hC, hT⟩ := excInit_of X T.ini
  obtain ⟨hp, g, dr, tk, os⟩ := s
  have k : ∀ b o, hp.get? b = some o → ((hp.push (kdv_tup [v])).push (HandSPX.excO C hp.objs.size)).get? b = some o := fun b o e => Heap.get?_push_of_some _ (Heap.get?_push_of_some _ e)
  have hget : ((hp.push (kdv_tup [v])).push (HandSPX.excO C hp.objs.size)).get? (hp.objs.size + 1) = some (HandSPX.excO C hp.objs.size) := by heap_get
  have one1 : [v].length ≤ sizeLine := by
    rw [sizeLine_eq]
    exact (by decide : 1 ≤ 16777216)
  refine HandSPX.call_own FB hT hC (looks_findIn X T.iC) (fun self => bind_fn X self T.tI) one1 ?_
  refine one_init (s := ⟨(hp.push (kdv_tup [v])).push (HandSPX.excO C hp.objs.size), g, dr, tk, os⟩) (hp := hp) T SF Z X (hlim.keeps k) k (Nat.le_succ _) hget ?_ fun h' tk' dx kk hx hlt hns => ?_
  · show A.depth + 1 < recursionLimit
    exact hroom
  · exact ⟨rfl, hq h' tk' (hp.objs.size + 1) dx ⟨kk, Nat.le_succ _, ⟨_, _, hx, rfl, rfl, rfl, rfl⟩, Nat.le_trans (Nat.le_succ _) (Nat.le_of_lt hlt), Nat.ne_of_gt hlt, hns⟩⟩
end
end Xo

namespace Xo
open PySem PySem.Spec PyProof.Rows L2
theorem relO_one {f : Str} {v : V} {v' : Value} (r : RelV v v') (g : Str) : RelO (List.lookup g [(f, v)]) (if g = f then some v' else none) := by
  by_cases hw : g = f
  · subst hw
    rw [if_pos rfl]
    have q : List.lookup g [(g, v)] = some v := by simp [List.lookup]
    rw [q]
    exact r
  · rw [if_neg hw]
    have q1 : (g == f) = false := by simpa using hw
    have q : List.lookup g [(f, v)] = none := by simp [List.lookup, q1]
    rw [q]
    trivial
section
variable {X : Cx} {C fI : Addr} {f qual : Str} {bmB : List Value} {B newId initId : String}
/-- what a made exception leaves, over the layer -/
theorem mk_of_made {pins : List (Addr × Obj)} {σ : L2.St} {H1 : Hp} {Q : XK} {hp h' : Heap} {g : Array GenState} {dr : Drawn} {tk tk' : Nat} {os : OsState} {e d : Addr} {mA : Str → Option Value} {fs : List (Str × V)} (T : Cl X.K C fI bmB newId) (I1 : Inv X pins σ H1 ⟨hp, g, dr, tk, os⟩)
    (M : Made hp h' e C d mA) (hfs : ∀ g, RelO (fs.lookup g) (mA g)) (q : ∀ d, H1 d = none → Q (.ref C) (some d) (upd H1 d (.xd fs))) : MkP X pins σ Q (.ref e) ⟨h', g, dr, tk', os⟩ := by
  obtain ⟨oe, fv, hoe, hc, hd, hdat, h1⟩ := M.obj
  have hns := M.ns
  obtain ⟨G', g1, g2⟩ := restrict h' fun b => decide (b ≠ e)
  have gk : ∀ b, b ≠ e → G'.get? b = h'.get? b := fun b hb => g1 b (decide_eq_true hb)
  have ge : G'.get? e = none := g2 e (by simp)
  have old : ∀ b o, hp.get? b = some o → G'.get? b = some o := fun b o q => (gk b (Nat.ne_of_lt (Nat.lt_of_lt_of_le (Heap.lt_size q) M.new))).trans (M.keep b o q)
  have ob : ObjOk X.prog X.w (upd H1 d (.xd fs)) G' d (.xd fs) := ⟨_, hns.at (fun o q => (gk d M.dne).trans q), hfs⟩
  have J : Inv X pins σ (upd H1 d (.xd fs)) ⟨G', g, dr, tk', os⟩ := I1.laid (t' := tk') old M.dbig ob
  refine ⟨e, oe, fv, ⟨G', g, dr, tk', os⟩, _, .ref C, some d, rfl, J, fun b o q => ?_, ge, hoe, ⟨hc, hd⟩, hdat, h1, ?_, rfl, I1.bare, raises_own T.exC T.tyC, q d (I1.hok.fresh M.dbig)⟩
  · by_cases hb : b = e
    · have q' : G'.get? b = some o := q
      rw [hb, ge] at q'
      cases q'
    · exact (gk b hb).symm.trans q
  · rw [upd_ne (Ne.symm M.dne)]
    exact I1.hok.fresh M.new
/-- C(e) -/
def tMk1 (C : Addr) (f : Str) (ta : TA) : L2.St → Hp → XK → Prop := fun σ H Q => ta σ H fun vs H1 => ∃ v, vs = [v] ∧ ∀ d, H1 d = none → Q (.ref C) (some d) (upd H1 d (.xd [(f, v)]))
theorem pmk_one {x : Str} {a : Expr} {ta : TA} {p pos : Pos} {k : Nat} (T : One X.K C fI f qual bmB newId) (FB : ExcBaseFacts B newId initId bmB) (SF : StoreFacts B bmB "object.__setattr__" "object") (Z : Nm f) (hr : Room k X.A) (hm : X.mg x = some (.ref C)) (ha : PA X [a] ta) (hg : Gl X x := by rfl)
    (hdb : (x == ("__debug__" : Str)) = false := by decide)
    (he : starEach (a :: []) X.env = (false, eval a X.env) :: starEach [] X.env := by rfl) (hpl : (backTo pos (starEach [] X.env)).any (·.1) = false := by rfl) :
    PMk X (.Call (.Name x p) [a] [] pos) (tMk1 C f ta) := by
  intro pins s σ H Q I h
  refine wpAny_Call_Name_kw (ld_glob I hg hm ?_ hdb)
  refine PySem.W.callWith_K (h₀ := X.base) I.ok.mod.kin T.kC (thn (ha.run pos pins s σ H _ I h) fun us s1 hh => ?_) he hpl
  obtain ⟨vs, H1, I1, r1, v, ev, q1⟩ := hh
  subst ev
  refine ⟨I1.kIn, ?_⟩
  cases r1 with
  | cons rv rn =>
    rename_i v' us'
    cases rn
    show wpAny _ _ (call (.ref C) [v']) _ _ _
    have hlim := I1.nolimit
    obtain ⟨hp, g, dr, tk, os⟩ := s1
    refine wpAny_call (one_made T FB SF Z I1.kIn hlim (by have := hr.dp; omega) fun h' tk' e d M => ?_)
    exact mk_of_made T.toCl I1 M (fun g => relO_one rv g) q1
/-- raise C(e) -/
def tRaise1 (C : Addr) (f : Str) (W : WX) (ta : TA) : TS := fun _ σ H => tMk1 C f ta σ H fun cls d H' => W cls d σ H'
theorem ps_raise1 {x : Str} {a : Expr} {ta : TA} {W : WX} {p pos pos2 : Pos} {k : Nat} (hc : X.calm = true) (T : One X.K C fI f qual bmB newId) (FB : ExcBaseFacts B newId initId bmB) (SF : StoreFacts B bmB "object.__setattr__" "object") (Z : Nm f) (hr : Room k X.A) (hm : X.mg x = some (.ref C)) (tk : Takes X W) (ha : PA X [a] ta) (hg : Gl X x := by rfl)
    (hdb : (x == ("__debug__" : Str)) = false := by decide)
    (he : starEach (a :: []) X.env = (false, eval a X.env) :: starEach [] X.env := by rfl) (hpl : (backTo pos (starEach [] X.env)).any (·.1) = false := by rfl) :
    PS X (.Raise (some (.Call (.Name x p) [a] [] pos)) none pos2) (tRaise1 C f W ta) := ps_raise hc tk (pmk_one T FB SF Z hr hm ha hg hdb he hpl)

end
/-! ### isinstance of the exception that a suite holds, whatever its dict -/
structure Ic (K : PySem.W.Frag) (D : Addr) : Prop where
  ga : PySem.W.findIn K (.ref D) "__getattribute__" = some (some (.builtin "BaseException.__getattribute__"))
  gg : PySem.W.findIn K (.ref D) "__getattr__" = some none
  sub : PySem.W.subIn K (.ref D) (.type "BaseException") = some true
  cl : (PySem.W.clsIn K D).isSome = true
  ha : PySem.W.findIn K (.ref D) "__class__" = some (some (.builtin "object.__class__"))
  hn : PySem.W.specialIn K (.builtin "object.__class__") "__get__" = some (some (.builtin "getset_descriptor.__get__"))
  ht : PySem.W.takesIn K (.builtin "object.__class__") = some true
  hm : PySem.W.mroIn K D (.type "object") = some true
def icB (K : PySem.W.Frag) (D : Addr) : Bool :=
  decide (PySem.W.findIn K (.ref D) "__getattribute__" = some (some (.builtin "BaseException.__getattribute__"))) && (decide (PySem.W.findIn K (.ref D) "__getattr__" = some none) && (decide (PySem.W.subIn K (.ref D) (.type "BaseException") = some true) &&
  ((PySem.W.clsIn K D).isSome && (decide (PySem.W.findIn K (.ref D) "__class__" = some (some (.builtin "object.__class__"))) && (decide (PySem.W.specialIn K (.builtin "object.__class__") "__get__" = some (some (.builtin "getset_descriptor.__get__"))) &&
  (decide (PySem.W.takesIn K (.builtin "object.__class__") = some true) && decide (PySem.W.mroIn K D (.type "object") = some true)))))))
theorem icB_ok {K : PySem.W.Frag} {D : Addr} (h : icB K D = true) : Ic K D := by
  unfold icB at h
  simp only [Bool.and_eq_true, decide_eq_true_eq] at h
  obtain ⟨h1, h2, h3, h4, h5, h6, h7, h8⟩ := h
  exact ⟨h1, h2, h3, h4, h5, h6, h7, h8⟩
def rIsX (K : PySem.W.Frag) (D a : Addr) (d : Option Addr) : List V → Hp → VK → Prop := fun xs H Q => ∃ (c : V) (cv : Value) (b : Bool) (dd : Addr) (fs : List (Str × V)), xs = [.ref a, c] ∧ d = some dd ∧ H dd = some (.xd fs) ∧ (∀ u, RelV c u → u = cv) ∧ PySem.W.kitOne K (.ref D) cv = some b ∧ Q (.bl b) H
theorem call_isX {X : Cx} {a D : Addr} {d : Option Addr} {oe : Obj} {pn : List (Addr × Obj)} (C : Ic X.K D) (hz : Zc (.ref D) d oe) (hf : ∃ vs, oe.data = .fields vs) : CallR (X.suite a ((a, oe) :: pn)) (.builtin "isinstance") (rIsX X.K D a d) := by
  intro pins s σ H xs us Q I r h
  obtain ⟨c, cv, b, dd, fs, rfl, rfl, hd, hcv, e, q⟩ := h
  obtain ⟨u1, u2, rfl, r1, r2⟩ := vals2 r
  obtain rfl : u1 = Value.ref a := r1
  have ec := hcv _ r2
  subst ec
  obtain ⟨hget, _⟩ := I.pin (a, oe) (List.mem_append.mpr (.inl List.mem_cons_self))
  obtain ⟨vs, hv⟩ := hf
  have hx : ObjOk X.prog X.w H s.heap dd (.xd fs) := I.hok dd _ hd
  obtain ⟨mA, ⟨od, es, ep, ho, _⟩, _⟩ := hx
  have J : PySem.W.InstAt s.heap a oe D (some od) := ⟨hget, hz.1, by unfold PySem.W.notCls; rw [hv] <;> rfl, by rw [hz.2]; exact ho⟩
  exact PySem.W.kia_one (PySem.W.kitx_exc C.cl C.ga C.gg C.sub C.ha C.hn C.ht C.hm) I.kIn J e (fun z => nomatch z) fun tk => ⟨.bl b, H, I.kept (t' := tk) fun _ _ z => z, rfl, q⟩

/-! ### try: .. except A as e: .. except B as f: .. -/
/-- behind a suite with a name: the name's slot is empty -/
def offSlot (D : Ends) (i : Nat) : Ends := { nx := fun σ H => D.nx (σ.set i none) H, rt := D.rt, bk := fun σ H => D.bk (σ.set i none) H, ct := fun σ H => D.ct (σ.set i none) H }
abbrev Clause := Value × Nat × (Addr → Value → Option Addr → TS)
def wClauses (K : PySem.W.Frag) (Wout : WX) (D : Ends) : List Clause → WX
  | [] => Wout
  | (c, i, ts) :: r => fun cls d σ H => ∃ b, PySem.W.exmOne K cls c = some b ∧ (b = true → ∀ a, H a = none → ts a cls d (offSlot D i) (σ.set i (some (.ref a))) H) ∧ (b = false → wClauses K Wout D r cls d σ H)
inductive Clauses (X : Cx) : List ExceptHandler → List Clause → Prop
  | nil : Clauses X [] []
  | cons {x n : Str} {c : Value} {i : Nat} {ts : Addr → Value → Option Addr → TS} {b₀ : Stmt} {suite : List Stmt} {np pos' : Pos} {hds : List ExceptHandler} {l : List Clause} (hc : Names X x c) (hi : X.N[i]? = some n) (hln : X.env.kindOf n = some .local)
      (hsu : ∀ (a : Addr) (oe : Obj) (cls : Value) (d : Option Addr) (pn : List (Addr × Obj)), Zc cls d oe → (∃ vs, oe.data = .fields vs) → PSs (X.suite a ((a, oe) :: pn)) (b₀ :: suite) (ts a cls d)) (r : Clauses X hds l) :
      Clauses X (.ExceptHandler (some (.Name x np)) (some n) (b₀ :: suite) pos' :: hds) ((c, i, ts) :: l)
section
variable {X : Cx} {body : List Stmt} {h₀ : ExceptHandler} {hds : List ExceptHandler} {l : List Clause} {pos : Pos} {tb : WX → TS} {Wout : WX}
/-- what stands of the exception a that has landed: the ground B, the state sI without it -/
structure Land (X : Cx) (pins : List (Addr × Obj)) (σ : L2.St) (H : Hp) (a : Addr) (B : Heap) (sI s' : Shared) (cls : Value) (d : Option Addr) (h3 : Heap) : Prop where
  I : Inv X pins σ H sI
  nb : ∀ b o, sI.heap.get? b = some o → b ∉ frs X.stack → B.get? b = some o
  up : sI.heap.UpToSlots h3
  fl : HandSPX.FlyingZ B (X.env :: X.outer) a (Zc cls d) h3
  na : H a = none
  os : s'.os = sI.os
  ag : AllBare s'.gens
  nL : a ≠ X.env.locals
  nF : a ∉ X.fs
theorem Land.inv {pins : List (Addr × Obj)} {σ : L2.St} {H : Hp} {a : Addr} {B : Heap} {sI s' : Shared} {cls : Value} {d : Option Addr} {h3 : Heap} (Q : Land X pins σ H a B sI s' cls d h3) : Inv X pins σ H { s' with heap := h3 } := Q.I.landed Q.nb Q.fl.1 Q.up Q.os Q.ag
/-- it goes on, uncaught -/
theorem Land.on {pins : List (Addr × Obj)} {σ : L2.St} {H : Hp} {a : Addr} {B : Heap} {sI s' : Shared} {cls : Value} {d : Option Addr} {h3 : Heap} {D : Ends} (Q : Land X pins σ H a B sI s' cls d h3) (hs : X.stack = X.env :: X.outer) (hf : X.env.frame = some X.env.locals) (tk : Takes X Wout) (w : Wout cls d σ H) :
    wpAny (model X.prog X.w) X.A (handleBy (.ref a) X.env []) (SP X pins D) X.xe { s' with heap := h3 } := by
  refine wpAny_handleBy_nil ?_
  obtain ⟨_, _, _, oe, vs, T, oT, ts', he, hz, hd, h1, hr⟩ := id Q.fl
  have fin : wpAny (model X.prog X.w) X.A (setFlight (.ref a) X.env.frame) (fun _ s4 => wpAny (model X.prog X.w) X.A (throw (.ref a) : Sem Flow) (SP X pins D) X.xe s4) X.xe { s' with heap := h3 } := by
    rw [hf]
    refine HandSPX.setFlight_upZ Q.fl fun h4 hh4 up4 => wpAny_throw (tk _ _ ?_)
    exact ⟨a, B, sI, pins, σ, H, cls, d, rfl, Q.I, Q.nb, Q.up.trans up4, .inr (.inr (by rw [hs]; exact hh4)), Q.na, Q.os, Q.ag, w⟩
  unfold PySem.passOn
  refine wpAny_bind (wpAny_field he hd h1 ?_)
  have nn : ¬ ((Value.ref T == Value.none) = true) := by simp
  rw [if_neg nn]
  first
    | exact wpAny_bind (wpAny_pure (wpAny_bind fin))
    | exact wpAny_bind fin
/-- the clauses, one by one -/
theorem Land.by {pins : List (Addr × Obj)} {σ : L2.St} {H : Hp} {a : Addr} {B : Heap} {sI s' : Shared} {cls : Value} {d : Option Addr} {h3 : Heap} {D : Ends} (Q : Land X pins σ H a B sI s' cls d h3) (ok : X.Ok) (hN : X.N.Nodup) (hs : X.stack = X.env :: X.outer) (hf : X.env.frame = some X.env.locals) (tk : Takes X Wout) :
    ∀ {hds : List ExceptHandler} {l : List Clause}, Clauses X hds l → wClauses X.K Wout D l cls d σ H → wpAny (model X.prog X.w) X.A (handleBy (.ref a) X.env hds) (SP X pins D) X.xe { s' with heap := h3 } := by
  intro hds l hk
  have J3 := Q.inv
  obtain ⟨oe3, vs3, he3, hz3, hd3⟩ := Q.fl.there
  have S3 := J3.suite he3 hd3 Q.na Q.nL Q.nF
  induction hk with
  | nil => exact fun w => Q.on hs hf tk w
  | @cons x n c i ts b₀ suite np pos' hds2 l2 hc hi hln hsu r ih =>
    intro w
    obtain ⟨b, hb1, hyes, hno⟩ := w
    have LT : PySem.W.Looks (model X.prog X.w) h3 (typeOf (.ref a)) cls := fun A Q E s k q => wpAny_typeOf_ref (k _ _ he3) (by rw [hz3.1]; exact q)
    have LM := PySem.W.exm_one (M := model X.prog X.w) (J3.kIn) LT hb1
    refine wpAny_handleBy_cons (codeAny_handlers_test ?_) (by intro q; cases q)
    have test : ∀ {Q : Value → Shared → Prop} {E : Value → Shared → Prop}, Q c { s' with heap := h3 } → wpAny (model X.prog X.w) (X.A.mark (some (.ref a))) (eval (.Name x np) X.env) Q E { s' with heap := h3 } := fun {Q E} q => by
      obtain ⟨hg, hdbg, hm⟩ := hc
      rcases hm with hm | ⟨hm, hv, hnn⟩
      · exact ld_glob (X := X.suite a ((a, oe3) :: (X.pn ++ pins))) S3 hg hm q hdbg
      · exact ld_blt (X := X.suite a ((a, oe3) :: (X.pn ++ pins))) S3 hg hm hv q hnn hdbg
    refine test (LM.here ?_)
    cases b with
    | false =>
      show wpAny _ X.A (handleBy (.ref a) X.env hds2) _ _ _
      exact ih (hno rfl)
    | true =>
      refine codeAny_handlers_suite_as (HandSPX.lands_againZ Q.fl fun h4 fl4 up4 => ?_)
      have J4 : Inv X pins σ H { s' with heap := h4 } := Q.I.landed Q.nb fl4.1 (Q.up.trans up4) Q.os Q.ag
      obtain ⟨oe4, vs4, he4, hz4, hd4⟩ := fl4.there
      have S4 := J4.suite he4 hd4 Q.na Q.nL Q.nF
      refine store_ok (X := X.suite a ((a, oe4) :: (X.pn ++ pins))) (v := .ref a) S4 hN hi (.inl hln) rfl (fun s5 S5 => ?_) (.inr hln)
      have bye : ∀ {s6 : Shared} {σ6 : L2.St} {H6 : Hp} {G : Shared → Prop}, Inv (X.suite a ((a, oe4) :: (X.pn ++ pins))) [] σ6 H6 s6 → (∀ s7, Inv X pins (σ6.set i none) H6 s7 → G s7) →
          wpAny (model X.prog X.w) X.A (do bindName X.env n .none; unbindBehindTheSuite X.env n pos') (fun _ s7 => G s7) X.xe s6 := fun {s6 σ6 H6 G} S6 hq => gone_ok (S6.unsuite ok) hN hi hln hq
      refine wpAny_mono ((hsu a oe4 cls d (X.pn ++ pins) hz4 ⟨_, hd4⟩).run [] s5 _ H _ S5 (hyes rfl a Q.na)) (fun f s6 hsp => ?_) (fun _ _ z => False.elim z)
      cases f with
      | next => exact bye hsp.choose_spec.choose_spec.1 fun s7 J7 => ⟨_, _, J7, hsp.choose_spec.choose_spec.2⟩
      | brk => exact bye hsp.choose_spec.choose_spec.1 fun s7 J7 => ⟨_, _, J7, hsp.choose_spec.choose_spec.2⟩
      | cont => exact bye hsp.choose_spec.choose_spec.1 fun s7 J7 => ⟨_, _, J7, hsp.choose_spec.choose_spec.2⟩
      | ret u =>
        obtain ⟨v6, σ6, H6, S6, r6, q6⟩ := hsp
        exact bye S6 fun s7 J7 => ⟨_, _, _, J7, r6, q6⟩
theorem ps_try_clauses (hs : X.stack = X.env :: X.outer) (hf : X.env.frame = some X.env.locals) (hN : X.N.Nodup) (tk : Takes X Wout)
    (hb : ∀ (W : WX) (pn : List (Addr × Obj)) (xe : Value → Shared → Prop), Takes (X.tr pn xe) W → PassesOwn (model X.prog X.w) X.A X.env xe → PSs (X.tr pn xe) body (tb W))
    (hh : Clauses X (h₀ :: hds) l) : PS X (.Try body (h₀ :: hds) [] [] pos) (fun D σ H => tb (wClauses X.K Wout D l) D σ H) := by
  refine ⟨fun pins s σ H D I h => ?_⟩
  have ok := I.ok
  have hfr : X.A.frames = some (X.env :: X.outer) := by rw [ok.frames, hs]
  refine wpAny_Try_except (wpAny_mono ((hb (wClauses X.K Wout D l) (X.pn ++ pins) (fun e s₁ => wpAny (model X.prog X.w) X.A (noteFrame e X.env) (fun _ s₂ => wpAny (model X.prog X.w) X.A (setFlight e none) (fun _ s₃ =>
    wpAny (model X.prog X.w) X.A (handleBy e X.env (h₀ :: hds)) (SP X pins D) X.xe s₃) X.xe s₂) X.xe s₁) (fun u s' xx => ?_) PassesOwn.looking).run [] s σ H D (I.toTry _) h) (fun f s1 hsp => ?_) (fun e s1 he => he))
  · obtain ⟨a, B, sI, pins', σ', H', cls, d, rfl, J', nb, up, sky, na, os, ag, w⟩ := xx
    have sky' : Sky B (X.env :: X.outer) a (Zc cls d) X.env.locals s'.heap := hs ▸ sky
    show wpAny (model X.prog X.w) X.A (noteFrame (.ref a) X.env) _ _ _
    refine Sky.land Zc.steady hfr hf sky' fun h3 fl3 up3 => ?_
    obtain ⟨oe3, vs3, he3, _, hd3⟩ := fl3.there
    have nfr : a ∉ frs (X.env :: X.outer) := fun hm => by
      obtain ⟨_, o', e', hnf⟩ := fl3.2.2.1.mem hm
      rw [he3] at e'
      cases e'
      exact hnf _ hd3
    refine Land.by (B := B) (sI := sI) (s' := s') (d := d) ⟨J'.ofTry ok, nb, up.trans up3, fl3, na, os, ag, fun z => nfr ?_, fun hm => nfr ?_⟩ ok hN hs hf tk hh w
    · exact List.mem_filterMap.mpr ⟨X.env, List.mem_cons_self, by rw [hf, z]⟩
    · obtain ⟨e, he, q⟩ := List.mem_filterMap.mp hm
      exact List.mem_filterMap.mpr ⟨e, List.mem_cons_of_mem _ he, q⟩
  · cases f with
    | next => exact wpAny_execs_nil ⟨_, _, hsp.choose_spec.choose_spec.1.ofTry ok, hsp.choose_spec.choose_spec.2⟩
    | brk => exact ⟨_, _, hsp.choose_spec.choose_spec.1.ofTry ok, hsp.choose_spec.choose_spec.2⟩
    | cont => exact ⟨_, _, hsp.choose_spec.choose_spec.1.ofTry ok, hsp.choose_spec.choose_spec.2⟩
    | ret u =>
      obtain ⟨v, σ', H', J', r, q⟩ := hsp
      exact ⟨v, σ', H', J'.ofTry ok, r, q⟩
end
end Xo
set_option Elab.async false
set_option linter.all false
set_option maxRecDepth 100000
set_option maxHeartbeats 4000000
/-! Methods called by keywords or within a try, len of own objects, xs[i] op= e, slices with a step. -/
namespace Xo
open PySem PySem.Spec PyProof.Rows L2
section
variable {X : Cx} {CX : CXT} {k : Nat} {f C : Addr} {fd : FuncData} {ps ks : List Str} {sp : Sp} {dvs : List V} {ds : List Value} {E : L2.St → XK} {m : Str} {p pos apos : Pos} {e o : Expr} {es : List Expr} {kws : List Keyword} {ta : TE} {t tk : TA}
/-! ### o.m(..), what is raised wished for at the caller's slots -/
def tMethS (C : Addr) (m : Str) (sp : Sp) (E : L2.St → XK) (ta : TE) (t : TA) : TE := fun σ H Q => ta σ H fun x H1 => ∃ a dx fs, x = .ref a ∧ H1 a = some (.ins C dx fs) ∧ fs.lookup m = none ∧ t σ H1 fun vs H2 => sp (x :: vs) H2 Q (E σ)
theorem pe_methS {pl : Sem Bool} (he : PE X o ta) (c : Cls X.K C) (hm : Meth X.K C m f) (F : FnOk X.prog X.w X.K X.mg X.base CX k f fd ps sp) (hr : Room k X.A) (hb : Binds X.K fd ps []) (hx : ∀ σ, PassesAt CX X σ (E σ)) (ha : PA X (e :: es) t)
    (hst : starEach (e :: es) X.env = (false, eval e X.env) :: starEach es X.env := by rfl) (hpl : (backTo pos (starEach es X.env)).any (·.1) = false := by rfl)
    (ht : eval (.Call (.Attribute o m apos) (e :: es) [] pos) X.env = (do
      let ov ← eval o X.env
      standAt apos.atName
      let (f, first) ← holding [ov] (getMethod ov m pl)
      callWith pos f first (backTo pos (starEach (e :: es) X.env)) (backToKw pos (keywordEach [] X.env))) := by rfl) :
    PE X (.Call (.Attribute o m apos) (e :: es) [] pos) (tMethS C m sp E ta t) := by
  refine ⟨fun pins s σ H Q I h => ?_⟩
  refine PySem.W.methodCall_KW (pl := pl) (thn (he.run pins s σ H _ I h) fun u s1 ⟨x, H1, I1, rx, a, dx, fs, ex, ea, l, q⟩ => ?_) ht
  subst ex
  obtain rfl : u = Value.ref a := rx
  refine getmeth_ok I1 ea c hm l ?_
  refine PySem.W.callWith_K (first := [.ref a]) (h₀ := X.base) I.ok.mod.kin hm.kp (thn (ha.run pos pins s1 σ H1 _ I1 q) fun us s2 ⟨vs, H2, I2, r, q2⟩ => ⟨I2.kIn, ?_⟩) hst hpl
  exact run_fnSD (dvs := []) (us := .ref a :: us) (vs := .ref a :: vs) F hr hb .nil (hx σ) I2 (.cons rfl r) (by rw [List.append_nil]; exact q2)
theorem pe_methS0 {pl : Sem Bool} (he : PE X o ta) (c : Cls X.K C) (hm : Meth X.K C m f) (F : FnOk X.prog X.w X.K X.mg X.base CX k f fd ps sp) (hr : Room k X.A) (hb : Binds X.K fd ps []) (hx : ∀ σ, PassesAt CX X σ (E σ))
    (ht : eval (.Call (.Attribute o m apos) [] [] pos) X.env = (do
      let ov ← eval o X.env
      standAt apos.atName
      let (f, first) ← holding [ov] (getMethod ov m pl)
      callWith pos f first (backTo pos (starEach [] X.env)) (backToKw pos (keywordEach [] X.env))) := by rfl) :
    PE X (.Call (.Attribute o m apos) [] [] pos) (tMethS C m sp E ta tNil) := by
  refine ⟨fun pins s σ H Q I h => ?_⟩
  refine PySem.W.methodCall_KW (pl := pl) (thn (he.run pins s σ H _ I h) fun u s1 ⟨x, H1, I1, rx, a, dx, fs, ex, ea, l, q⟩ => ?_) ht
  subst ex
  obtain rfl : u = Value.ref a := rx
  refine getmeth_ok I1 ea c hm l ?_
  exact PySem.W.callWith_K0 (first := [.ref a]) I1.kIn hm.kp (run_fnSD (dvs := []) (us := [.ref a]) (vs := [.ref a]) F hr hb .nil (hx σ) I1 (.cons rfl .nil) q)
/-! ### o.m(k = v, ..) -/
def tMethK (C : Addr) (m : Str) (sp : Sp) (E : XK) (ta : TE) (tk : TA) : TE := fun σ H Q => ta σ H fun x H1 => ∃ a dx fs, x = .ref a ∧ H1 a = some (.ins C dx fs) ∧ fs.lookup m = none ∧ tk σ H1 fun zs H2 => sp (x :: zs) H2 Q E
/-- the keywords stand in the parameters' order, behind self -/
def KwSelf (K : PySem.W.Frag) (fd : FuncData) (ps ks : List Str) : Prop := ∀ (s : Shared) (u : Value) (ws : List Value), K.In s.heap → (u :: ws).length = ps.length → BindsTo s fd ⟨[u], ks.zip ws⟩ (ps.zip (u :: ws))
theorem pe_methK {pl : Sem Bool} {E : XK} (he : PE X o ta) (c : Cls X.K C) (hm : Meth X.K C m f) (F : FnOk X.prog X.w X.K X.mg X.base CX k f fd ps sp) (hr : Room k X.A) (hb : KwSelf X.K fd ps ks) (hx : Passes CX X E) (hkw : PK X kws tk)
    (hall : (backToKw pos (keywordEach kws X.env)).all (·.1.isSome) = true := by rfl) (hks : (backToKw pos (keywordEach kws X.env)).filterMap (·.1) = ks := by rfl)
    (hpl : ((backTo pos (starEach [] X.env)).any (·.1) || (backToKw pos (keywordEach kws X.env)).any (·.1.isNone)) = false := by rfl)
    (ht : eval (.Call (.Attribute o m apos) [] kws pos) X.env = (do
      let ov ← eval o X.env
      standAt apos.atName
      let (f, first) ← holding [ov] (getMethod ov m pl)
      callWith pos f first (backTo pos (starEach [] X.env)) (backToKw pos (keywordEach kws X.env))) := by rfl) :
    PE X (.Call (.Attribute o m apos) [] kws pos) (tMethK C m sp E ta tk) := by
  refine ⟨fun pins s σ H Q I h => ?_⟩
  refine PySem.W.methodCall_KW (pl := pl) (thn (he.run pins s σ H _ I h) fun u s1 ⟨x, H1, I1, rx, a, dx, fs, ex, ea, l, q⟩ => ?_) ht
  subst ex
  obtain rfl : u = Value.ref a := rx
  refine getmeth_ok I1 ea c hm l ?_
  refine PySem.W.callWith_KW0 (first := [.ref a]) (h₀ := X.base) I.ok.mod.kin hm.kp hall (thn (hkw.run pos pins s1 σ H1 _ I1 q) fun ws s2 ⟨zs, H2, I2, rz, q2⟩ => ⟨I2.kIn, ?_⟩) hpl
  rw [hks]
  have r2 : Vals (V.ref a :: zs) (Value.ref a :: ws) := .cons rfl rz
  have hl : (Value.ref a :: ws).length = ps.length := by rw [← r2.length]; exact F.len _ _ _ _ q2
  refine wpAny_call (codeAny_mono (F.run X.A X.stack s2 H2 ⟨[.ref a], ks.zip ws⟩ (.ref a :: ws) (.ref a :: zs) Q E hr I2.env0 (hb s2 (.ref a) ws I2.kIn hl) r2 q2) fun r s' hq => ?_)
  cases r with
  | error er => exact hx pins σ H2 s2 er s' I2 hq
  | ok fl =>
    cases fl with
    | ret u => exact I2.after hq
    | next => exact False.elim hq
    | brk => exact False.elim hq
    | cont => exact False.elim hq
/-! ### len(o), o with an own __len__ -/
def rLenO (C : Addr) (sp : Sp) (E : XK) : List V → Hp → VK → Prop := fun xs H Q => ∃ a dx fs, xs = [.ref a] ∧ H a = some (.ins C dx fs) ∧ sp [.ref a] H (fun v H' => ∃ n : Int, v = .int n ∧ 0 ≤ n ∧ n < 2 ^ 63 ∧ Q (.int n) H') E
theorem call_lenO {E : XK} (c : Cls X.K C) (hm : Meth X.K C "__len__" f) (F : FnOk X.prog X.w X.K X.mg X.base CX k f fd ps sp) (hr : Room (k + 1) X.A) (hb : Binds X.K fd ps []) (hx : Passes CX X E) : CallR X (.builtin "len") (rLenO C sp E) := by
  intro pins s σ H xs us Q I r h
  obtain ⟨a, dx, fs, rfl, ha, q⟩ := h
  obtain ⟨u, rfl, ru⟩ := vals1 r
  obtain rfl : u = Value.ref a := ru
  obtain ⟨mA, O, _⟩ := ins_get I.hok ha
  obtain ⟨od, J, _⟩ := O.look
  obtain ⟨mm, fr⟩ := I.fr
  refine PySem.W.len_K fr I.ok.mod.kin J hm.at_ hm.fn ?_
  have hsp := q
  have rv : Vals [V.ref a] [Value.ref a] := .cons rfl .nil
  have hl : ([Value.ref a] ++ []).length = ps.length := by rw [List.append_nil, ← rv.length]; exact F.len _ _ _ _ hsp
  refine wpAny_call (codeAny_mono (F.run X.A.in1 X.stack s H ⟨[.ref a], []⟩ [.ref a] [.ref a] _ E hr.in1 (I.env0.in1) (by simpa using hb s [.ref a] I.kIn hl) rv hsp) fun r s' hq => ?_)
  cases r with
  | error er => exact hx pins σ H s er s' I hq
  | ok fl =>
    cases fl with
    | ret u =>
      obtain ⟨v, H', I', rv', n, rfl, h0, h1, q'⟩ := I.after hq
      obtain ⟨t, rfl⟩ := rv'
      exact ⟨⟨h0, h1⟩, .int n, H', I'.tok _, ⟨_, rfl⟩, q'⟩
    | next => exact False.elim hq
    | brk => exact False.elim hq
    | cont => exact False.elim hq
/-! ### xs[i] op= e -/
/-- xs[j], j from 0 on, by values -/
def rGetN (K : PySem.W.Frag) : V → V → Hp → VK → Prop := fun x y H Q => ∃ (p : Addr) (xs : List V) (j : Nat) (v : V), x = .ref p ∧ y = .int (j : Int) ∧ SqL K H p xs ∧ xs[j]? = some v ∧ Q v H
theorem pget_list : PGet X (rGetN X.K) := by
  intro pins s σ H o i ov iv Q I ro ri h
  obtain ⟨p, xs, j, v, rfl, rfl, hq, ha, q⟩ := h
  obtain rfl : ov = Value.ref p := ro
  obtain ⟨t, rfl⟩ := ri
  obtain ⟨its, r, pl, hz⟩ := I.list hq
  obtain ⟨w, ew, rw'⟩ := r.get ha
  have hj : j < xs.length := (List.getElem?_eq_some_iff.mp ha).1
  have hn := line63
  refine wpAny_getItem_list pl.isList (by omega) (by omega) (x := w) ?_ ⟨v, H, I, rw', q⟩
  rw [Int.toNat_natCast]
  simpa using ew
/-- xs[i] = v by values, i from 0 on -/
def rSetN : V → V → V → Hp → (Hp → Prop) → Prop := fun o i v H Q => ∃ (p : Addr) (xs : List V) (j : Nat), o = .ref p ∧ i = .int (j : Int) ∧ H p = some (.lst xs) ∧ j < xs.length ∧ Q (upd H p (.lst (xs.set j v)))
theorem ixN_nat {n j : Nat} (h : j < n) : ixN n (j : Int) = some j := by
  unfold ixN
  rw [if_pos (by omega), if_pos (by omega)]
  simp
theorem pset_listN : PSet X rSetN := by
  intro pins s σ H o i v ov iv u Q I ro ri rv h
  obtain ⟨p, xs, j, rfl, rfl, hp, hj, q⟩ := h
  exact set_list pins s σ H _ _ v ov iv u Q I ro ri rv ⟨p, xs, _, j, rfl, rfl, hp, ixN_nat hj, q⟩
/-- xs[i] op= e -/
theorem ps_laug {o i e : Expr} {to ti te : TE} {tip : TIp} {op : Operator} {tpos pos : Pos} (ho : PE X o to) (hi : PE X i ti) (he : PE X e te) (hp : PIp X op tip)
    (ha : ∀ ov iv new, augStore i ov iv new = (do holding [new, ov, iv] (setItem ov iv new); release [new, ov, iv] []; pure .next) := by intros; rfl) : PS X (.AugAssign (.Subscript o i tpos) op e pos) (tAugS to ti te (rGetN X.K) tip rSetN) :=
  ps_augS ho hi pget_list he hp pset_listN ha
end
/-! ### xs[lo:hi:step] of a list -/
section
variable {X : Cx} {e : Expr} {te : TE} {lo hi : Option Expr} {st : Expr} {tl th ts : TO} {pos p2 : Pos}
def pickV (xs : List V) (lo hi st : Option Int) : List V := (sliceRange (sliceBounds lo hi st xs.length).1 (sliceBounds lo hi st xs.length).2.1 (sliceBounds lo hi st xs.length).2.2).filterMap (xs[·]?)
theorem vals_filter {xs : List V} {us : List Value} (r : Vals xs us) : ∀ is : List Nat, Vals (is.filterMap (xs[·]?)) (is.filterMap (us[·]?)) := by
  intro is
  induction is with
  | nil => exact .nil
  | cons i is ih =>
    cases hx : xs[i]? with
    | none =>
      have hu := r.none_of hx
      rw [List.filterMap_cons_none hx, List.filterMap_cons_none hu]
      exact ih
    | some x =>
      obtain ⟨u, hu, ru⟩ := r.get hx
      rw [List.filterMap_cons_some hx, List.filterMap_cons_some hu]
      exact .cons ru ih
def tSl3 (K : PySem.W.Frag) (te : TE) (tl th ts : TO) : TE := fun σ H Q => te σ H fun x H1 => tl σ H1 fun l H2 => th σ H2 fun u H3 => ts σ H3 fun st H4 => ∃ a xs, x = .ref a ∧ SqL K H4 a xs ∧ st ≠ some 0 ∧ ∀ p, H4 p = none → Q (.ref p) (upd H4 p (.lst (pickV xs l u st)))
theorem pe_slice3 (he : PE X e te) (hl : PO X lo tl) (hu : PO X hi th) (hs : PO X (some st) ts) : PE X (.Subscript e (.Slice lo hi (some st) p2) pos) (tSl3 X.K te tl th ts) := by
  refine ⟨fun pins s σ H Q I h => ?_⟩
  refine Subscript_ (thn (he.run pins s σ H _ I h) fun v s1 ⟨x, H1, I1, r1, q1⟩ => ?_)
  refine wpAny_Slice (thn (hl.run pins s1 σ H1 _ I1 q1) fun vl s2 ⟨l, H2, I2, pl, q2⟩ => thn (hu.run pins s2 σ H2 _ I2 q2) fun vu s3 ⟨u, H3, I3, pu, q3⟩ => thn (hs.run pins s3 σ H3 _ I3 q3) fun vs s4 ⟨z, H4, I4, ps, q4⟩ => ?_)
  obtain ⟨a, xs, rfl, hx, h0, q⟩ := q4
  obtain rfl : v = Value.ref a := r1
  have I5 : Inv X pins σ H4 { s4 with heap := s4.heap.push { cls := .type "slice", data := .fields #[vl, vu, vs] } } := I4.kept (t' := s4.toks) fun b ob q => Heap.get?_push_of_some _ q
  obtain ⟨its, r, ht, hz⟩ := I5.list hx
  have hlen := r.length
  refine tail_any (ops := [.ref a, .ref s4.heap.objs.size]) ht.isList.typeIs slot_list_getitem.lookup ?_ (by with_unfolding_all rfl)
  refine wpAny_getItem_list_slice ht.isList (Heap.IsSliceOf.new ..) pl pu ps h0 ?_ (by rw [List.size_toArray] <;> omega)
  have hv : Vals (pickV xs l u z) (slicePick its.toArray l u z).toList := by
    unfold pickV slicePick
    have e1 : its.toArray.size = xs.length := by rw [List.size_toArray]; exact hlen.symm
    rw [e1]
    have e2 : (fun i : Nat => its.toArray[i]?) = fun i => its[i]? := by funext i; simp
    simp only [e2]
    exact vals_filter r _
  have hsz : (pickV xs l u z).length ≤ sizeLine := by
    rw [hv.length]
    have := slicePick_size_le its.toArray l u z
    simp only [Array.length_toList, List.size_toArray] at this ⊢
    omega
  refine ⟨.ref _, _, I5.laid (t' := s4.toks) (o := .lst (pickV xs l u z)) (fun b ob q => Heap.get?_push_of_some _ q) (Nat.le_refl _) ⟨hsz, _, 0, hv, ?_⟩, rfl, q _ (I5.hok.fresh (Nat.le_refl _))⟩
  exact Heap.get?_push_size _ rfl
end
end Xo
set_option Elab.async false
set_option linter.all false
set_option maxRecDepth 100000
set_option maxHeartbeats 4000000
/-! The rules that read the written part, with that part named: so they stand within a comprehension, too. -/
namespace Xo
open PySem PySem.Spec PyProof.Rows L2
section
variable {X : Cx} (K : PySem.W.Frag) (hK : X.K = K := by rfl)
include hK
theorem ixL : IxR X (rIxL K) := by subst hK; exact ix_list
theorem ixT : IxR X (rIxT K) := by subst hK; exact ix_tup
theorem slL : SlR X (rSlL K) := by subst hK; exact sl_list
theorem slT : SlR X (rSlT K) := by subst hK; exact sl_tup
def rLenQ (K : PySem.W.Frag) : List V → Hp → VK → Prop := fun xs H Q => ∃ p ys, xs = [.ref p] ∧ (SqL K H p ys ∨ SqT K H p ys) ∧ Q (.int ys.length) H
theorem lenQ : CallR X (.builtin "len") (rLenQ K) := by subst hK; exact call_len_seq
theorem inQ : OpR X (compareOp .In) (rIn K false) := by subst hK; exact op_in_seq
theorem notInQ : OpR X (compareOp .NotIn) (rIn K true) := by subst hK; exact op_notIn_seq
def rListOf (K : PySem.W.Frag) : List V → Hp → VK → Prop := fun xs H Q => ∃ p ys, xs = [.ref p] ∧ (SqL K H p ys ∨ SqT K H p ys) ∧ ∀ l, H l = none → Q (.ref l) (upd H l (.lst ys))
theorem listOf : CallR X (.type "list") (rListOf K) := by subst hK; exact call_list_of
def rTupOf (K : PySem.W.Frag) : List V → Hp → VK → Prop := fun xs H Q => ∃ p ys, xs = [.ref p] ∧ ((SqL K H p ys ∧ ∀ l, H l = none → Q (.ref l) (upd H l (.tup ys))) ∨ (SqT K H p ys ∧ Q (.ref p) H))
theorem tupOf : CallR X (.type "tuple") (rTupOf K) := by subst hK; exact call_tuple_of
theorem sumQ (hc : X.calm = true) : CallR X (.builtin "sum") (rSum K) := by subst hK; exact cr_sum hc
theorem minQ (hc : X.calm = true) : CallR X (.builtin "min") (rMin K) := by subst hK; exact cr_min hc
theorem isiQ : CallR X (.builtin "isinstance") (rIsi K) := by subst hK; exact call_isi
theorem eqQ (hu : X.A.units + 64 < cLine) : OpR X (compareOp .Eq) (rEqD K) := by subst hK; exact op_eqD hu
theorem neQ (hu : X.A.units + 64 < cLine) : OpR X (compareOp .NotEq) (rNeD K) := by subst hK; exact op_neD hu
theorem fldQ {e : Expr} {f : Str} {ta : TE} {pos : Pos} (he : PE X e ta) (hb : attributeBase e f X.env (eval e X.env) = eval e X.env := by rfl) : PE X (.Attribute e f pos) (tFld K ta f) := by subst hK; exact pe_fld he hb
theorem slice3Q {e : Expr} {te : TE} {lo hi : Option Expr} {st : Expr} {tl th ts : TO} {pos p2 : Pos} (he : PE X e te) (hl : PO X lo tl) (hu : PO X hi th) (hs : PO X (some st) ts) : PE X (.Subscript e (.Slice lo hi (some st) p2) pos) (tSl3 K te tl th ts) := by subst hK; exact pe_slice3 he hl hu hs
theorem listI {tg : Expr} {l : Expr} {tl : TE} (hl : PE X l tl) : PI X tg l (iList K tl) := by subst hK; exact pi_list hl
theorem tupI {tg : Expr} {l : Expr} {tl : TE} (hl : PE X l tl) : PI X tg l (iTup K tl) := by subst hK; exact pi_tup hl
theorem laugQ {o i e : Expr} {to ti te : TE} {tip : TIp} {op : Operator} {tpos pos : Pos} (ho : PE X o to) (hi : PE X i ti) (he : PE X e te) (hp : PIp X op tip)
    (ha : ∀ ov iv new, augStore i ov iv new = (do holding [new, ov, iv] (setItem ov iv new); release [new, ov, iv] []; pure .next) := by intros; rfl) : PS X (.AugAssign (.Subscript o i tpos) op e pos) (tAugS to ti te (rGetN K) tip rSetN) := by
  subst hK; exact ps_laug ho hi he hp ha
theorem truQ {a : Expr} {ta : TE} (ha : PE X a ta) (he : ∀ whole, isTrue a X.env whole = (do let v ← whole; standAt a.pos; holding [v] (truthy v)) := by intro _; rfl) : PT X a (fun σ H Q => ta σ H fun x H' => ∃ k, TruV K x H' k ∧ Q k H') := by
  subst hK; exact pt_truth ha he
end
end Xo
set_option Elab.async false
set_option linter.all false
set_option maxRecDepth 100000
set_option maxHeartbeats 2000000
/-! The head's facts by names, and further looks at the written part. -/
namespace Xo
open PySem PySem.Spec PyProof.Rows L2 He
abbrev Lk : Type := PySem.W.Frag → Bool
abbrev AlX : Type := AlD × Bool
def obsX (fa : List Fa) (fn : List DefD) (xs : List Lk) (K : PySem.W.Frag) : AlX := (obsD fa fn K, xs.all fun f => f K)
def valX (fn : List DefD) : AlX := (valD fn, true)
def SaysX (fa : List Fa) (fn : List DefD) (xs : List Lk) (K : PySem.W.Frag) : Prop := obsX fa fn xs K = valX fn
def obsXG (n : Nat) (fa : List Fa) (fn : List DefD) (xs : List Lk) (g : Addr → Option Obj) : AlX := obsX fa fn xs (frG g (asD g n))
def hookX (n : Nat) (fa : List Fa) (fn : List DefD) (xs : List Lk) : PySem.W.Hook where
  α := AlX
  obs := fun s => obsXG n fa fn xs s.heap.get?
  val := fun _ => valX fn
  says := fun _ h => ∃ K : PySem.W.Frag, K.In h ∧ SaysX fa fn xs K
  of := fun _ _ e => ⟨_, frG_in, e⟩
  keeps := fun _ _ _ ⟨K, hK, c⟩ k => ⟨K, PySem.W.Frag.In.keeps hK k, c⟩
theorem obsXG_eq {n : Nat} {fa : List Fa} {fn : List DefD} {xs : List Lk} {g : Addr → Option Obj} {s : Shared} (h : ∀ a, g a = s.heap.get? a) : obsXG n fa fn xs g = (hookX n fa fn xs).obs s := by
  have e : g = s.heap.get? := funext h
  rw [e] <;> rfl
section
variable {fa : List Fa} {fn : List DefD} {xs : List Lk} {K : PySem.W.Frag}
theorem SaysX.d (c : SaysX fa fn xs K) : SaysD fa fn K := congrArg (fun z : AlX => z.1) c
theorem SaysX.more (c : SaysX fa fn xs K) (i : Nat) {f : Lk} (h : xs[i]? = some f := by rfl) : f K = true := by
  have c1 : xs.all (fun f => f K) = true := congrArg (fun z : AlX => z.2) c
  exact List.all_eq_true.mp c1 f (List.mem_of_getElem? h)
end
/-- a class of own exceptions with one field -/
def oneB (x f : Str) (bm : List Value) (newId : String) (K : PySem.W.Frag) : Bool :=
  PySem.W.excInitIn K (ga K x) bm newId && (PySem.W.excOver K (ga K x) bm && (decide (PySem.W.findIn K (.ref (ga K x)) "__setattr__" = some (some (.builtin "object.__setattr__"))) &&
  (decide (PySem.W.findIn K (.ref (ga K x)) "__init__" = some (some (.ref (ma K (ga K x) "__init__")))) && (decide (PySem.W.typeIn K (.ref (ma K (ga K x) "__init__")) = some (.type "function")) && (PySem.W.keepIn K (.ref (ga K x)) &&
  (decide (PySem.W.typeIn K (.ref (ga K x)) = some (.type "type")) && (PySem.W.hasDictIn K (ga K x) && (decide (PySem.W.findIn K (.ref (ga K x)) f = some none) && icB K (ga K x)))))))))
theorem oneB_ok {x f qual : Str} {bm : List Value} {newId : String} {K : PySem.W.Frag} (h : oneB x f bm newId K = true)
    (fn : ∃ (oc : Value) (od : Option Addr) (kV doc pm : Value) (an : Option Addr) (cdv ct : Value) (osl : Array (Option Value)) (p1 p2 q1 q2 q3 q4 : Pos),
      K.lookup (ma K (ga K x) "__init__") = some ⟨oc, od, .func (PySem.W.fnOf "__init__" qual (oneArgs f p1 p2) (oneBody f q1 q2 q3 q4) (oneScope f) .none kV doc pm an cdv ct), osl⟩ ∧ PySem.W.codeIn K cdv qual = true) :
    One K (ga K x) (ma K (ga K x) "__init__") f qual bm newId ∧ Ic K (ga K x) := by
  unfold oneB at h
  simp only [Bool.and_eq_true, decide_eq_true_eq] at h
  obtain ⟨h1, h2, h3, h4, h5, h6, h7, h8, h9, h10⟩ := h
  have C := icB_ok h10
  exact ⟨⟨⟨h1, h2, h3, C.ga, C.gg, h4, h5, h6, C.sub, h7, h8⟩, h9, fn⟩, C⟩
theorem fnd_one {K : PySem.W.Frag} {qual f : Str} {params : Arguments} {body : List Stmt} {scope : Scope} {p1 p2 q1 q2 q3 q4 : Pos} {fI : Addr} {fd : FuncData} (F : FunD K "__init__" qual params body scope [] [] fI fd)
    (e1 : params = oneArgs f p1 p2) (e2 : body = oneBody f q1 q2 q3 q4) (e3 : scope = oneScope f) :
    ∃ (oc : Value) (od : Option Addr) (kV doc pm : Value) (an : Option Addr) (cdv ct : Value) (osl : Array (Option Value)) (p1 p2 q1 q2 q3 q4 : Pos),
      K.lookup fI = some ⟨oc, od, .func (PySem.W.fnOf "__init__" qual (oneArgs f p1 p2) (oneBody f q1 q2 q3 q4) (oneScope f) .none kV doc pm an cdv ct), osl⟩ ∧ PySem.W.codeIn K cdv qual = true := by
  obtain ⟨oc, od, dV, kV, doc, pm, an, cdv, ct, osl, rfl, lk, hcd, hd, hk⟩ := F.ex
  subst e1 e2 e3
  rcases hd with ⟨_, rfl⟩ | ⟨z, _⟩
  · exact ⟨oc, od, kV, doc, pm, an, cdv, ct, osl, p1, p2, q1, q2, q3, q4, lk, hcd⟩
  · exact absurd rfl z
/-- a def that keeps its promise, with what a caller asks besides -/
def Good (P : Program) (w : World) (K : PySem.W.Frag) (mg : Str → Option Value) (base : Heap) (CX : CXT) (k : Nat) (f : Addr) (ps : List Str) (sp : Sp) : Prop :=
  ∃ fd, FnOk P w K mg base CX k f fd ps sp ∧ PySem.W.keepIn K (.ref f) = true ∧ Binds K fd ps []
/-- .. and how it is called by keywords -/
def GoodK (P : Program) (w : World) (K : PySem.W.Frag) (mg : Str → Option Value) (base : Heap) (CX : CXT) (k : Nat) (f : Addr) (ps ks : List Str) (sp : Sp) : Prop :=
  ∃ fd, FnOk P w K mg base CX k f fd ps sp ∧ PySem.W.keepIn K (.ref f) = true ∧ Binds K fd ps [] ∧ KwSelf K fd ps ks
theorem GoodK.good {P : Program} {w : World} {K : PySem.W.Frag} {mg : Str → Option Value} {base : Heap} {CX : CXT} {k : Nat} {f : Addr} {ps ks : List Str} {sp : Sp} (h : GoodK P w K mg base CX k f ps ks sp) : Good P w K mg base CX k f ps sp := by
  obtain ⟨fd, a, b, c, _⟩ := h
  exact ⟨fd, a, b, c⟩
theorem kwSelf_of {K : PySem.W.Frag} {x qual : Str} {params : Arguments} {body : List Stmt} {scope : Scope} {kws : List (Str × V)} {f : Addr} {fd : FuncData} {ps ks : List Str} (F : FunD K x qual params body scope [] kws f fd)
    (h : ∀ (kV doc pm : Value) (an : Option Addr) (cdv ct : Value) (u : Value) (ws : List Value), (u :: ws).length = ps.length → bindArgs (PySem.W.fnOf x qual params body scope .none kV doc pm an cdv ct) ⟨[u], ks.zip ws⟩ = pure (ps.zip (u :: ws))) : KwSelf K fd ps ks := by
  obtain ⟨oc, od, dV, kV, doc, pm, an, cdv, ct, osl, rfl, lk, hcd, hD, hK⟩ := F.ex
  rcases hD with ⟨_, rfl⟩ | ⟨e, _⟩
  · exact fun s u ws _ hl => .of_eq (h kV doc pm an cdv ct u ws hl)
  · exact absurd rfl e
end Xo
set_option Elab.async false
set_option linter.all false
set_option maxRecDepth 100000
set_option maxHeartbeats 2000000
/-! Comprehensions that only look: what they list, by a function of the items. -/
namespace Xo
open PySem PySem.Spec PyProof.Rows L2
/-- one turn of such a comprehension for the item v, D its list; nx what is wanted of the heap behind it -/
abbrev LcTurn (g : TG) (tt : TT) (te : TE) (vs : List Nat) (σ : L2.St) (D : Addr) (v : V) (h : Hp) (nx : Hp → Prop) : Prop :=
  g v (wipe σ vs) h fun s2 h2 => wipe s2 vs = wipe σ vs ∧ tt s2 h2 fun c h3 => if c = true then te s2 h3 fun z h4 => ∃ l, h4 D = some (.lst l) ∧ l.length < sizeLine ∧ nx (upd h4 D (.lst (l ++ [z]))) else nx h3
def fmNext (D : Addr) (acc : List V) (h : Hp) (nx : Hp → Prop) : Option V → Prop
  | some y => nx (upd h D (.lst (acc ++ [y])))
  | none => nx h
section
variable {g : TG} {tt : TT} {te : TE} {vs : List Nat} {σ : L2.St} {H1 : Hp} {D : Addr} {Qd : Hp → Prop}
theorem fm_grow {α : Type} (F : α → Option V) {ys : List α} {i : Nat} {y : α} (h : ys[i]? = some y) : (ys.take (i + 1)).filterMap F = (ys.take i).filterMap F ++ (F y).toList := by
  rw [List.take_succ, h, List.filterMap_append]
  cases e : F y <;> simp [List.filterMap, e]
theorem fm_len {α : Type} (F : α → Option V) {ys : List α} {i : Nat} (hn : ys.length < sizeLine) : ((ys.take i).filterMap F).length < sizeLine :=
  Nat.lt_of_le_of_lt (Nat.le_trans (List.length_filterMap_le _ _) (List.length_take_le' _ _)) hn
theorem fm_step {α : Type} (F : α → Option V) {ys : List α} {i : Nat} {y : α} {h : Hp} (hy : ys[i]? = some y) (hD : H1 D = none) (s : Same H1 h) (e : h D = some (.lst ((ys.take i).filterMap F))) :
    fmNext D ((ys.take i).filterMap F) h (fun h' => Same H1 h' ∧ h' D = some (.lst ((ys.take (i + 1)).filterMap F))) (F y) := by
  rw [fm_grow F hy]
  cases q : F y with
  | none => exact ⟨s, by rw [e]; simp⟩
  | some z => exact ⟨fun a u z' => by rw [upd_ne (ne_of_none z' hD)]; exact s a u z', upd_same⟩
/-- over a tracked list -/
theorem lc_fm {α : Type} {K : PySem.W.Frag} {a : Addr} (f : α → V) (ys : List α) (F : α → Option V) (hx : SqL K H1 a (ys.map f)) (hD : H1 D = none) (hn : ys.length < sizeLine)
    (hs : ∀ (i : Nat) (y : α) (h : Hp) (acc : List V) (nx : Hp → Prop), ys[i]? = some y → Same H1 h → h D = some (.lst acc) → acc.length < sizeLine → fmNext D acc h nx (F y) → LcTurn g tt te vs σ D (f y) h nx)
    (hd : ∀ h, Same H1 h → h D = some (.lst (ys.filterMap F)) → Qd h) :
    ∃ W : Nat → Nat → Hp → Prop, (∃ m, W 0 m (upd H1 D (.lst []))) ∧ ∀ i m h, W i m h → ((Itl K a).stop i h ∧ Qd h) ∨
      ((Itl K a).go i h ∧ ∃ nx : Hp → Prop, (∀ h', nx h' → ∃ m', m' < m ∧ W (i + 1) m' h') ∧ ∀ v h', (Itl K a).yld i h v h' → LcTurn g tt te vs σ D v h' nx) := by
  have hn' : H1 D = none := hD
  refine lc_list (fun i h => Same H1 h ∧ h D = some (.lst ((ys.take i).filterMap F))) ⟨fun b u z => by rw [upd_ne (ne_of_none z hD)]; exact z, upd_same⟩ (fun i h _ ⟨s, _⟩ => s.seq hx) (fun i v h hv ⟨s, e⟩ => ?_) (fun h ⟨s, e⟩ => ?_)
  · obtain ⟨y, hy, rfl⟩ : ∃ y, ys[i]? = some y ∧ v = f y := by
      rw [List.getElem?_map] at hv
      cases q : ys[i]? with
      | none => rw [q] at hv; cases hv
      | some y => rw [q] at hv; exact ⟨y, rfl, (Option.some.inj hv).symm⟩
    exact hs i y h _ _ hy s e (fm_len F hn) (fm_step F hy hD s e)
  · rw [List.length_map, List.take_length] at e
    exact hd h s e
/-- over range -/
theorem lc_fmR {lo : Int} {n : Nat} (F : Nat → Option V) (hD : H1 D = none) (hn : n < sizeLine)
    (hs : ∀ (i : Nat) (h : Hp) (acc : List V) (nx : Hp → Prop), i < n → Same H1 h → h D = some (.lst acc) → acc.length < sizeLine → fmNext D acc h nx (F i) → LcTurn g tt te vs σ D (.int (lo + i)) h nx)
    (hd : ∀ h, Same H1 h → h D = some (.lst ((List.range n).filterMap F)) → Qd h) :
    ∃ W : Nat → Nat → Hp → Prop, (∃ m, W 0 m (upd H1 D (.lst []))) ∧ ∀ i m h, W i m h → ((Itr lo n).stop i h ∧ Qd h) ∨
      ((Itr lo n).go i h ∧ ∃ nx : Hp → Prop, (∀ h', nx h' → ∃ m', m' < m ∧ W (i + 1) m' h') ∧ ∀ v h', (Itr lo n).yld i h v h' → LcTurn g tt te vs σ D v h' nx) := by
  have hl : (List.range n).length < sizeLine := by rw [List.length_range]; exact hn
  refine lc_range (fun i h => Same H1 h ∧ h D = some (.lst (((List.range n).take i).filterMap F))) ⟨fun b u z => by rw [upd_ne (ne_of_none z hD)]; exact z, upd_same⟩ (fun i h hi ⟨s, e⟩ => ?_) (fun h ⟨s, e⟩ => ?_)
  · have hy : (List.range n)[i]? = some i := by rw [List.getElem?_range hi]
    exact hs i h _ _ hi s e (fm_len F hl) (fm_step F hy hD s e)
  · have q : (List.range n).take n = List.range n := List.take_of_length_le (by simp)
    rw [q] at e
    exact hd h s e
end
section
variable {X : Cx} (K : PySem.W.Frag) (hK : X.K = K)
include hK
theorem tupG {es : List Expr} {k : Nat} {t : TGs} {n : Nat} {pos : Pos} (hc : X.calm = true) (h : PGs X es t)
    (hn : (assignEach es X.env).length = n := by rfl) (hst : (assignEach es X.env).findIdx? (·.1) = none := by rfl) : PG X (.Tuple es k pos) (gTup K n t) := by
  subst hK; exact pg_tup hc h hn hst
end
/-- isinstance of the exception that a suite holds, its class told by the reading -/
def rIsX2 (K : PySem.W.Frag) (cls : Value) (a : Addr) (d : Option Addr) : List V → Hp → VK → Prop := fun xs H Q => ∃ D : Addr, cls = .ref D ∧ Ic K D ∧ rIsX K D a d xs H Q
theorem call_isX2 {X : Cx} {a : Addr} {cls : Value} {d : Option Addr} {oe : Obj} {pn : List (Addr × Obj)} (hz : Zc cls d oe) (hf : ∃ vs, oe.data = .fields vs) : CallR (X.suite a ((a, oe) :: pn)) (.builtin "isinstance") (rIsX2 X.K cls a d) := by
  intro pins s σ H xs us Q I r h
  obtain ⟨D, rfl, C, h⟩ := h
  exact call_isX C hz hf pins s σ H xs us Q I r h
theorem xf_one {K : PySem.W.Frag} {C fI : Addr} {f qual : Str} {bm : List Value} {nid : String} (T : One K C fI f qual bm nid) : XfC K C := ⟨T.ga, T.gg, T.exC, T.hdC⟩
end Xo
set_option Elab.async false
set_option linter.all false
set_option maxRecDepth 100000
set_option maxHeartbeats 4000000
/-! `None in` a list of lists. -/
namespace Xo
open PySem PySem.Spec PyProof.Rows L2
def rNoneInL (K : PySem.W.Frag) : R2 := fun x y H Q => ∃ p xs, x = .non ∧ y = .ref p ∧ SqL K H p xs ∧ (∀ z ∈ xs, ∃ a ys, z = .ref a ∧ SqL K H a ys) ∧ Q (.bl false) H
section
variable {X : Cx}
theorem mem_nonL {A : Around} {pins : List (Addr × Obj)} {σ : L2.St} {H : Hp} {s : Shared} (I : Inv X pins σ H s) (hu : A.units < cLine) : ∀ {xs : List V} {us : List Value}, Vals xs us → (∀ z ∈ xs, ∃ a ys, z = .ref a ∧ SqL X.K H a ys) → ∀ u ∈ us, SeqAt.EqAt A s u .none false
  | _, _, .nil, _ => fun u hu' => by cases hu'
  | y :: xs, u :: us, .cons r t, f => fun u' hu' => by
    rcases List.mem_cons.mp hu' with e | hu'
    · subst e
      obtain ⟨a, ys, rfl, hq⟩ := f y (List.mem_cons_self ..)
      obtain ⟨its, rv, hl, _⟩ := I.list hq
      cases r
      exact SeqAt.EqAt.list_none hl.isList hu
    · exact mem_nonL I hu t (fun z hz => f z (List.mem_cons_of_mem _ hz)) u' hu'
theorem op_noneInL (hu : X.A.units + 64 < cLine) : OpR X (compareOp .In) (rNoneInL X.K) := by
  intro pins s σ H x y v u Q I rx ry h
  obtain ⟨p, xs, rfl, rfl, hq, f, q⟩ := h
  cases rx
  cases ry
  obtain ⟨its, rv, hl, _⟩ := I.list hq
  have hu1 : X.A.in1.units < cLine := by show X.A.units + 1 < cLine; omega
  refine SeqAt.in_listAt (fun _ => false) hl.isList (fun z hz => mem_nonL I hu1 rv f z (by simpa using hz)) ⟨.bl _, H, I, rfl, ?_⟩
  rw [show its.toArray.any (fun _ => false) = false from by simp]
  exact q
end
end Xo
set_option Elab.async false
set_option linter.all false
set_option maxRecDepth 100000
set_option maxHeartbeats 4000000
/-! A comprehension within a comprehension. -/
namespace Xo
open PySem PySem.Spec PyProof.Rows L2
theorem lookup_map {α : Type} (f : Str → α → α) (x : Str) : ∀ ns : List (Str × α), (ns.map fun p => (p.1, f p.1 p.2)).lookup x = (ns.lookup x).map (f x)
  | [] => rfl
  | (n, k) :: r => by
    rw [List.map_cons, List.lookup_cons, List.lookup_cons]
    by_cases c : x = n
    · subst c; simp
    · have : (x == n) = false := by simpa using c
      simp only [this]
      exact lookup_map f x r
theorem blkOk_in {N : List Str} {sc scope : Scope} {env : Env} {own : List (Str × Nat)} (h : blkC N sc scope own = true) : BlkOk N (relabel sc env) scope own := by
  have B := blkOk_by h
  refine ⟨B.kind, B.uniq, B.ix, fun y hy hf => ?_, B.own⟩
  have e : (relabel sc env).names.lookup y.1 = (sc.names.lookup y.1).map fun k => if (k == NameKind.free && env.scope.kind == .function && env.kindOf y.1 == some .cell) then NameKind.cell else k := by
    rw [← lookup_map (fun n k => if (k == NameKind.free && env.scope.kind == .function && env.kindOf n == some .cell) then NameKind.cell else k)]
    unfold relabel
    simp only
    congr 1
    apply List.map_congr_left
    rintro ⟨n, k⟩ _
    simp only
    split <;> rfl
  rw [e]
  rcases B.free y hy hf with z | z
  · rw [z]; exact .inl (by simp)
  · rw [z]
    simp only [Option.map_some]
    split
    · exact .inl rfl
    · exact .inr rfl
end Xo
set_option Elab.async false
set_option linter.all false
set_option maxRecDepth 100000
set_option maxHeartbeats 2000000
/-! The head's facts by names, with tables; own exceptions of two fields; a written dict copied; staticmethods called. -/
namespace Xo
open PySem PySem.Spec PyProof.Rows L2 He
abbrev AlZ : Type := AlX × List (Option (List (Option (Str × Int)))) × AlD
abbrev DefA : Type := He5.DefA
def obsZ (fa : List Fa) (fn : List DefD) (xs : List Lk) (ts : List Tab) (fs : List DefA) (K : PySem.W.Frag) : AlZ := (obsX fa fn xs K, ts.map fun t => dicW K (t.1 K), He5.obsA [] fs K)
def valZ (fn : List DefD) (ts : List Tab) (fs : List DefA) (w : World) : AlZ := (valX fn, ts.map fun t => some (keysIn w.params t.2), He5.valA fs)
def SaysZ (fa : List Fa) (fn : List DefD) (xs : List Lk) (ts : List Tab) (fs : List DefA) (w : World) (K : PySem.W.Frag) : Prop := obsZ fa fn xs ts fs K = valZ fn ts fs w
def obsZG (n : Nat) (fa : List Fa) (fn : List DefD) (xs : List Lk) (ts : List Tab) (fs : List DefA) (g : Addr → Option Obj) : AlZ := obsZ fa fn xs ts fs (frG g (He5.asA g n))
def hookZ (n : Nat) (fa : List Fa) (fn : List DefD) (xs : List Lk) (ts : List Tab) (fs : List DefA) : PySem.W.Hook where
  α := AlZ
  obs := fun s => obsZG n fa fn xs ts fs s.heap.get?
  val := fun w => valZ fn ts fs w
  says := fun w h => ∃ K : PySem.W.Frag, K.In h ∧ SaysZ fa fn xs ts fs w K
  of := fun _ _ e => ⟨_, frG_in, e⟩
  keeps := fun _ _ _ ⟨K, hK, c⟩ k => ⟨K, PySem.W.Frag.In.keeps hK k, c⟩
theorem obsZG_eq {n : Nat} {fa : List Fa} {fn : List DefD} {xs : List Lk} {ts : List Tab} {fs : List DefA} {g : Addr → Option Obj} {s : Shared} (h : ∀ a, g a = s.heap.get? a) : obsZG n fa fn xs ts fs g = (hookZ n fa fn xs ts fs).obs s := by
  have e : g = s.heap.get? := funext h
  rw [e] <;> rfl
section
variable {fa : List Fa} {fn : List DefD} {xs : List Lk} {ts : List Tab} {fs : List DefA} {w : World} {K : PySem.W.Frag}
theorem SaysZ.x (c : SaysZ fa fn xs ts fs w K) : SaysX fa fn xs K := congrArg (fun z : AlZ => z.1) c
theorem SaysZ.s (c : SaysZ fa fn xs ts fs w K) : He5.SaysA [] fs K := congrArg (fun z : AlZ => z.2.2) c
theorem SaysZ.tab (c : SaysZ fa fn xs ts fs w K) (i : Nat) {t : Tab} (h : ts[i]? = some t := by rfl) : ∃ es n, KDict K w (t.1 K) es n := by
  have e : ts.map (fun t => dicW K (t.1 K)) = ts.map fun t => some (keysIn w.params t.2) := congrArg (fun z : AlZ => z.2.1) c
  have e2 : (ts.map fun t => dicW K (t.1 K))[i]? = (ts.map fun t => some (keysIn w.params t.2))[i]? := by rw [e]
  rw [List.getElem?_map, List.getElem?_map, h] at e2
  exact dicW_ok (Option.some.inj e2)
end
/-! ### own exceptions of two fields over ValueError -/
structure TwoC (K : PySem.W.Frag) (C fI : Addr) (fs : List Str) : Prop where
  oex : OexC K C
  iC : PySem.W.findIn K (.ref C) "__init__" = some (some (.ref fI))
  tI : PySem.W.typeIn K (.ref fI) = some (.type "function")
  no : ∀ f ∈ fs, PySem.W.findIn K (.ref C) f = some none
  ic : Ic K C
  xf : XfC K C
def oexB (K : PySem.W.Frag) (C : Addr) : Bool := match K.lookup C with
  | some ⟨.type "type", _, .cls cd, sl⟩ => (match cd.mro, sl.toList with
    | .ref C' :: bm, [_, _, _, _, some (.builtin n), _] => C' == C && (n == "ValueError.__new__" && (!cd.hasDel && (cd.hasDict && PySem.HandSPX.refsVE bm)))
    | _, _ => false)
  | _ => false
theorem oexB_ok {K : PySem.W.Frag} {C : Addr} (q : oexB K C = true) : ∃ nm q N bs bm sn sub ab col dd k0 k1 k2 k3 k5, K.lookup C = some (excClassObj nm q C N bs bm true sn sub ab col dd k0 k1 k2 k3 k5 "ValueError.__new__") ∧ PySem.HandSPX.refsVE bm = true := by
  unfold oexB at q
  split at q
  · rename_i dd cd sl ho
    split at q
    · rename_i C' bm k0 k1 k2 k3 n k5 hm hs
      simp only [Bool.and_eq_true, beq_iff_eq, Bool.not_eq_true'] at q
      obtain ⟨rfl, rfl, hdel, hdi, ht⟩ := q
      obtain ⟨nm, bs, mro, ns, qn, hd, sn, sub, ab, col, del⟩ := cd
      dsimp only at hm hdel hdi
      subst hm hdel hdi
      have hsl : sl = #[k0, k1, k2, k3, some (.builtin "ValueError.__new__"), k5] := by
        obtain ⟨l⟩ := sl
        simp only at hs
        rw [hs]
      subst hsl
      exact ⟨nm, qn, ns, bs, bm, sn, sub, ab, col, dd, k0, k1, k2, k3, k5, ho, ht⟩
    · cases q
  · cases q
def twoB (x : Str) (fs : List Str) (K : PySem.W.Frag) : Bool :=
  oexB K (ga K x) && (decide (PySem.W.findIn K (.ref (ga K x)) "__setattr__" = some (some (.builtin "object.__setattr__"))) &&
  (decide (PySem.W.findIn K (.ref (ga K x)) "__init__" = some (some (.ref (ma K (ga K x) "__init__")))) && (decide (PySem.W.typeIn K (.ref (ma K (ga K x) "__init__")) = some (.type "function")) && (PySem.W.keepIn K (.ref (ga K x)) &&
  (decide (PySem.W.typeIn K (.ref (ga K x)) = some (.type "type")) && (PySem.W.hasDictIn K (ga K x) && ((fs.all fun f => decide (PySem.W.findIn K (.ref (ga K x)) f = some none)) && icB K (ga K x))))))))
theorem twoB_ok {x : Str} {fs : List Str} {K : PySem.W.Frag} (h : twoB x fs K = true) : TwoC K (ga K x) (ma K (ga K x) "__init__") fs := by
  unfold twoB at h
  simp only [Bool.and_eq_true, decide_eq_true_eq] at h
  obtain ⟨h1, h2, h3, h4, h5, h6, h7, h8, h9⟩ := h
  have C := icB_ok h9
  exact ⟨⟨oexB_ok h1, h2, C.sub, h6, h5⟩, h3, h4, fun f m => of_decide_eq_true (List.all_eq_true.mp h8 f m), C, ⟨C.ga, C.gg, C.sub, h7⟩⟩
/-- what such an __init__ keeps -/
def spIni2 (C : Addr) (f1 f2 : Str) : Sp := fun vs H Q _ => ∃ (a : Addr) (v1 v2 : V), vs = [.ref a, v1, v2] ∧ H a = some (exo a C none) ∧ ∀ dx, H dx = none → dx ≠ a → Q .non (upd (upd (upd H dx (exd dx [(f1, v1)])) a (exo a C (some dx))) dx (exd dx [(f2, v2), (f1, v1)]))
theorem mkO_two {C : Addr} {f1 f2 : Str} {v1 v2 : V} {H1 : Hp} {Q : XK} (q : ∀ d, H1 d = none → Q (.ref C) (some d) (upd H1 d (.xd [(f2, v2), (f1, v1)]))) :
    [v1, v2].length ≤ 1000 ∧ ∀ a, H1 a = none → spIni2 C f1 f2 (.ref a :: ([v1, v2] ++ [])) (upd H1 a (exo a C none))
      (fun v H2 => v = .non ∧ ∃ (d : Addr) (fs : List (Str × V)), H2 a = some (exo a C (some d)) ∧ H2 d = some (exd d fs) ∧ H1 d = none ∧ Q (.ref C) (some d) (upd (del H2 a) d (.xd fs))) (fun _ _ _ => False) := by
  refine ⟨by show 2 ≤ 1000; decide, fun a ha => ⟨a, v1, v2, rfl, upd_same, fun dx hdx hne => ⟨rfl, dx, _, ?_, upd_same, ?_, ?_⟩⟩⟩
  · rw [upd_ne (Ne.symm hne)]; exact upd_same
  · rw [upd_ne hne] at hdx; exact hdx
  · have h1 : H1 dx = none := by rw [upd_ne hne] at hdx; exact hdx
    have e : upd (del (upd (upd (upd (upd H1 a (exo a C none)) dx (exd dx [(f1, v1)])) a (exo a C (some dx))) dx (exd dx [(f2, v2), (f1, v1)])) a) dx (.xd [(f2, v2), (f1, v1)]) = upd H1 dx (.xd [(f2, v2), (f1, v1)]) := by
      funext b
      by_cases c : b = dx
      · subst c; rw [upd_same, upd_same]
      · rw [upd_ne c, upd_ne c]
        by_cases c2 : b = a
        · subst c2; rw [del_same, ha]
        · rw [del_ne c2, upd_ne c, upd_ne c2, upd_ne c, upd_ne c2]
    rw [e]
    exact q dx h1
/-! ### a written dict of text keys and ints, copied -/
def entI (e : DictEntry) : Option (Str × Int) := match e.key, e.val with
  | .str x _, .int i _ => some (x, i)
  | _, _ => none
def intsB (x : Str) (kvs : List (Str × Int)) (K : PySem.W.Frag) : Bool := match K.lookup (ga K x) with
  | some ⟨_, _, .dict es _, _⟩ => decide (es.toList.map entI = kvs.map some) && decide ((kvs.map (·.1)).Nodup)
  | _ => false
structure IntsD (K : PySem.W.Frag) (w : World) (d : Addr) (kvs : List (Str × Int)) : Prop where
  ex : ∃ es n, KDict K w d es n ∧ es.toList.map entI = kvs.map some
  nd : (kvs.map (·.1)).Nodup
theorem intsB_ok {x : Str} {kvs : List (Str × Int)} {K : PySem.W.Frag} {w : World} (h : intsB x kvs K = true) (D : ∃ es n, KDict K w (ga K x) es n) : IntsD K w (ga K x) kvs := by
  obtain ⟨es, n, D⟩ := D
  unfold intsB at h
  rw [D.at_] at h
  obtain ⟨h1, h2⟩ := ba h
  exact ⟨⟨es, n, D, of_decide_eq_true h1⟩, of_decide_eq_true h2⟩
def kvI (kvs : List (Str × Int)) : List (Key × V) := kvs.map fun p => (Sum.inr p.1, .int p.2)
theorem entI_shape {e : DictEntry} {p : Str × Int} (h : entI e = some p) : ∃ t u, e.key = .str p.1 t ∧ e.val = .int p.2 u := by
  unfold entI at h
  split at h
  · rename_i x t i u e1 e2
    cases h
    exact ⟨t, u, e1, e2⟩
  · cases h
theorem ints_pairs {P : Program} {w : World} : ∀ (es : List DictEntry) (kvs : List (Str × Int)), es.map entI = kvs.map some → ∃ vs : List (Key × Value), KV (kvI kvs) vs ∧ Pairs (mixKind P w) es vs
  | [], [], _ => ⟨[], .nil, .nil⟩
  | [], _ :: _, h => by cases h
  | _ :: _, [], h => by cases h
  | e :: es, p :: kvs, h => by
    rw [List.map_cons, List.map_cons] at h
    obtain ⟨h1, h2⟩ := List.cons.inj h
    obtain ⟨vs, q1, q2⟩ := ints_pairs es kvs h2
    obtain ⟨t, u, e1, e2⟩ := entI_shape h1
    refine ⟨(Sum.inr p.1, .int p.2 u) :: vs, .cons ⟨rfl, ⟨u, rfl⟩⟩ q1, ?_⟩
    exact .cons (by rw [e1]; show Value.isStrOf p.1 (.str p.1 t) = true; simp [Value.isStrOf]) e2 q2
theorem call_dict_ints {X : Cx} {d : Addr} {kvs : List (Str × Int)} (D : IntsD X.K X.w d kvs) (hz : kvs.length ≤ 1000) : CallR X (.type "dict") (fun xs H Q => xs = [.ref d] ∧ ∀ p, H p = none → Q (.ref p) (upd H p (.dK (kvI kvs)))) := by
  intro pins s σ H xs us Q I r q
  obtain ⟨ex, q⟩ := q
  subst ex
  obtain ⟨u, eu, rx⟩ := vals1 r
  subst eu
  cases rx
  obtain ⟨⟨es, n, KD, he⟩, nd⟩ := D
  have hl : es.toList.length = kvs.length := by have := congrArg List.length he; simpa using this
  obtain ⟨vs, rel, dd⟩ : ∃ vs : List (Key × Value), KV (kvI kvs) vs ∧ s.heap.DictOf (mixKind X.prog X.w) d vs := by
    obtain ⟨vs, h1, h2⟩ := ints_pairs (w := X.w) (P := X.prog) es.toList kvs he
    refine ⟨vs, h1, _, es, n, I.kIn _ _ KD.at_, ⟨rfl, rfl, rfl⟩, rfl, fun e hm => ?_, h2, ?_⟩
    · obtain ⟨x, t, e1, e2⟩ := KD.lit.all e (Array.mem_toList_iff.mpr hm)
      exact ⟨Sum.inr x, by rw [e1]; show Value.isStrOf x (.str x t) = true; simp [Value.isStrOf], e2⟩
    · rw [← h1.keys]
      unfold kvI
      rw [List.map_map]
      have : (kvs.map ((fun p : Key × V => p.1) ∘ fun p : Str × Int => ((Sum.inr p.1 : Key), V.int p.2))) = (kvs.map (·.1)).map (Sum.inr : Str → Key) := by rw [List.map_map]; rfl
      rw [this]
      rw [List.nodup_iff_pairwise_ne, List.pairwise_map]
      exact (List.nodup_iff_pairwise_ne.mp nd).imp fun hne z => hne (Sum.inr.inj z)
  have hsz : vs.length ≤ sizeLine := by
    rw [← rel.length]
    unfold kvI
    rw [List.length_map, sizeLine_eq]
    omega
  refine PySem.kt_call_dict KD.low dd hsz fun h' d' hs => ?_
  have hm : (s.heap.objs.size == sysModules) = false := beq_eq_false_iff_ne.mpr (Nat.ne_of_gt I.big)
  exact ⟨.ref s.heap.objs.size, upd H s.heap.objs.size (.dK (kvI kvs)), I.laid (t' := s.toks) (fun b u e => (hs.2 b (Nat.ne_of_lt (Heap.lt_size e))).trans (Heap.get?_push_of_some _ e)) (Nat.le_refl _)
    (show ObjOk X.prog X.w _ _ _ (.dK (kvI kvs)) from ⟨by rw [rel.length]; exact hsz, hm, vs, rel, d'⟩), rfl, q _ (I.hok.fresh (Nat.le_refl _))⟩
/-! ### staticmethods -/
/-- C.m is a staticmethod around the def at g -/
structure SMet (K : PySem.W.Frag) (C : Addr) (m : Str) (g : Addr) : Prop where
  rd : PySem.W.readsIn K C (.type "type") = true
  ga : PySem.W.specialIn K (.ref C) "__getattribute__" = some (some (.builtin "type.__getattribute__"))
  at_ : ∃ p, PySem.W.findCls K (.ref C) (.type "type") m = some (.get (.builtin "staticmethod.__get__") (.ref p) .none (.ref C)) ∧ ∃ rest, PySem.W.recIn K p "staticmethod" = some (.ref g :: rest)
  kp : PySem.W.keepIn K (.ref g) = true
def smB (x m : Str) (K : PySem.W.Frag) : Bool := PySem.W.readsIn K (ga K x) (.type "type") && (decide (PySem.W.specialIn K (.ref (ga K x)) "__getattribute__" = some (some (.builtin "type.__getattribute__"))) && (He5.wrapB K (ga K x) "staticmethod" "staticmethod.__get__" m && PySem.W.keepIn K (.ref (He5.wf K (ga K x) "staticmethod" m))))
theorem smB_ok {x m : Str} {K : PySem.W.Frag} (h : smB x m K = true) : SMet K (ga K x) m (He5.wf K (ga K x) "staticmethod" m) := by
  unfold smB at h
  simp only [Bool.and_eq_true, decide_eq_true_eq] at h
  obtain ⟨h1, h2, h3, h4⟩ := h
  obtain ⟨q1, q2⟩ := He5.wrapB_ok h3
  exact ⟨h1, h2, ⟨_, q1, q2⟩, h4⟩
section
variable {X : Cx} {CX : CXT} {k : Nat} {C g : Addr} {sp : Sp} {E : XK} {o e : Expr} {es : List Expr} {m : Str} {pos apos : Pos} {ta : TE} {t : TA} {pl : Sem Bool} {pins : List (Addr × Obj)} {σ : L2.St} {H : Hp} {s : Shared}
theorem getsm_ok {Q : Value × List Value → Shared → Prop} {A : Around} {E : Value → Shared → Prop} (I : Inv X pins σ H s) (r : SMet X.K C m g) (h : ∀ s', Inv X pins σ H s' → Q (.ref g, []) s') : wpAny (model X.prog X.w) A (getMethod (.ref C) m pl) Q E s := by
  obtain ⟨p, h1, rest, hp⟩ := r.at_
  refine PySem.W.method_cls I.kIn r.ga ?_
  refine PySem.W.cls_bind I.kIn r.rd h1 ?_
  refine wpAny_call (PySem.W.sm_get (s := { s with toks := s.toks + 1 }) I.kIn hp (PySem.W.handed_on rfl ?_))
  exact h _ (I.tok _)
/-- e.m(..), e the class at C, m a staticmethod -/
def tSMeth (C : Addr) (sp : Sp) (E : XK) (ta : TE) (t : TA) : TE := fun σ H Q => ta σ H fun x H1 => x = .ref C ∧ t σ H1 fun vs H2 => sp vs H2 Q E
theorem pe_smeth (he : PE X o ta) (r : SMet X.K C m g) (F : FnR X.prog X.w X.K X.mg X.base CX k g sp) (hr : Room k X.A) (hx : Passes CX X E) (ha : PA X (e :: es) t)
    (hst : starEach (e :: es) X.env = (false, eval e X.env) :: starEach es X.env := by rfl) (hpl : (backTo pos (starEach es X.env)).any (·.1) = false := by rfl)
    (ht : eval (.Call (.Attribute o m apos) (e :: es) [] pos) X.env = (do
      let ov ← eval o X.env
      standAt apos.atName
      let (f, first) ← holding [ov] (getMethod ov m pl)
      callWith pos f first (backTo pos (starEach (e :: es) X.env)) (backToKw pos (keywordEach [] X.env))) := by rfl) :
    PE X (.Call (.Attribute o m apos) (e :: es) [] pos) (tSMeth C sp E ta t) := by
  refine ⟨fun pins s σ H Q I h => ?_⟩
  refine PySem.W.methodCall_KW (pl := pl) (thn (he.run pins s σ H _ I h) fun u s1 ⟨x, H1, I1, rx, ex, q⟩ => ?_) ht
  subst ex
  obtain rfl : u = Value.ref C := rx
  refine getsm_ok I1 r fun s2 I2 => ?_
  refine PySem.W.callWith_K (h₀ := X.base) I2.ok.mod.kin r.kp (thn (ha.run pos pins s2 σ H1 _ I2 q) fun us s3 ⟨vs, H2, I3, rv, q2⟩ => ⟨I3.kIn, ?_⟩) hst hpl
  exact wpAny_call (run_fnR (us := us) (vs := vs) F hr hx I3 rv q2)
theorem pe_smeth0 (he : PE X o ta) (r : SMet X.K C m g) (F : FnR X.prog X.w X.K X.mg X.base CX k g sp) (hr : Room k X.A) (hx : Passes CX X E)
    (ht : eval (.Call (.Attribute o m apos) [] [] pos) X.env = (do
      let ov ← eval o X.env
      standAt apos.atName
      let (f, first) ← holding [ov] (getMethod ov m pl)
      callWith pos f first (backTo pos (starEach [] X.env)) (backToKw pos (keywordEach [] X.env))) := by rfl) :
    PE X (.Call (.Attribute o m apos) [] [] pos) (tSMeth C sp E ta tNil) := by
  refine ⟨fun pins s σ H Q I h => ?_⟩
  refine PySem.W.methodCall_KW (pl := pl) (thn (he.run pins s σ H _ I h) fun u s1 ⟨x, H1, I1, rx, ex, q⟩ => ?_) ht
  subst ex
  obtain rfl : u = Value.ref C := rx
  refine getsm_ok I1 r fun s2 I2 => ?_
  refine PySem.W.callWith_K0 I2.kIn r.kp ?_
  exact wpAny_call (run_fnR (us := []) (vs := []) F hr hx I2 .nil q)
end
end Xo
set_option Elab.async false
set_option linter.all false
set_option maxRecDepth 100000
set_option maxHeartbeats 2000000
/-! list(zip(a, b)) over lists and tuples. -/
namespace PySem
open Sem (wp)
/-- a zip whose last tuple (at a) is held by another -/
abbrev IsZipO (h : Heap) (z TI TO a : Addr) (f : Bool) : Prop :=
  h.get? z = some { cls := .type "zip", dict := none, data := .fields #[rawInt a, .bool f, .bool false, .ref TI, .ref TO], slots := #[] }
section
variable {prog : Program} {w : World} {A : Around} {E : Value → Shared → Prop} {s : Shared} {z TI TO i1 i2 a : Addr} {f : Bool} {oa : Obj} {fp1 fp2 : List Addr} {n1 n2 i : Nat} {P1 P2 : Nat → Value → Prop} {St1 St2 : Nat → Heap → Prop} {a1 a2 : Value}
theorem xz_free {Q : Bool → Shared → Prop} (hz : IsZipO s.heap z TI TO a f) (ha : s.heap.get? a = some oa)
    (hQ : ∀ h', IsZipO h' z TI TO a true → Heap.SameBut z s.heap h' → Q false { s with heap := h' }) : wpAny (model prog w) A (Builtin.SmallTypes.ownedTupleIsFree (.ref z)) Q E s := by
  obtain ⟨hp, g, d, tk0, os⟩ := s
  unfold Builtin.SmallTypes.ownedTupleIsFree
  refine wpAny_bind (wpAny_field hz rfl (x := rawInt a) rfl ?_)
  show wpAny _ _ (loadIfAlive ((a : Int).toNat) >>= _) _ _ _
  rw [Int.toNat_natCast]
  refine wpAny_bind (PySem.W.kdx_alive ha ?_)
  simp only [Option.isNone_some, Bool.false_eq_true, if_false]
  refine wpAny_bind (wpAny_field hz rfl (x := .bool f) rfl ?_)
  cases f with
  | true =>
    rw [if_neg (show ¬ ((Value.bool true != Value.bool true) = true) from Bool.false_ne_true)]
    exact wpAny_pure (hQ hp hz (Heap.SameBut.refl _ _))
  | false =>
    rw [if_pos (show (Value.bool false != Value.bool true) = true from rfl)]
    refine wpAny_bind (wpAny_setField_rec hz (by simp) fun h₃ he₃ hs₃ => ?_)
    exact wpAny_pure (hQ h₃ he₃ hs₃)
theorem xz_next_item {Q : Value → Shared → Prop} (S : ZipSep2 z TI TO i1 i2 fp1 fp2) (D1 : Draws prog w A i1 fp1 n1 P1 St1) (D2 : Draws prog w A i2 fp2 n2 P2 St2)
    (hz : IsZipO s.heap z TI TO a f) (ha : s.heap.get? a = some oa) (hTI : IsTupOf2 s.heap TI (.ref i1) (.ref i2)) (st1 : St1 i s.heap) (st2 : St2 i s.heap) (hlt1 : i < n1) (hlt2 : i < n2)
    (hQ : ∀ x1 x2 h' tk, P1 i x1 → P2 i x2 → IsZipO h' z TI TO a true → St1 (i + 1) h' → St2 (i + 1) h' → IsTupOf2 h' s.heap.objs.size x1 x2 → h'.objs.size = s.heap.objs.size + 1 →
      (∀ c o, c ≠ z → c ≠ i1 → c ≠ i2 → s.heap.get? c = some o → h'.get? c = some o) → Q (.ref s.heap.objs.size) { s with heap := h', toks := tk }) :
    wpAny (model prog w) A (Builtin.«zip.__next__» ⟨[.ref z], []⟩) (fun fin s' => ∃ v, fin = .done (.ret v) ∧ Q v s') E s := by
  obtain ⟨hp, g, d, tk0, os⟩ := s
  show wpAny _ _ (field (.ref z) 2 >>= _) _ _ _
  refine wpAny_bind (wpAny_field hz rfl (x := .bool false) rfl ?_)
  show wpAny _ _ (field (.ref z) 3 >>= _) _ _ _
  refine wpAny_bind (wpAny_field hz rfl (x := .ref TI) rfl ?_)
  refine wpAny_bind (wpAny_seqItems hTI rfl ?_)
  show wpAny _ _ (Builtin.SmallTypes.ownedTupleIsFree (.ref z) >>= _) _ _ _
  refine wpAny_bind (xz_free hz ha fun g0 hz0 hs0 => ?_)
  replace hs0 : Heap.SameBut z hp g0 := hs0
  simp only [Bool.false_eq_true, if_false]
  refine wpAny_bind ?_
  rw [← Array.forIn_toList]
  simp only [List.forIn_cons, List.forIn_nil]
  refine wpAny_bind (wpAny_bind (wpAny_holding ?_))
  show wpAny _ _ (Builtin.SmallTypes.nextOf (.ref i1) >>= _) _ _ ⟨g0, g, d, tk0, os⟩
  refine wpAny_bind (D1.item i _ _ _ hlt1 (D1.over st1 hs0 S.zf1) fun x1 p1 tk1 hx1 sn1 hp1 => wpAny_pure ?_)
  replace hp1 : Heap.SameBut i1 g0 p1 := hp1
  refine wpAny_pure ?_
  refine wpAny_bind (wpAny_bind (wpAny_holding ?_))
  show wpAny _ _ (Builtin.SmallTypes.nextOf (.ref i2) >>= _) _ _ ⟨p1, g, d, tk1, os⟩
  refine wpAny_bind (D2.item i _ _ _ hlt2 (D2.over (D2.over st2 hs0 S.zf2) hp1 S.sep1_2) fun x2 p2 tk2 hx2 sn2 hp2 => wpAny_pure ?_)
  replace hp2 : Heap.SameBut i2 p1 p2 := hp2
  refine wpAny_pure (wpAny_pure ?_)
  show wpAny _ _ (newTuple [x1, x2] >>= _) _ _ ⟨p2, g, d, tk2, os⟩
  refine wpAny_bind (wpAny_newTuple ?_)
  have hsz : p2.objs.size = hp.objs.size := by rw [hp2.1, hp1.1, hs0.1]
  have hzz : IsZipO p2 z TI TO a true := hp2.extBut _ _ S.zi2 (hp1.extBut _ _ S.zi1 hz0)
  have hkk : ∀ c o, c ≠ z → c ≠ i1 → c ≠ i2 → hp.get? c = some o → p2.get? c = some o := fun c o cz c1 c2 e =>
    hp2.extBut _ _ c2 (hp1.extBut _ _ c1 (hs0.extBut _ _ cz e))
  have hj1 : St1 (i + 1) p2 := D1.over sn1 hp2 S.sep2_1
  have up : ∀ c o, p2.get? c = some o → (p2.push { cls := .type "tuple", data := .seq #[x1, x2] }).get? c = some o := fun c o e => Heap.get?_push_of_some _ e
  refine wpAny_pure ⟨_, rfl, ?_⟩
  have hT8 : IsTupOf2 (p2.push { cls := .type "tuple", data := .seq #[x1, x2] }) p2.objs.size x1 x2 := Heap.get?_push_size _ rfl
  have hz8 : (p2.push ({ cls := .type "tuple", data := .seq #[x1, x2] } : Obj)).objs.size = p2.objs.size + 1 := by rw [Heap.size_push]
  have e1 : (⟨p2, g, d, tk2, os⟩ : Shared).heap.objs.size = hp.objs.size := hsz
  rw [e1]
  rw [hsz] at hT8 hz8
  exact hQ x1 x2 _ tk2 hx1 hx2 (up _ _ hzz) (D1.frame _ _ _ hj1 fun b _ o e => up b o e) (D2.frame _ _ _ sn2 fun b _ o e => up b o e) hT8 hz8 fun c o cz c1 c2 e => up c o (hkk c o cz c1 c2 e)
theorem xz_next_end {Q : Fin → Shared → Prop} (S : ZipSep2 z TI TO i1 i2 fp1 fp2) (D1 : Draws prog w A i1 fp1 n1 P1 St1) (D2 : Draws prog w A i2 fp2 n2 P2 St2)
    (hz : IsZipO s.heap z TI TO a f) (ha : s.heap.get? a = some oa) (hTI : IsTupOf2 s.heap TI (.ref i1) (.ref i2)) (st1 : St1 i s.heap) (st2 : St2 i s.heap) (hle1 : i ≤ n1) (hle2 : i ≤ n2) (hend : i = n1 ∨ i = n2)
    (hE : ∀ h' tk e, (∀ c o, c ≠ z → c ≠ i1 → c ≠ i2 → s.heap.get? c = some o → h'.get? c = some o) → (∃ o, h'.get? e = some o ∧ o.cls = .type "StopIteration") → E (.ref e) { s with heap := h', toks := tk }) :
    wpAny (model prog w) A (Builtin.«zip.__next__» ⟨[.ref z], []⟩) Q E s := by
  obtain ⟨hp, g, d, tk0, os⟩ := s
  show wpAny _ _ (field (.ref z) 2 >>= _) _ _ _
  refine wpAny_bind (wpAny_field hz rfl (x := .bool false) rfl ?_)
  show wpAny _ _ (field (.ref z) 3 >>= _) _ _ _
  refine wpAny_bind (wpAny_field hz rfl (x := .ref TI) rfl ?_)
  refine wpAny_bind (wpAny_seqItems hTI rfl ?_)
  show wpAny _ _ (Builtin.SmallTypes.ownedTupleIsFree (.ref z) >>= _) _ _ _
  refine wpAny_bind (xz_free hz ha fun g0 hz0 hs0 => ?_)
  replace hs0 : Heap.SameBut z hp g0 := hs0
  simp only [Bool.false_eq_true, if_false]
  refine wpAny_bind ?_
  rw [← Array.forIn_toList]
  simp only [List.forIn_cons, List.forIn_nil]
  refine wpAny_bind (wpAny_bind (wpAny_holding ?_))
  show wpAny _ _ (Builtin.SmallTypes.nextOf (.ref i1) >>= _) _ _ ⟨g0, g, d, tk0, os⟩
  by_cases hlt1 : i < n1
  · refine wpAny_bind (D1.item i _ _ _ hlt1 (D1.over st1 hs0 S.zf1) fun x1 p1 tk1 hx1 sn1 hp1 => wpAny_pure ?_)
    replace hp1 : Heap.SameBut i1 g0 p1 := hp1
    have hi2 : i = n2 := by omega
    refine wpAny_pure ?_
    refine wpAny_bind (wpAny_bind (wpAny_holding ?_))
    show wpAny _ _ (Builtin.SmallTypes.nextOf (.ref i2) >>= _) _ _ ⟨p1, g, d, tk1, os⟩
    refine wpAny_bind (D2.done ⟨p1, g, d, tk1, os⟩ _ _ (by rw [← hi2]; exact (D2.over (D2.over st2 hs0 S.zf2) hp1 S.sep1_2)) fun q e hq he => ?_)
    replace hq : Heap.ExtBut i2 p1 q := hq
    obtain ⟨oe, hoe, hce⟩ := he
    exact hE q tk1 e (fun c o cz c1 c2 x => hq _ _ c2 (hp1.extBut _ _ c1 (hs0.extBut _ _ cz x))) ⟨oe, hoe, hce⟩
  · have hi1 : i = n1 := by omega
    refine wpAny_bind (D1.done ⟨g0, g, d, tk0, os⟩ _ _ (by rw [← hi1]; exact (D1.over st1 hs0 S.zf1)) fun q e hq he => ?_)
    replace hq : Heap.ExtBut i1 g0 q := hq
    obtain ⟨oe, hoe, hce⟩ := he
    exact hE q tk0 e (fun c o cz c1 c2 x => hq _ _ c1 (hs0.extBut _ _ cz x)) ⟨oe, hoe, hce⟩
end
/-- the state of a zip that a list takes from: at its beginning, or behind a tuple that the list holds -/
def XzSt (St1 St2 : Nat → Heap → Prop) (z TI TO i1 i2 S : Addr) (i : Nat) (h : Heap) : Prop := IsTupOf2 h TI (.ref i1) (.ref i2) ∧ St1 i h ∧ St2 i h ∧
  ((i = 0 ∧ IsZip h z TI TO .none ∧ ∃ a1 a2, IsTupOf2 h TO a1 a2) ∨ ∃ a f oa, IsZipO h z TI TO a f ∧ h.get? a = some oa ∧ a ≠ z ∧ a ≠ i1 ∧ a ≠ i2 ∧ a ≠ S)
structure XzSep (z TI TO i1 i2 S : Addr) (fp1 fp2 : List Addr) extends ZipSep2 z TI TO i1 i2 fp1 fp2 where
  Sz : S ≠ z
  ST : S ≠ TI
  SO : S ≠ TO
  Sf1 : S ∉ fp1
  Sf2 : S ∉ fp2
section
variable {prog : Program} {w : World} {A : Around} {E : Value → Shared → Prop} {s : Shared} {z TI TO i1 i2 S : Addr} {fp1 fp2 : List Addr} {n1 n2 i : Nat} {P1 P2 : Nat → Value → Prop} {St1 St2 : Nat → Heap → Prop}
theorem XzSt.keep (Z : XzSep z TI TO i1 i2 S fp1 fp2) (D1 : Draws prog w A i1 fp1 n1 P1 St1) (D2 : Draws prog w A i2 fp2 n2 P2 St2) {h h' : Heap} (x : XzSt St1 St2 z TI TO i1 i2 S i h) (hk : ∀ b o, b ≠ S → h.get? b = some o → h'.get? b = some o) : XzSt St1 St2 z TI TO i1 i2 S i h' := by
  obtain ⟨h1, h2, h3, h4⟩ := x
  refine ⟨hk _ _ (Ne.symm Z.ST) h1, D1.frame _ _ _ h2 fun b hb o e => hk b o (fun q => Z.Sf1 (q ▸ hb)) e, D2.frame _ _ _ h3 fun b hb o e => hk b o (fun q => Z.Sf2 (q ▸ hb)) e, ?_⟩
  rcases h4 with ⟨e, hz, a1, a2, hT⟩ | ⟨a, f, oa, hz, ha, q1, q2, q3, q4⟩
  · exact .inl ⟨e, hk _ _ (Ne.symm Z.Sz) hz, a1, a2, hk _ _ (Ne.symm Z.SO) hT⟩
  · exact .inr ⟨a, f, oa, hk _ _ (Ne.symm Z.Sz) hz, hk _ _ q4 ha, q1, q2, q3, q4⟩
theorem xz_item {Q : Option Value → Shared → Prop} (Z : XzSep z TI TO i1 i2 S fp1 fp2) (D1 : Draws prog w A.in1 i1 fp1 n1 P1 St1) (D2 : Draws prog w A.in1 i2 fp2 n2 P2 St2) (hst : XzSt St1 St2 z TI TO i1 i2 S i s.heap) (hS : S < s.heap.objs.size) (hlt1 : i < n1) (hlt2 : i < n2)
    (hQ : ∀ x1 x2 h' tk, P1 i x1 → P2 i x2 → XzSt St1 St2 z TI TO i1 i2 S (i + 1) h' → IsTupOf2 h' s.heap.objs.size x1 x2 → h'.objs.size = s.heap.objs.size + 1 →
      (∀ c o, c ≠ z → c ≠ TO → c ≠ i1 → c ≠ i2 → s.heap.get? c = some o → h'.get? c = some o) → Q (some (.ref s.heap.objs.size)) { s with heap := h', toks := tk }) :
    wpAny (model prog w) A (pyNext (.ref z)) Q E s := by
  obtain ⟨hTI, st1, st2, h4⟩ := hst
  have lt : ∀ {c o}, s.heap.get? c = some o → s.heap.objs.size ≠ c := fun e => Nat.ne_of_gt (Heap.lt_size e)
  have l1 : s.heap.objs.size ≠ i1 := by obtain ⟨_, e⟩ := D1.live _ _ st1; exact lt e
  have l2 : s.heap.objs.size ≠ i2 := by obtain ⟨_, e⟩ := D2.live _ _ st2; exact lt e
  rcases h4 with ⟨rfl, hz, a1, a2, hTO⟩ | ⟨a, f, oa, hz, ha, q1, q2, q3, q4⟩
  · exact wpAny_pyNext_zipD2_item Z.toZipSep2 D1 D2 hz hTI hTO st1 st2 hlt1 hlt2 fun x1 x2 h' tk y1 y2 b1 b2 d1 d2 b5 b6 hk =>
      hQ x1 x2 h' tk y1 y2 ⟨hk _ _ Z.TIz Z.TITO Z.TIi1 Z.TIi2 hTI, d1, d2, .inr ⟨_, false, _, b1, b5, lt hz, l1, l2, Nat.ne_of_gt hS⟩⟩ b5 b6 hk
  · have hT : s.TypeIs (.ref z) "zip" := ⟨_, hz, rfl⟩
    unfold pyNext
    exact wpAny_bind (wpAny_attempt (wpAny_callSpecial?_slot (name := Str.ofString "__next__") hT F.slot_zip_next
      (wpAny_call_entry F.slot_zip_next hT F.entry_zip_next
        (xz_next_item Z.toZipSep2 D1 D2 hz ha hTI st1 st2 hlt1 hlt2 fun x1 x2 h' tk y1 y2 b1 d1 d2 b5 b6 hk => wpAny_pure (hQ x1 x2 h' tk y1 y2
          ⟨hk _ _ Z.TIz Z.TIi1 Z.TIi2 hTI, d1, d2, .inr ⟨a, true, oa, b1, hk _ _ q1 q2 q3 ha, q1, q2, q3, q4⟩⟩ b5 b6 fun c o c1 _ c3 c4 e => hk c o c1 c3 c4 e)) (F.args_zip_next_1 _))))
theorem xz_done {Q : Option Value → Shared → Prop} (Z : XzSep z TI TO i1 i2 S fp1 fp2) (D1 : Draws prog w A.in1 i1 fp1 n1 P1 St1) (D2 : Draws prog w A.in1 i2 fp2 n2 P2 St2) (hst : XzSt St1 St2 z TI TO i1 i2 S i s.heap) (hle1 : i ≤ n1) (hle2 : i ≤ n2) (hend : i = n1 ∨ i = n2)
    (hQ : ∀ h' tk, (∀ c o, c ≠ z → c ≠ TO → c ≠ i1 → c ≠ i2 → s.heap.get? c = some o → h'.get? c = some o) → Q none { s with heap := h', toks := tk }) : wpAny (model prog w) A (pyNext (.ref z)) Q E s := by
  obtain ⟨hTI, st1, st2, h4⟩ := hst
  rcases h4 with ⟨rfl, hz, a1, a2, hTO⟩ | ⟨a, f, oa, hz, ha, q1, q2, q3, q4⟩
  · exact wpAny_pyNext_zipD2_end Z.toZipSep2 D1 D2 hz hTI hTO st1 st2 hle1 hle2 hend hQ
  · have hT : s.TypeIs (.ref z) "zip" := ⟨_, hz, rfl⟩
    unfold pyNext
    refine wpAny_bind (wpAny_attempt (wpAny_callSpecial?_slot (name := Str.ofString "__next__") hT F.slot_zip_next
      (wpAny_call_entry F.slot_zip_next hT F.entry_zip_next (xz_next_end Z.toZipSep2 D1 D2 hz ha hTI st1 st2 hle1 hle2 hend fun h' tk e hk he => ?_) (F.args_zip_next_1 _))))
    obtain ⟨o, ho, hc⟩ := he
    refine wpAny_bind (wpAny_isInstance (T := "StopIteration") (b := true) ⟨o, ho, hc⟩ isSubtype_stop ?_)
    exact wpAny_pure (hQ _ _ fun c o c1 _ c3 c4 e => hk c o c1 c3 c4 e)
end
structure XzG (P1 P2 : Nat → Value → Prop) (lo : Addr) (h : Heap) (as : List Addr) : Prop where
  rise : as.Pairwise (· < ·)
  above : ∀ a ∈ as, lo < a
  pairs : ∀ (j : Nat) (a : Addr), as[j]? = some a → ∃ x1 x2, P1 j x1 ∧ P2 j x2 ∧ h.get? a = some { cls := .type "tuple", data := .seq #[x1, x2] }
theorem XzG.there {P1 P2 : Nat → Value → Prop} {lo : Addr} {h : Heap} {as : List Addr} (g : XzG P1 P2 lo h as) {a : Addr} (ha : a ∈ as) : a < h.objs.size := by
  obtain ⟨j, hj⟩ := List.mem_iff_getElem?.mp ha
  obtain ⟨_, _, _, _, e⟩ := g.pairs j a hj
  exact Heap.lt_size e
section
variable {prog : Program} {w : World} {A : Around} {s : Shared} {R : Result → Shared → Prop} {z TI TO i1 i2 S : Addr} {fp1 fp2 : List Addr} {n : Nat} {P1 P2 : Nat → Value → Prop} {St1 St2 : Nat → Heap → Prop}
theorem xz_loop (Z : XzSep z TI TO i1 i2 S fp1 fp2) {n1 n2 : Nat} (D1 : Draws prog w A.in1.in1 i1 fp1 n1 P1 St1) (D2 : Draws prog w A.in1.in1 i2 fp2 n2 P2 St2) (hmin : n = min n1 n2) (zS : z < S) (OS : TO < S) (iS1 : i1 < S) (iS2 : i2 < S) (hn : n ≤ sizeLine) (res : Value) {h₁ : Heap}
    (hR : ∀ h' tk acc c as, (∀ b o, b ≠ S → b ≠ z → b ≠ TO → b ≠ i1 → b ≠ i2 → h₁.get? b = some o → h'.get? b = some o) → h'.get? S = some { cls := .type "list", dict := none, data := .seq acc c, slots := #[] } → as.length = n → XzG P1 P2 S h' as →
      acc.toList = as.map Value.ref → R (.ok (.ret res)) { s with heap := h', toks := tk }) :
    ∀ (k i : Nat) (h : Heap) (tk c : Nat) (acc : Array Value) (as : List Addr), n - i = k → i ≤ n → XzSt St1 St2 z TI TO i1 i2 S i h → (∀ b o, b ≠ S → b ≠ z → b ≠ TO → b ≠ i1 → b ≠ i2 → h₁.get? b = some o → h.get? b = some o) →
      h.get? S = some { cls := .type "list", dict := none, data := .seq acc c, slots := #[] } → acc.toList = as.map Value.ref → as.length = i → XzG P1 P2 S h as →
      codeAny (model prog w) A (.builtin "list.extend.loop" ⟨[.ref S, .ref z, res], []⟩) R { s with heap := h, toks := tk } := by
  have nSz : S ≠ z := Nat.ne_of_gt zS
  have nSO : S ≠ TO := Nat.ne_of_gt OS
  have nS1 : S ≠ i1 := Nat.ne_of_gt iS1
  have nS2 : S ≠ i2 := Nat.ne_of_gt iS2
  have big : ∀ {a : Addr}, S < a → a ≠ z ∧ a ≠ TO ∧ a ≠ i1 ∧ a ≠ i2 := fun h => ⟨Nat.ne_of_gt (Nat.lt_trans zS h), Nat.ne_of_gt (Nat.lt_trans OS h), Nat.ne_of_gt (Nat.lt_trans iS1 h), Nat.ne_of_gt (Nat.lt_trans iS2 h)⟩
  intro k
  induction k with
  | zero =>
    intro i h tk c acc as hk hi hst hkeep hS hacc hal hG
    have hin : i = n := by omega
    refine codeAny_builtin PySem.F.entry_extend_loop ?_
    rw [Around.under_plainId PySem.F.plain_extend_loop _]
    show wpAny _ A.in1 (pyNext (.ref z) >>= _) _ _ _
    refine wpAny_bind (xz_done (s := { s with heap := h, toks := tk }) (A := A.in1) Z D1 D2 hst (by omega) (by omega) (by omega) fun h' tk' he => ?_)
    refine wpAny_pure (hR h' tk' acc c as (fun b o h1 h2 h3 h4 h5 e => he b o h2 h3 h4 h5 (hkeep b o h1 h2 h3 h4 h5 e)) (he S _ nSz nSO nS1 nS2 hS) (by omega) ⟨hG.rise, hG.above, fun j a hj => ?_⟩ hacc)
    obtain ⟨x1, x2, e1, e2, e3⟩ := hG.pairs j a hj
    obtain ⟨q1, q2, q3, q4⟩ := big (hG.above a (List.mem_of_getElem? hj))
    exact ⟨x1, x2, e1, e2, he a _ q1 q2 q3 q4 e3⟩
  | succ k ih =>
    intro i h tk c acc as hk hi hst hkeep hS hacc hal hG
    have hlt : i < n := by omega
    have hsz : acc.size = i := by rw [← Array.length_toList, hacc, List.length_map, hal]
    refine codeAny_builtin PySem.F.entry_extend_loop ?_
    rw [Around.under_plainId PySem.F.plain_extend_loop _]
    show wpAny _ A.in1 (pyNext (.ref z) >>= _) _ _ _
    refine wpAny_bind (xz_item (s := { s with heap := h, toks := tk }) (A := A.in1) Z D1 D2 hst (Heap.lt_size hS) (by omega) (by omega) fun x1 x2 h' tk' y1 y2 hst' ht hz hkp => ?_)
    dsimp only at ht hz hkp ⊢
    have hS' := hkp S _ nSz nSO nS1 nS2 hS
    have up : ∀ b o, b ≠ S → h'.get? b = some o → (h'.update S (Obj.mapSeq (·.push (Value.ref h.objs.size)))).get? b = some o := fun b o hb e => (Heap.get?_update_other _ _ (Ne.symm hb)).trans e
    have hSl : S < h.objs.size := Heap.lt_size hS
    show wpAny _ A.in1 (updateSeq S (·.push (Value.ref h.objs.size)) >>= _) _ _ _
    refine wpAny_bind ?_
    refine wpAny_updateSeq hS' rfl (wpAny_pure ⟨plainId_quiet PySem.F.plain_extend_loop _, ih (i + 1) _ tk' _ (acc.push (Value.ref h.objs.size)) (as ++ [h.objs.size]) (by omega) hlt (hst'.keep Z D1.of_in1 D2.of_in1 up)
      (fun b o h1 h2 h3 h4 h5 e => up b o h1 (hkp b o h2 h3 h4 h5 (hkeep b o h1 h2 h3 h4 h5 e))) (Heap.get?_update_self _ hS' rfl) (by rw [Array.toList_push, hacc, List.map_append]; rfl) (by rw [List.length_append, hal]; rfl) ⟨?_, ?_, ?_⟩⟩) (by rw [hsz]; omega) (by show (acc.push (Value.ref h.objs.size)).size ≤ sizeLine + 1; rw [Array.size_push, hsz]; omega)
    · refine List.pairwise_append.mpr ⟨hG.rise, List.pairwise_singleton _ _, fun a ha b hb => ?_⟩
      rw [List.mem_singleton.mp hb]
      exact hG.there ha
    · intro a ha
      rcases List.mem_append.mp ha with ha | ha
      · exact hG.above a ha
      · rw [List.mem_singleton.mp ha]; exact hSl
    · intro j b hj
      rcases Nat.lt_trichotomy j as.length with h1 | h1 | h1
      · rw [List.getElem?_append_left h1] at hj
        obtain ⟨x1', x2', e1, e2, e3⟩ := hG.pairs j b hj
        have hb := hG.above b (List.mem_of_getElem? hj)
        obtain ⟨q1, q2, q3, q4⟩ := big hb
        exact ⟨x1', x2', e1, e2, up b _ (Nat.ne_of_gt hb) (hkp b _ q1 q2 q3 q4 e3)⟩
      · subst h1
        have hb : h.objs.size = b := by simpa using hj
        subst hb
        exact ⟨x1, x2, by rw [hal]; exact y1, by rw [hal]; exact y2, up _ _ (Nat.ne_of_gt hSl) ht⟩
      · have hnone : (as ++ [h.objs.size])[j]? = none := List.getElem?_eq_none (by rw [List.length_append, List.length_singleton]; omega)
        rw [hnone] at hj; cases hj
end
theorem xz_len : typeLookup (.type "zip") "__len__" = pure none := by rw [typeLookup_type, builtinLookup_eq_fast]; kernel_rfl
theorem xz_hint0 : typeLookup (.type "zip") "__length_hint__" = pure none := by rw [typeLookup_type, builtinLookup_eq_fast]; kernel_rfl
section
variable {prog : Program} {w : World} {A : Around} {E : Value → Shared → Prop} {s : Shared} {r : Addr}
theorem xz_hint (hT : s.TypeIs (.ref r) "zip") {Q : Bool → Shared → Prop} (h : Q true s) : wpAny (model prog w) A (Builtin.List.listLengthHint (.ref r)) Q E s := by
  unfold Builtin.List.listLengthHint
  refine wpAny_bind (wpAny_specialOf hT xz_len ?_)
  refine wpAny_ite_split (fun hab => absurd hab (by decide)) (fun _ => ?_)
  refine wpAny_ite_split (fun hab => absurd hab (by decide)) (fun _ => ?_)
  refine wpAny_bind (wpAny_specialOf hT xz_hint0 ?_)
  exact wpAny_pure h
variable {R : Result → Shared → Prop} {z TI TO i1 i2 S : Addr} {fp1 fp2 : List Addr} {n n1 n2 : Nat} {P1 P2 : Nat → Value → Prop} {St1 St2 : Nat → Heap → Prop}
theorem xz_extend (Z : XzSep z TI TO i1 i2 S fp1 fp2) (D1 : Draws prog w A.in1.in1 i1 fp1 n1 P1 St1) (D2 : Draws prog w A.in1.in1 i2 fp2 n2 P2 St2) (hmin : n = min n1 n2) (zS : z < S) (OS : TO < S) (iS1 : i1 < S) (iS2 : i2 < S) (hn : n ≤ sizeLine)
    (hst : XzSt St1 St2 z TI TO i1 i2 S 0 s.heap) (hz : IsZip s.heap z TI TO .none) (res : Value) (c₀ : Nat) (hS : s.heap.get? S = some { cls := .type "list", data := .seq #[] c₀ })
    (hR : ∀ h' tk acc c as, (∀ b o, b ≠ S → b ≠ z → b ≠ TO → b ≠ i1 → b ≠ i2 → s.heap.get? b = some o → h'.get? b = some o) → h'.get? S = some { cls := .type "list", dict := none, data := .seq acc c, slots := #[] } → as.length = n → XzG P1 P2 S h' as →
      acc.toList = as.map Value.ref → R (.ok (.ret res)) { s with heap := h', toks := tk }) :
    wpAny (model prog w) A.in1 (Builtin.List.listExtendWith (.ref S) (.ref z) res)
      (fun fin s' => match fin with | .done f => R (.ok f) s' | .again c' => c'.quiet = true ∧ codeAny (model prog w) A c' R s') (fun e s' => R (.error e) s') s := by
  have hT : s.TypeIs (.ref z) "zip" := ⟨_, hz, rfl⟩
  have key : ∀ (h : Heap) (c₁ tk : Nat), (∀ b o, b ≠ S → s.heap.get? b = some o → h.get? b = some o) →
      h.get? S = some { cls := .type "list", data := .seq #[] c₁ } → codeAny (model prog w) A (.builtin "list.extend.loop" ⟨[.ref S, .ref z, res], []⟩) R { s with heap := h, toks := tk } := by
    intro h c₁ tk hk hS₁
    exact xz_loop (s := s) (h₁ := s.heap) Z D1 D2 hmin zS OS iS1 iS2 hn res (fun h' tk' acc c as hk' hS' hl hG hacc => hR h' tk' acc c as hk' hS' hl hG hacc)
      n 0 h tk c₁ #[] [] (Nat.sub_zero _) (Nat.zero_le _) (hst.keep Z D1 D2 hk) (fun b o hb _ _ _ _ e => hk b o hb e) hS₁ rfl rfl
      ⟨List.Pairwise.nil, (fun _ ha => nomatch ha), (fun j a hj => by simp at hj)⟩
  unfold Builtin.List.listExtendWith
  refine wpAny_bind (wpAny_typeOf (T := "zip") hT ?_)
  have h1 : Builtin.List.listSameRef (.ref S) (.ref z) = false := by simp [Builtin.List.listSameRef, Z.Sz]
  have h2 : (Value.type "zip" == Value.type "list") = false := by decide
  have h3 : (Value.type "zip" == Value.type "tuple") = false := by decide
  simp only [h1, h2, h3, Bool.or_false, Bool.false_eq_true, if_false]
  refine wpAny_bind (wpAny_pyIter_zip hz ?_)
  refine wpAny_bind (wpAny_holding (xz_hint hT ?_))
  refine wpAny_ite_split (fun _ => ?_) (fun hab => absurd rfl hab)
  refine wpAny_bind (wpAny_rule ?_)
  refine wpAny_bind ?_
  show wpAny _ _ (updateSeq S (·.push .none) >>= fun _ => updateSeq S (·.pop)) _ _ _
  refine wpAny_bind (wpAny_updateSeq hS rfl ?_)
  have hS₂ := Heap.get?_update_self (Obj.mapSeq (·.push Value.none)) hS rfl
  refine wpAny_updateSeq (hz := by seq_fits) hS₂ rfl ?_
  have hS₃ := Heap.get?_update_self (Obj.mapSeq (·.pop)) hS₂ rfl
  refine wpAny_pure ⟨plainId_quiet PySem.F.plain_extend_loop _, key _ _ _ (fun b o hb e => ?_) hS₃⟩
  exact (Heap.get?_update_other _ _ (Ne.symm hb)).trans ((Heap.get?_update_other _ _ (Ne.symm hb)).trans e)
theorem xz_init (Z : XzSep z TI TO i1 i2 S fp1 fp2) (D1 : Draws prog w A.in1.in1 i1 fp1 n1 P1 St1) (D2 : Draws prog w A.in1.in1 i2 fp2 n2 P2 St2) (hmin : n = min n1 n2) (zS : z < S) (OS : TO < S) (iS1 : i1 < S) (iS2 : i2 < S) (hn : n ≤ sizeLine)
    (hst : XzSt St1 St2 z TI TO i1 i2 S 0 s.heap) (hz : IsZip s.heap z TI TO .none) (hS : s.heap.get? S = some { cls := .type "list", data := .seq #[] })
    (hR : ∀ h' tk acc c as, (∀ b o, b ≠ S → b ≠ z → b ≠ TO → b ≠ i1 → b ≠ i2 → s.heap.get? b = some o → h'.get? b = some o) → h'.get? S = some { cls := .type "list", dict := none, data := .seq acc c, slots := #[] } → as.length = n → XzG P1 P2 S h' as →
      acc.toList = as.map Value.ref → R (.ok (.ret .none)) { s with heap := h', toks := tk }) :
    wpAny (model prog w) A.in1 (Builtin.«list.__init__» ⟨[.ref S, .ref z], []⟩)
      (fun fin s' => match fin with | .done f => R (.ok f) s' | .again c' => c'.quiet = true ∧ codeAny (model prog w) A c' R s') (fun e s' => R (.error e) s') s := by
  show wpAny _ _ (do let old ← Builtin.List.listItems (.ref S); Builtin.List.listUpdate (.ref S) (fun _ => #[]); letGo old.toList.reverse; Builtin.List.listExtendWith (.ref S) (.ref z) .none) _ _ s
  refine wpAny_bind ?_
  unfold Builtin.List.listItems
  refine wpAny_bind (wpAny_seqItems hS rfl (wpAny_pure ?_))
  show wpAny _ _ (updateSeq S (fun _ => #[]) >>= fun _ => letGo (#[] : Array Value).toList.reverse >>= fun _ => Builtin.List.listExtendWith (.ref S) (.ref z) .none) _ _ s
  refine wpAny_bind (wpAny_updateSeq hS rfl ?_)
  have hS₂ := Heap.get?_update_self (Obj.mapSeq (fun _ => (#[] : Array Value))) hS rfl
  have oth : ∀ b o, b ≠ S → s.heap.get? b = some o → (s.heap.update S (Obj.mapSeq (fun _ => (#[] : Array Value)))).get? b = some o :=
    fun b o hb e => (Heap.get?_update_other _ _ (Ne.symm hb)).trans e
  refine wpAny_bind (wpAny_letGo ?_)
  refine xz_extend Z D1 D2 hmin zS OS iS1 iS2 hn (hst.keep Z D1 D2 oth) (oth _ _ (Ne.symm Z.Sz) hz) .none _ hS₂ (fun h' tk acc c as hk hS' hl hG hacc => ?_)
  exact hR h' tk acc c as (fun b o h1 h2 h3 h4 h5 e => hk b o h1 h2 h3 h4 h5 (oth b o h1 e)) hS' hl hG hacc
end
section
variable {prog : Program} {w : World} {A : Around} {E : Value → Shared → Prop} {s : Shared} {z TI TO i1 i2 : Addr} {fp1 fp2 : List Addr} {n n1 n2 : Nat} {P1 P2 : Nat → Value → Prop} {St1 St2 : Nat → Heap → Prop}
theorem xz_call {Q : Value → Shared → Prop} (Z : XzSep z TI TO i1 i2 s.heap.objs.size fp1 fp2) (D1 : Draws prog w A.in1.in1.in1 i1 fp1 n1 P1 St1) (D2 : Draws prog w A.in1.in1.in1 i2 fp2 n2 P2 St2) (hmin : n = min n1 n2) (hn : n ≤ sizeLine)
    (hst : XzSt St1 St2 z TI TO i1 i2 s.heap.objs.size 0 s.heap) (hz : IsZip s.heap z TI TO .none)
    (hQ : ∀ h' tk acc c as, (∀ b o, b ≠ z → b ≠ TO → b ≠ i1 → b ≠ i2 → s.heap.get? b = some o → h'.get? b = some o) → h'.get? s.heap.objs.size = some { cls := .type "list", dict := none, data := .seq acc c, slots := #[] } → as.length = n → XzG P1 P2 s.heap.objs.size h' as →
      acc.toList = as.map Value.ref → Q (.ref s.heap.objs.size) { s with heap := h', toks := tk }) :
    wpAny (model prog w) A (call (.type "list") [.ref z]) Q E s := by
  refine callType_codes (Q₁ := fun obj s₁ => obj = .ref s.heap.objs.size ∧ s₁ = { s with heap := s.heap.push { cls := .type "list", data := .seq #[] } }) PySem.F.called_list (PySem.F.typeCall_list_1 _) PySem.F.entry_list_init
    (code_list_new _ ⟨rfl, rfl⟩) fun obj s₁ h₁ => ?_
  obtain ⟨rfl, rfl⟩ := h₁
  have hS : (s.heap.push { cls := .type "list", data := .seq #[] }).get? s.heap.objs.size = some { cls := .type "list", data := .seq #[] } := Heap.get?_push_size _ rfl
  have up : ∀ b o, s.heap.get? b = some o → (s.heap.push { cls := .type "list", data := .seq #[] }).get? b = some o := fun b o e => Heap.get?_push_of_some _ e
  have lt : ∀ {c o}, s.heap.get? c = some o → c < s.heap.objs.size := fun e => Heap.lt_size e
  have l1 : i1 < s.heap.objs.size := by obtain ⟨_, e⟩ := D1.live _ _ hst.2.1; exact lt e
  have l2 : i2 < s.heap.objs.size := by obtain ⟨_, e⟩ := D2.live _ _ hst.2.2.1; exact lt e
  have lO : TO < s.heap.objs.size := by
    rcases hst.2.2.2 with ⟨_, _, _, _, e⟩ | ⟨a, f, oa, e, _⟩
    · exact lt e
    · have e2 := Option.some.inj (hz.symm.trans e); simp [rawInt] at e2
  refine ⟨⟨_, hS, rfl⟩, PySem.F.args_list_init_2 _ _, xz_init (A := A.in1) Z D1 D2 hmin (lt hz) lO l1 l2 hn (hst.keep Z D1 D2 fun b o _ e => up b o e) (up _ _ hz) hS (fun h' tk acc c as hk hS' hl hG hacc => ?_)⟩
  exact ⟨rfl, hQ h' tk acc c as (fun b o h1 h2 h3 h4 e => hk b o (Nat.ne_of_lt (lt e)) h1 h2 h3 h4 (up b o e)) hS' hl hG hacc⟩
end
end PySem
namespace Xo
open PySem PySem.Spec PyProof.Rows L2
def putP : Hp → List Addr → List (V × V) → Hp
  | H, a :: as, p :: ps => putP (upd H a (.tup [p.1, p.2])) as ps
  | H, _, _ => H
theorem putP_off {b : Addr} : ∀ (as : List Addr) (ps : List (V × V)) (H : Hp), b ∉ as → putP H as ps b = H b
  | [], [], _, _ => rfl
  | [], _ :: _, _, _ => rfl
  | _ :: _, [], _, _ => rfl
  | a :: as, p :: ps, H, h => by
    have h1 : b ≠ a := fun e => h (by rw [e]; exact List.mem_cons_self)
    have h2 : b ∉ as := fun m => h (List.mem_cons_of_mem _ m)
    show putP _ as ps b = H b
    rw [putP_off as ps _ h2, upd_ne h1]
theorem putP_at : ∀ (as : List Addr) (ps : List (V × V)) (H : Hp), as.length = ps.length → as.Nodup → Paired (fun (t : Addr) (p : V × V) => putP H as ps t = some (.tup [p.1, p.2])) as ps
  | [], [], _, _, _ => .nil
  | a :: as, p :: ps, H, hl, nd => by
    obtain ⟨n1, n2⟩ := List.nodup_cons.mp nd
    refine .cons ?_ (putP_at as ps (upd H a (.tup [p.1, p.2])) (by simpa using hl) n2)
    show putP (upd H a (.tup [p.1, p.2])) as ps a = _
    rw [putP_off as ps _ n1, upd_same]
/-- what list(zip(..)) of the items xs, ys leaves: the list at l, its tuples at as -/
def rZipL (xs ys : List V) : Hp → VK → Prop := fun H Q => ∀ (H' : Hp) (l : Addr) (as : List Addr), Same H H' → H l = none → (∀ t ∈ as, H t = none) → l ∉ as → H' l = some (.lst (as.map V.ref)) →
  Paired (fun (t : Addr) (p : V × V) => H' t = some (.tup [p.1, p.2])) as (xs.zip ys) → Q (.ref l) H'
def tZipL (K : PySem.W.Frag) (ta : TA) : TE := fun σ H Q => ta σ H fun vs H1 => ∃ a b xs ys, vs = [.ref a, .ref b] ∧ ((SqL K H1 a xs ∧ SqL K H1 b ys) ∨ (SqT K H1 a xs ∧ SqT K H1 b ys)) ∧ rZipL xs ys H1 Q
section
variable {X : Cx} {e e2 : Expr} {ta : TA} {p p2 pos cpos : Pos}
theorem zip_vals {xs ys : List V} {us ws : List Value} (r : Vals xs us) (r2 : Vals ys ws) {j : Nat} {x1 x2 : Value} (h1 : us.toArray[j]? = some x1) (h2 : ws.toArray[j]? = some x2) : ∃ v1 v2, (xs.zip ys)[j]? = some (v1, v2) ∧ RelV v1 x1 ∧ RelV v2 x2 := by
  have g : ∀ {xs : List V} {us : List Value}, Vals xs us → ∀ {j : Nat} {x : Value}, us[j]? = some x → ∃ v, xs[j]? = some v ∧ RelV v x := by
    intro xs us r
    induction r with
    | nil => intro j x h; simp at h
    | cons a _ ih =>
      intro j x h
      cases j with
      | zero => cases h; exact ⟨_, rfl, a⟩
      | succ j => exact ih h
  obtain ⟨v1, e1, q1⟩ := g r (by simpa using h1)
  obtain ⟨v2, e2, q2⟩ := g r2 (by simpa using h2)
  refine ⟨v1, v2, ?_, q1, q2⟩
  rw [List.zip, List.getElem?_zipWith, e1, e2]
theorem zip_laid {pins : List (Addr × Obj)} {σ : L2.St} {H : Hp} {s : Shared} {h' : Heap} {tk : Nat} {xs ys : List V} {us ws : List Value} {acc : Array Value} {c : Nat} {as : List Addr} {S : Addr} (hSz : s.heap.objs.size ≤ S) (I : Inv X pins σ H s) (r : Vals xs us) (r2 : Vals ys ws) (hz : xs.length ≤ sizeLine)
    (hk : ∀ b o, s.heap.get? b = some o → h'.get? b = some o) (hS : h'.get? S = some { cls := .type "list", dict := none, data := .seq acc c, slots := #[] }) (hl : as.length = min us.toArray.size ws.toArray.size)
    (hG : XzG (fun i v => us.toArray[i]? = some v) (fun i v => ws.toArray[i]? = some v) S h' as) (hacc : acc.toList = as.map Value.ref) :
    ∃ H' : Hp, Same H H' ∧ H S = none ∧ (∀ t ∈ as, H t = none) ∧ S ∉ as ∧ H' S = some (.lst (as.map V.ref)) ∧ Paired (fun (t : Addr) (q : V × V) => H' t = some (.tup [q.1, q.2])) as (xs.zip ys) ∧ Inv X pins σ H' { s with heap := h', toks := tk } := by
  have lk : as.length = (xs.zip ys).length := by
    rw [List.length_zip, hl, r.length, r2.length]; simp
  have hSn : S ∉ as := fun z => Nat.lt_irrefl _ (hG.above _ z)
  have nd : as.Nodup := List.Pairwise.imp (fun {a b} (h : a < b) => Nat.ne_of_lt h) hG.rise
  have new : ∀ t ∈ as, H t = none := fun t ht => I.hok.fresh (Nat.le_trans hSz (Nat.le_of_lt (hG.above t ht)))
  have newS : H S = none := I.hok.fresh hSz
  have atP := putP_at as (xs.zip ys) (upd H S (.lst (as.map V.ref))) lk nd
  have off : ∀ b, b ∉ as → b ≠ S → putP (upd H S (.lst (as.map V.ref))) as (xs.zip ys) b = H b := fun b h1 h2 => by rw [putP_off as _ _ h1, upd_ne h2]
  have low : ∀ b o, s.heap.get? b = some o → b ∉ as ∧ b ≠ S := fun b o e => ⟨fun z => absurd (Heap.lt_size e) (Nat.not_lt.mpr (Nat.le_trans hSz (Nat.le_of_lt (hG.above b z)))), Nat.ne_of_lt (Nat.lt_of_lt_of_le (Heap.lt_size e) hSz)⟩
  have kp : ∀ b u, H b = some u → (putP (upd H S (.lst (as.map V.ref))) as (xs.zip ys)) b = some u := fun b u e => by
    rw [off b (fun z => by rw [new b z] at e; cases e) (fun z => by rw [z, newS] at e; cases e)]
    exact e
  have eS : putP (upd H S (.lst (as.map V.ref))) as (xs.zip ys) S = some (.lst (as.map V.ref)) := by rw [putP_off as _ _ hSn, upd_same]
  refine ⟨putP (upd H S (.lst (as.map V.ref))) as (xs.zip ys), kp, newS, new, hSn, eS, atP, ?_⟩
  refine I.call' (ch := []) rfl ⟨fun b o q _ _ _ => hk b o q, fun b o q _ _ _ => ⟨o.slots, hk b o q⟩, fun b o q n _ => ?_, fun b o q _ => ⟨o, hk b o q⟩, fun b xs q => kp b _ q, fun b o u q => kp b _ q, fun b ps q => ⟨#[], by rw [kp b _ q]; simp⟩⟩ (fun b u q => ?_) I.bare fun b z => by simp at z
  · obtain ⟨z1, z2⟩ := low b o q
    rw [off b z1 z2]
    exact n
  · by_cases hb : b ∈ as
    · obtain ⟨j, pk, e1, e2, e3⟩ := LiI.paired_ix atP hb
      rw [e3] at q
      cases q
      obtain ⟨x1, x2, f1, f2, f3⟩ := hG.pairs j b e1
      obtain ⟨v1, v2, g1, g2, g3⟩ := zip_vals r r2 f1 f2
      rw [e2] at g1
      cases g1
      exact ⟨by show 2 ≤ sizeLine; decide, [x1, x2], .cons g2 (.cons g3 .nil), ⟨_, f3, rfl, _, rfl⟩⟩
    · by_cases hb2 : b = S
      · rw [hb2] at q ⊢
        rw [eS] at q
        cases q
        refine ⟨by rw [List.length_map, lk, List.length_zip]; omega, acc.toList, c, by rw [hacc]; exact LiI.vals_refs as, ?_⟩
        rw [Array.toArray_toList]
        exact hS
      · rw [off b hb hb2] at q
        exact (I.hok b u q).stay (fun d v _ y => hk d v y) (fun d y => kp d _ y) fun d xs y => kp d _ y
theorem apart5 {z n : Nat} (h : z < n) : z ≠ n ∧ z ≠ n + 1 ∧ z ≠ n + 2 ∧ z ≠ n + 3 ∧ z ≠ n + 4 ∧ z ≠ n + 5 := by omega
theorem n5 (n : Nat) : n + 2 ≠ n + 4 ∧ n + 3 ≠ n + 4 ∧ n + 2 ≠ n + 3 ∧ n + 2 ≠ n ∧ n + 2 ≠ n + 1 ∧ n + 4 ≠ n ∧ n + 3 ≠ n ∧ n + 4 ≠ n + 1 ∧ n + 3 ≠ n + 1 ∧ n ≠ n + 1 ∧ n + 1 ≠ n ∧ n + 5 ≠ n + 4 ∧ n + 5 ≠ n + 2 ∧ n + 5 ≠ n + 3 ∧ n + 5 ≠ n ∧ n + 5 ≠ n + 1 := by omega
theorem mem_pair {a b c : Nat} (h : c ∈ [a, b]) : c = a ∨ c = b := by simpa using h
/-- zip(a, b), then list of it -/
theorem list_zip {pins : List (Addr × Obj)} {σ : L2.St} {H : Hp} {s : Shared} {Q : VK} {a b : Addr} {xs ys : List V} {us ws : List Value} {o1 o2 : Obj} {B1 B2 : Heap → Prop} {St1 St2 : Nat → Heap → Prop} (I : Inv X pins σ H s) (r : Vals xs us) (r2 : Vals ys ws) (hx : xs.length ≤ sizeLine)
    (al : a < s.heap.objs.size) (bl : b < s.heap.objs.size) (G1 : Begins (.ref a) o1 B1) (G2 : Begins (.ref b) o2 B2) (g1 : B1 s.heap) (g2 : B2 s.heap)
    (D1 : Draws X.prog X.w X.A.in1.in1.in1 s.heap.objs.size [s.heap.objs.size, a] us.toArray.size (fun i v => us.toArray[i]? = some v) St1) (D2 : Draws X.prog X.w X.A.in1.in1.in1 (s.heap.objs.size + 1) [s.heap.objs.size + 1, b] ws.toArray.size (fun i v => ws.toArray[i]? = some v) St2)
    (k1 : ∀ h', h'.get? s.heap.objs.size = some o1 → (∀ c o, s.heap.get? c = some o → h'.get? c = some o) → St1 0 h') (k2 : ∀ h', h'.get? (s.heap.objs.size + 1) = some o2 → (∀ c o, s.heap.get? c = some o → h'.get? c = some o) → St2 0 h')
    (h : rZipL xs ys H Q) : wpAny (model X.prog X.w) X.A (call (.type "zip") [.ref a, .ref b]) (fun v s' => wpAny (model X.prog X.w) X.A (call (.type "list") [v]) (EP X pins σ Q) X.xe s') X.xe s := by
  refine zip_begins2 G1 G2 g1 g2 fun h' hz hTI hTO e1 e2 hsz hk => ?_
  obtain ⟨q1, q2, q3, q4, q5, q6, q7, q8, q9, q10, q11, q12, q13, q14, q15, q16⟩ := n5 s.heap.objs.size
  obtain ⟨m1, m2, m3, m4, m5, m6⟩ := apart5 al
  obtain ⟨l1, l2, l3, l4, l5, l6⟩ := apart5 bl
  have Z : XzSep (s.heap.objs.size + 4) (s.heap.objs.size + 2) (s.heap.objs.size + 3) s.heap.objs.size (s.heap.objs.size + 1) h'.objs.size [s.heap.objs.size, a] [s.heap.objs.size + 1, b] := by
    rw [hsz]
    refine { TIz := q1, TOz := q2, TITO := q3, TIi1 := q4, mem1 := List.mem_cons_self, zf1 := fun m => ?_, Tf1 := fun m => ?_, TIi2 := q5, mem2 := List.mem_cons_self, zf2 := fun m => ?_, Tf2 := fun m => ?_, sep1_2 := fun m => ?_, sep2_1 := fun m => ?_, Sz := q12, ST := q13, SO := q14, Sf1 := fun m => ?_, Sf2 := fun m => ?_ }
    · rcases mem_pair m with z | z
      · exact q6 z
      · exact m5 z.symm
    · rcases mem_pair m with z | z
      · exact q7 z
      · exact m4 z.symm
    · rcases mem_pair m with z | z
      · exact q8 z
      · exact l5 z.symm
    · rcases mem_pair m with z | z
      · exact q9 z
      · exact l4 z.symm
    · rcases mem_pair m with z | z
      · exact q10 z
      · exact l1 z.symm
    · rcases mem_pair m with z | z
      · exact q11 z
      · exact m2 z.symm
    · rcases mem_pair m with z | z
      · exact q15 z
      · exact m6 z.symm
    · rcases mem_pair m with z | z
      · exact q16 z
      · exact l6 z.symm
  have st : XzSt St1 St2 (s.heap.objs.size + 4) (s.heap.objs.size + 2) (s.heap.objs.size + 3) s.heap.objs.size (s.heap.objs.size + 1) h'.objs.size 0 h' := ⟨hTI, k1 h' e1 hk, k2 h' e2 hk, .inl ⟨rfl, hz, _, _, hTO⟩⟩
  have lm : min us.toArray.size ws.toArray.size ≤ sizeLine := by
    have := r.length
    have e : us.toArray.size = us.length := by simp
    rw [e]
    omega
  refine xz_call (s := { s with heap := h' }) Z D1 D2 rfl lm st hz fun h2 tk acc c as hkp hS hl hG hacc => ?_
  have old : ∀ c o, s.heap.get? c = some o → h2.get? c = some o := fun c o e => by
    obtain ⟨w1, w2, w3, w4, w5, w6⟩ := apart5 (Heap.lt_size e)
    exact hkp c o w5 w4 w1 w2 (hk c o e)
  obtain ⟨H', s1, s2, s3, s4, s5, s6, J⟩ := zip_laid (S := h'.objs.size) (tk := tk) (by rw [hsz]; exact Nat.le_add_right _ _) I r r2 hx old hS hl hG hacc
  exact ⟨.ref _, H', J, rfl, h H' _ as s1 s2 s3 s4 s5 s6⟩
/-- list(zip(e, e2)) -/
theorem pe_listZip (hc : X.calm = true) (hg : Gl X "list") (hm : X.mg "list" = none) (hg2 : Gl X "zip") (hm2 : X.mg "zip" = none) (ha : PA X [e, e2] ta)
    (hs1 : starEach [.Call (.Name "zip" p2) [e, e2] [] cpos] X.env = (false, eval (.Call (.Name "zip" p2) [e, e2] [] cpos) X.env) :: starEach [] X.env := by rfl)
    (hs : starEach [e, e2] X.env = (false, eval e X.env) :: starEach [e2] X.env := by rfl) (hpl : (backTo cpos (starEach [e2] X.env)).any (·.1) = false := by rfl) :
    PE X (.Call (.Name "list" p) [.Call (.Name "zip" p2) [e, e2] [] cpos] [] pos) (tZipL X.K ta) := by
  refine ⟨fun pins s σ H Q I hq => ?_⟩
  refine wpAny_Call_Name_kw (ld_blt I hg hm PyProof.Rows.boot_list ?_)
  refine PyProof.Rows.callWith_type1 ?_ hs1 rfl
  rw [hs1]
  show wpAny _ _ (spliced ((false, eval (.Call (.Name "zip" p2) [e, e2] [] cpos) X.env) :: backTo pos (starEach [] X.env))) _ _ _
  refine Calls.spliced_cons ?_
  refine Call_ (ld_blt (I.tok _) hg2 hm2 PyProof.Rows.boot_zip (PyProof.Rows.callWith_type1 (thn (ha.run cpos pins _ σ H _ (I.tok _) hq) fun vs s1 ⟨ts, H1, I1, r1, q1⟩ => ?_) hs hpl))
  obtain ⟨a, b, xs, ys, ex, q1, hq⟩ := q1
  subst ex
  cases r1 with
  | cons r rr =>
    cases rr with
    | cons r' rr =>
      cases rr
      cases r
      cases r'
      have hh : X.A.in1.in1.in1.handled = none := I1.ok.hd hc
      have fin : wpAny (model X.prog X.w) X.A (call (Value.type "zip") [.ref a, .ref b]) (fun v s' => wpAny (model X.prog X.w) X.A (call (.type "list") [v]) (EP X pins σ Q) X.xe s') X.xe s1 → wpAny (model X.prog X.w) X.A (call (Value.type "zip") [.ref a, .ref b])
          (fun v s₁ => wpAny (model X.prog X.w) X.A (spliced (backTo pos (starEach [] X.env))) (fun vs s₂ => wpAny (model X.prog X.w) X.A (call (Value.type "list") (v :: vs)) (EP X pins σ Q) X.xe s₂) X.xe s₁) X.xe s1 := fun z => thn z fun v s2 z2 => Calls.spliced_nil z2
      refine fin ?_
      rcases q1 with ⟨hqx, hqy⟩ | ⟨hqx, hqy⟩
      · obtain ⟨its, rv, p1, z1⟩ := I1.list hqx
        obtain ⟨its2, rv2, p2, z2⟩ := I1.list hqy
        exact list_zip I1 rv rv2 z1 p1.lt p2.lt (begins_list a its.toArray) (begins_list b its2.toArray) p1.isList p2.isList
          (Draws.list hh _ _ (Nat.ne_of_lt p1.lt) _) (Draws.list hh _ _ (Nat.ne_of_lt (Nat.lt_succ_of_lt p2.lt)) _)
          (fun h' e k => ⟨⟨_, e, rfl, rfl⟩, p1.isList.at fun o q => k _ o q⟩) (fun h' e k => ⟨⟨_, e, rfl, rfl⟩, p2.isList.at fun o q => k _ o q⟩) hq
      · obtain ⟨its, rv, p1, z1⟩ := I1.tuple hqx
        obtain ⟨its2, rv2, p2, z2⟩ := I1.tuple hqy
        have l1 : a < s1.heap.objs.size := by obtain ⟨o, ho, _⟩ := id p1; exact Heap.lt_size ho
        have l2 : b < s1.heap.objs.size := by obtain ⟨o, ho, _⟩ := id p2; exact Heap.lt_size ho
        have t1 : s1.heap.IsTuple a its.toArray := p1
        have t2 : s1.heap.IsTuple b its2.toArray := p2
        exact list_zip I1 rv rv2 z1 l1 l2 (begins_tuple a its.toArray) (begins_tuple b its2.toArray) t1 t2
          (Draws.tuple hh _ _ (Nat.ne_of_lt l1) _) (Draws.tuple hh _ _ (Nat.ne_of_lt (Nat.lt_succ_of_lt l2)) _)
          (fun h' e k => ⟨⟨_, e, rfl, rfl⟩, t1.at fun o q => k _ o q⟩) (fun h' e k => ⟨⟨_, e, rfl, rfl⟩, t2.at fun o q => k _ o q⟩) hq
end
end Xo
set_option Elab.async false
set_option linter.all false
set_option maxRecDepth 100000
set_option maxHeartbeats 4000000
/-! Dict comprehensions whose keys are tuples (after the library's rule for ints and texts); enumerate of a tuple. -/
namespace Xo
open PySem PySem.Spec PyProof.Rows L2
theorem d_dictSetT {X : Cx} {pins : List (Addr × Obj)} {σ : L2.St} {H : Hp} {s : Shared} {E : Value → Shared → Prop} {D b : Addr} {kvs : List (List Key × V)} {k : List Key} {v : V} {r : Value} {Q : Unit → Shared → Prop} (hu : X.A.units + 1 < cLine) (I : Inv X pins σ H s) (hD : H D = some (.dT kvs)) (hz : kvs.length < sizeLine)
    (eb : H b = some (.tup (k.map kV))) (rv : RelV v r) (h : ∀ s', Inv X pins σ (upd H D (.dT (putK kvs k v))) s' → Q () s') : wpAny (model X.prog X.w) X.A (dictSet D (.ref b) r) Q E s := by
  obtain ⟨z, hd, xs, rel, dd⟩ := dt_of I.hok hD
  have hzx : xs.length ≤ sizeLine := by rw [← Paired.length rel]; exact z
  have hl : (putK kvs k v).length ≤ sizeLine := by have := length_putK kvs k v; omega
  refine wpAny_dictSet_heap (hsz := hzx) (show (tupleKind (mixKind X.prog X.w)).room X.A by have := hu; show X.A.units < cLine; omega) (key_of I.hok eb) dd fun h' dd' hs => h _ ?_
  obtain ⟨q, es, ep, hq, h2, h3, h4, _, h5⟩ := dd'
  refine d_write I (by rw [hD]; exact True.intro) hs ⟨q, hq⟩ ⟨hl, hd, _, (rel.put k eb rv).keeps fun c ys ec => ?_, q, es, ep, hq, h2, h3, h4, h5⟩
  rw [upd_ne (ne_of ec hD (fun z => nomatch z))]
  exact ec
section
variable {X : Cx}
/-- {k: v for target in iter if ..}, keys tuples: D the new dict -/
def tDcT (wi : TI) (g : TG) (tt : TT) (tk tv : TE) (vs : List Nat) : TE := fun σ H Q => wi σ H fun J H1 => ∀ D, H1 D = none → ∃ W : Nat → Nat → Hp → Prop, (∃ m, W 0 m (upd H1 D (.dT []))) ∧ ∀ i m H, W i m H →
  (J.stop i H ∧ Q (.ref D) H) ∨ (J.go i H ∧ ∃ Nx : Hp → Prop, (∀ H', Nx H' → ∃ m', m' < m ∧ W (i + 1) m' H') ∧ ∀ x H', J.yld i H x H' → g x (wipe σ vs) H' fun σ2 H2 => wipe σ2 vs = wipe σ vs ∧ tt σ2 H2 fun b H3 =>
    if b = true then tk σ2 H3 fun y H4 => tv σ2 H4 fun z H5 => ∃ kvs k b, y = .ref b ∧ H5 b = some (.tup (k.map kV)) ∧ H5 D = some (.dT kvs) ∧ kvs.length < sizeLine ∧ Nx (upd H5 D (.dT (putK kvs k z))) else Nx H3)
theorem dcT_core {pins : List (Addr × Obj)} {s : Shared} {σ : L2.St} {H : Hp} {Q : VK} {kx vx tg iter : Expr} {ifs : List Expr} {scope : Scope} {own : List (Str × Nat)} {pos pos' : Pos} {wi : TI} {g : TG} {tt : TT} {tk tv : TE} {use : Option (Value → Sem Unit)} {Qf : Value → Shared → Prop}
    (hc : X.calm = true) (hu : X.A.units + 1 < cLine) (hN : X.N.Nodup) (I : Inv X pins σ H s) (hi : PI X tg iter wi) (ok : BlkOk X.N X.env.scope scope own)
    (hg : ∀ (s : Shared) (H : Hp) (C : Addr) (cl : List (Str × Addr)) (fp : List Addr), PG (X.blk s H scope (compEnvC scope cl C X.env) fp) tg g) (ht : ∀ (s : Shared) (H : Hp) (C : Addr) (cl : List (Str × Addr)) (fp : List Addr), PTs (X.blk s H scope (compEnvC scope cl C X.env) fp) ifs tt)
    (hk : ∀ (s : Shared) (H : Hp) (C : Addr) (cl : List (Str × Addr)) (fp : List Addr), PE (X.blk s H scope (compEnvC scope cl C X.env) fp) kx tk)
    (he : ∀ (s : Shared) (H : Hp) (C : Addr) (cl : List (Str × Addr)) (fp : List Addr), PE (X.blk s H scope (compEnvC scope cl C X.env) fp) vx tv) (hs : ∀ x, foldedSetIterable iter X.env x = pure x)
    (h : tDcT wi g tt tk tv (own.map (·.2)) σ H Q)
    (hRR : ∀ D C s' m H', Inv X pins σ H' s' → Q (.ref D) H' → s'.heap.Ns C m → FpOk X pins H' C → compPost (model X.prog X.w) X.A X.xe use Qf (.ref D) C (.ok .next) s') :
    wpAny (model X.prog X.w) X.A (comprehension (.DictComp kx vx [⟨tg, iter, ifs, 0⟩] scope pos) scope X.env pos' newDict false (eval iter X.env) use) Qf X.xe s := by
  have hfree : ∀ y ∈ scope.names, y.2 = .free → ∃ c, X.env.cells.lookup y.1 = some c := fun y hy e => by
    rcases ok.free y hy e with k | k
    · exact I.ok.has _ (.inl k)
    · exact I.ok.has _ (.inr k)
  refine wpAny_comprehension_free (use := use) rfl hs (closure_ok hfree) ok.kind (fun y hy e => by rw [ok.uniq y hy, e])
    (thn (hi.run pins s σ H _ I h) fun xv s1 hx => thn hx fun itv s2 h2 => ?_)
  obtain ⟨it, fp, tn, J, H2, e, I2, T, st2, f2, q⟩ := h2
  subst e
  refine wpAny_newObj_type (newEnv_comp ?_)
  generalize hD : s2.heap.objs.size = D
  have hDn : H2 D = none := I2.hok.fresh (Nat.le_of_eq hD)
  obtain ⟨W, ⟨m0, w0⟩, turn⟩ := q D hDn
  -- the new list
  generalize hs3 : ({ s2 with heap := s2.heap.push { cls := .type "dict", data := .dict #[] } } : Shared) = s3
  have I3 : Inv X pins σ (upd H2 D (.dT [])) s3 := by
    rw [← hs3]
    refine I2.laid (t' := s2.toks) (fun b o e => Heap.get?_push_of_some _ e) (Nat.le_of_eq hD) ?_
    rw [← hD]
    exact dt_empty s2.heap I2.big
  have h3 : s3.heap = s2.heap.push { cls := .type "dict", data := .dict #[] } := by rw [← hs3]
  have sz : ∀ b ∈ fp, b < s2.heap.objs.size := fun b hb => by
    obtain ⟨o, e, _⟩ := T.obj _ _ st2 b hb
    exact Heap.lt_size e
  have f3 : ∀ b ∈ fp, FpOk X pins (upd H2 D (.dT [])) b ∧ b < s3.heap.objs.size := fun b hb => by
    have hlt := sz b hb
    refine ⟨⟨?_, (f2 b hb).2⟩, by rw [h3, Heap.size_push]; exact Nat.lt_succ_of_lt hlt⟩
    rw [upd_ne (by rw [← hD]; exact Nat.ne_of_lt hlt)]
    exact (f2 b hb).1
  have st3 : tn 0 s3.heap := T.keep _ _ _ st2 fun b _ o e => by rw [h3]; exact Heap.get?_push_of_some _ e
  have I4 := block_start I3 ok hN f3
  have pg := hg s3 (upd H2 D (.dT [])) s3.heap.objs.size (cellsFrom (s3.heap.objs.size + 1) scope.names (cloFrom X.env.cells scope.names [])) fp
  have pt := ht s3 (upd H2 D (.dT [])) s3.heap.objs.size (cellsFrom (s3.heap.objs.size + 1) scope.names (cloFrom X.env.cells scope.names [])) fp
  have pk := hk s3 (upd H2 D (.dT [])) s3.heap.objs.size (cellsFrom (s3.heap.objs.size + 1) scope.names (cloFrom X.env.cells scope.names [])) fp
  have pe := he s3 (upd H2 D (.dT [])) s3.heap.objs.size (cellsFrom (s3.heap.objs.size + 1) scope.names (cloFrom X.env.cells scope.names [])) fp
  show codeAny _ _ (.compStart (.DictComp kx vx [⟨tg, iter, ifs, 0⟩] scope pos) 0 (.ref it) (.ref D) (compEnvC scope (cellsFrom (s3.heap.objs.size + 1) scope.names (cloFrom X.env.cells scope.names [])) s3.heap.objs.size X.env)) (compPost (model X.prog X.w) X.A X.xe use Qf (.ref D) s3.heap.objs.size) { s3 with heap := pushCells (s3.heap.push { cls := .type "dict", data := .dict #[] }) scope.names }
  have nfp : ∀ b ∈ fp, (upd H2 D (.dT [])) b = none := fun b hb => (f3 b hb).1.1
  generalize hce : compEnvC scope (cellsFrom (s3.heap.objs.size + 1) scope.names (cloFrom X.env.cells scope.names [])) s3.heap.objs.size X.env = ce at I4 pg pt pk pe ⊢
  have cL : ce.locals = s3.heap.objs.size := by subst hce; rfl
  generalize hH3 : upd H2 D (.dT []) = H3 at I3 I4 pg pt pk pe w0 nfp f3
  generalize hs4 : ({ s3 with heap := pushCells (s3.heap.push { cls := .type "dict", data := .dict #[] }) scope.names } : Shared) = s4 at I4 ⊢
  have st4 : tn 0 s4.heap := T.keep _ _ _ st3 fun b _ o e => by rw [← hs4]; exact pushCells_keeps _ _ _ _ (Heap.get?_push_of_some _ e)
  have stat : ∀ {σ' : L2.St} {H' : Hp} {s' : Shared}, Inv (X.blk s3 H3 scope ce fp) [] σ' H' s' → (∀ b ∈ fp, H' b = none) → ∀ b ∈ fp, FpOk (X.blk s3 H3 scope ce fp) [] H' b := fun {σ' H' s'} I' hn b hb =>
    ⟨hn b hb, (I'.ok.exf b hb).1, I'.ok.exfs b hb, .inl hb, fun x c e => (I'.ok.exf b hb).2 x c e, fun p hp => absurd (show p ∈ ([] : List (Addr × Obj)) ++ [] from hp) (by simp)⟩
  have loop : codeAny (model X.prog X.w) X.A (.compLoop (.DictComp kx vx [⟨tg, iter, ifs, 0⟩] scope pos) 0 (.ref it) (.ref D) ce) (compPost (model X.prog X.w) X.A X.xe use Qf (.ref D) s3.heap.objs.size) s4 := by
    refine compLoop_anyD (fun n s' => ∃ i H', Inv (X.blk s3 H3 scope ce fp) [] (wipe σ (own.map (·.2))) H' s' ∧ tn i s'.heap ∧ (∀ b ∈ fp, H' b = none) ∧ W i n H') ?_ m0 ⟨0, H3, I4, st4, nfp, w0⟩
    rintro n s5 ⟨i, H5, I5, st5, n5, w5⟩
    rcases turn i n H5 w5 with ⟨stop, qq⟩ | ⟨go, Nx, hNx, step⟩
    · have td := T.done (X.blk s3 H3 scope ce fp) rfl rfl rfl hc i [] s5 _ H5 (fun _ _ => False) I5 (stat I5 n5) st5 stop
      refine thnF td fun r s6 ⟨hr, I6⟩ => ?_
      subst hr
      -- back in the def's context
      have I7 : Inv X pins σ H5 s6 := I3.call' (ch := fp) I6.os I6.base I6.hok I6.bare fun b hb => ⟨(f3 b hb).1.2.2.2.1, (f3 b hb).1.2.1, (f3 b hb).1.2.2.2.2.1, (f3 b hb).1.2.2.2.2.2⟩
      have nC : H5 s3.heap.objs.size = none := by
        have z : H5 ce.locals = none := I6.free
        rw [cL] at z
        exact z
      obtain ⟨m, hn, _⟩ := I6.loc
      have hn : s6.heap.Ns ce.locals m := hn
      rw [cL] at hn
      exact hRR D s3.heap.objs.size s6 m H5 I7 qq hn (I3.fpOk (Nat.le_refl _) nC)
    · have ti := T.item (X.blk s3 H3 scope ce fp) rfl rfl rfl hc i [] s5 _ H5 (fun _ _ => False) I5 (stat I5 n5) st5 go
      refine thnF ti fun r s6 ⟨u, hr, h6⟩ => ?_
      subst hr
      refine thnF h6 fun _ s7 ⟨x, H7, I7, r7, y7, st7, n7⟩ => ?_
      have I7' := I7.pinned (stat I7 n7) (T.obj _ _ st7)
      refine thnF (pg.run _ s7 _ H7 x u _ I7' r7 (step x H7 y7)) fun _ s8 ⟨σ8, H8, I8, hw8, q8⟩ => ?_
      refine thnF (pt.run _ s8 σ8 H8 _ I8 q8) fun b s9 ⟨H9, I9, q9⟩ => ?_
      -- the turn's end
      have fin : ∀ {s' : Shared} {H' : Hp}, Inv (X.blk s3 H3 scope ce fp) ([] ++ pinsAt fp s7.heap) σ8 H' s' → Nx H' → ∃ m, m < n ∧ ∃ i H', Inv (X.blk s3 H3 scope ce fp) [] (wipe σ (own.map (·.2))) H' s' ∧ tn i s'.heap ∧ (∀ b ∈ fp, H' b = none) ∧ W i m H' := fun {s' H'} I' nx => by
        obtain ⟨m', hm, w'⟩ := hNx H' nx
        have pin' : ∀ b ∈ fp, ∀ o, s7.heap.get? b = some o → s'.heap.get? b = some o ∧ H' b = none := fun b hb o e =>
          let z := I'.pin (b, o) (List.mem_append_right _ (List.mem_append_right _ (mem_pinsAt hb e)))
          ⟨z.1, z.2.1⟩
        have hl : (wipe σ (own.map (·.2))).length = σ8.length := by rw [← hw8, wipe_length]
        refine ⟨m', hm, i + 1, H', (I'.unpinned (pins := [])).weak hl (fun j v e => ?_), T.keep _ _ _ st7 fun b hb o e => (pin' b hb o e).1, fun b hb => ?_, w'⟩
        · rw [← hw8] at e
          exact (wipe_some e).1
        · obtain ⟨o, e, _⟩ := T.obj _ _ st7 b hb
          exact (pin' b hb o e).2
      cases b with
      | false =>
        simp only [Bool.false_eq_true, if_false] at q9 ⊢
        exact fin I9 q9
      | true =>
        simp only [if_true] at q9 ⊢
        refine thnF (pk.run _ s9 σ8 H9 _ I9 q9) fun z s10 ⟨yk, H10, I10, r10, q10⟩ => ?_
        refine thnF (pe.run _ s10 σ8 H10 _ I10 q10) fun z2 s11 ⟨yv, H11, I11, r11, kvs, k, b, ek, eb, hD11, hz11, nx⟩ => ?_
        subst ek
        cases (show z = Value.ref b from r10)
        exact d_dictSetT (X := X.blk s3 H3 scope ce fp) (show (X.blk s3 H3 scope ce fp).A.units + 1 < cLine from hu) I11 hD11 hz11 eb r11 fun s12 I12 => fin I12 nx
  exact codeAny_compStart_dict loop (T.self X.A 0 _ _ _ st4 loop)
theorem pe_dcT {kx vx tg iter : Expr} {ifs : List Expr} {scope : Scope} {own : List (Str × Nat)} {pos : Pos} {wi : TI} {g : TG} {tt : TT} {tk tv : TE} (hc : X.calm = true) (hu : X.A.units + 1 < cLine) (hN : X.N.Nodup) (hi : PI X tg iter wi) (ok : BlkOk X.N X.env.scope scope own)
    (hg : ∀ (s : Shared) (H : Hp) (C : Addr) (cl : List (Str × Addr)) (fp : List Addr), PG (X.blk s H scope (compEnvC scope cl C X.env) fp) tg g) (ht : ∀ (s : Shared) (H : Hp) (C : Addr) (cl : List (Str × Addr)) (fp : List Addr), PTs (X.blk s H scope (compEnvC scope cl C X.env) fp) ifs tt)
    (hk : ∀ (s : Shared) (H : Hp) (C : Addr) (cl : List (Str × Addr)) (fp : List Addr), PE (X.blk s H scope (compEnvC scope cl C X.env) fp) kx tk)
    (he : ∀ (s : Shared) (H : Hp) (C : Addr) (cl : List (Str × Addr)) (fp : List Addr), PE (X.blk s H scope (compEnvC scope cl C X.env) fp) vx tv) (hs : ∀ x, foldedSetIterable iter X.env x = pure x := by intro _; rfl) :
    PE X (.DictComp kx vx [⟨tg, iter, ifs, 0⟩] scope pos) (tDcT wi g tt tk tv (own.map (·.2))) := by
  refine ⟨fun pins s σ H Q I h => ?_⟩
  rw [arm_eval_DictComp]
  refine dcT_core hc hu hN I hi ok hg ht hk he hs h fun D C s' m H' I' q hn f => ⟨m, hn, fun h'' sb => ?_⟩
  obtain ⟨f0, f1, f2, f3, f4, f5⟩ := f
  exact ⟨.ref D, H', I'.turned (t' := s'.toks) (fun b o hb e => (sb.2 b hb).trans e) f0 f1 f3 f4 f5, rfl, q⟩
end
end Xo
namespace PySem
set_option maxHeartbeats 1000000 in
theorem xe_meets_new (t : Addr) (items : Array Value) :
    Meets (Builtin.«enumerate.__new__» ⟨[.type "enumerate", .ref t], []⟩) (fun _ R s => s.heap.IsTuple t items ∧
      R (.ok (.ret (.ref (s.heap.push { cls := .type "tuple_iterator", data := .fields #[.ref t, .int 0 0] }).objs.size))) { s with heap := (s.heap.push { cls := .type "tuple_iterator", data := .fields #[.ref t, .int 0 0] }).push { cls := .type "enumerate", data := .fields #[.none, .bool false, .ref s.heap.objs.size, rawInt 0, .none, .none] } }) :=
  .of_wp fun prog w A R s h => by
    obtain ⟨hp, g, d, tk, os⟩ := s; obtain ⟨h1, h⟩ := h
    have hsub := sub_enumerate
    have q1 : ∀ {A' : Around} {E : Value → Shared → Prop} {Q : Value → Shared → Prop}, Q (.ref hp.objs.size) ⟨hp.push { cls := .type "tuple_iterator", data := .fields #[.ref t, .int 0 0] }, g, d, tk, os⟩ → wpAny (model prog w) A' (pyIter (.ref t)) Q E ⟨hp, g, d, tk, os⟩ :=
      fun q => (begins_tuple t items).iter prog w _ _ ⟨hp, g, d, tk, os⟩ _ h1 q
    wp_walk using q1
    refine wpAny_stack_any fun st => wpAny_pure ?_
    split
    · rename_i c _ _ _ _ _
      cases (c == Value.type "enumerate")
      · wp_walk using q1
        exact ⟨_, rfl, h⟩
      · wp_walk using q1
        exact ⟨_, rfl, h⟩
    · wp_walk using q1
      exact ⟨_, rfl, h⟩
section
variable {prog : Program} {w : World} {A : Around} {E : Value → Shared → Prop} {s : Shared}
theorem xe_call {t : Addr} {items : Array Value} {Q : Value → Shared → Prop} (hL : s.heap.IsTuple t items)
    (h : ∀ h', IsEnum h' (s.heap.objs.size + 1) s.heap.objs.size 0 .none → h'.IsTupleIter s.heap.objs.size t 0 → h'.objs.size = s.heap.objs.size + 2 →
      (∀ b o, s.heap.get? b = some o → h'.get? b = some o) → Q (.ref (s.heap.objs.size + 1)) { s with heap := h' }) :
    wpAny (model prog w) A (call (.type "enumerate") [.ref t]) Q E s := by
  refine callType_new F.called_enumerate (by decide) (F.typeCall_enumerate_1 _) (F.newCall_enumerate_1 _) (fun obj => F.args_object_init_2 obj _) F.entry_enumerate_new
    (xe_meets_new t items) ⟨hL, ?_⟩
  have hz : (s.heap.push { cls := .type "tuple_iterator", data := .fields #[.ref t, .int 0 0] }).objs.size = s.heap.objs.size + 1 := Heap.size_push ..
  show _ ∧ _
  rw [hz]
  have he : IsEnum ((s.heap.push { cls := .type "tuple_iterator", data := .fields #[.ref t, .int 0 0] }).push
      { cls := .type "enumerate", data := .fields #[.none, .bool false, .ref s.heap.objs.size, rawInt 0, .none, .none] }) (s.heap.objs.size + 1) s.heap.objs.size 0 .none := by
    have := Heap.get?_push_size (s.heap.push { cls := .type "tuple_iterator", data := .fields #[.ref t, .int 0 0] })
      (o := { cls := .type "enumerate", data := .fields #[.none, .bool false, .ref s.heap.objs.size, rawInt 0, .none, .none] }) rfl
    rw [hz] at this; exact this
  exact ⟨⟨_, he, rfl⟩, h _ he ⟨_, Heap.get?_push_of_some _ (Heap.get?_push_size _ rfl), rfl, rfl⟩ (by rw [Heap.size_push, hz]) fun b o x => Heap.get?_push_of_some _ (Heap.get?_push_of_some _ x)⟩
end
end PySem
namespace Xo
open PySem PySem.Spec PyProof.Rows L2
theorem xe_end {prog : Program} {w : World} {A : Around} {E : Value → Shared → Prop} {s : Shared} {a e it : Addr} {i : Nat} {c : Int} {items : Array Value} {old : Value} {Q : Option Value → Shared → Prop} (hh : A.in1.handled = none) (hai : a ≠ it) (he : IsEnum s.heap e it c old) (hit : s.heap.IsTupleIter it a i) (tp : s.heap.IsTuple a items) (hi : items.size ≤ i)
    (hQ : ∀ h', Heap.ExtBut it s.heap h' → Q none { s with heap := h' }) : wpAny (model prog w) A (pyNext (.ref e)) Q E s := by
  have hT : s.TypeIs (.ref e) "enumerate" := ⟨_, he, rfl⟩
  unfold pyNext
  refine wpAny_bind (wpAny_attempt (wpAny_callSpecial?_slot (name := Str.ofString "__next__") hT F.slot_enumerate_next
    (wpAny_call_entry F.slot_enumerate_next hT F.entry_enumerate_next ?_ (F.args_enumerate_next_1 _))))
  show wpAny _ _ (field (.ref e) 2 >>= _) _ _ _
  refine wpAny_bind (wpAny_field he rfl (x := .ref it) rfl ?_)
  refine wpAny_bind (wpAny_nextOf_tuple_end hh hit tp (Array.getElem?_eq_none hi) fun h' x he' hx' => ?_)
  obtain ⟨o, ho, hc⟩ := hx'
  refine wpAny_bind (wpAny_isInstance (T := "StopIteration") (b := true) ⟨o, ho, hc⟩ isSubtype_stop ?_)
  exact wpAny_pure (hQ _ he')
/-- the tuple at a, each item in a new pair -/
def IteT (K : PySem.W.Frag) (a : Addr) : It :=
  ⟨fun i H => ∃ (xs : List V) (x : V), SqT K H a xs ∧ xs[i]? = some x, fun i H v H' => ∃ T x, v = .ref T ∧ H T = none ∧ H' = upd H T (.tup [.int (i : Nat), x]) ∧ ∀ xs, SqT K H a xs → xs[i]? = some x, fun i H => ∃ xs : List V, SqT K H a xs ∧ xs.length ≤ i⟩
theorem turn_enumT {P : Program} {w : World} {K : PySem.W.Frag} {elts : List Expr} {kk : Nat} {tpos : Pos} (a e it : Addr) (hai : a ≠ it) (hae : a ≠ e) :
    Turn P w K (.Tuple elts kk tpos) (IteT K a) [e, it] e (fun i h => (∃ old, IsEnum h e it ((i : Nat) : Int) old) ∧ h.IsTupleIter it a i ∧ e ≠ it) where
  mem := by simp
  obj := fun i h st b hb => by
    obtain ⟨⟨old, he⟩, ⟨o, ho, hc, hd⟩, _⟩ := st
    have e' : b = e ∨ b = it := by simpa using hb
    rcases e' with z | z
    · rw [z]; exact ⟨_, he, fun v q => nomatch q⟩
    · rw [z]; exact ⟨o, ho, fun v q => by rw [hd] at q; cases q⟩
  keep := fun i h h' st k => let ⟨⟨old, he⟩, hi, hne⟩ := st; ⟨⟨old, k e (by simp) _ he⟩, hi.at fun o q => k it (by simp) o q, hne⟩
  item := by
    intro X hP hw hK hc i pins s σ H E I hf st hg
    subst hP hw hK
    obtain ⟨⟨old, he⟩, hit, hne⟩ := st
    obtain ⟨xs, x, hq, hx⟩ := hg
    obtain ⟨its, rv, p, hz⟩ := I.tuple hq
    obtain ⟨u, hu, ru⟩ := rv.get hx
    have hel : e < s.heap.objs.size := Heap.lt_size he
    have hil : it < s.heap.objs.size := by obtain ⟨_, q, _⟩ := hit; exact Heap.lt_size q
    have tp : s.heap.IsTuple a its.toArray := p
    have ilt : i < its.toArray.size := by
      have := (List.getElem?_eq_some_iff.mp hu).1
      simpa using this
    have eef : e ∉ [it, a] := fun m => by
      rcases mem_pair m with z | z
      · exact hne z
      · exact hae z.symm
    refine wpAny_pyNext_enum_itemC (A := X.A) (Draws.tuple (prog := X.prog) (w := X.w) (A := X.A.in1) (I.ok.hd hc) it a hai its.toArray) he ⟨hit, tp⟩ ilt hne eef fun x' h' tk hP ho st' hT hsz hk => ?_
    obtain ⟨hit', _⟩ := st'
    have ex : x' = u := by
      have hu' : its.toArray[i]? = some u := by simpa using hu
      rw [hu'] at hP
      exact (Option.some.inj hP).symm
    subst ex
    refine ⟨_, rfl, wpAny_letOwnedTupleGo_enum (s := { s with heap := h', toks := tk + 1 }) ho fun h'' he' sb => ?_⟩
    have hT2 : h''.get? s.heap.objs.size = some { cls := .type "tuple", data := .seq #[.int i tk, x'] } := (sb.2 _ (Nat.ne_of_gt hel)).trans hT
    have new : ObjOk X.prog X.w (upd H s.heap.objs.size (.tup [.int (i : Nat), x])) h'' s.heap.objs.size (.tup [.int (i : Nat), x]) :=
      ⟨by show 2 ≤ sizeLine; decide, [.int i tk, x'], .cons ⟨_, rfl⟩ (.cons ru .nil), ⟨_, hT2, rfl, _, rfl⟩⟩
    have I1 : Inv X pins σ (upd H s.heap.objs.size (.tup [.int (i : Nat), x])) { s with heap := h'', toks := tk + 1 } :=
      I.turnedNew (ch := [e, it]) (fun b ob hb q => (sb.2 b (fun z => hb (by simp [z]))).trans (hk b ob (fun z => hb (by simp [z])) (fun z => hb (by simp [z])) q)) hf (Nat.le_refl _) new
    refine ⟨.ref s.heap.objs.size, _, I1, rfl, ⟨_, x, rfl, I.hok.fresh (Nat.le_refl _), rfl, fun ys hy => by rw [I.tuple_inj hy hq]; exact hx⟩, ⟨⟨x', ?_⟩, hit'.at fun o q => (sb.2 it (Ne.symm hne)).trans q, hne⟩, fun b hb => ?_⟩
    · have e1 : ((i + 1 : Nat) : Int) = (i : Int) + 1 := by omega
      rw [e1]; exact he'
    · have hb' : b < s.heap.objs.size := by
        have e' : b = e ∨ b = it := by simpa using hb
        rcases e' with z | z
        · rw [z]; exact hel
        · rw [z]; exact hil
      rw [upd_ne (Nat.ne_of_lt hb')]
      exact (hf b hb).1
  done := by
    intro X hP hw hK hc i pins s σ H E I hf st hg
    subst hP hw hK
    obtain ⟨⟨old, he⟩, hit, hne⟩ := st
    obtain ⟨xs, hq, hx⟩ := hg
    obtain ⟨its, rv, p, hz⟩ := I.tuple hq
    obtain ⟨f0, f1, f2, f3, f4, f5⟩ := hf it (by simp)
    have hl := rv.length
    have tp : s.heap.IsTuple a its.toArray := p
    refine xe_end (I.ok.hd hc) hai he hit tp (by simp; omega) fun h' eb => ⟨rfl, I.turned (t' := s.toks) (fun b o hb q => eb b o hb q) f0 f1 f3 f4 f5⟩
  self := fun A i s Q E st h => let ⟨⟨_, he⟩, _⟩ := st; wpAny_pyIter_enum he h
def iEnumT (K : PySem.W.Frag) (ta : TA) : TI := fun σ H R => ta σ H fun vs H1 => ∃ a xs, vs = [.ref a] ∧ SqT K H1 a xs ∧ R (IteT K a) H1
theorem pi_enumT {X : Cx} {e : Expr} {ta : TA} {p pos tpos : Pos} {elts : List Expr} {kk : Nat} (hg : Gl X "enumerate") (hm : X.mg "enumerate" = none) (ha : PA X [e] ta) (hs : starEach [e] X.env = [(false, eval e X.env)] := by rfl) :
    PI X (.Tuple elts kk tpos) (.Call (.Name "enumerate" p) [e] [] pos) (iEnumT X.K ta) := by
  refine ⟨fun pins s σ H R I h => ?_⟩
  refine Call_ (ld_blt I hg hm boot_enumerate (PyProof.Rows.callWith_type1 (thn (ha.run pos pins s σ H _ I h) fun us s1 ⟨vs, H1, I1, r1, q1⟩ => ?_) hs rfl))
  obtain ⟨a, xs, ex, hq, q⟩ := q1
  subst ex
  cases r1 with
  | cons r rr =>
    cases rr
    cases r
    obtain ⟨its, rv, p', hz⟩ := I1.tuple hq
    have tp : s1.heap.IsTuple a its.toArray := p'
    have al : a < s1.heap.objs.size := by obtain ⟨o, ho, _⟩ := id p'; exact Heap.lt_size ho
    refine xe_call tp fun h' he hit hsz hk => wpAny_pyIter_enum he ?_
    have I2 : Inv X pins σ H1 { s1 with heap := h' } := I1.kept (t' := s1.toks) hk
    refine ⟨s1.heap.objs.size + 1, [s1.heap.objs.size + 1, s1.heap.objs.size], _, _, H1, rfl, I2, turn_enumT a (s1.heap.objs.size + 1) s1.heap.objs.size (Nat.ne_of_lt al) (Nat.ne_of_lt (Nat.lt_succ_of_lt al)), ⟨⟨.none, he⟩, hit, Nat.succ_ne_self _⟩, fun b hb => ?_, q⟩
    have e' : b = s1.heap.objs.size + 1 ∨ b = s1.heap.objs.size := by simpa using hb
    have hle : s1.heap.objs.size ≤ b := by
      rcases e' with z | z
      · rw [z]; exact Nat.le_add_right _ _
      · rw [z]; exact Nat.le_refl _
    exact I1.fpOk hle (I1.hok.fresh hle)
end Xo
set_option Elab.async false
set_option linter.all false
set_option maxRecDepth 100000
set_option maxHeartbeats 2000000
/-! Rules told with the written part's own letter (for use within comprehensions). -/
namespace Xo
open PySem PySem.Spec PyProof.Rows L2
section
variable {X : Cx} (K : PySem.W.Frag) (hK : X.K = K)
include hK
theorem listZipQ {e e2 : Expr} {ta : TA} {p p2 pos cpos : Pos} (hc : X.calm = true) (hg : Gl X "list") (hm : X.mg "list" = none) (hg2 : Gl X "zip") (hm2 : X.mg "zip" = none) (ha : PA X [e, e2] ta)
    (hs1 : starEach [.Call (.Name "zip" p2) [e, e2] [] cpos] X.env = (false, eval (.Call (.Name "zip" p2) [e, e2] [] cpos) X.env) :: starEach [] X.env := by rfl)
    (hs : starEach [e, e2] X.env = (false, eval e X.env) :: starEach [e2] X.env := by rfl) (hpl : (backTo cpos (starEach [e2] X.env)).any (·.1) = false := by rfl) :
    PE X (.Call (.Name "list" p) [.Call (.Name "zip" p2) [e, e2] [] cpos] [] pos) (tZipL K ta) := by subst hK; exact pe_listZip hc hg hm hg2 hm2 ha hs1 hs hpl
theorem enumTQ {e : Expr} {ta : TA} {p pos tpos : Pos} {elts : List Expr} {kk : Nat} (hg : Gl X "enumerate") (hm : X.mg "enumerate" = none) (ha : PA X [e] ta) (hs : starEach [e] X.env = [(false, eval e X.env)] := by rfl) :
    PI X (.Tuple elts kk tpos) (.Call (.Name "enumerate" p) [e] [] pos) (iEnumT K ta) := by subst hK; exact pi_enumT hg hm ha hs
theorem notTQ {a : Expr} {ta : TE} {pos : Pos} (ha : PE X a ta) : PE X (.UnaryOp .Not a pos) (tNotT K ta) := by subst hK; exact pe_notT ha
end
end Xo
namespace Xo
open PySem PySem.Spec PyProof.Rows L2
/-- over a list or a tuple -/
def iSeq (K : PySem.W.Frag) (tl : TE) : TI := fun σ H R => iList K tl σ H R ∨ iTup K tl σ H R
theorem seqI {X : Cx} (K : PySem.W.Frag) (hK : X.K = K) {tg : Expr} {l : Expr} {tl : TE} (hl : PE X l tl) : PI X tg l (iSeq K tl) := by
  subst hK
  exact ⟨fun pins s σ H R I h => h.elim ((pi_list hl).run pins s σ H R I) ((pi_tup hl).run pins s σ H R I)⟩
section
variable {g : TG} {tt : TT} {te : TE} {vs : List Nat} {σ : L2.St} {H1 : Hp} {D : Addr} {Qd : Hp → Prop}
theorem seqT' {K : PySem.W.Frag} {H H' : Hp} {a : Addr} {xs : List V} (e : Same H H') (h : SqT K H a xs) : SqT K H' a xs := by
  rcases h with (h | ⟨o, h⟩) | h
  · exact .inl (.inl (e _ _ h))
  · exact .inl (.inr ⟨o, e _ _ h⟩)
  · exact .inr h
/-- over a tracked tuple -/
theorem lc_fmT {α : Type} {K : PySem.W.Frag} {a : Addr} (f : α → V) (ys : List α) (F : α → Option V) (hx : SqT K H1 a (ys.map f)) (hD : H1 D = none) (hn : ys.length < sizeLine)
    (hs : ∀ (i : Nat) (y : α) (h : Hp) (acc : List V) (nx : Hp → Prop), ys[i]? = some y → Same H1 h → h D = some (.lst acc) → acc.length < sizeLine → fmNext D acc h nx (F y) → LcTurn g tt te vs σ D (f y) h nx)
    (hd : ∀ h, Same H1 h → h D = some (.lst (ys.filterMap F)) → Qd h) :
    ∃ W : Nat → Nat → Hp → Prop, (∃ m, W 0 m (upd H1 D (.lst []))) ∧ ∀ i m h, W i m h → ((Itt K a).stop i h ∧ Qd h) ∨
      ((Itt K a).go i h ∧ ∃ nx : Hp → Prop, (∀ h', nx h' → ∃ m', m' < m ∧ W (i + 1) m' h') ∧ ∀ v h', (Itt K a).yld i h v h' → LcTurn g tt te vs σ D v h' nx) := by
  refine lc_tup (fun i h => Same H1 h ∧ h D = some (.lst ((ys.take i).filterMap F))) ⟨fun b u z => by rw [upd_ne (ne_of_none z hD)]; exact z, upd_same⟩ (fun i h _ ⟨s, _⟩ => seqT' s hx) (fun i v h hv ⟨s, e⟩ => ?_) (fun h ⟨s, e⟩ => ?_)
  · obtain ⟨y, hy, rfl⟩ : ∃ y, ys[i]? = some y ∧ v = f y := by
      rw [List.getElem?_map] at hv
      cases q : ys[i]? with
      | none => rw [q] at hv; cases hv
      | some y => rw [q] at hv; exact ⟨y, rfl, (Option.some.inj hv).symm⟩
    exact hs i y h _ _ hy s e (fm_len F hn) (fm_step F hy hD s e)
  · rw [List.length_map, List.take_length] at e
    exact hd h s e
/-- over a tracked tuple; a turn may make new things -/
theorem lc_fmTA {α : Type} {K : PySem.W.Frag} {a : Addr} (f : α → V) (ys : List α) (F : α → Option V) (hx : SqT K H1 a (ys.map f)) (hD : H1 D = none) (hn : ys.length < sizeLine)
    (hs : ∀ (i : Nat) (y : α) (h : Hp) (acc : List V) (nx : Hp → Prop), ys[i]? = some y → Same H1 h → h D = some (.lst acc) → acc.length < sizeLine → (∀ h', Same h h' → fmNext D acc h' nx (F y)) → LcTurn g tt te vs σ D (f y) h nx)
    (hd : ∀ h, Same H1 h → h D = some (.lst (ys.filterMap F)) → Qd h) :
    ∃ W : Nat → Nat → Hp → Prop, (∃ m, W 0 m (upd H1 D (.lst []))) ∧ ∀ i m h, W i m h → ((Itt K a).stop i h ∧ Qd h) ∨
      ((Itt K a).go i h ∧ ∃ nx : Hp → Prop, (∀ h', nx h' → ∃ m', m' < m ∧ W (i + 1) m' h') ∧ ∀ v h', (Itt K a).yld i h v h' → LcTurn g tt te vs σ D v h' nx) := by
  refine lc_tup (fun i h => Same H1 h ∧ h D = some (.lst ((ys.take i).filterMap F))) ⟨fun b u z => by rw [upd_ne (ne_of_none z hD)]; exact z, upd_same⟩ (fun i h _ ⟨s, _⟩ => seqT' s hx) (fun i v h hv ⟨s, e⟩ => ?_) (fun h ⟨s, e⟩ => ?_)
  · obtain ⟨y, hy, rfl⟩ : ∃ y, ys[i]? = some y ∧ v = f y := by
      rw [List.getElem?_map] at hv
      cases q : ys[i]? with
      | none => rw [q] at hv; cases hv
      | some y => rw [q] at hv; exact ⟨y, rfl, (Option.some.inj hv).symm⟩
    exact hs i y h _ _ hy s e (fm_len F hn) fun h' s' => fm_step F hy hD (Same.trans s s') (s' _ _ e)
  · rw [List.length_map, List.take_length] at e
    exact hd h s e
/-- over the signs of a text -/
theorem lc_fmS (x : Str) (F : Nat → Option V) (hD : H1 D = none) (hn : x.length < sizeLine)
    (hs : ∀ (i : Nat) (c : Nat) (h : Hp) (acc : List V) (nx : Hp → Prop), x.cps.toList[i]? = some c → Same H1 h → h D = some (.lst acc) → acc.length < sizeLine → fmNext D acc h nx (F c) → LcTurn g tt te vs σ D (.str ⟨#[c]⟩) h nx)
    (hd : ∀ h, Same H1 h → h D = some (.lst (x.cps.toList.filterMap F)) → Qd h) :
    ∃ W : Nat → Nat → Hp → Prop, (∃ m, W 0 m (upd H1 D (.lst []))) ∧ ∀ i m h, W i m h → ((Its x).stop i h ∧ Qd h) ∨
      ((Its x).go i h ∧ ∃ nx : Hp → Prop, (∀ h', nx h' → ∃ m', m' < m ∧ W (i + 1) m' h') ∧ ∀ v h', (Its x).yld i h v h' → LcTurn g tt te vs σ D v h' nx) := by
  have hl : x.cps.toList.length < sizeLine := by rw [Array.length_toList]; exact hn
  refine ⟨fun i m h => m = x.cps.size - i ∧ i ≤ x.cps.size ∧ Same H1 h ∧ h D = some (.lst ((x.cps.toList.take i).filterMap F)), ⟨x.cps.size, by simp, Nat.zero_le _, fun b u z => by rw [upd_ne (ne_of_none z hD)]; exact z, upd_same⟩, ?_⟩
  rintro i m h ⟨rfl, hi, s, e⟩
  by_cases c : i < x.cps.size
  · refine .inr ⟨c, fun h' => Same H1 h' ∧ h' D = some (.lst ((x.cps.toList.take (i + 1)).filterMap F)), fun h' ⟨s', e'⟩ => ⟨x.cps.size - (i + 1), by omega, rfl, c, s', e'⟩, ?_⟩
    rintro v h' ⟨rfl, d, hd', rfl⟩
    have hd2 : x.cps.toList[i]? = some d := by rw [Array.getElem?_toList]; exact hd'
    exact hs i d _ _ _ hd2 s e (fm_len F hl) (fm_step F hd2 hD s e)
  · have ei : i = x.cps.size := by omega
    refine .inl ⟨by show x.cps.size ≤ i; omega, hd h s ?_⟩
    rw [e, ei, ← Array.length_toList, List.take_length]
end
end Xo
set_option Elab.async false
set_option linter.all false
set_option maxRecDepth 100000
set_option maxHeartbeats 2000000
/-! Own == with either answer; != by it; isinstance of an own class. -/
namespace Xo
open PySem PySem.Spec PyProof.Rows L2 PySem.W
section
variable {prog : Program} {w : World} {A : Around} {E : Value → Shared → Prop} {s : Shared} {K : Frag} {x C L f : Addr} {h₀ : Heap} {m : Str → Option Value} {ox : Obj} {od : Option Obj} {name : Str} {b tb : Value} {id : String}
theorem ifBound_B {M : Model} {args : List Value} {Q : Option Value → Shared → Prop} (X : K.In s.heap) (I : InstAt s.heap x ox C od) (hs : findIn K (.ref C) name = some (some (.builtin id))) (hb : ∀ self, bindSpecial (.builtin id) self = pure (.builtin id, [self]))
    (h : wpAny M A (call (.builtin id) (.ref x :: args)) (fun v => Q (some v)) E s) : wpAny M A (callSpecialIfBound? (.ref x) name args) Q E s := by
  simp only [callSpecialIfBound?, bindSpecialIfBound?]
  refine wpAny_holding (wpAny_bind (wpAny_bind (wpAny_bind (I.type.here ((looks_findIn X hs).here ?_)))))
  refine wpAny_bind (wpAny_askSetting (wpAny_ite ?_))
  have fin : wpAny M A (call (.builtin id) ([.ref x] ++ args) >>= fun v => pure (some v)) Q E s := wpAny_bind (wpAny_mono h (fun v s' h' => wpAny_pure h') fun _ _ h' => h')
  rw [hb]
  split
  · exact wpAny_bind (wpAny_pure (wpAny_pure (by exact fin)))
  · exact wpAny_tryCatch (wpAny_bind (wpAny_pure (wpAny_pure (by exact fin))))
theorem slot_ne : Slot "object" "__ne__" "object.__ne__" := .of (owner := "object") (n := "__ne__") (by rw [typeLookup_type, builtinLookup_eq_fast]; kernel_rfl) (by decide +kernel) (by decide +kernel) (by decide +kernel)
    (.inl (by decide +kernel)) (by rw [isSubtype_type]; kernel_rfl)
theorem objNe_own {Q : Fin → Shared → Prop} (hu : A.units < cLine) (X : K.In s.heap) (I : InstAt s.heap x ox C od) (hs : findIn K (.ref C) "__eq__" = some (some (.ref f))) (hf : isFn K (.ref f) = true)
    (h : wpAny (model prog w) A (call (.ref f) [.ref x, b]) (fun v s' => ∃ k, v = .bool k ∧ Q (.done (.ret (.bool !k))) s') E s) : wpAny (model prog w) A (Builtin.«object.__ne__» ⟨[.ref x, b], []⟩) Q E s := by
  have sp : ∀ Q' : Option Value → Shared → Prop, (∀ k s', Q (.done (.ret (.bool !k))) s' → Q' (some (.bool k)) s') → wpAny (model prog w) A (callSpecialIfBound? (.ref x) "__eq__" [b]) Q' E s := fun Q' q =>
    ifBound_K X I hs hf (wpAny_mono h (fun v s' ⟨k, e, z⟩ => by subst e; exact q k s' z) fun _ _ z => z)
  unfold Builtin.«object.__ne__»
  repeat (first | with_reducible refine wpAny_cRoomFor hu ?_ | with_reducible refine sp _ (fun k s' q => ?_) | wp_step)
  exact q
theorem ne_own {Q : Value → Shared → Prop} (hu : A.units + 1 < cLine) (Fh : Fr h₀ L s.heap m) (X₀ : K.In h₀) (I : InstAt s.heap x ox C od) (hb : Looks (model prog w) s.heap (typeOf b) tb) (hn : notFirst K C tb = true)
    (hs : findIn K (.ref C) "__eq__" = some (some (.ref f))) (hf : isFn K (.ref f) = true) (hne : findIn K (.ref C) "__ne__" = some (some (.builtin "object.__ne__"))) (ho : mroIn K C (.type "object") = some true)
    (h : wpAny (model prog w) A.in1 (call (.ref f) [.ref x, b]) (fun v s' => ∃ k, v = .bool k ∧ Q (.bool !k) s') E s) : wpAny (model prog w) A (richCompare .NotEq (.ref x) b) Q E s := by
  have X := X₀.keeps Fh.keep
  have one : wpAny (model prog w) A (tryCompare (.ref x) "__ne__" b) (fun r s' => ∃ v, r = some v ∧ Q v s') E s := by
    unfold tryCompare
    refine wpAny_bind (ifBound_B X I hne slot_ne.bind (wpAny_call (codeAny_call_builtin slot_ne.plain PySem.F.cmpEntry_ne (check_slot PySem.F.cmpKind_ne PySem.F.cmpSplit_ne ?_ (PySem.F.cmpArgs_ne _ _) ?_))))
    · unfold isInstance
      exact I.type.andThen (looks_subIn X (t := .ref C) ho)
    · refine objNe_own (A := A.in1) hu X I hs hf (wpAny_mono h (fun v s' ⟨k, e, q⟩ => ⟨k, e, ?_⟩) fun _ _ z => z)
      exact wpAny_pure ⟨_, rfl, q⟩
  unfold richCompare
  simp only [oneThing_ref]
  have hu0 : A.units < cLine := by omega
  refine wpAny_holding (wpAny_bind (wpAny_cRoomFor hu0 ?_))
  refine wpAny_bind (I.type.here (wpAny_bind (hb.here ?_)))
  split
  · rename_i q
    have e : subIn K tb (.ref C) = some false := by
      rcases Bool.or_eq_true_iff.mp hn with e | e
      · rw [beq_iff_eq.mp e] at q; simp at q
      · exact beq_iff_eq.mp e
    refine wpAny_bind ((looks_subIn X e).here ?_)
    simp only [Bool.false_eq_true, if_false]
    refine wpAny_bind (wpAny_mono one (fun r s' z => ?_) fun _ _ e => e)
    obtain ⟨v, rfl, hq⟩ := z
    exact wpAny_pure hq
  · refine wpAny_bind (wpAny_pure ?_)
    simp only [Bool.false_eq_true, if_false]
    refine wpAny_bind (wpAny_mono one (fun r s' z => ?_) fun _ _ e => e)
    obtain ⟨v, rfl, hq⟩ := z
    exact wpAny_pure hq
end
theorem str_not (K : Frag) (C : Addr) : notFirst K C (.type "str") = true := by
  unfold notFirst
  have : subIn K (.type "str") (.ref C) = some false := by
    show (fastBuiltinMro "str").map (·.contains (Value.ref C)) = some false
    have e : fastBuiltinMro "str" = some [.type "str", .type "object"] := by kernel_rfl
    rw [e]; rfl
  rw [this]; simp
section
variable {X : Cx} {n : Nat} {CX : CXT} {C f : Addr} {fd : FuncData} {ps : List Str} {sp : Sp} {E : XK}
/-- the right side: an instance of the same class, or a text -/
def RightI (C : Addr) (y : V) (H : Hp) : Prop := (∃ b dx fs, y = .ref b ∧ H b = some (.ins C dx fs)) ∨ ∃ z, y = .str z
def rEqI (C : Addr) (sp : Sp) (E : XK) : R2 := fun x y H Q => ∃ a dx fs, x = .ref a ∧ H a = some (.ins C dx fs) ∧ RightI C y H ∧ sp [x, y] H (fun v H' => ∃ k, v = .bl k ∧ Q (.bl k) H') E
def rNeI (C : Addr) (sp : Sp) (E : XK) : R2 := fun x y H Q => ∃ a dx fs, x = .ref a ∧ H a = some (.ins C dx fs) ∧ RightI C y H ∧ sp [x, y] H (fun v H' => ∃ k, v = .bl k ∧ Q (.bl !k) H') E
theorem right_looks {pins : List (Addr × Obj)} {σ : L2.St} {H : Hp} {s : Shared} {y : V} {v : Value} (I : Inv X pins σ H s) (r : RightI C y H) (rv : RelV y v) : ∃ tb, Looks (model X.prog X.w) s.heap (typeOf v) tb ∧ notFirst X.K C tb = true := by
  rcases r with ⟨b, dx, fs, rfl, hb⟩ | ⟨z, rfl⟩
  · cases rv
    obtain ⟨mB, J, _⟩ := ins_get I.hok hb
    obtain ⟨od', J', _⟩ := J.look
    exact ⟨_, J'.type, by simp [notFirst]⟩
  · obtain ⟨t, rfl⟩ := rv
    exact ⟨_, Looks.of_pure rfl, str_not _ _⟩
theorem op_eqI (F : FnOk X.prog X.w X.K X.mg X.base CX n f fd ps sp) (m : L2.Meth X.K C "__eq__" f) (hb : L2.Binds X.K fd ps []) (hr : Room n X.A) (hx : Passes CX X E) : OpR X (compareOp .Eq) (rEqI C sp E) := by
  intro pins s σ H x y u v Q I rx ry hq
  obtain ⟨a, dx, fs, rfl, ha, hy, hsp⟩ := hq
  cases rx
  obtain ⟨mA, J, _⟩ := ins_get I.hok ha
  obtain ⟨od, J, _⟩ := J.look
  obtain ⟨mm, hF⟩ := I.fr
  obtain ⟨tb, lk, nf⟩ := right_looks I hy ry
  show wpAny (model X.prog X.w) X.A (richCompare .Eq (.ref a) v) (EP X pins σ Q) X.xe s
  refine PySem.W.cmp_K (op := .Eq) (tb := tb) hr.units0 hF I.ok.mod.kin J lk nf m.at_ m.fn ?_
  refine wpAny_mono (run_fn (us := [.ref a, v]) (vs := [.ref a, y]) (dvs := []) (ds := []) F hr hb .nil hx I (.cons rfl (.cons ry .nil)) (by rw [List.append_nil]; exact hsp)) (fun r s' hz => ?_) fun _ _ z => z
  obtain ⟨z, H', I', rz, k, ez, q⟩ := hz
  subst ez
  cases rz
  exact ⟨.bl k, H', I', rfl, q⟩
theorem op_neI (F : FnOk X.prog X.w X.K X.mg X.base CX n f fd ps sp) (m : L2.Meth X.K C "__eq__" f) (hb : L2.Binds X.K fd ps []) (hne : findIn X.K (.ref C) "__ne__" = some (some (.builtin "object.__ne__"))) (ho : mroIn X.K C (.type "object") = some true)
    (hr : Room (n + 1) X.A) (hx : Passes CX X E) : OpR X (compareOp .NotEq) (rNeI C sp E) := by
  intro pins s σ H x y u v Q I rx ry hq
  obtain ⟨a, dx, fs, rfl, ha, hy, hsp⟩ := hq
  cases rx
  obtain ⟨mA, J, _⟩ := ins_get I.hok ha
  obtain ⟨od, J, _⟩ := J.look
  obtain ⟨mm, hF⟩ := I.fr
  obtain ⟨tb, lk, nf⟩ := right_looks I hy ry
  have hu := hr.units
  show wpAny (model X.prog X.w) X.A (richCompare .NotEq (.ref a) v) (EP X pins σ Q) X.xe s
  refine ne_own (tb := tb) (by omega) hF I.ok.mod.kin J lk nf m.at_ m.fn hne ho ?_
  have e0 : Env0 X.prog X.w X.K X.mg X.base X.A.in1 X.stack s H := by
    have e := I.env0
    exact ⟨e.frames, e.mod, e.bs, e.bsz, e.funs, e.frf, e.hok, e.bare⟩
  have r2 : Vals [V.ref a, y] [Value.ref a, v] := .cons rfl (.cons ry .nil)
  have hl := F.len _ _ _ _ hsp
  refine wpAny_call (codeAny_mono (F.run X.A.in1 X.stack s H ⟨[.ref a, v], []⟩ [.ref a, v] [.ref a, y] _ E hr.in1 e0 (by
    have := hb s [.ref a, v] I.kIn (by simpa using hl)
    simpa using this) r2 hsp) fun r s' hq => ?_)
  cases r with
  | error e => exact hx pins σ H s e s' I hq
  | ok fl =>
    cases fl with
    | ret w =>
      obtain ⟨z, H', I', rz, k, ez, q⟩ := I.after hq
      subst ez
      cases rz
      exact ⟨k, rfl, .bl (!k), H', I', rfl, q⟩
    | next => exact False.elim hq
    | brk => exact False.elim hq
    | cont => exact False.elim hq
end
section
variable {K : Frag} {C : Addr} {H : Hp} {Q : VK}
theorem isi_own {a dx : Addr} {fs : List (Str × V)} (c : C8.InsC K C) (ha : H a = some (.ins C dx fs)) (q : Q (.bl true) H) : rIsi K [.ref a, .ref C] H Q :=
  ⟨.ref a, .ref C, .ref C, .ref C, true, rfl, .own C, .base (TyOf.ins ha c.cl c.ha c.hn c.htk c.hm), c.me, q⟩
theorem isi_str {x : Str} (h : kitOne K (.type "str") (.ref C) = some false) (q : Q (.bl false) H) : rIsi K [.str x, .ref C] H Q :=
  ⟨.str x, .ref C, .type "str", .ref C, false, rfl, .own C, .base (.str x), h, q⟩
end
end Xo
set_option Elab.async false
set_option linter.all false
set_option maxRecDepth 100000
set_option maxHeartbeats 2000000
/-! A text times an int; len of an own class; a new instance by one keyword. -/
namespace Xo
open PySem PySem.Spec PyProof.Rows L2 PySem.W
def repS (x : Str) (n : Nat) : Str := ⟨(List.replicate n x.cps).foldl (· ++ ·) #[]⟩
section
variable {X : Cx}
theorem op_mulS : OpR X (binaryOp .Mult) (fun x y H Q => ∃ (z : Str) (n : Nat), x = .str z ∧ y = .int n ∧ 2 ≤ n ∧ n ≤ 1000000 ∧ z.length = 1 ∧ Q (.str (repS z n)) H) := by
  intro pins s σ H x y v u Q I rx ry h
  obtain ⟨z, n, rfl, rfl, h2, hn, hz, q⟩ := h
  obtain ⟨t, rfl⟩ := rx
  obtain ⟨t', rfl⟩ := ry
  have tl : PySem.Builtin.Str.tooLong (z.length * n) = false := by
    rw [hz]
    show decide (1 * n > sizeLine) = false
    rw [sizeLine_eq]
    exact decide_eq_false (by omega)
  refine PySem.P.mul_str ?_ (fun _ _ => ?_) (fun _ _ => ?_) ?_
  · rw [decide_eq_false (by omega), decide_eq_false (by omega)]; rfl
  · rw [hz]
    have : (1 : Int) ≤ (2 ^ 63 - 1) / (n : Int) := by
      rw [Int.le_ediv_iff_mul_le (by omega)]
      omega
    show ¬ ((1 : Nat) : Int) > _
    omega
  · rw [Int.toNat_natCast]; exact tl
  · rw [if_neg (by omega)]
    have e : (((n : Int) == 1) || z.length == 0) = false := by
      rw [hz]
      simp
      omega
    rw [e]
    simp only [Bool.false_eq_true, if_false]
    rw [Int.toNat_natCast]
    exact ⟨fits_reps tl, ⟨.str (repS z n), H, I.tok _, ⟨_, rfl⟩, q⟩⟩
variable {n : Nat} {CX : CXT} {C f : Addr} {fd : FuncData} {ps : List Str} {sp : Sp} {E : XK}
theorem call_lenI (F : FnOk X.prog X.w X.K X.mg X.base CX n f fd ps sp) (m : L2.Meth X.K C "__len__" f) (hb : L2.Binds X.K fd ps []) (hr : Room (n + 1) X.A) (hx : Passes CX X E) :
    CallR X (.builtin "len") (fun xs H Q => ∃ a dx fs, xs = [.ref a] ∧ H a = some (.ins C dx fs) ∧ sp [.ref a] H (fun v H' => ∃ k : Nat, v = .int k ∧ k ≤ 1000000 ∧ Q (.int k) H') E) := by
  intro pins s σ H xs us Q I r hq
  obtain ⟨a, dx, fs, rfl, ha, hsp⟩ := hq
  obtain ⟨u, rfl, ru⟩ := vals1 r
  obtain rfl : u = Value.ref a := ru
  obtain ⟨mA, J, _⟩ := ins_get I.hok ha
  obtain ⟨od, J, _⟩ := J.look
  have sp' : Looks (model X.prog X.w) s.heap (specialOf (.ref a) "__len__") (some (.ref f)) := J.type.andThen (looks_findIn I.kIn m.at_)
  refine Calls.call_function_entry kind_len plain_len entry_len (args_len1 _) ?_
  unfold Builtin.«len»
  refine wpAny_bind (m := oneArg "len" _) (wpAny_pure ?_)
  have e0 : Env0 X.prog X.w X.K X.mg X.base X.A.in1 X.stack s H := by
    have e := I.env0
    exact ⟨e.frames, e.mod, e.bs, e.bsz, e.funs, e.frf, e.hok, e.bare⟩
  have r2 : Vals [V.ref a] [Value.ref a] := .cons rfl .nil
  have hl := F.len _ _ _ _ hsp
  refine wpAny_bind (m := callSpecial? (.ref a) (PySem.Str.ofString "__len__")) ?_
  simp only [callSpecial?]
  refine wpAny_bind (sp'.here ?_)
  refine wpAny_holding (wpAny_bind ((bind_fn I.kIn _ (beq_iff_eq.mp m.fn)).here ?_))
  refine wpAny_bind (wpAny_call (codeAny_mono (F.run X.A.in1 X.stack s H ⟨[.ref a], []⟩ [.ref a] [.ref a] _ E hr.in1 e0 (by
    have := hb s [.ref a] I.kIn (by simpa using hl)
    simpa using this) r2 hsp) fun r s' hq => ?_))
  cases r with
  | error e => exact hx pins σ H s e s' I hq
  | ok fl =>
    cases fl with
    | ret w =>
      obtain ⟨z, H', I', rz, k, ez, hk, q⟩ := I.after hq
      subst ez
      obtain ⟨t, rfl⟩ := rz
      refine wpAny_pure ?_
      refine wpAny_bind (wpAny_holding (wpAny_pure ?_))
      refine wpAny_bind (wpAny_letGo ?_)
      show wpAny _ _ (if ((k : Nat) : Int) < 0 then _ else _) _ _ _
      rw [if_neg (by omega)]
      show wpAny _ _ (if ((k : Nat) : Int) ≥ 2 ^ 63 then _ else _) _ _ _
      rw [if_neg (by omega)]
      exact wpAny_bind (wpAny_mkInt (wpAny_pure ⟨_, rfl, ⟨.int k, H', I'.tok _, ⟨_, rfl⟩, q⟩⟩))
    | next => exact False.elim hq
    | brk => exact False.elim hq
    | cont => exact False.elim hq
end
section
variable {K : PySem.W.Frag} {x qual : Str} {params : Arguments} {body : List Stmt} {scope : Scope} {kws : List (Str × V)} {f : Addr} {fd : FuncData} {ps : List Str}
/-- one value, one keyword -/
theorem kb_self (F : FunD K x qual params body scope [] kws f fd) (k : Str)
    (h : ∀ (kV doc pm : Value) (an : Option Addr) (cdv ct u w : Value), bindArgs (PySem.W.fnOf x qual params body scope .none kV doc pm an cdv ct) ⟨[u], [(k, w)]⟩ = pure (ps.zip [u, w])) : KBn K fd ps 1 [k] (fun us ws => us ++ ws) (fun us ws => us ++ ws) := by
  obtain ⟨oc, od, dV, kV, doc, pm, an, cdv, ct, osl, rfl, lk, hcd, hD, hK⟩ := F.ex
  obtain ⟨_, rfl⟩ := hD.resolve_right fun z => z.1 rfl
  exact ⟨fun s us ws _ l1 l2 => match us, ws, l1, l2 with | [u], [w], _, _ => .of_eq (h kV doc pm an cdv ct u w), fun r1 r2 => r1.append r2⟩
end
end Xo
set_option Elab.async false
set_option linter.all false
set_option maxRecDepth 100000
set_option maxHeartbeats 2000000
/-! Calls within a try suite: what a raise must promise depends on the state. -/
namespace Xo
open PySem PySem.Spec PyProof.Rows L2
section
variable {X : Cx} {CX : CXT} {k n : Nat} {f C g0 : Addr} {fd : FuncData} {ps ks : List Str} {sp : Sp} {E : L2.St → XK} {x m : Str} {p pos apos : Pos} {o e : Expr} {es : List Expr} {kws : List Keyword} {ta : TE} {t tk : TA} {g : List Value → List Value → List Value} {gV : List V → List V → List V}
theorem run_makeKS {pins : List (Addr × Obj)} {σ : L2.St} {H : Hp} {s : Shared} {Q : VK} {us ws : List Value} {vs zs : List V} (M : Mk X.K C f) (F : FnOk X.prog X.w X.K X.mg X.base CX k f fd ps sp) (hr : Room (k + 1) X.A) (hb : KBn X.K fd ps (n + 1) ks g gV) (hx : PassesAt CX X σ (E σ))
    (I : Inv X pins σ H s) (r : Vals vs us) (rz : Vals zs ws) (l1 : vs.length = n) (l2 : zs.length = ks.length)
    (h : ∀ x dx, H x = none → H dx = none → dx ≠ x → sp (gV (.ref x :: vs) zs) (upd (upd H dx (.own x)) x (.ins C dx [])) (fun v H2 => v = .non ∧ Q (.ref x) H2) (E σ)) :
    wpAny (model X.prog X.w) X.A (call (.ref C) us (ks.zip ws)) (EP X pins σ Q) X.xe s := by
  have hq := h (s.heap.objs.size + 1) s.heap.objs.size (I.hok.fresh (Nat.le_succ _)) (I.hok.fresh (Nat.le_refl _)) (Nat.ne_of_lt (Nat.lt_succ_self _))
  have I2 := Inv.made (C := C) I
  have r1 : Vals (V.ref (s.heap.objs.size + 1) :: vs) (Value.ref (s.heap.objs.size + 1) :: us) := .cons rfl r
  have r2 := hb.rel r1 rz
  have n1 : (Value.ref (s.heap.objs.size + 1) :: us).length = n + 1 := by
    rw [List.length_cons, ← r.length, l1]
  refine wpAny_call (make_map (f := f) I.kIn M.makes M.init (beq_iff_eq.mp M.fn) (codeAny_mono (F.run _ X.stack _ _ ⟨Value.ref (s.heap.objs.size + 1) :: us, ks.zip ws⟩ (g (Value.ref (s.heap.objs.size + 1) :: us) ws) _ _ (E σ) (hr.make C us (ks.zip ws))
    (I2.env0.make C us (ks.zip ws)) (hb.to _ (Value.ref (s.heap.objs.size + 1) :: us) ws I2.kIn n1 (rz.length.symm.trans l2)) r2 hq) fun r s' hq' => ?_))
  cases r with
  | error e => exact hx pins _ _ e s' I2 hq'
  | ok fl =>
    cases fl with
    | ret u =>
      obtain ⟨v, H', I3, rv, ev, q3⟩ := I2.after hq'
      subst ev
      exact ⟨rv, ⟨V.ref (s.heap.objs.size + 1), H', I3, rfl, q3⟩⟩
    | next => exact False.elim hq'
    | brk => exact False.elim hq'
    | cont => exact False.elim hq'
def tMakeKS (C : Addr) (n m : Nat) (sp : Sp) (gV : List V → List V → List V) (E : L2.St → XK) (t tk : TA) : TE := fun σ H Q => tMakeK C n m sp gV (E σ) t tk σ H Q
theorem pe_makeK0S (M : Mk X.K C f) (F : FnOk X.prog X.w X.K X.mg X.base CX k f fd ps sp) (hr : Room (k + 1) X.A) (hg : Gl X x) (hm : X.mg x = some (.ref C)) (hb : KBn X.K fd ps 1 ks g gV) (hx : ∀ σ, PassesAt CX X σ (E σ)) (hkw : PK X kws tk)
    (hall : (backToKw pos (keywordEach kws X.env)).all (·.1.isSome) = true := by rfl) (hks : (backToKw pos (keywordEach kws X.env)).filterMap (·.1) = ks := by rfl) (hdb : (x == ("__debug__" : Str)) = false := by decide)
    (hpl : ((backTo pos (starEach [] X.env)).any (·.1) || (backToKw pos (keywordEach kws X.env)).any (·.1.isNone)) = false := by rfl) :
    PE X (.Call (.Name x p) [] kws pos) (tMakeKS C 0 ks.length sp gV E tNil tk) := by
  refine ⟨fun pins s σ H Q I h => ?_⟩
  refine wpAny_Call_Name_kw (ld_glob I hg hm ?_ hdb)
  refine PySem.W.callWith_KW0 (h₀ := X.base) I.ok.mod.kin M.kp hall ?_ hpl
  refine thn (hkw.run pos pins s σ H _ I h) fun ws s2 ⟨zs, H2, I2, rz, l1, l2, q2⟩ => ⟨I2.kIn, ?_⟩
  rw [hks]
  exact run_makeKS (us := []) (vs := []) M F hr hb (hx σ) I2 .nil rz rfl l2 q2
theorem run_fnRS {pins : List (Addr × Obj)} {σ : L2.St} {H : Hp} {s : Shared} {Q : VK} {us : List Value} {vs : List V} (F : FnR X.prog X.w X.K X.mg X.base CX k f sp) (hr : Room k X.A) (hx : PassesAt CX X σ (E σ)) (I : Inv X pins σ H s) (r : Vals vs us) (h : sp vs H Q (E σ)) :
    codeAny (model X.prog X.w) X.A (.call (.ref f) ⟨us, []⟩) (fun r s' => match r with | .ok (.ret v) => EP X pins σ Q v s' | .ok _ => False | .error e => X.xe e s') s := by
  refine codeAny_mono (F X.A X.stack s H us vs Q (E σ) hr I.env0 r h) fun r s' hq => ?_
  cases r with
  | error e => exact hx pins H s e s' I hq
  | ok fl =>
    cases fl with
    | ret u => exact I.after hq
    | next => exact False.elim hq
    | brk => exact False.elim hq
    | cont => exact False.elim hq
def tSMethS (C : Addr) (sp : Sp) (E : L2.St → XK) (ta : TE) (t : TA) : TE := fun σ H Q => tSMeth C sp (E σ) ta t σ H Q
theorem pe_smethS {pl : Sem Bool} (he : PE X o ta) (r : SMet X.K C m g0) (F : FnR X.prog X.w X.K X.mg X.base CX k g0 sp) (hr : Room k X.A) (hx : ∀ σ, PassesAt CX X σ (E σ)) (ha : PA X (e :: es) t)
    (hst : starEach (e :: es) X.env = (false, eval e X.env) :: starEach es X.env := by rfl) (hpl : (backTo pos (starEach es X.env)).any (·.1) = false := by rfl)
    (ht : eval (.Call (.Attribute o m apos) (e :: es) [] pos) X.env = (do
      let ov ← eval o X.env
      standAt apos.atName
      let (f, first) ← holding [ov] (getMethod ov m pl)
      callWith pos f first (backTo pos (starEach (e :: es) X.env)) (backToKw pos (keywordEach [] X.env))) := by rfl) :
    PE X (.Call (.Attribute o m apos) (e :: es) [] pos) (tSMethS C sp E ta t) := by
  refine ⟨fun pins s σ H Q I h => ?_⟩
  refine PySem.W.methodCall_KW (pl := pl) (thn (he.run pins s σ H _ I h) fun u s1 ⟨x, H1, I1, rx, ex, q⟩ => ?_) ht
  subst ex
  obtain rfl : u = Value.ref C := rx
  refine getsm_ok I1 r fun s2 I2 => ?_
  refine PySem.W.callWith_K (h₀ := X.base) I2.ok.mod.kin r.kp (thn (ha.run pos pins s2 σ H1 _ I2 q) fun us s3 ⟨vs, H2, I3, rv, q2⟩ => ⟨I3.kIn, ?_⟩) hst hpl
  exact wpAny_call (run_fnRS (us := us) (vs := vs) F hr (hx σ) I3 rv q2)
theorem pe_smeth0S {pl : Sem Bool} (he : PE X o ta) (r : SMet X.K C m g0) (F : FnR X.prog X.w X.K X.mg X.base CX k g0 sp) (hr : Room k X.A) (hx : ∀ σ, PassesAt CX X σ (E σ))
    (ht : eval (.Call (.Attribute o m apos) [] [] pos) X.env = (do
      let ov ← eval o X.env
      standAt apos.atName
      let (f, first) ← holding [ov] (getMethod ov m pl)
      callWith pos f first (backTo pos (starEach [] X.env)) (backToKw pos (keywordEach [] X.env))) := by rfl) :
    PE X (.Call (.Attribute o m apos) [] [] pos) (tSMethS C sp E ta tNil) := by
  refine ⟨fun pins s σ H Q I h => ?_⟩
  refine PySem.W.methodCall_KW (pl := pl) (thn (he.run pins s σ H _ I h) fun u s1 ⟨x, H1, I1, rx, ex, q⟩ => ?_) ht
  subst ex
  obtain rfl : u = Value.ref C := rx
  refine getsm_ok I1 r fun s2 I2 => ?_
  refine PySem.W.callWith_K0 I2.kIn r.kp ?_
  exact wpAny_call (run_fnRS (us := []) (vs := []) F hr (hx σ) I2 .nil q)
end
/-- an item of a list or of a tuple -/
def rIxLT (K : PySem.W.Frag) : R2 := fun x y H Q => rIxL K x y H Q ∨ rIxT K x y H Q
theorem ixLT {X : Cx} (K : PySem.W.Frag) (hK : X.K = K := by rfl) : IxR X (rIxLT K) := by
  subst hK
  intro value slice pins s σ H x y v u Q I rx ry h hs
  rcases h with h | h
  · exact ix_list value slice pins s σ H x y v u Q I rx ry h hs
  · exact ix_tup value slice pins s σ H x y v u Q I rx ry h hs
end Xo
set_option Elab.async false
set_option linter.all false
set_option maxRecDepth 100000
set_option maxHeartbeats 4000000
/-! The text of the row by places; what the top leaves, by names. -/
namespace Yd
open PySem PySem.Spec PyProof.Rows L2 Xo
def top (i : Nat) : Stmt := PySem.Challenge.pw_everywire_k20_yards_there_and_back.main.body.getD i (.Pass ⟨0, 0, 0, 0⟩)
abbrev s_BadYardD__initD_ : Stmt := inClass (top 2) 0
abbrev s_OutOfD__initD_ : Stmt := inClass (top 3) 0
abbrev s_TooManyD__initD_ : Stmt := inClass (top 4) 0
abbrev s_NoSuchD__initD_ : Stmt := inClass (top 5) 0
abbrev s_bounds : Stmt := top 10
abbrev s_is_name : Stmt := top 11
abbrev s_is_small : Stmt := top 12
abbrev s_text_lines : Stmt := top 14
abbrev s_check_bound : Stmt := top 15
abbrev s_are_different_names : Stmt := top 16
abbrev s_YardReaderD__initD_ : Stmt := inClass (top 18) 0
abbrev s_YardReader_take : Stmt := inClass (top 18) 1
abbrev s_YardReader_add_bench : Stmt := inClass (top 18) 2
abbrev s_YardReader_add_wire : Stmt := inClass (top 18) 3
abbrev s_YardReader_end : Stmt := inClass (top 18) 4
abbrev s_read_yard : Stmt := top 19
abbrev s_yard_text : Stmt := top 20
abbrev s_check_benches : Stmt := top 21
abbrev s_neighbour_table : Stmt := top 23
abbrev s_road_table : Stmt := top 24
abbrev s_YardD__initD_ : Stmt := inClass (top 25) 0
abbrev s_YardD_split : Stmt := inClass (top 25) 1
abbrev s_YardD_check_bench : Stmt := inClass (top 25) 2
abbrev s_YardD_check_wire : Stmt := inClass (top 25) 3
abbrev s_YardD_check_list : Stmt := inClass (top 25) 4
abbrev s_YardD_in_order : Stmt := inClass (top 25) 5
abbrev s_Yard_neighbours : Stmt := inClass (top 25) 6
abbrev s_Yard_road : Stmt := inClass (top 25) 7
abbrev s_Yard_wire_between : Stmt := inClass (top 25) 8
abbrev s_Yard_sides : Stmt := inClass (top 25) 9
abbrev s_Yard_away : Stmt := inClass (top 25) 10
abbrev s_Yard_hangs : Stmt := inClass (top 25) 11
abbrev s_Yard_hull : Stmt := inClass (top 25) 12
abbrev s_Yard_nearest : Stmt := inClass (top 25) 13
abbrev s_Yard_all_parts : Stmt := inClass (top 25) 14
abbrev s_YardD_larger : Stmt := inClass (top 25) 15
abbrev s_YardD__eqD_ : Stmt := inClass (top 25) 16
abbrev s_YardD__lenD_ : Stmt := inClass (top 25) 17
abbrev s_Yard_in_row : Stmt := inClass (top 25) 18
abbrev s_Yard_in_star : Stmt := inClass (top 25) 19
abbrev s_Yard_in_days : Stmt := inClass (top 25) 20
abbrev s_law_bag : Stmt := top 27
abbrev s_law_draw : Stmt := top 28
abbrev s_law_of : Stmt := top 29
abbrev s_law_mixed : Stmt := top 30
abbrev s_law_like : Stmt := top 31
abbrev s_law_small : Stmt := top 32
abbrev s_law_fresh : Stmt := top 33
abbrev s_law_names : Stmt := top 34
abbrev s_law_plot : Stmt := top 35
abbrev s_law_plot_text : Stmt := top 36
abbrev s_law_reach : Stmt := top 37
abbrev s_law_read : Stmt := top 38
abbrev s_law_bend : Stmt := top 39
abbrev s_law_told : Stmt := top 40
abbrev s_law_row_made : Stmt := top 41
abbrev s_law_row_due : Stmt := top 42
abbrev s_law_crowd : Stmt := top 43
abbrev s_law : Stmt := top 44
def d_BadYardD__initD_ : He.DefD := ⟨("BadYard", some "__init__"), "__init__", "BadYard.__init__", defArgs s_BadYardD__initD_, defBody s_BadYardD__initD_, defScope s_BadYardD__initD_, [], []⟩
def d_OutOfD__initD_ : He.DefD := ⟨("OutOf", some "__init__"), "__init__", "OutOf.__init__", defArgs s_OutOfD__initD_, defBody s_OutOfD__initD_, defScope s_OutOfD__initD_, [], []⟩
def d_TooManyD__initD_ : He.DefD := ⟨("TooMany", some "__init__"), "__init__", "TooMany.__init__", defArgs s_TooManyD__initD_, defBody s_TooManyD__initD_, defScope s_TooManyD__initD_, [], []⟩
def d_NoSuchD__initD_ : He.DefD := ⟨("NoSuch", some "__init__"), "__init__", "NoSuch.__init__", defArgs s_NoSuchD__initD_, defBody s_NoSuchD__initD_, defScope s_NoSuchD__initD_, [], []⟩
def d_bounds : He.DefD := ⟨("bounds", none), "bounds", "bounds", defArgs s_bounds, defBody s_bounds, defScope s_bounds, [], []⟩
def d_is_name : He.DefD := ⟨("is_name", none), "is_name", "is_name", defArgs s_is_name, defBody s_is_name, defScope s_is_name, [], []⟩
def d_is_small : He.DefD := ⟨("is_small", none), "is_small", "is_small", defArgs s_is_small, defBody s_is_small, defScope s_is_small, [], []⟩
def d_text_lines : He.DefD := ⟨("text_lines", none), "text_lines", "text_lines", defArgs s_text_lines, defBody s_text_lines, defScope s_text_lines, [], []⟩
def d_check_bound : He.DefD := ⟨("check_bound", none), "check_bound", "check_bound", defArgs s_check_bound, defBody s_check_bound, defScope s_check_bound, [], []⟩
def d_are_different_names : He.DefD := ⟨("are_different_names", none), "are_different_names", "are_different_names", defArgs s_are_different_names, defBody s_are_different_names, defScope s_are_different_names, [], []⟩
def d_YardReaderD__initD_ : He.DefD := ⟨("YardReader", some "__init__"), "__init__", "YardReader.__init__", defArgs s_YardReaderD__initD_, defBody s_YardReaderD__initD_, defScope s_YardReaderD__initD_, [], []⟩
def d_YardReader_take : He.DefD := ⟨("YardReader", some "take"), "take", "YardReader.take", defArgs s_YardReader_take, defBody s_YardReader_take, defScope s_YardReader_take, [], []⟩
def d_YardReader_add_bench : He.DefD := ⟨("YardReader", some "add_bench"), "add_bench", "YardReader.add_bench", defArgs s_YardReader_add_bench, defBody s_YardReader_add_bench, defScope s_YardReader_add_bench, [], []⟩
def d_YardReader_add_wire : He.DefD := ⟨("YardReader", some "add_wire"), "add_wire", "YardReader.add_wire", defArgs s_YardReader_add_wire, defBody s_YardReader_add_wire, defScope s_YardReader_add_wire, [], []⟩
def d_YardReader_end : He.DefD := ⟨("YardReader", some "end"), "end", "YardReader.end", defArgs s_YardReader_end, defBody s_YardReader_end, defScope s_YardReader_end, [], []⟩
def d_read_yard : He.DefD := ⟨("read_yard", none), "read_yard", "read_yard", defArgs s_read_yard, defBody s_read_yard, defScope s_read_yard, [], []⟩
def d_yard_text : He.DefD := ⟨("yard_text", none), "yard_text", "yard_text", defArgs s_yard_text, defBody s_yard_text, defScope s_yard_text, [], []⟩
def d_check_benches : He.DefD := ⟨("check_benches", none), "check_benches", "check_benches", defArgs s_check_benches, defBody s_check_benches, defScope s_check_benches, [], []⟩
def d_neighbour_table : He.DefD := ⟨("neighbour_table", none), "neighbour_table", "neighbour_table", defArgs s_neighbour_table, defBody s_neighbour_table, defScope s_neighbour_table, [], []⟩
def d_road_table : He.DefD := ⟨("road_table", none), "road_table", "road_table", defArgs s_road_table, defBody s_road_table, defScope s_road_table, [], []⟩
def d_YardD__initD_ : He.DefD := ⟨("Yard", some "__init__"), "__init__", "Yard.__init__", defArgs s_YardD__initD_, defBody s_YardD__initD_, defScope s_YardD__initD_, [], []⟩
def d_YardD_split : He.DefD := ⟨("Yard", some "_split"), "_split", "Yard._split", defArgs s_YardD_split, defBody s_YardD_split, defScope s_YardD_split, [], []⟩
def d_YardD_check_bench : He.DefD := ⟨("Yard", some "_check_bench"), "_check_bench", "Yard._check_bench", defArgs s_YardD_check_bench, defBody s_YardD_check_bench, defScope s_YardD_check_bench, [], []⟩
def d_YardD_check_wire : He.DefD := ⟨("Yard", some "_check_wire"), "_check_wire", "Yard._check_wire", defArgs s_YardD_check_wire, defBody s_YardD_check_wire, defScope s_YardD_check_wire, [], []⟩
def d_YardD_check_list : He.DefD := ⟨("Yard", some "_check_list"), "_check_list", "Yard._check_list", defArgs s_YardD_check_list, defBody s_YardD_check_list, defScope s_YardD_check_list, [], []⟩
def d_YardD_in_order : He.DefD := ⟨("Yard", some "_in_order"), "_in_order", "Yard._in_order", defArgs s_YardD_in_order, defBody s_YardD_in_order, defScope s_YardD_in_order, [], []⟩
def d_Yard_neighbours : He.DefD := ⟨("Yard", some "neighbours"), "neighbours", "Yard.neighbours", defArgs s_Yard_neighbours, defBody s_Yard_neighbours, defScope s_Yard_neighbours, [], []⟩
def d_Yard_road : He.DefD := ⟨("Yard", some "road"), "road", "Yard.road", defArgs s_Yard_road, defBody s_Yard_road, defScope s_Yard_road, [], []⟩
def d_Yard_wire_between : He.DefD := ⟨("Yard", some "wire_between"), "wire_between", "Yard.wire_between", defArgs s_Yard_wire_between, defBody s_Yard_wire_between, defScope s_Yard_wire_between, [], []⟩
def d_Yard_sides : He.DefD := ⟨("Yard", some "sides"), "sides", "Yard.sides", defArgs s_Yard_sides, defBody s_Yard_sides, defScope s_Yard_sides, [], []⟩
def d_Yard_away : He.DefD := ⟨("Yard", some "away"), "away", "Yard.away", defArgs s_Yard_away, defBody s_Yard_away, defScope s_Yard_away, [], []⟩
def d_Yard_hangs : He.DefD := ⟨("Yard", some "hangs"), "hangs", "Yard.hangs", defArgs s_Yard_hangs, defBody s_Yard_hangs, defScope s_Yard_hangs, [], []⟩
def d_Yard_hull : He.DefD := ⟨("Yard", some "hull"), "hull", "Yard.hull", defArgs s_Yard_hull, defBody s_Yard_hull, defScope s_Yard_hull, [], []⟩
def d_Yard_nearest : He.DefD := ⟨("Yard", some "nearest"), "nearest", "Yard.nearest", defArgs s_Yard_nearest, defBody s_Yard_nearest, defScope s_Yard_nearest, [], []⟩
def d_Yard_all_parts : He.DefD := ⟨("Yard", some "all_parts"), "all_parts", "Yard.all_parts", defArgs s_Yard_all_parts, defBody s_Yard_all_parts, defScope s_Yard_all_parts, [], []⟩
def d_YardD_larger : He.DefD := ⟨("Yard", some "_larger"), "_larger", "Yard._larger", defArgs s_YardD_larger, defBody s_YardD_larger, defScope s_YardD_larger, [], []⟩
def d_YardD__eqD_ : He.DefD := ⟨("Yard", some "__eq__"), "__eq__", "Yard.__eq__", defArgs s_YardD__eqD_, defBody s_YardD__eqD_, defScope s_YardD__eqD_, [], []⟩
def d_YardD__lenD_ : He.DefD := ⟨("Yard", some "__len__"), "__len__", "Yard.__len__", defArgs s_YardD__lenD_, defBody s_YardD__lenD_, defScope s_YardD__lenD_, [], []⟩
def d_law_bag : He.DefD := ⟨("_law_bag", none), "_law_bag", "_law_bag", defArgs s_law_bag, defBody s_law_bag, defScope s_law_bag, [], []⟩
def d_law_draw : He.DefD := ⟨("_law_draw", none), "_law_draw", "_law_draw", defArgs s_law_draw, defBody s_law_draw, defScope s_law_draw, [], []⟩
def d_law_of : He.DefD := ⟨("_law_of", none), "_law_of", "_law_of", defArgs s_law_of, defBody s_law_of, defScope s_law_of, [], []⟩
def d_law_mixed : He.DefD := ⟨("_law_mixed", none), "_law_mixed", "_law_mixed", defArgs s_law_mixed, defBody s_law_mixed, defScope s_law_mixed, [], []⟩
def d_law_like : He.DefD := ⟨("_law_like", none), "_law_like", "_law_like", defArgs s_law_like, defBody s_law_like, defScope s_law_like, [], []⟩
def d_law_small : He.DefD := ⟨("_law_small", none), "_law_small", "_law_small", defArgs s_law_small, defBody s_law_small, defScope s_law_small, [], []⟩
def d_law_fresh : He.DefD := ⟨("_law_fresh", none), "_law_fresh", "_law_fresh", defArgs s_law_fresh, defBody s_law_fresh, defScope s_law_fresh, [], []⟩
def d_law_names : He.DefD := ⟨("_law_names", none), "_law_names", "_law_names", defArgs s_law_names, defBody s_law_names, defScope s_law_names, [], []⟩
def d_law_plot : He.DefD := ⟨("_law_plot", none), "_law_plot", "_law_plot", defArgs s_law_plot, defBody s_law_plot, defScope s_law_plot, [], []⟩
def d_law_plot_text : He.DefD := ⟨("_law_plot_text", none), "_law_plot_text", "_law_plot_text", defArgs s_law_plot_text, defBody s_law_plot_text, defScope s_law_plot_text, [], []⟩
def d_law_reach : He.DefD := ⟨("_law_reach", none), "_law_reach", "_law_reach", defArgs s_law_reach, defBody s_law_reach, defScope s_law_reach, [], []⟩
def d_law_read : He.DefD := ⟨("_law_read", none), "_law_read", "_law_read", defArgs s_law_read, defBody s_law_read, defScope s_law_read, [], []⟩
def d_law_bend : He.DefD := ⟨("_law_bend", none), "_law_bend", "_law_bend", defArgs s_law_bend, defBody s_law_bend, defScope s_law_bend, [], []⟩
def d_law_told : He.DefD := ⟨("_law_told", none), "_law_told", "_law_told", defArgs s_law_told, defBody s_law_told, defScope s_law_told, [], []⟩
def d_law_row_made : He.DefD := ⟨("_law_row_made", none), "_law_row_made", "_law_row_made", defArgs s_law_row_made, defBody s_law_row_made, defScope s_law_row_made, [], []⟩
def d_law_row_due : He.DefD := ⟨("_law_row_due", none), "_law_row_due", "_law_row_due", defArgs s_law_row_due, defBody s_law_row_due, defScope s_law_row_due, [], []⟩
def d_law_crowd : He.DefD := ⟨("_law_crowd", none), "_law_crowd", "_law_crowd", defArgs s_law_crowd, defBody s_law_crowd, defScope s_law_crowd, [], []⟩
def d_law : He.DefD := ⟨("law", none), "law", "law", defArgs s_law, defBody s_law, defScope s_law, [], []⟩
def fn : List He.DefD := [d_BadYardD__initD_, d_OutOfD__initD_, d_TooManyD__initD_, d_NoSuchD__initD_, d_bounds, d_is_name, d_is_small, d_text_lines, d_check_bound, d_are_different_names, d_YardReaderD__initD_, d_YardReader_take, d_YardReader_add_bench, d_YardReader_add_wire, d_YardReader_end, d_read_yard, d_yard_text, d_check_benches, d_neighbour_table, d_road_table, d_YardD__initD_, d_YardD_split, d_YardD_check_bench, d_YardD_check_wire, d_YardD_check_list, d_YardD_in_order, d_Yard_neighbours, d_Yard_road, d_Yard_wire_between, d_Yard_sides, d_Yard_away, d_Yard_hangs, d_Yard_hull, d_Yard_nearest, d_Yard_all_parts, d_YardD_larger, d_YardD__eqD_, d_YardD__lenD_, d_law_bag, d_law_draw, d_law_of, d_law_mixed, d_law_like, d_law_small, d_law_fresh, d_law_names, d_law_plot, d_law_plot_text, d_law_reach, d_law_read, d_law_bend, d_law_told, d_law_row_made, d_law_row_due, d_law_crowd, d_law]
def fa : List He.Fa := [.glo "BadYard", .glo "OutOf", .glo "TooMany", .glo "NoSuch", .glo "BOUNDS", .glo "KEPT_WORDS", .glo "bounds", .glo "is_name", .glo "is_small", .glo "text_lines", .glo "check_bound", .glo "are_different_names", .glo "YardReader", .glo "read_yard", .glo "yard_text", .glo "check_benches", .glo "neighbour_table", .glo "road_table", .glo "Yard", .glo "_law_bag", .glo "_law_draw", .glo "_law_of", .glo "_law_mixed", .glo "_law_like", .glo "_law_small", .glo "_law_fresh", .glo "_law_names", .glo "_law_plot", .glo "_law_plot_text", .glo "_law_reach", .glo "_law_read", .glo "_law_bend", .glo "_law_told", .glo "_law_row_made", .glo "_law_row_due", .glo "_law_crowd", .glo "law", .free "ValueError", .free "LookupError", .free "staticmethod", .free "dict", .free "range", .free "list", .free "isinstance", .free "len", .free "str", .free "tuple", .free "min", .free "int", .free "bool", .free "zip", .free "enumerate", .int "NAME_LENGTH" 8, .cls "YardReader", .noat "YardReader" "course", .noat "YardReader" "benches", .noat "YardReader" "wires", .noat "YardReader" "groups", .noat "YardReader" "ended", .meth "YardReader" "take", .meth "YardReader" "add_bench", .meth "YardReader" "add_wire", .meth "YardReader" "end", .mkr "YardReader", .cls "Yard", .noat "Yard" "course", .noat "Yard" "benches", .noat "Yard" "wires", .noat "Yard" "text", .noat "Yard" "_positions", .noat "Yard" "_neighbours", .noat "Yard" "_roads", .noat "Yard" "_sides", .meth "Yard" "_split", .meth "Yard" "_check_bench", .meth "Yard" "_check_wire", .meth "Yard" "_check_list", .meth "Yard" "_in_order", .meth "Yard" "neighbours", .meth "Yard" "road", .meth "Yard" "wire_between", .meth "Yard" "sides", .meth "Yard" "away", .meth "Yard" "hangs", .meth "Yard" "hull", .meth "Yard" "nearest", .meth "Yard" "all_parts", .meth "Yard" "_larger", .meth "Yard" "__eq__", .meth "Yard" "__len__", .mkr "Yard"]
abbrev bmV : List Value := [.type "ValueError", .type "Exception", .type "BaseException", .type "object"]
abbrev bmL : List Value := [.type "LookupError", .type "Exception", .type "BaseException", .type "object"]
abbrev bmR : List Value := [.type "RuntimeError", .type "Exception", .type "BaseException", .type "object"]
def xl : List Lk := [twoB "BadYard" ["line", "why"],
  oneB "OutOf" "what" bmV "ValueError.__new__",
  twoB "TooMany" ["what", "count"],
  oneB "NoSuch" "name" bmL "LookupError.__new__",
  (fun K => decide (PySem.W.exmOne K (.ref (He.ga K "BadYard")) (.ref (He.ga K "BadYard")) = some true)),
  (fun K => decide (PySem.W.exmOne K (.ref (He.ga K "BadYard")) (.ref (He.ga K "OutOf")) = some false)),
  (fun K => decide (PySem.W.exmOne K (.ref (He.ga K "BadYard")) (.ref (He.ga K "TooMany")) = some false)),
  (fun K => decide (PySem.W.exmOne K (.ref (He.ga K "BadYard")) (.ref (He.ga K "NoSuch")) = some false)),
  (fun K => decide (PySem.W.exmOne K (.ref (He.ga K "OutOf")) (.ref (He.ga K "BadYard")) = some false)),
  (fun K => decide (PySem.W.exmOne K (.ref (He.ga K "OutOf")) (.ref (He.ga K "OutOf")) = some true)),
  (fun K => decide (PySem.W.exmOne K (.ref (He.ga K "OutOf")) (.ref (He.ga K "TooMany")) = some false)),
  (fun K => decide (PySem.W.exmOne K (.ref (He.ga K "OutOf")) (.ref (He.ga K "NoSuch")) = some false)),
  (fun K => decide (PySem.W.exmOne K (.ref (He.ga K "TooMany")) (.ref (He.ga K "BadYard")) = some false)),
  (fun K => decide (PySem.W.exmOne K (.ref (He.ga K "TooMany")) (.ref (He.ga K "OutOf")) = some false)),
  (fun K => decide (PySem.W.exmOne K (.ref (He.ga K "TooMany")) (.ref (He.ga K "TooMany")) = some true)),
  (fun K => decide (PySem.W.exmOne K (.ref (He.ga K "TooMany")) (.ref (He.ga K "NoSuch")) = some false)),
  (fun K => decide (PySem.W.exmOne K (.ref (He.ga K "NoSuch")) (.ref (He.ga K "BadYard")) = some false)),
  (fun K => decide (PySem.W.exmOne K (.ref (He.ga K "NoSuch")) (.ref (He.ga K "OutOf")) = some false)),
  (fun K => decide (PySem.W.exmOne K (.ref (He.ga K "NoSuch")) (.ref (He.ga K "TooMany")) = some false)),
  (fun K => decide (PySem.W.exmOne K (.ref (He.ga K "NoSuch")) (.ref (He.ga K "NoSuch")) = some true)),
  (fun K => decide (PySem.W.kitOne K (.ref (He.ga K "BadYard")) (.ref (He.ga K "BadYard")) = some true)),
  (fun K => decide (PySem.W.kitOne K (.ref (He.ga K "BadYard")) (.ref (He.ga K "OutOf")) = some false)),
  (fun K => decide (PySem.W.kitOne K (.ref (He.ga K "BadYard")) (.ref (He.ga K "TooMany")) = some false)),
  (fun K => decide (PySem.W.kitOne K (.ref (He.ga K "BadYard")) (.ref (He.ga K "NoSuch")) = some false)),
  (fun K => decide (PySem.W.kitOne K (.ref (He.ga K "BadYard")) (.type "ValueError") = some true)),
  (fun K => decide (PySem.W.kitOne K (.ref (He.ga K "BadYard")) (.type "LookupError") = some false)),
  (fun K => decide (PySem.W.kitOne K (.ref (He.ga K "BadYard")) (.type "RuntimeError") = some false)),
  (fun K => decide (PySem.W.kitOne K (.ref (He.ga K "OutOf")) (.ref (He.ga K "BadYard")) = some false)),
  (fun K => decide (PySem.W.kitOne K (.ref (He.ga K "OutOf")) (.ref (He.ga K "OutOf")) = some true)),
  (fun K => decide (PySem.W.kitOne K (.ref (He.ga K "OutOf")) (.ref (He.ga K "TooMany")) = some false)),
  (fun K => decide (PySem.W.kitOne K (.ref (He.ga K "OutOf")) (.ref (He.ga K "NoSuch")) = some false)),
  (fun K => decide (PySem.W.kitOne K (.ref (He.ga K "OutOf")) (.type "ValueError") = some true)),
  (fun K => decide (PySem.W.kitOne K (.ref (He.ga K "OutOf")) (.type "LookupError") = some false)),
  (fun K => decide (PySem.W.kitOne K (.ref (He.ga K "OutOf")) (.type "RuntimeError") = some false)),
  (fun K => decide (PySem.W.kitOne K (.ref (He.ga K "TooMany")) (.ref (He.ga K "BadYard")) = some false)),
  (fun K => decide (PySem.W.kitOne K (.ref (He.ga K "TooMany")) (.ref (He.ga K "OutOf")) = some false)),
  (fun K => decide (PySem.W.kitOne K (.ref (He.ga K "TooMany")) (.ref (He.ga K "TooMany")) = some true)),
  (fun K => decide (PySem.W.kitOne K (.ref (He.ga K "TooMany")) (.ref (He.ga K "NoSuch")) = some false)),
  (fun K => decide (PySem.W.kitOne K (.ref (He.ga K "TooMany")) (.type "ValueError") = some true)),
  (fun K => decide (PySem.W.kitOne K (.ref (He.ga K "TooMany")) (.type "LookupError") = some false)),
  (fun K => decide (PySem.W.kitOne K (.ref (He.ga K "TooMany")) (.type "RuntimeError") = some false)),
  (fun K => decide (PySem.W.kitOne K (.ref (He.ga K "NoSuch")) (.ref (He.ga K "BadYard")) = some false)),
  (fun K => decide (PySem.W.kitOne K (.ref (He.ga K "NoSuch")) (.ref (He.ga K "OutOf")) = some false)),
  (fun K => decide (PySem.W.kitOne K (.ref (He.ga K "NoSuch")) (.ref (He.ga K "TooMany")) = some false)),
  (fun K => decide (PySem.W.kitOne K (.ref (He.ga K "NoSuch")) (.ref (He.ga K "NoSuch")) = some true)),
  (fun K => decide (PySem.W.kitOne K (.ref (He.ga K "NoSuch")) (.type "ValueError") = some false)),
  (fun K => decide (PySem.W.kitOne K (.ref (He.ga K "NoSuch")) (.type "LookupError") = some true)),
  (fun K => decide (PySem.W.kitOne K (.ref (He.ga K "NoSuch")) (.type "RuntimeError") = some false)),
  (He.tupB · "KEPT_WORDS" [.str "to", .str "down", .str "by", .str "at", .str "where", .str "is", .str "as", .str "size", .str "once", .str "put", .str "get"]),
  intsB "BOUNDS" [("text", 120000), ("axes", 3), ("size", 60), ("cells", 2000), ("depth", 8), ("items", 120), ("numbers", 9999), ("marks", 6), ("reads", 8), ("worths", 99999999), ("visits", 20000), ("steps", 4000), ("values", 1500), ("rules", 4000), ("rounds", 60), ("changes", 60), ("benches", 14), ("sizes", 9), ("lines", 200), ("wants", 600), ("chains", 5000), ("deeds", 4000), ("places", 9999), ("amounts", 99999), ("lasts", 999), ("room", 2000), ("names", 60)],
  smB "Yard" "in_row",
  smB "Yard" "in_star",
  smB "Yard" "in_days",
  (fun K => decide (PySem.W.findIn K (.ref (He.ga K "YardReader")) "__class__" = some (some (.builtin "object.__class__")))),
  (fun K => decide (PySem.W.specialIn K (.builtin "object.__class__") "__get__" = some (some (.builtin "getset_descriptor.__get__")))),
  (fun K => decide (PySem.W.takesIn K (.builtin "object.__class__") = some true)),
  (fun K => decide (PySem.W.mroIn K (He.ga K "YardReader") (.type "object") = some true)),
  (fun K => decide (PySem.W.kitOne K (.ref (He.ga K "YardReader")) (.ref (He.ga K "YardReader")) = some true)),
  (fun K => decide (PySem.W.kitOne K (.type "str") (.ref (He.ga K "YardReader")) = some false)),
  (fun K => decide (PySem.W.findIn K (.ref (He.ga K "YardReader")) "__ne__" = some (some (.builtin "object.__ne__")))),
  (fun K => decide (PySem.W.findIn K (.ref (He.ga K "Yard")) "__class__" = some (some (.builtin "object.__class__")))),
  (fun K => decide (PySem.W.specialIn K (.builtin "object.__class__") "__get__" = some (some (.builtin "getset_descriptor.__get__")))),
  (fun K => decide (PySem.W.takesIn K (.builtin "object.__class__") = some true)),
  (fun K => decide (PySem.W.mroIn K (He.ga K "Yard") (.type "object") = some true)),
  (fun K => decide (PySem.W.kitOne K (.ref (He.ga K "Yard")) (.ref (He.ga K "Yard")) = some true)),
  (fun K => decide (PySem.W.kitOne K (.type "str") (.ref (He.ga K "Yard")) = some false)),
  (fun K => decide (PySem.W.findIn K (.ref (He.ga K "Yard")) "__ne__" = some (some (.builtin "object.__ne__"))))]
def tabs : List He.Tab := [((fun K => He.ga K "BOUNDS"), ["text", "axes", "size", "cells", "depth", "items", "numbers", "marks", "reads", "worths", "visits", "steps", "values", "rules", "rounds", "changes", "benches", "sizes", "lines", "wants", "chains", "deeds", "places", "amounts", "lasts", "room", "names"])]
def d_Yard_in_row : He5.DefA := { at_ := fun K => (He5.wf K (He.ga K "Yard") "staticmethod" "in_row"), name := "in_row", qual := "Yard.in_row", params := defArgs s_Yard_in_row, body := defBody s_Yard_in_row, scope := defScope s_Yard_in_row }
def d_Yard_in_star : He5.DefA := { at_ := fun K => (He5.wf K (He.ga K "Yard") "staticmethod" "in_star"), name := "in_star", qual := "Yard.in_star", params := defArgs s_Yard_in_star, body := defBody s_Yard_in_star, scope := defScope s_Yard_in_star }
def d_Yard_in_days : He5.DefA := { at_ := fun K => (He5.wf K (He.ga K "Yard") "staticmethod" "in_days"), name := "in_days", qual := "Yard.in_days", params := defArgs s_Yard_in_days, body := defBody s_Yard_in_days, scope := defScope s_Yard_in_days }
def sfn : List He5.DefA := [d_Yard_in_row, d_Yard_in_star, d_Yard_in_days]
abbrev FnP (K : PySem.W.Frag) (x qual : Str) (st : Stmt) (f : Addr) (fd : FuncData) : Prop := FunD K x qual (defArgs st) (defBody st) (defScope st) [] [] f fd
structure Tx (w : World) (K : PySem.W.Frag) (mg : Str → Option Value) : Prop where
  g_BadYard : mg "BadYard" = some (.ref (He.ga K "BadYard"))
  g_OutOf : mg "OutOf" = some (.ref (He.ga K "OutOf"))
  g_TooMany : mg "TooMany" = some (.ref (He.ga K "TooMany"))
  g_NoSuch : mg "NoSuch" = some (.ref (He.ga K "NoSuch"))
  g_BOUNDS : mg "BOUNDS" = some (.ref (He.ga K "BOUNDS"))
  g_KEPT_WORDS : mg "KEPT_WORDS" = some (.ref (He.ga K "KEPT_WORDS"))
  g_bounds : mg "bounds" = some (.ref (He.ga K "bounds"))
  g_is_name : mg "is_name" = some (.ref (He.ga K "is_name"))
  g_is_small : mg "is_small" = some (.ref (He.ga K "is_small"))
  g_text_lines : mg "text_lines" = some (.ref (He.ga K "text_lines"))
  g_check_bound : mg "check_bound" = some (.ref (He.ga K "check_bound"))
  g_are_different_names : mg "are_different_names" = some (.ref (He.ga K "are_different_names"))
  g_YardReader : mg "YardReader" = some (.ref (He.ga K "YardReader"))
  g_read_yard : mg "read_yard" = some (.ref (He.ga K "read_yard"))
  g_yard_text : mg "yard_text" = some (.ref (He.ga K "yard_text"))
  g_check_benches : mg "check_benches" = some (.ref (He.ga K "check_benches"))
  g_neighbour_table : mg "neighbour_table" = some (.ref (He.ga K "neighbour_table"))
  g_road_table : mg "road_table" = some (.ref (He.ga K "road_table"))
  g_Yard : mg "Yard" = some (.ref (He.ga K "Yard"))
  g_law_bag : mg "_law_bag" = some (.ref (He.ga K "_law_bag"))
  g_law_draw : mg "_law_draw" = some (.ref (He.ga K "_law_draw"))
  g_law_of : mg "_law_of" = some (.ref (He.ga K "_law_of"))
  g_law_mixed : mg "_law_mixed" = some (.ref (He.ga K "_law_mixed"))
  g_law_like : mg "_law_like" = some (.ref (He.ga K "_law_like"))
  g_law_small : mg "_law_small" = some (.ref (He.ga K "_law_small"))
  g_law_fresh : mg "_law_fresh" = some (.ref (He.ga K "_law_fresh"))
  g_law_names : mg "_law_names" = some (.ref (He.ga K "_law_names"))
  g_law_plot : mg "_law_plot" = some (.ref (He.ga K "_law_plot"))
  g_law_plot_text : mg "_law_plot_text" = some (.ref (He.ga K "_law_plot_text"))
  g_law_reach : mg "_law_reach" = some (.ref (He.ga K "_law_reach"))
  g_law_read : mg "_law_read" = some (.ref (He.ga K "_law_read"))
  g_law_bend : mg "_law_bend" = some (.ref (He.ga K "_law_bend"))
  g_law_told : mg "_law_told" = some (.ref (He.ga K "_law_told"))
  g_law_row_made : mg "_law_row_made" = some (.ref (He.ga K "_law_row_made"))
  g_law_row_due : mg "_law_row_due" = some (.ref (He.ga K "_law_row_due"))
  g_law_crowd : mg "_law_crowd" = some (.ref (He.ga K "_law_crowd"))
  g_law : mg "law" = some (.ref (He.ga K "law"))
  n_ValueError : mg "ValueError" = none
  n_LookupError : mg "LookupError" = none
  n_staticmethod : mg "staticmethod" = none
  n_dict : mg "dict" = none
  n_range : mg "range" = none
  n_list : mg "list" = none
  n_isinstance : mg "isinstance" = none
  n_len : mg "len" = none
  n_str : mg "str" = none
  n_tuple : mg "tuple" = none
  n_min : mg "min" = none
  n_int : mg "int" = none
  n_bool : mg "bool" = none
  n_zip : mg "zip" = none
  n_enumerate : mg "enumerate" = none
  c_NAME_LENGTH : ∃ t, mg "NAME_LENGTH" = some (.int 8 t)
  cls_YardReader : Cls K (He.ga K "YardReader")
  a_YardReader_course : NoAttr K (He.ga K "YardReader") "course"
  a_YardReader_benches : NoAttr K (He.ga K "YardReader") "benches"
  a_YardReader_wires : NoAttr K (He.ga K "YardReader") "wires"
  a_YardReader_groups : NoAttr K (He.ga K "YardReader") "groups"
  a_YardReader_ended : NoAttr K (He.ga K "YardReader") "ended"
  m_YardReader_take : Meth K (He.ga K "YardReader") "take" (He.ma K (He.ga K "YardReader") "take")
  m_YardReader_add_bench : Meth K (He.ga K "YardReader") "add_bench" (He.ma K (He.ga K "YardReader") "add_bench")
  m_YardReader_add_wire : Meth K (He.ga K "YardReader") "add_wire" (He.ma K (He.ga K "YardReader") "add_wire")
  m_YardReader_end : Meth K (He.ga K "YardReader") "end" (He.ma K (He.ga K "YardReader") "end")
  mk_YardReader : Mk K (He.ga K "YardReader") (He.ma K (He.ga K "YardReader") "__init__")
  cls_Yard : Cls K (He.ga K "Yard")
  a_Yard_course : NoAttr K (He.ga K "Yard") "course"
  a_Yard_benches : NoAttr K (He.ga K "Yard") "benches"
  a_Yard_wires : NoAttr K (He.ga K "Yard") "wires"
  a_Yard_text : NoAttr K (He.ga K "Yard") "text"
  a_Yard__positions : NoAttr K (He.ga K "Yard") "_positions"
  a_Yard__neighbours : NoAttr K (He.ga K "Yard") "_neighbours"
  a_Yard__roads : NoAttr K (He.ga K "Yard") "_roads"
  a_Yard__sides : NoAttr K (He.ga K "Yard") "_sides"
  m_Yard_split : Meth K (He.ga K "Yard") "_split" (He.ma K (He.ga K "Yard") "_split")
  m_Yard_check_bench : Meth K (He.ga K "Yard") "_check_bench" (He.ma K (He.ga K "Yard") "_check_bench")
  m_Yard_check_wire : Meth K (He.ga K "Yard") "_check_wire" (He.ma K (He.ga K "Yard") "_check_wire")
  m_Yard_check_list : Meth K (He.ga K "Yard") "_check_list" (He.ma K (He.ga K "Yard") "_check_list")
  m_Yard_in_order : Meth K (He.ga K "Yard") "_in_order" (He.ma K (He.ga K "Yard") "_in_order")
  m_Yard_neighbours : Meth K (He.ga K "Yard") "neighbours" (He.ma K (He.ga K "Yard") "neighbours")
  m_Yard_road : Meth K (He.ga K "Yard") "road" (He.ma K (He.ga K "Yard") "road")
  m_Yard_wire_between : Meth K (He.ga K "Yard") "wire_between" (He.ma K (He.ga K "Yard") "wire_between")
  m_Yard_sides : Meth K (He.ga K "Yard") "sides" (He.ma K (He.ga K "Yard") "sides")
  m_Yard_away : Meth K (He.ga K "Yard") "away" (He.ma K (He.ga K "Yard") "away")
  m_Yard_hangs : Meth K (He.ga K "Yard") "hangs" (He.ma K (He.ga K "Yard") "hangs")
  m_Yard_hull : Meth K (He.ga K "Yard") "hull" (He.ma K (He.ga K "Yard") "hull")
  m_Yard_nearest : Meth K (He.ga K "Yard") "nearest" (He.ma K (He.ga K "Yard") "nearest")
  m_Yard_all_parts : Meth K (He.ga K "Yard") "all_parts" (He.ma K (He.ga K "Yard") "all_parts")
  m_Yard_larger : Meth K (He.ga K "Yard") "_larger" (He.ma K (He.ga K "Yard") "_larger")
  m_Yard_eq : Meth K (He.ga K "Yard") "__eq__" (He.ma K (He.ga K "Yard") "__eq__")
  m_Yard_len : Meth K (He.ga K "Yard") "__len__" (He.ma K (He.ga K "Yard") "__len__")
  mk_Yard : Mk K (He.ga K "Yard") (He.ma K (He.ga K "Yard") "__init__")
  two_BadYard : TwoC K (He.ga K "BadYard") (He.ma K (He.ga K "BadYard") "__init__") ["line", "why"]
  one_OutOf : One K (He.ga K "OutOf") (He.ma K (He.ga K "OutOf") "__init__") "what" "OutOf.__init__" bmV "ValueError.__new__"
  ic_OutOf : Ic K (He.ga K "OutOf")
  two_TooMany : TwoC K (He.ga K "TooMany") (He.ma K (He.ga K "TooMany") "__init__") ["what", "count"]
  one_NoSuch : One K (He.ga K "NoSuch") (He.ma K (He.ga K "NoSuch") "__init__") "name" "NoSuch.__init__" bmL "LookupError.__new__"
  ic_NoSuch : Ic K (He.ga K "NoSuch")
  ex_BadYard_BadYard : PySem.W.exmOne K (.ref (He.ga K "BadYard")) (.ref (He.ga K "BadYard")) = some true
  ex_BadYard_OutOf : PySem.W.exmOne K (.ref (He.ga K "BadYard")) (.ref (He.ga K "OutOf")) = some false
  ex_BadYard_TooMany : PySem.W.exmOne K (.ref (He.ga K "BadYard")) (.ref (He.ga K "TooMany")) = some false
  ex_BadYard_NoSuch : PySem.W.exmOne K (.ref (He.ga K "BadYard")) (.ref (He.ga K "NoSuch")) = some false
  ex_OutOf_BadYard : PySem.W.exmOne K (.ref (He.ga K "OutOf")) (.ref (He.ga K "BadYard")) = some false
  ex_OutOf_OutOf : PySem.W.exmOne K (.ref (He.ga K "OutOf")) (.ref (He.ga K "OutOf")) = some true
  ex_OutOf_TooMany : PySem.W.exmOne K (.ref (He.ga K "OutOf")) (.ref (He.ga K "TooMany")) = some false
  ex_OutOf_NoSuch : PySem.W.exmOne K (.ref (He.ga K "OutOf")) (.ref (He.ga K "NoSuch")) = some false
  ex_TooMany_BadYard : PySem.W.exmOne K (.ref (He.ga K "TooMany")) (.ref (He.ga K "BadYard")) = some false
  ex_TooMany_OutOf : PySem.W.exmOne K (.ref (He.ga K "TooMany")) (.ref (He.ga K "OutOf")) = some false
  ex_TooMany_TooMany : PySem.W.exmOne K (.ref (He.ga K "TooMany")) (.ref (He.ga K "TooMany")) = some true
  ex_TooMany_NoSuch : PySem.W.exmOne K (.ref (He.ga K "TooMany")) (.ref (He.ga K "NoSuch")) = some false
  ex_NoSuch_BadYard : PySem.W.exmOne K (.ref (He.ga K "NoSuch")) (.ref (He.ga K "BadYard")) = some false
  ex_NoSuch_OutOf : PySem.W.exmOne K (.ref (He.ga K "NoSuch")) (.ref (He.ga K "OutOf")) = some false
  ex_NoSuch_TooMany : PySem.W.exmOne K (.ref (He.ga K "NoSuch")) (.ref (He.ga K "TooMany")) = some false
  ex_NoSuch_NoSuch : PySem.W.exmOne K (.ref (He.ga K "NoSuch")) (.ref (He.ga K "NoSuch")) = some true
  is_BadYard_BadYard : PySem.W.kitOne K (.ref (He.ga K "BadYard")) (.ref (He.ga K "BadYard")) = some true
  is_BadYard_OutOf : PySem.W.kitOne K (.ref (He.ga K "BadYard")) (.ref (He.ga K "OutOf")) = some false
  is_BadYard_TooMany : PySem.W.kitOne K (.ref (He.ga K "BadYard")) (.ref (He.ga K "TooMany")) = some false
  is_BadYard_NoSuch : PySem.W.kitOne K (.ref (He.ga K "BadYard")) (.ref (He.ga K "NoSuch")) = some false
  is_BadYard_ValueError : PySem.W.kitOne K (.ref (He.ga K "BadYard")) (.type "ValueError") = some true
  is_BadYard_LookupError : PySem.W.kitOne K (.ref (He.ga K "BadYard")) (.type "LookupError") = some false
  is_BadYard_RuntimeError : PySem.W.kitOne K (.ref (He.ga K "BadYard")) (.type "RuntimeError") = some false
  is_OutOf_BadYard : PySem.W.kitOne K (.ref (He.ga K "OutOf")) (.ref (He.ga K "BadYard")) = some false
  is_OutOf_OutOf : PySem.W.kitOne K (.ref (He.ga K "OutOf")) (.ref (He.ga K "OutOf")) = some true
  is_OutOf_TooMany : PySem.W.kitOne K (.ref (He.ga K "OutOf")) (.ref (He.ga K "TooMany")) = some false
  is_OutOf_NoSuch : PySem.W.kitOne K (.ref (He.ga K "OutOf")) (.ref (He.ga K "NoSuch")) = some false
  is_OutOf_ValueError : PySem.W.kitOne K (.ref (He.ga K "OutOf")) (.type "ValueError") = some true
  is_OutOf_LookupError : PySem.W.kitOne K (.ref (He.ga K "OutOf")) (.type "LookupError") = some false
  is_OutOf_RuntimeError : PySem.W.kitOne K (.ref (He.ga K "OutOf")) (.type "RuntimeError") = some false
  is_TooMany_BadYard : PySem.W.kitOne K (.ref (He.ga K "TooMany")) (.ref (He.ga K "BadYard")) = some false
  is_TooMany_OutOf : PySem.W.kitOne K (.ref (He.ga K "TooMany")) (.ref (He.ga K "OutOf")) = some false
  is_TooMany_TooMany : PySem.W.kitOne K (.ref (He.ga K "TooMany")) (.ref (He.ga K "TooMany")) = some true
  is_TooMany_NoSuch : PySem.W.kitOne K (.ref (He.ga K "TooMany")) (.ref (He.ga K "NoSuch")) = some false
  is_TooMany_ValueError : PySem.W.kitOne K (.ref (He.ga K "TooMany")) (.type "ValueError") = some true
  is_TooMany_LookupError : PySem.W.kitOne K (.ref (He.ga K "TooMany")) (.type "LookupError") = some false
  is_TooMany_RuntimeError : PySem.W.kitOne K (.ref (He.ga K "TooMany")) (.type "RuntimeError") = some false
  is_NoSuch_BadYard : PySem.W.kitOne K (.ref (He.ga K "NoSuch")) (.ref (He.ga K "BadYard")) = some false
  is_NoSuch_OutOf : PySem.W.kitOne K (.ref (He.ga K "NoSuch")) (.ref (He.ga K "OutOf")) = some false
  is_NoSuch_TooMany : PySem.W.kitOne K (.ref (He.ga K "NoSuch")) (.ref (He.ga K "TooMany")) = some false
  is_NoSuch_NoSuch : PySem.W.kitOne K (.ref (He.ga K "NoSuch")) (.ref (He.ga K "NoSuch")) = some true
  is_NoSuch_ValueError : PySem.W.kitOne K (.ref (He.ga K "NoSuch")) (.type "ValueError") = some false
  is_NoSuch_LookupError : PySem.W.kitOne K (.ref (He.ga K "NoSuch")) (.type "LookupError") = some true
  is_NoSuch_RuntimeError : PySem.W.kitOne K (.ref (He.ga K "NoSuch")) (.type "RuntimeError") = some false
  t_KEPT_WORDS : ∀ H, SqT K H (He.ga K "KEPT_WORDS") ([("to" : Str), ("down" : Str), ("by" : Str), ("at" : Str), ("where" : Str), ("is" : Str), ("as" : Str), ("size" : Str), ("once" : Str), ("put" : Str), ("get" : Str)].map V.str)
  di_BOUNDS : IntsD K w (He.ga K "BOUNDS") [("text", 120000), ("axes", 3), ("size", 60), ("cells", 2000), ("depth", 8), ("items", 120), ("numbers", 9999), ("marks", 6), ("reads", 8), ("worths", 99999999), ("visits", 20000), ("steps", 4000), ("values", 1500), ("rules", 4000), ("rounds", 60), ("changes", 60), ("benches", 14), ("sizes", 9), ("lines", 200), ("wants", 600), ("chains", 5000), ("deeds", 4000), ("places", 9999), ("amounts", 99999), ("lasts", 999), ("room", 2000), ("names", 60)]
  sm_Yard_in_row : SMet K (He.ga K "Yard") "in_row" (He5.wf K (He.ga K "Yard") "staticmethod" "in_row")
  sm_Yard_in_star : SMet K (He.ga K "Yard") "in_star" (He5.wf K (He.ga K "Yard") "staticmethod" "in_star")
  sm_Yard_in_days : SMet K (He.ga K "Yard") "in_days" (He5.wf K (He.ga K "Yard") "staticmethod" "in_days")
  ocl_YardReader : PySem.W.findIn K (.ref (He.ga K "YardReader")) "__class__" = some (some (.builtin "object.__class__"))
  ocg_YardReader : PySem.W.specialIn K (.builtin "object.__class__") "__get__" = some (some (.builtin "getset_descriptor.__get__"))
  oct_YardReader : PySem.W.takesIn K (.builtin "object.__class__") = some true
  ocm_YardReader : PySem.W.mroIn K (He.ga K "YardReader") (.type "object") = some true
  ome_YardReader : PySem.W.kitOne K (.ref (He.ga K "YardReader")) (.ref (He.ga K "YardReader")) = some true
  ons_YardReader : PySem.W.kitOne K (.type "str") (.ref (He.ga K "YardReader")) = some false
  one_YardReader : PySem.W.findIn K (.ref (He.ga K "YardReader")) "__ne__" = some (some (.builtin "object.__ne__"))
  ocl_Yard : PySem.W.findIn K (.ref (He.ga K "Yard")) "__class__" = some (some (.builtin "object.__class__"))
  ocg_Yard : PySem.W.specialIn K (.builtin "object.__class__") "__get__" = some (some (.builtin "getset_descriptor.__get__"))
  oct_Yard : PySem.W.takesIn K (.builtin "object.__class__") = some true
  ocm_Yard : PySem.W.mroIn K (He.ga K "Yard") (.type "object") = some true
  ome_Yard : PySem.W.kitOne K (.ref (He.ga K "Yard")) (.ref (He.ga K "Yard")) = some true
  ons_Yard : PySem.W.kitOne K (.type "str") (.ref (He.ga K "Yard")) = some false
  one_Yard : PySem.W.findIn K (.ref (He.ga K "Yard")) "__ne__" = some (some (.builtin "object.__ne__"))
  f_BadYardD__initD_ : ∃ fd, FnP K "__init__" "BadYard.__init__" s_BadYardD__initD_ (He.ma K (He.ga K "BadYard") "__init__") fd
  f_OutOfD__initD_ : ∃ fd, FnP K "__init__" "OutOf.__init__" s_OutOfD__initD_ (He.ma K (He.ga K "OutOf") "__init__") fd
  f_TooManyD__initD_ : ∃ fd, FnP K "__init__" "TooMany.__init__" s_TooManyD__initD_ (He.ma K (He.ga K "TooMany") "__init__") fd
  f_NoSuchD__initD_ : ∃ fd, FnP K "__init__" "NoSuch.__init__" s_NoSuchD__initD_ (He.ma K (He.ga K "NoSuch") "__init__") fd
  f_bounds : ∃ fd, FnP K "bounds" "bounds" s_bounds (He.ga K "bounds") fd
  f_is_name : ∃ fd, FnP K "is_name" "is_name" s_is_name (He.ga K "is_name") fd
  f_is_small : ∃ fd, FnP K "is_small" "is_small" s_is_small (He.ga K "is_small") fd
  f_text_lines : ∃ fd, FnP K "text_lines" "text_lines" s_text_lines (He.ga K "text_lines") fd
  f_check_bound : ∃ fd, FnP K "check_bound" "check_bound" s_check_bound (He.ga K "check_bound") fd
  f_are_different_names : ∃ fd, FnP K "are_different_names" "are_different_names" s_are_different_names (He.ga K "are_different_names") fd
  f_YardReaderD__initD_ : ∃ fd, FnP K "__init__" "YardReader.__init__" s_YardReaderD__initD_ (He.ma K (He.ga K "YardReader") "__init__") fd
  f_YardReader_take : ∃ fd, FnP K "take" "YardReader.take" s_YardReader_take (He.ma K (He.ga K "YardReader") "take") fd
  f_YardReader_add_bench : ∃ fd, FnP K "add_bench" "YardReader.add_bench" s_YardReader_add_bench (He.ma K (He.ga K "YardReader") "add_bench") fd
  f_YardReader_add_wire : ∃ fd, FnP K "add_wire" "YardReader.add_wire" s_YardReader_add_wire (He.ma K (He.ga K "YardReader") "add_wire") fd
  f_YardReader_end : ∃ fd, FnP K "end" "YardReader.end" s_YardReader_end (He.ma K (He.ga K "YardReader") "end") fd
  f_read_yard : ∃ fd, FnP K "read_yard" "read_yard" s_read_yard (He.ga K "read_yard") fd
  f_yard_text : ∃ fd, FnP K "yard_text" "yard_text" s_yard_text (He.ga K "yard_text") fd
  f_check_benches : ∃ fd, FnP K "check_benches" "check_benches" s_check_benches (He.ga K "check_benches") fd
  f_neighbour_table : ∃ fd, FnP K "neighbour_table" "neighbour_table" s_neighbour_table (He.ga K "neighbour_table") fd
  f_road_table : ∃ fd, FnP K "road_table" "road_table" s_road_table (He.ga K "road_table") fd
  f_YardD__initD_ : ∃ fd, FnP K "__init__" "Yard.__init__" s_YardD__initD_ (He.ma K (He.ga K "Yard") "__init__") fd
  f_YardD_split : ∃ fd, FnP K "_split" "Yard._split" s_YardD_split (He.ma K (He.ga K "Yard") "_split") fd
  f_YardD_check_bench : ∃ fd, FnP K "_check_bench" "Yard._check_bench" s_YardD_check_bench (He.ma K (He.ga K "Yard") "_check_bench") fd
  f_YardD_check_wire : ∃ fd, FnP K "_check_wire" "Yard._check_wire" s_YardD_check_wire (He.ma K (He.ga K "Yard") "_check_wire") fd
  f_YardD_check_list : ∃ fd, FnP K "_check_list" "Yard._check_list" s_YardD_check_list (He.ma K (He.ga K "Yard") "_check_list") fd
  f_YardD_in_order : ∃ fd, FnP K "_in_order" "Yard._in_order" s_YardD_in_order (He.ma K (He.ga K "Yard") "_in_order") fd
  f_Yard_neighbours : ∃ fd, FnP K "neighbours" "Yard.neighbours" s_Yard_neighbours (He.ma K (He.ga K "Yard") "neighbours") fd
  f_Yard_road : ∃ fd, FnP K "road" "Yard.road" s_Yard_road (He.ma K (He.ga K "Yard") "road") fd
  f_Yard_wire_between : ∃ fd, FnP K "wire_between" "Yard.wire_between" s_Yard_wire_between (He.ma K (He.ga K "Yard") "wire_between") fd
  f_Yard_sides : ∃ fd, FnP K "sides" "Yard.sides" s_Yard_sides (He.ma K (He.ga K "Yard") "sides") fd
  f_Yard_away : ∃ fd, FnP K "away" "Yard.away" s_Yard_away (He.ma K (He.ga K "Yard") "away") fd
  f_Yard_hangs : ∃ fd, FnP K "hangs" "Yard.hangs" s_Yard_hangs (He.ma K (He.ga K "Yard") "hangs") fd
  f_Yard_hull : ∃ fd, FnP K "hull" "Yard.hull" s_Yard_hull (He.ma K (He.ga K "Yard") "hull") fd
  f_Yard_nearest : ∃ fd, FnP K "nearest" "Yard.nearest" s_Yard_nearest (He.ma K (He.ga K "Yard") "nearest") fd
  f_Yard_all_parts : ∃ fd, FnP K "all_parts" "Yard.all_parts" s_Yard_all_parts (He.ma K (He.ga K "Yard") "all_parts") fd
  f_YardD_larger : ∃ fd, FnP K "_larger" "Yard._larger" s_YardD_larger (He.ma K (He.ga K "Yard") "_larger") fd
  f_YardD__eqD_ : ∃ fd, FnP K "__eq__" "Yard.__eq__" s_YardD__eqD_ (He.ma K (He.ga K "Yard") "__eq__") fd
  f_YardD__lenD_ : ∃ fd, FnP K "__len__" "Yard.__len__" s_YardD__lenD_ (He.ma K (He.ga K "Yard") "__len__") fd
  f_law_bag : ∃ fd, FnP K "_law_bag" "_law_bag" s_law_bag (He.ga K "_law_bag") fd
  f_law_draw : ∃ fd, FnP K "_law_draw" "_law_draw" s_law_draw (He.ga K "_law_draw") fd
  f_law_of : ∃ fd, FnP K "_law_of" "_law_of" s_law_of (He.ga K "_law_of") fd
  f_law_mixed : ∃ fd, FnP K "_law_mixed" "_law_mixed" s_law_mixed (He.ga K "_law_mixed") fd
  f_law_like : ∃ fd, FnP K "_law_like" "_law_like" s_law_like (He.ga K "_law_like") fd
  f_law_small : ∃ fd, FnP K "_law_small" "_law_small" s_law_small (He.ga K "_law_small") fd
  f_law_fresh : ∃ fd, FnP K "_law_fresh" "_law_fresh" s_law_fresh (He.ga K "_law_fresh") fd
  f_law_names : ∃ fd, FnP K "_law_names" "_law_names" s_law_names (He.ga K "_law_names") fd
  f_law_plot : ∃ fd, FnP K "_law_plot" "_law_plot" s_law_plot (He.ga K "_law_plot") fd
  f_law_plot_text : ∃ fd, FnP K "_law_plot_text" "_law_plot_text" s_law_plot_text (He.ga K "_law_plot_text") fd
  f_law_reach : ∃ fd, FnP K "_law_reach" "_law_reach" s_law_reach (He.ga K "_law_reach") fd
  f_law_read : ∃ fd, FnP K "_law_read" "_law_read" s_law_read (He.ga K "_law_read") fd
  f_law_bend : ∃ fd, FnP K "_law_bend" "_law_bend" s_law_bend (He.ga K "_law_bend") fd
  f_law_told : ∃ fd, FnP K "_law_told" "_law_told" s_law_told (He.ga K "_law_told") fd
  f_law_row_made : ∃ fd, FnP K "_law_row_made" "_law_row_made" s_law_row_made (He.ga K "_law_row_made") fd
  f_law_row_due : ∃ fd, FnP K "_law_row_due" "_law_row_due" s_law_row_due (He.ga K "_law_row_due") fd
  f_law_crowd : ∃ fd, FnP K "_law_crowd" "_law_crowd" s_law_crowd (He.ga K "_law_crowd") fd
  f_law : ∃ fd, FnP K "law" "law" s_law (He.ga K "law") fd
  f_Yard_in_row : ∃ fd, FnP K "in_row" "Yard.in_row" s_Yard_in_row (He5.wf K (He.ga K "Yard") "staticmethod" "in_row") fd
  f_Yard_in_star : ∃ fd, FnP K "in_star" "Yard.in_star" s_Yard_in_star (He5.wf K (He.ga K "Yard") "staticmethod" "in_star") fd
  f_Yard_in_days : ∃ fd, FnP K "in_days" "Yard.in_days" s_Yard_in_days (He5.wf K (He.ga K "Yard") "staticmethod" "in_days") fd
theorem tx_of {w : World} {K : PySem.W.Frag} {h : Heap} {mg : Str → Option Value} (X : K.In h) (G : h.Ns mainGlobals mg) (c : SaysZ fa fn xl tabs sfn w K) : Tx w K mg where
  g_BadYard := He.glo_ok X G (c.x.d.fact 0 (f := .glo "BadYard") rfl)
  g_OutOf := He.glo_ok X G (c.x.d.fact 1 (f := .glo "OutOf") rfl)
  g_TooMany := He.glo_ok X G (c.x.d.fact 2 (f := .glo "TooMany") rfl)
  g_NoSuch := He.glo_ok X G (c.x.d.fact 3 (f := .glo "NoSuch") rfl)
  g_BOUNDS := He.glo_ok X G (c.x.d.fact 4 (f := .glo "BOUNDS") rfl)
  g_KEPT_WORDS := He.glo_ok X G (c.x.d.fact 5 (f := .glo "KEPT_WORDS") rfl)
  g_bounds := He.glo_ok X G (c.x.d.fact 6 (f := .glo "bounds") rfl)
  g_is_name := He.glo_ok X G (c.x.d.fact 7 (f := .glo "is_name") rfl)
  g_is_small := He.glo_ok X G (c.x.d.fact 8 (f := .glo "is_small") rfl)
  g_text_lines := He.glo_ok X G (c.x.d.fact 9 (f := .glo "text_lines") rfl)
  g_check_bound := He.glo_ok X G (c.x.d.fact 10 (f := .glo "check_bound") rfl)
  g_are_different_names := He.glo_ok X G (c.x.d.fact 11 (f := .glo "are_different_names") rfl)
  g_YardReader := He.glo_ok X G (c.x.d.fact 12 (f := .glo "YardReader") rfl)
  g_read_yard := He.glo_ok X G (c.x.d.fact 13 (f := .glo "read_yard") rfl)
  g_yard_text := He.glo_ok X G (c.x.d.fact 14 (f := .glo "yard_text") rfl)
  g_check_benches := He.glo_ok X G (c.x.d.fact 15 (f := .glo "check_benches") rfl)
  g_neighbour_table := He.glo_ok X G (c.x.d.fact 16 (f := .glo "neighbour_table") rfl)
  g_road_table := He.glo_ok X G (c.x.d.fact 17 (f := .glo "road_table") rfl)
  g_Yard := He.glo_ok X G (c.x.d.fact 18 (f := .glo "Yard") rfl)
  g_law_bag := He.glo_ok X G (c.x.d.fact 19 (f := .glo "_law_bag") rfl)
  g_law_draw := He.glo_ok X G (c.x.d.fact 20 (f := .glo "_law_draw") rfl)
  g_law_of := He.glo_ok X G (c.x.d.fact 21 (f := .glo "_law_of") rfl)
  g_law_mixed := He.glo_ok X G (c.x.d.fact 22 (f := .glo "_law_mixed") rfl)
  g_law_like := He.glo_ok X G (c.x.d.fact 23 (f := .glo "_law_like") rfl)
  g_law_small := He.glo_ok X G (c.x.d.fact 24 (f := .glo "_law_small") rfl)
  g_law_fresh := He.glo_ok X G (c.x.d.fact 25 (f := .glo "_law_fresh") rfl)
  g_law_names := He.glo_ok X G (c.x.d.fact 26 (f := .glo "_law_names") rfl)
  g_law_plot := He.glo_ok X G (c.x.d.fact 27 (f := .glo "_law_plot") rfl)
  g_law_plot_text := He.glo_ok X G (c.x.d.fact 28 (f := .glo "_law_plot_text") rfl)
  g_law_reach := He.glo_ok X G (c.x.d.fact 29 (f := .glo "_law_reach") rfl)
  g_law_read := He.glo_ok X G (c.x.d.fact 30 (f := .glo "_law_read") rfl)
  g_law_bend := He.glo_ok X G (c.x.d.fact 31 (f := .glo "_law_bend") rfl)
  g_law_told := He.glo_ok X G (c.x.d.fact 32 (f := .glo "_law_told") rfl)
  g_law_row_made := He.glo_ok X G (c.x.d.fact 33 (f := .glo "_law_row_made") rfl)
  g_law_row_due := He.glo_ok X G (c.x.d.fact 34 (f := .glo "_law_row_due") rfl)
  g_law_crowd := He.glo_ok X G (c.x.d.fact 35 (f := .glo "_law_crowd") rfl)
  g_law := He.glo_ok X G (c.x.d.fact 36 (f := .glo "law") rfl)
  n_ValueError := He.free_ok X G (c.x.d.fact 37 (f := .free "ValueError") rfl)
  n_LookupError := He.free_ok X G (c.x.d.fact 38 (f := .free "LookupError") rfl)
  n_staticmethod := He.free_ok X G (c.x.d.fact 39 (f := .free "staticmethod") rfl)
  n_dict := He.free_ok X G (c.x.d.fact 40 (f := .free "dict") rfl)
  n_range := He.free_ok X G (c.x.d.fact 41 (f := .free "range") rfl)
  n_list := He.free_ok X G (c.x.d.fact 42 (f := .free "list") rfl)
  n_isinstance := He.free_ok X G (c.x.d.fact 43 (f := .free "isinstance") rfl)
  n_len := He.free_ok X G (c.x.d.fact 44 (f := .free "len") rfl)
  n_str := He.free_ok X G (c.x.d.fact 45 (f := .free "str") rfl)
  n_tuple := He.free_ok X G (c.x.d.fact 46 (f := .free "tuple") rfl)
  n_min := He.free_ok X G (c.x.d.fact 47 (f := .free "min") rfl)
  n_int := He.free_ok X G (c.x.d.fact 48 (f := .free "int") rfl)
  n_bool := He.free_ok X G (c.x.d.fact 49 (f := .free "bool") rfl)
  n_zip := He.free_ok X G (c.x.d.fact 50 (f := .free "zip") rfl)
  n_enumerate := He.free_ok X G (c.x.d.fact 51 (f := .free "enumerate") rfl)
  c_NAME_LENGTH := He.int_ok X G (c.x.d.fact 52 (f := .int "NAME_LENGTH" 8) rfl)
  cls_YardReader := He.cls_ok (c.x.d.fact 53 (f := .cls "YardReader") rfl)
  a_YardReader_course := He.noat_ok (c.x.d.fact 54 (f := .noat "YardReader" "course") rfl)
  a_YardReader_benches := He.noat_ok (c.x.d.fact 55 (f := .noat "YardReader" "benches") rfl)
  a_YardReader_wires := He.noat_ok (c.x.d.fact 56 (f := .noat "YardReader" "wires") rfl)
  a_YardReader_groups := He.noat_ok (c.x.d.fact 57 (f := .noat "YardReader" "groups") rfl)
  a_YardReader_ended := He.noat_ok (c.x.d.fact 58 (f := .noat "YardReader" "ended") rfl)
  m_YardReader_take := He.meth_ok (c.x.d.fact 59 (f := .meth "YardReader" "take") rfl)
  m_YardReader_add_bench := He.meth_ok (c.x.d.fact 60 (f := .meth "YardReader" "add_bench") rfl)
  m_YardReader_add_wire := He.meth_ok (c.x.d.fact 61 (f := .meth "YardReader" "add_wire") rfl)
  m_YardReader_end := He.meth_ok (c.x.d.fact 62 (f := .meth "YardReader" "end") rfl)
  mk_YardReader := He.mkr_ok (c.x.d.fact 63 (f := .mkr "YardReader") rfl)
  cls_Yard := He.cls_ok (c.x.d.fact 64 (f := .cls "Yard") rfl)
  a_Yard_course := He.noat_ok (c.x.d.fact 65 (f := .noat "Yard" "course") rfl)
  a_Yard_benches := He.noat_ok (c.x.d.fact 66 (f := .noat "Yard" "benches") rfl)
  a_Yard_wires := He.noat_ok (c.x.d.fact 67 (f := .noat "Yard" "wires") rfl)
  a_Yard_text := He.noat_ok (c.x.d.fact 68 (f := .noat "Yard" "text") rfl)
  a_Yard__positions := He.noat_ok (c.x.d.fact 69 (f := .noat "Yard" "_positions") rfl)
  a_Yard__neighbours := He.noat_ok (c.x.d.fact 70 (f := .noat "Yard" "_neighbours") rfl)
  a_Yard__roads := He.noat_ok (c.x.d.fact 71 (f := .noat "Yard" "_roads") rfl)
  a_Yard__sides := He.noat_ok (c.x.d.fact 72 (f := .noat "Yard" "_sides") rfl)
  m_Yard_split := He.meth_ok (c.x.d.fact 73 (f := .meth "Yard" "_split") rfl)
  m_Yard_check_bench := He.meth_ok (c.x.d.fact 74 (f := .meth "Yard" "_check_bench") rfl)
  m_Yard_check_wire := He.meth_ok (c.x.d.fact 75 (f := .meth "Yard" "_check_wire") rfl)
  m_Yard_check_list := He.meth_ok (c.x.d.fact 76 (f := .meth "Yard" "_check_list") rfl)
  m_Yard_in_order := He.meth_ok (c.x.d.fact 77 (f := .meth "Yard" "_in_order") rfl)
  m_Yard_neighbours := He.meth_ok (c.x.d.fact 78 (f := .meth "Yard" "neighbours") rfl)
  m_Yard_road := He.meth_ok (c.x.d.fact 79 (f := .meth "Yard" "road") rfl)
  m_Yard_wire_between := He.meth_ok (c.x.d.fact 80 (f := .meth "Yard" "wire_between") rfl)
  m_Yard_sides := He.meth_ok (c.x.d.fact 81 (f := .meth "Yard" "sides") rfl)
  m_Yard_away := He.meth_ok (c.x.d.fact 82 (f := .meth "Yard" "away") rfl)
  m_Yard_hangs := He.meth_ok (c.x.d.fact 83 (f := .meth "Yard" "hangs") rfl)
  m_Yard_hull := He.meth_ok (c.x.d.fact 84 (f := .meth "Yard" "hull") rfl)
  m_Yard_nearest := He.meth_ok (c.x.d.fact 85 (f := .meth "Yard" "nearest") rfl)
  m_Yard_all_parts := He.meth_ok (c.x.d.fact 86 (f := .meth "Yard" "all_parts") rfl)
  m_Yard_larger := He.meth_ok (c.x.d.fact 87 (f := .meth "Yard" "_larger") rfl)
  m_Yard_eq := He.meth_ok (c.x.d.fact 88 (f := .meth "Yard" "__eq__") rfl)
  m_Yard_len := He.meth_ok (c.x.d.fact 89 (f := .meth "Yard" "__len__") rfl)
  mk_Yard := He.mkr_ok (c.x.d.fact 90 (f := .mkr "Yard") rfl)
  two_BadYard := twoB_ok (c.x.more 0 (f := twoB "BadYard" ["line", "why"]) rfl)
  one_OutOf := by
    obtain ⟨fd, F⟩ := c.x.d.def_ 1 (d := d_OutOfD__initD_) rfl
    exact (oneB_ok (c.x.more 1 (f := oneB "OutOf" "what" bmV "ValueError.__new__") rfl) (fnd_one F rfl rfl rfl)).1
  ic_OutOf := by
    obtain ⟨fd, F⟩ := c.x.d.def_ 1 (d := d_OutOfD__initD_) rfl
    exact (oneB_ok (c.x.more 1 (f := oneB "OutOf" "what" bmV "ValueError.__new__") rfl) (fnd_one F rfl rfl rfl)).2
  two_TooMany := twoB_ok (c.x.more 2 (f := twoB "TooMany" ["what", "count"]) rfl)
  one_NoSuch := by
    obtain ⟨fd, F⟩ := c.x.d.def_ 3 (d := d_NoSuchD__initD_) rfl
    exact (oneB_ok (c.x.more 3 (f := oneB "NoSuch" "name" bmL "LookupError.__new__") rfl) (fnd_one F rfl rfl rfl)).1
  ic_NoSuch := by
    obtain ⟨fd, F⟩ := c.x.d.def_ 3 (d := d_NoSuchD__initD_) rfl
    exact (oneB_ok (c.x.more 3 (f := oneB "NoSuch" "name" bmL "LookupError.__new__") rfl) (fnd_one F rfl rfl rfl)).2
  ex_BadYard_BadYard := of_decide_eq_true (c.x.more 4)
  ex_BadYard_OutOf := of_decide_eq_true (c.x.more 5)
  ex_BadYard_TooMany := of_decide_eq_true (c.x.more 6)
  ex_BadYard_NoSuch := of_decide_eq_true (c.x.more 7)
  ex_OutOf_BadYard := of_decide_eq_true (c.x.more 8)
  ex_OutOf_OutOf := of_decide_eq_true (c.x.more 9)
  ex_OutOf_TooMany := of_decide_eq_true (c.x.more 10)
  ex_OutOf_NoSuch := of_decide_eq_true (c.x.more 11)
  ex_TooMany_BadYard := of_decide_eq_true (c.x.more 12)
  ex_TooMany_OutOf := of_decide_eq_true (c.x.more 13)
  ex_TooMany_TooMany := of_decide_eq_true (c.x.more 14)
  ex_TooMany_NoSuch := of_decide_eq_true (c.x.more 15)
  ex_NoSuch_BadYard := of_decide_eq_true (c.x.more 16)
  ex_NoSuch_OutOf := of_decide_eq_true (c.x.more 17)
  ex_NoSuch_TooMany := of_decide_eq_true (c.x.more 18)
  ex_NoSuch_NoSuch := of_decide_eq_true (c.x.more 19)
  is_BadYard_BadYard := of_decide_eq_true (c.x.more 20)
  is_BadYard_OutOf := of_decide_eq_true (c.x.more 21)
  is_BadYard_TooMany := of_decide_eq_true (c.x.more 22)
  is_BadYard_NoSuch := of_decide_eq_true (c.x.more 23)
  is_BadYard_ValueError := of_decide_eq_true (c.x.more 24)
  is_BadYard_LookupError := of_decide_eq_true (c.x.more 25)
  is_BadYard_RuntimeError := of_decide_eq_true (c.x.more 26)
  is_OutOf_BadYard := of_decide_eq_true (c.x.more 27)
  is_OutOf_OutOf := of_decide_eq_true (c.x.more 28)
  is_OutOf_TooMany := of_decide_eq_true (c.x.more 29)
  is_OutOf_NoSuch := of_decide_eq_true (c.x.more 30)
  is_OutOf_ValueError := of_decide_eq_true (c.x.more 31)
  is_OutOf_LookupError := of_decide_eq_true (c.x.more 32)
  is_OutOf_RuntimeError := of_decide_eq_true (c.x.more 33)
  is_TooMany_BadYard := of_decide_eq_true (c.x.more 34)
  is_TooMany_OutOf := of_decide_eq_true (c.x.more 35)
  is_TooMany_TooMany := of_decide_eq_true (c.x.more 36)
  is_TooMany_NoSuch := of_decide_eq_true (c.x.more 37)
  is_TooMany_ValueError := of_decide_eq_true (c.x.more 38)
  is_TooMany_LookupError := of_decide_eq_true (c.x.more 39)
  is_TooMany_RuntimeError := of_decide_eq_true (c.x.more 40)
  is_NoSuch_BadYard := of_decide_eq_true (c.x.more 41)
  is_NoSuch_OutOf := of_decide_eq_true (c.x.more 42)
  is_NoSuch_TooMany := of_decide_eq_true (c.x.more 43)
  is_NoSuch_NoSuch := of_decide_eq_true (c.x.more 44)
  is_NoSuch_ValueError := of_decide_eq_true (c.x.more 45)
  is_NoSuch_LookupError := of_decide_eq_true (c.x.more 46)
  is_NoSuch_RuntimeError := of_decide_eq_true (c.x.more 47)
  t_KEPT_WORDS := He.tupB_ok (c.x.more 48)
  di_BOUNDS := intsB_ok (c.x.more 49) (c.tab 0)
  sm_Yard_in_row := smB_ok (c.x.more 50)
  sm_Yard_in_star := smB_ok (c.x.more 51)
  sm_Yard_in_days := smB_ok (c.x.more 52)
  ocl_YardReader := of_decide_eq_true (c.x.more 53)
  ocg_YardReader := of_decide_eq_true (c.x.more 54)
  oct_YardReader := of_decide_eq_true (c.x.more 55)
  ocm_YardReader := of_decide_eq_true (c.x.more 56)
  ome_YardReader := of_decide_eq_true (c.x.more 57)
  ons_YardReader := of_decide_eq_true (c.x.more 58)
  one_YardReader := of_decide_eq_true (c.x.more 59)
  ocl_Yard := of_decide_eq_true (c.x.more 60)
  ocg_Yard := of_decide_eq_true (c.x.more 61)
  oct_Yard := of_decide_eq_true (c.x.more 62)
  ocm_Yard := of_decide_eq_true (c.x.more 63)
  ome_Yard := of_decide_eq_true (c.x.more 64)
  ons_Yard := of_decide_eq_true (c.x.more 65)
  one_Yard := of_decide_eq_true (c.x.more 66)
  f_BadYardD__initD_ := c.x.d.def_ 0 (d := d_BadYardD__initD_) rfl
  f_OutOfD__initD_ := c.x.d.def_ 1 (d := d_OutOfD__initD_) rfl
  f_TooManyD__initD_ := c.x.d.def_ 2 (d := d_TooManyD__initD_) rfl
  f_NoSuchD__initD_ := c.x.d.def_ 3 (d := d_NoSuchD__initD_) rfl
  f_bounds := c.x.d.def_ 4 (d := d_bounds) rfl
  f_is_name := c.x.d.def_ 5 (d := d_is_name) rfl
  f_is_small := c.x.d.def_ 6 (d := d_is_small) rfl
  f_text_lines := c.x.d.def_ 7 (d := d_text_lines) rfl
  f_check_bound := c.x.d.def_ 8 (d := d_check_bound) rfl
  f_are_different_names := c.x.d.def_ 9 (d := d_are_different_names) rfl
  f_YardReaderD__initD_ := c.x.d.def_ 10 (d := d_YardReaderD__initD_) rfl
  f_YardReader_take := c.x.d.def_ 11 (d := d_YardReader_take) rfl
  f_YardReader_add_bench := c.x.d.def_ 12 (d := d_YardReader_add_bench) rfl
  f_YardReader_add_wire := c.x.d.def_ 13 (d := d_YardReader_add_wire) rfl
  f_YardReader_end := c.x.d.def_ 14 (d := d_YardReader_end) rfl
  f_read_yard := c.x.d.def_ 15 (d := d_read_yard) rfl
  f_yard_text := c.x.d.def_ 16 (d := d_yard_text) rfl
  f_check_benches := c.x.d.def_ 17 (d := d_check_benches) rfl
  f_neighbour_table := c.x.d.def_ 18 (d := d_neighbour_table) rfl
  f_road_table := c.x.d.def_ 19 (d := d_road_table) rfl
  f_YardD__initD_ := c.x.d.def_ 20 (d := d_YardD__initD_) rfl
  f_YardD_split := c.x.d.def_ 21 (d := d_YardD_split) rfl
  f_YardD_check_bench := c.x.d.def_ 22 (d := d_YardD_check_bench) rfl
  f_YardD_check_wire := c.x.d.def_ 23 (d := d_YardD_check_wire) rfl
  f_YardD_check_list := c.x.d.def_ 24 (d := d_YardD_check_list) rfl
  f_YardD_in_order := c.x.d.def_ 25 (d := d_YardD_in_order) rfl
  f_Yard_neighbours := c.x.d.def_ 26 (d := d_Yard_neighbours) rfl
  f_Yard_road := c.x.d.def_ 27 (d := d_Yard_road) rfl
  f_Yard_wire_between := c.x.d.def_ 28 (d := d_Yard_wire_between) rfl
  f_Yard_sides := c.x.d.def_ 29 (d := d_Yard_sides) rfl
  f_Yard_away := c.x.d.def_ 30 (d := d_Yard_away) rfl
  f_Yard_hangs := c.x.d.def_ 31 (d := d_Yard_hangs) rfl
  f_Yard_hull := c.x.d.def_ 32 (d := d_Yard_hull) rfl
  f_Yard_nearest := c.x.d.def_ 33 (d := d_Yard_nearest) rfl
  f_Yard_all_parts := c.x.d.def_ 34 (d := d_Yard_all_parts) rfl
  f_YardD_larger := c.x.d.def_ 35 (d := d_YardD_larger) rfl
  f_YardD__eqD_ := c.x.d.def_ 36 (d := d_YardD__eqD_) rfl
  f_YardD__lenD_ := c.x.d.def_ 37 (d := d_YardD__lenD_) rfl
  f_law_bag := c.x.d.def_ 38 (d := d_law_bag) rfl
  f_law_draw := c.x.d.def_ 39 (d := d_law_draw) rfl
  f_law_of := c.x.d.def_ 40 (d := d_law_of) rfl
  f_law_mixed := c.x.d.def_ 41 (d := d_law_mixed) rfl
  f_law_like := c.x.d.def_ 42 (d := d_law_like) rfl
  f_law_small := c.x.d.def_ 43 (d := d_law_small) rfl
  f_law_fresh := c.x.d.def_ 44 (d := d_law_fresh) rfl
  f_law_names := c.x.d.def_ 45 (d := d_law_names) rfl
  f_law_plot := c.x.d.def_ 46 (d := d_law_plot) rfl
  f_law_plot_text := c.x.d.def_ 47 (d := d_law_plot_text) rfl
  f_law_reach := c.x.d.def_ 48 (d := d_law_reach) rfl
  f_law_read := c.x.d.def_ 49 (d := d_law_read) rfl
  f_law_bend := c.x.d.def_ 50 (d := d_law_bend) rfl
  f_law_told := c.x.d.def_ 51 (d := d_law_told) rfl
  f_law_row_made := c.x.d.def_ 52 (d := d_law_row_made) rfl
  f_law_row_due := c.x.d.def_ 53 (d := d_law_row_due) rfl
  f_law_crowd := c.x.d.def_ 54 (d := d_law_crowd) rfl
  f_law := c.x.d.def_ 55 (d := d_law) rfl
  f_Yard_in_row := c.s.def_ 0 (d := d_Yard_in_row) rfl
  f_Yard_in_star := c.s.def_ 1 (d := d_Yard_in_star) rfl
  f_Yard_in_days := c.s.def_ 2 (d := d_Yard_in_days) rfl
def loose : List PySem.Str := (["_wall", "__name__", "BadYard", "OutOf", "TooMany", "NoSuch", "BOUNDS", "KEPT_WORDS", "NAME_LENGTH", "bounds", "is_name", "is_small", "text_lines", "check_bound", "are_different_names", "YardReader", "read_yard", "yard_text", "check_benches", "neighbour_table", "road_table", "Yard", "_law_bag", "_law_draw", "_law_of", "_law_mixed", "_law_like", "_law_small", "_law_fresh", "_law_names"] : List PySem.Str) ++ (["_law_plot", "_law_plot_text", "_law_reach", "_law_read", "_law_bend", "_law_told", "_law_row_made", "_law_row_due", "_law_crowd"] : List PySem.Str)
end Yd
set_option Elab.async false
set_option linter.all false
set_option maxRecDepth 100000
set_option maxHeartbeats 0
namespace Yd
open PySem PySem.Spec PyProof.Rows L2 Xo
abbrev R : PySem.W.OpenRow := PySem.W.OpenLaw.row PySem.Challenge.rw_everywire_k20_yards_there_and_back
abbrev hk : PySem.W.Hook := hookZ 6 fa fn xl tabs sfn
def ob (s : PySem.W.SharedT) : AlZ := obsZG 6 fa fn xl tabs sfn (HandSHeadRun.getT s)
theorem ob_eq (s : PySem.W.SharedT) : ob s = hk.obs s.abs := obsZG_eq (HandSHeadRun.getT_eq s)
theorem runF (w : World) : HandSHeadRun.RunEq R (PySem.W.view R.prog [44]) hk ob 8000 loose (w.withFollow "special-get-raises" false) := by
  intro os
  kernel_rfl
theorem runT (w : World) : HandSHeadRun.RunEq R (PySem.W.view R.prog [44]) hk ob 8000 loose (w.withFollow "special-get-raises" true) := by
  intro os
  kernel_rfl
theorem run (w : World) : HandSHeadRun.RunEq R (PySem.W.view R.prog [44]) hk ob 8000 loose w :=
  PySem.W.byRow2 "special-get-raises" (P := fun w => HandSHeadRun.RunEq R (PySem.W.view R.prog [44]) hk ob 8000 loose w) runF runT w
end Yd
set_option Elab.async false
set_option linter.all false
set_option maxRecDepth 100000
set_option maxHeartbeats 8000000
namespace Yd
open PySem PySem.Spec PyProof.Rows L2 Xo
theorem same_new {H : Hp} {p : Addr} {o : HO} (h : H p = none) : Same H (upd H p o) := fun a u e => by rw [upd_ne (ne_of_none e h)]; exact e
theorem same_upd {H H1 : Hp} {p : Addr} {o : HO} (s : Same H H1) (h : H p = none) : Same H (upd H1 p o) := fun a u e => by rw [upd_ne (ne_of_none e h)]; exact s a u e
theorem seqT {K : PySem.W.Frag} {H H' : Hp} {a : Addr} {xs : List V} (e : Same H H') (h : SqT K H a xs) : SqT K H' a xs := by
  rcases h with (h | ⟨o, h⟩) | h
  · exact .inl (.inl (e _ _ h))
  · exact .inl (.inr ⟨o, e _ _ h⟩)
  · exact .inr h
/-- BadYard at a line; TooMany of a thing -/
def RB (K : PySem.W.Frag) (E : XK) (H : Hp) (line : Int) : Prop := ∀ (H' : Hp) (d : Addr) (w : Str), Same H H' → H d = none → H' d = some (.xd [("why", .str w), ("line", .int line)]) → (w == Str.empty) = false → E (.ref (He.ga K "BadYard")) (some d) H'
def RM (K : PySem.W.Frag) (E : XK) (H : Hp) (what : Str) (count : Int) : Prop := ∀ (H' : Hp) (d : Addr), Same H H' → H d = none → H' d = some (.xd [("count", .int count), ("what", .str what)]) → E (.ref (He.ga K "TooMany")) (some d) H'
theorem RB.same {K : PySem.W.Frag} {E : XK} {H H1 : Hp} {line : Int} (r : RB K E H line) (s : Same H H1) : RB K E H1 line := fun H' d w s' n e z => r H' d w (Same.trans s s') (Same.free s n) e z
theorem RM.same {K : PySem.W.Frag} {E : XK} {H H1 : Hp} {what : Str} {count : Int} (r : RM K E H what count) (s : Same H H1) : RM K E H1 what count := fun H' d s' n e => r H' d (Same.trans s s') (Same.free s n) e
section
variable {P : Program} {w : World} {K : PySem.W.Frag} {mg : Str → Option Value} {base : Heap}
theorem sc_BadYardD__initD_ : FnScope ["self", "line", "why"] ["self", "line", "why"] (defScope s_BadYardD__initD_) := ⟨rfl, rfl, rfl, by decide +kernel, rfl, by decide +kernel, by decide +kernel⟩
theorem good_BadYard (T : Tx w K mg) : Good P w K mg base CX0 1 (He.ma K (He.ga K "BadYard") "__init__") ["self", "line", "why"] (spIni2 (He.ga K "BadYard") "line" "why") := by
  obtain ⟨fd, F⟩ := T.f_BadYardD__initD_
  refine ⟨fd, F.ok sc_BadYardD__initD_ (fun vs H Q E h => ?_) (fun cdv A outer s H vs Q E hr h => ?_), F.kp, F.bindsN fun _ _ _ _ _ _ us hl => match us, hl with | [_, _, _], _ => rfl⟩
  · obtain ⟨_, _, _, rfl, _⟩ := h
    rfl
  · obtain ⟨a, v1, v2, rfl, hH, kq⟩ := h
    have SC := sc_BadYardD__initD_
    refine ⟨_, PSs.nox (pss_cons (ps_ost (pv 0) (pv 1)) 
      (pss_one (ps_ost (pv 0) (pv 2)))), ?_⟩
    refine ⟨_, rfl, _, rfl, a, _, rfl, T.two_BadYard.oex, T.two_BadYard.no "line" (by simp), .inl ⟨hH, fun dx hdx hne => ?_⟩⟩
    refine ⟨_, rfl, _, rfl, a, _, rfl, T.two_BadYard.oex, T.two_BadYard.no "why" (by simp), .inr ⟨dx, _, upd_same, by rw [upd_ne hne]; exact upd_same, by show 1 ≤ 900; decide, ?_⟩⟩
    exact kq dx hdx hne
theorem sc_TooManyD__initD_ : FnScope ["self", "what", "count"] ["self", "what", "count"] (defScope s_TooManyD__initD_) := ⟨rfl, rfl, rfl, by decide +kernel, rfl, by decide +kernel, by decide +kernel⟩
theorem good_TooMany (T : Tx w K mg) : Good P w K mg base CX0 1 (He.ma K (He.ga K "TooMany") "__init__") ["self", "what", "count"] (spIni2 (He.ga K "TooMany") "what" "count") := by
  obtain ⟨fd, F⟩ := T.f_TooManyD__initD_
  refine ⟨fd, F.ok sc_TooManyD__initD_ (fun vs H Q E h => ?_) (fun cdv A outer s H vs Q E hr h => ?_), F.kp, F.bindsN fun _ _ _ _ _ _ us hl => match us, hl with | [_, _, _], _ => rfl⟩
  · obtain ⟨_, _, _, rfl, _⟩ := h
    rfl
  · obtain ⟨a, v1, v2, rfl, hH, kq⟩ := h
    have SC := sc_TooManyD__initD_
    refine ⟨_, PSs.nox (pss_cons (ps_ost (pv 0) (pv 1)) 
      (pss_one (ps_ost (pv 0) (pv 2)))), ?_⟩
    refine ⟨_, rfl, _, rfl, a, _, rfl, T.two_TooMany.oex, T.two_TooMany.no "what" (by simp), .inl ⟨hH, fun dx hdx hne => ?_⟩⟩
    refine ⟨_, rfl, _, rfl, a, _, rfl, T.two_TooMany.oex, T.two_TooMany.no "count" (by simp), .inr ⟨dx, _, upd_same, by rw [upd_ne hne]; exact upd_same, by show 1 ≤ 900; decide, ?_⟩⟩
    exact kq dx hdx hne
/-! ### the bounds -/
def bnds : List (Str × Int) := [("text", 120000), ("axes", 3), ("size", 60), ("cells", 2000), ("depth", 8), ("items", 120), ("numbers", 9999), ("marks", 6), ("reads", 8), ("worths", 99999999), ("visits", 20000), ("steps", 4000), ("values", 1500), ("rules", 4000), ("rounds", 60), ("changes", 60), ("benches", 14), ("sizes", 9), ("lines", 200), ("wants", 600), ("chains", 5000), ("deeds", 4000), ("places", 9999), ("amounts", 99999), ("lasts", 999), ("room", 2000), ("names", 60)]
def spBounds : Sp := fun vs H Q _ => vs = [] ∧ ∀ p, H p = none → Q (.ref p) (upd H p (.dK (kvI bnds)))
theorem sc_bounds : FnScope [] [] (defScope s_bounds) := ⟨rfl, rfl, rfl, by decide +kernel, rfl, by decide +kernel, by decide +kernel⟩
theorem good_bounds (T : Tx w K mg) : Good P w K mg base CX0 1 (He.ga K "bounds") [] spBounds := by
  obtain ⟨fd, F⟩ := T.f_bounds
  refine ⟨fd, F.ok sc_bounds (fun vs H Q E h => ?_) (fun cdv A outer s H vs Q E hr h => ?_), F.kp, F.bindsN fun _ _ _ _ _ _ us hl => match us, hl with | [], _ => rfl⟩
  · obtain ⟨rfl, _⟩ := h
    rfl
  · obtain ⟨rfl, kq⟩ := h
    have SC := sc_bounds
    refine ⟨_, PSs.nox (pss_one (ps_ret (pe_callTy (call_dict_ints T.di_BOUNDS (by decide)) rfl T.n_dict (by decide +kernel) (pa_cons (pe_glob (v := .ref (He.ga K "BOUNDS")) rfl T.g_BOUNDS rfl) pa_nil)))), ?_⟩
    exact ⟨rfl, kq⟩
/-! ### check_bound -/
def spCheck (K : PySem.W.Frag) : Sp := fun vs H Q E => ∃ (what : Str) (n most : Int), vs = [.str what, .int n] ∧ valV (kvI bnds) (Sum.inr what) = some (.int most) ∧ (n ≤ most → ∀ H', Same H H' → Q .non H') ∧ (most < n → RM K E H what most)
theorem sc_check_bound : FnScope ["what", "count", "most"] ["what", "count"] (defScope s_check_bound) := ⟨rfl, rfl, rfl, by decide +kernel, rfl, by decide +kernel, by decide +kernel⟩
theorem good_check_bound (T : Tx w K mg) : Good P w K mg base (L2.CX P w) 3 (He.ga K "check_bound") ["what", "count"] (spCheck K) := by
  obtain ⟨fd, F⟩ := T.f_check_bound
  obtain ⟨_, G_TooMany_init, _, b_TooMany_init⟩ := good_TooMany (P := P) (w := w) (base := base) T
  obtain ⟨_, G_bounds, k_bounds, b_bounds⟩ := good_bounds (P := P) (w := w) (base := base) T
  refine ⟨fd, F.ok sc_check_bound (fun vs H Q E h => ?_) (fun cdv A outer s H vs Q E hr h => ?_), F.kp, F.bindsN fun _ _ _ _ _ _ us hl => match us, hl with | [_, _], _ => rfl⟩
  · obtain ⟨_, _, _, rfl, _⟩ := h
    rfl
  · obtain ⟨what, n, most, rfl, hv, kq, ke⟩ := h
    have SC := sc_check_bound
    have hu := hu_of hr
    refine ⟨_, pss_cons (ps_set (i := 2) SC.nd rfl (by first | exact Or.inl rfl | exact Or.inr rfl) (pe_dget hu (pe_call0 G_bounds (hr.mono (by decide)) rfl T.g_bounds k_bounds b_bounds .nil pass0) (pv 0) (fun _ _ => rfl))) 
      (pss_one (ps_if (pt_cmpR op_gt (pv 1) (pv 2) (nomark _)) 
      (pss_one (ps_raise rfl (takes_of rfl rfl rfl rfl) (pmk_oex T.two_TooMany.oex T.two_TooMany.iC T.two_TooMany.tI G_TooMany_init (hr.mono (by decide)) b_TooMany_init .nil pass0 rfl T.g_TooMany (pa_cons (pv 0) (pa_cons (pv 2) pa_nil))))) pss_nil)), ?_⟩
    refine ⟨rfl, fun p hp => ?_⟩
    have s1 : Same H (upd H p (.dK (kvI bnds))) := same_new hp
    have e1 : upd H p (.dK (kvI bnds)) p = some (.dK (kvI bnds)) := upd_same
    generalize upd H p _ = H1 at s1 e1 ⊢
    refine ⟨_, rfl, p, .int most, rfl, by rw [← hv]; exact DGet.k (k := Sum.inr what) e1, ?_⟩
    refine ⟨_, rfl, _, rfl, n, most, rfl, rfl, _, rfl, ?_⟩
    refine ite2 (fun c => ?_) (fun c => ?_)
    · exact ⟨_, rfl, _, rfl, mkO_two fun d hd => (ke (of_decide_eq_true c)).same s1 _ d (same_new hd) hd upd_same⟩
    · exact kq (Int.not_lt.mp fun z => c (decide_eq_true z)) _ s1
/-! ### words -/
def loA (c : Nat) : Bool := decide (97 ≤ c) && decide (c ≤ 122)
def upA (c : Nat) : Bool := decide (65 ≤ c) && decide (c ≤ 90)
def dgA (c : Nat) : Bool := decide (48 ≤ c) && decide (c ≤ 57)
def kept : List Str := [("to" : Str), ("down" : Str), ("by" : Str), ("at" : Str), ("where" : Str), ("is" : Str), ("as" : Str), ("size" : Str), ("once" : Str), ("put" : Str), ("get" : Str)]
def smallB (x : Str) : Bool := (decide (0 < x.cps.toList.length) && decide (x.cps.toList.length < 9)) && (x.cps.toList.head?.any loA && (x.cps.toList.all (fun c => loA c || dgA c) && !decide (x ∈ kept)))
def nameB (x : Str) : Bool := (decide (1 ≤ x.cps.toList.length) && decide (x.cps.toList.length ≤ 8)) && (Txt.isascii x && (Txt.isalnum x && x.cps.toList.head?.any PySem.Unicode.isAlpha))
theorem alnum_of (c : Nat) (h : c < 128) : PySem.Unicode.isAlnum c = (loA c || (upA c || dgA c)) ∧ PySem.Unicode.isAlpha c = (loA c || upA c) ∧ (lo1 c = c ↔ upA c = false) := by
  have : ∀ c : Fin 128, PySem.Unicode.isAlnum c.val = (loA c.val || (upA c.val || dgA c.val)) ∧ PySem.Unicode.isAlpha c.val = (loA c.val || upA c.val) ∧ (lo1 c.val = c.val ↔ upA c.val = false) := by decide +kernel
  exact this ⟨c, h⟩
theorem low_lt {c : Nat} (h : (loA c || dgA c) = true) : c < 128 := by
  unfold loA dgA at h
  simp at h
  omega
theorem at_zero {α : Type} (c : α) (l : List α) : atI (c :: l) 0 = some c := by
  unfold atI ixN
  simp
def spIsName : Sp := fun vs H Q _ => ∃ x : Str, vs = [.str x] ∧ x.length ≤ 200000 ∧ ∀ H', Same H H' → Q (.bl (nameB x)) H'
theorem sc_is_name : FnScope ["value"] ["value"] (defScope s_is_name) := ⟨rfl, rfl, rfl, by decide +kernel, rfl, by decide +kernel, by decide +kernel⟩
theorem good_is_name (T : Tx w K mg) : Good P w K mg base CX0 1 (He.ga K "is_name") ["value"] spIsName := by
  obtain ⟨fd, F⟩ := T.f_is_name
  obtain ⟨tN, mgN⟩ := T.c_NAME_LENGTH
  refine ⟨fd, F.ok sc_is_name (fun vs H Q E h => ?_) (fun cdv A outer s H vs Q E hr h => ?_), F.kp, F.bindsN fun _ _ _ _ _ _ us hl => match us, hl with | [_], _ => rfl⟩
  · obtain ⟨_, rfl, _⟩ := h
    rfl
  · obtain ⟨x, rfl, hl, kq⟩ := h
    have SC := sc_is_name
    refine ⟨_, PSs.nox (pss_cons (ps_if (PW.pt (pw_or (pt_not (pt_val (pe_callB (isiQ K) rfl T.n_isinstance (by decide +kernel) (pa_cons (pv 0) (pa_cons (pe_bltn (v := .ty "str") (u := .type "str") rfl T.n_str (by decide +kernel) rfl) pa_nil))))) (pw_or1 (pt_not (pt_chain op_le op_le pe_int (pe_callB call_len_str rfl T.n_len (by decide +kernel) (pa_cons (pv 0) pa_nil)) (pe_glob (v := .int 8) rfl mgN ⟨_, rfl⟩)))))) 
      (pss_one (ps_ret pe_bl)) pss_nil) 
      (pss_one (ps_ret (pe_and (pe_m0 PySem.F.slot_str_isascii PySem.F.type_str_isascii mt_isascii (pv 0)) (pe_and (pe_m0 PySem.F.slot_str_isalnum PySem.F.type_str_isalnum mt_isalnum (pv 0)) (pe_one (pe_m0 PySem.F.slot_str_isalpha PySem.F.type_str_isalpha mt_isalpha (pe_ix ix_str (pv 0) pe_int (fun _ _ => rfl))))))))), ?_⟩
    have hz : x.length ≤ sizeLine := by rw [sizeLine_eq]; omega
    refine ⟨_, rfl, _, _, _, _, _, rfl, .ty _, .base (.str x), kit_ty (r := true) (by decide +kernel), ⟨_, rfl, iteF (A := False) ?_⟩⟩
    have ln : x.cps.toList.length = x.length := Array.length_toList
    have K0 : ∀ H', Same H H' → nameB x = false → Q (.bl false) H' := fun H' s e => by
      have := kq H' s
      rw [e] at this; exact this
    refine ⟨_, rfl, x, rfl, hz, _, _, rfl, rfl, _, rfl, ?_⟩
    by_cases h1 : (1 : Int) ≤ (x.length : Int)
    · rw [decide_eq_true h1]
      refine iteT (B := False) ⟨_, _, rfl, rfl, _, rfl, ?_⟩
      by_cases h2 : (x.length : Int) ≤ 8
      · rw [decide_eq_true h2]
        refine iteF (A := False) ?_
        have hc : (decide (1 ≤ x.cps.toList.length) && decide (x.cps.toList.length ≤ 8)) = true := by
          rw [ln, Bool.and_eq_true]
          exact ⟨decide_eq_true (by omega), decide_eq_true (by omega)⟩
        refine ⟨_, rfl, ⟨_, rfl⟩, _, rfl, rfl, trivial, _, rfl, ?_⟩
        cases a1 : Txt.isascii x with
        | false =>
          refine iteF (A := False) ?_
          exact K0 H (Same.refl H) (by unfold nameB; rw [a1]; simp)
        | true =>
          refine iteT (B := False) ⟨_, rfl, ⟨_, rfl⟩, _, rfl, rfl, trivial, _, rfl, ?_⟩
          cases a2 : Txt.isalnum x with
          | false =>
            refine iteF (A := False) ?_
            exact K0 H (Same.refl H) (by unfold nameB; rw [a2]; simp)
          | true =>
            obtain ⟨c, rest, ec⟩ : ∃ c rest, x.cps.toList = c :: rest := by
              cases q : x.cps.toList with
              | nil => rw [q] at ln; simp at ln; omega
              | cons c rest => exact ⟨c, rest, rfl⟩
            refine iteT (B := False) ⟨_, rfl, x, 0, c, rfl, rfl, hz, by rw [ec]; exact at_zero c rest, ⟨_, rfl⟩, _, rfl, rfl, trivial, ?_⟩
            have := kq H (Same.refl H)
            unfold nameB at this
            rw [hc, a1, a2, ec] at this
            have e : Txt.isalpha ⟨#[c]⟩ = PySem.Unicode.isAlpha c := by simp [Txt.isalpha, Str.length]
            rw [e]
            simpa using this
      · rw [decide_eq_false h2]
        refine iteT (B := False) (K0 H (Same.refl H) ?_)
        unfold nameB
        rw [ln, decide_eq_false (show ¬ x.length ≤ 8 by omega)]; simp
    · rw [decide_eq_false h1]
      refine iteF (A := False) ⟨_, rfl, iteT (B := False) (K0 H (Same.refl H) ?_)⟩
      unfold nameB
      rw [ln, decide_eq_false (show ¬ 1 ≤ x.length by omega)]; simp
theorem in_strs (x : Str) (l : List Str) : inV (V.str x) (l.map V.str) = decide (x ∈ l) := by
  unfold inV
  induction l with
  | nil => rfl
  | cons a l ih =>
    rw [List.map_cons, List.any_cons, ih]
    have : eqV (V.str a) (V.str x) = decide (a = x) := by
      show (a == x) = _
      by_cases c : a = x <;> simp [c]
    rw [this]
    by_cases c : a = x
    · subst c; simp
    · have : ¬ x = a := fun z => c z.symm
      simp [c, this]
theorem strs_flat (l : List Str) : (l.map V.str).all flatV = true := by
  rw [List.all_eq_true]
  intro x hx
  obtain ⟨k, _, rfl⟩ := List.mem_map.mp hx
  rfl
theorem ascii_iff (x : Str) : Txt.isascii x = true ↔ ∀ c ∈ x.cps.toList, c < 128 := by
  unfold Txt.isascii
  rw [Array.all_eq_true_iff_forall_mem]
  simp
theorem lower_same {x : Str} (h : ∀ c ∈ x.cps.toList, c < 128) : x = Txt.lower x ↔ ∀ c ∈ x.cps.toList, upA c = false := by
  rw [lower_ascii h]
  have e : (x = ⟨x.cps.map lo1⟩) ↔ x.cps.toList.map lo1 = x.cps.toList := by
    constructor
    · intro z
      have z' := congrArg (fun s : Str => s.cps.toList) z
      simp only [Array.toList_map] at z'
      exact z'.symm
    · intro z
      have : x.cps.map lo1 = x.cps := by
        apply Array.toList_inj.mp
        rw [Array.toList_map]; exact z
      rw [this]
  rw [e]
  have key : ∀ l : List Nat, (∀ c ∈ l, c < 128) → (l.map lo1 = l ↔ ∀ c ∈ l, upA c = false) := by
    intro l
    induction l with
    | nil => intro _; simp
    | cons a l ih =>
      intro hl
      rw [List.map_cons, List.cons.injEq, ih fun c hc => hl c (List.mem_cons_of_mem _ hc), (alnum_of a (hl a List.mem_cons_self)).2.2]
      simp
  exact key _ h
theorem small_eq (x : Str) : (nameB x && (decide (V.str x = V.str (Txt.lower x)) && !decide (x ∈ kept))) = smallB x := by
  have es : decide (V.str x = V.str (Txt.lower x)) = decide (x = Txt.lower x) := by
    by_cases c : x = Txt.lower x
    · rw [decide_eq_true c, decide_eq_true (congrArg V.str c)]
    · rw [decide_eq_false c, decide_eq_false fun z => c (V.str.inj z)]
  rw [es, Bool.eq_iff_iff]
  unfold nameB smallB
  simp only [Bool.and_eq_true, decide_eq_true_eq, Bool.not_eq_true', decide_eq_false_iff_not, List.all_eq_true]
  have hal : Txt.isalnum x = true ↔ 0 < x.cps.toList.length ∧ ∀ c ∈ x.cps.toList, PySem.Unicode.isAlnum c = true := by
    unfold Txt.isalnum Str.length
    rw [Bool.and_eq_true, decide_eq_true_eq, Array.all_eq_true_iff_forall_mem]
    simp
  constructor
  · rintro ⟨⟨⟨h1, h2⟩, h3, h4, h5⟩, h6, h7⟩
    have A := (ascii_iff x).mp h3
    have U := (lower_same A).mp h6
    have N := (hal.mp h4).2
    have lo : ∀ c ∈ x.cps.toList, (loA c || dgA c) = true := fun c hc => by
      have q := N c hc
      rw [(alnum_of c (A c hc)).1, U c hc] at q
      simpa using q
    refine ⟨⟨by omega, by omega⟩, ?_, lo, h7⟩
    cases e : x.cps.toList with
    | nil => rw [e] at h5; simp at h5
    | cons c l =>
      rw [e] at h5
      have m : c ∈ x.cps.toList := by rw [e]; exact List.mem_cons_self
      simp only [List.head?_cons, Option.any_some] at h5 ⊢
      rw [(alnum_of c (A c m)).2.1, U c m] at h5
      simpa using h5
  · rintro ⟨⟨h1, h2⟩, h3, h4, h5⟩
    have A : ∀ c ∈ x.cps.toList, c < 128 := fun c hc => low_lt (h4 c hc)
    have U : ∀ c ∈ x.cps.toList, upA c = false := fun c hc => by
      have := h4 c hc
      unfold loA dgA at this
      unfold upA
      simp at this ⊢
      omega
    refine ⟨⟨⟨by omega, by omega⟩, (ascii_iff x).mpr A, hal.mpr ⟨by omega, fun c hc => ?_⟩, ?_⟩, (lower_same A).mpr U, h5⟩
    · rw [(alnum_of c (A c hc)).1]
      have := h4 c hc
      rw [Bool.or_eq_true] at this
      rcases this with q | q <;> simp [q]
    · cases e : x.cps.toList with
      | nil => rw [e] at h1; simp at h1
      | cons c l =>
        rw [e] at h3
        have m : c ∈ x.cps.toList := by rw [e]; exact List.mem_cons_self
        simp only [List.head?_cons, Option.any_some] at h3 ⊢
        rw [(alnum_of c (A c m)).2.1, h3]; rfl
def spIsSmall : Sp := fun vs H Q _ => ∃ x : Str, vs = [.str x] ∧ x.length ≤ 200000 ∧ ∀ H', Same H H' → Q (.bl (smallB x)) H'
theorem sc_is_small : FnScope ["value"] ["value"] (defScope s_is_small) := ⟨rfl, rfl, rfl, by decide +kernel, rfl, by decide +kernel, by decide +kernel⟩
theorem good_is_small (T : Tx w K mg) : Good P w K mg base CX0 2 (He.ga K "is_small") ["value"] spIsSmall := by
  obtain ⟨fd, F⟩ := T.f_is_small
  obtain ⟨_, G_is_name, k_is_name, b_is_name⟩ := good_is_name (P := P) (w := w) (base := base) T
  refine ⟨fd, F.ok sc_is_small (fun vs H Q E h => ?_) (fun cdv A outer s H vs Q E hr h => ?_), F.kp, F.bindsN fun _ _ _ _ _ _ us hl => match us, hl with | [_], _ => rfl⟩
  · obtain ⟨_, rfl, _⟩ := h
    rfl
  · obtain ⟨x, rfl, hl, kq⟩ := h
    have SC := sc_is_small
    refine ⟨_, PSs.nox (pss_one (ps_ret (pe_and (pe_call G_is_name (hr.mono (by decide)) rfl T.g_is_name k_is_name b_is_name .nil pass0 (pa_cons (pv 0) pa_nil)) (pe_and (pe_cmpR op_eq (pv 0) (pe_lower (pv 0)) (nomark _)) (pe_one (pe_cmpR (notInQ K) (pv 0) (pe_glob (v := .ref (He.ga K "KEPT_WORDS")) rfl T.g_KEPT_WORDS rfl) rfl)))))), ?_⟩
    refine ⟨_, rfl, x, rfl, hl, fun H1 s1 => ⟨_, rfl, ?_⟩⟩
    have k2 := kq H1 s1
    rw [← small_eq] at k2
    cases e : nameB x with
    | false =>
      rw [e] at k2
      exact iteF (A := False) k2
    | true =>
      rw [e] at k2
      refine iteT (B := False) ⟨_, rfl, _, rfl, ⟨_, rfl⟩, x, rfl, rfl, by omega, rfl, _, rfl, ?_⟩
      rw [Bool.true_and] at k2
      cases e2 : decide (V.str x = V.str (Txt.lower x)) with
      | false =>
        rw [e2] at k2
        exact iteF (A := False) k2
      | true =>
        rw [e2] at k2
        refine iteT (B := False) ⟨_, rfl, _, _, rfl, .inr (T.t_KEPT_WORDS H1), rfl, strs_flat _, ?_⟩
        show Q (.bl (!inV (V.str x) (kept.map V.str))) H1
        rw [in_strs]
        exact k2
end
end Yd
set_option Elab.async false
set_option linter.all false
set_option maxRecDepth 100000
set_option maxHeartbeats 8000000
namespace Yd
open PySem PySem.Spec PyProof.Rows L2 Xo
section
variable {P : Program} {w : World} {K : PySem.W.Frag} {mg : Str → Option Value} {base : Heap}
def spTextLines (K : PySem.W.Frag) : Sp := fun vs H Q E => ∃ x : Str, vs = [.str x] ∧ x.length ≤ 1000000 ∧ (x.length ≤ 120000 → ∀ (p : Addr) (H' : Hp), H p = none → Same H H' → H' p = some (.lst ((Txt.split x "\n").map V.str)) → Q (.ref p) H') ∧ (120000 < x.length → RM K E H "text" 120000)
theorem sc_text_lines : FnScope ["text"] ["text"] (defScope s_text_lines) := ⟨rfl, rfl, rfl, by decide +kernel, rfl, by decide +kernel, by decide +kernel⟩
theorem good_text_lines (T : Tx w K mg) : Good P w K mg base (L2.CX P w) 4 (He.ga K "text_lines") ["text"] (spTextLines K) := by
  obtain ⟨fd, F⟩ := T.f_text_lines
  obtain ⟨_, G_check_bound, k_check_bound, b_check_bound⟩ := good_check_bound (P := P) (w := w) (base := base) T
  refine ⟨fd, F.ok sc_text_lines (fun vs H Q E h => ?_) (fun cdv A outer s H vs Q E hr h => ?_), F.kp, F.bindsN fun _ _ _ _ _ _ us hl => match us, hl with | [_], _ => rfl⟩
  · obtain ⟨_, rfl, _⟩ := h
    rfl
  · obtain ⟨x, rfl, hl, kq, ke⟩ := h
    have SC := sc_text_lines
    refine ⟨_, pss_cons (ps_expr (pe_call G_check_bound (hr.mono (by decide)) rfl T.g_check_bound k_check_bound b_check_bound .nil (passes_call (takes_of rfl rfl rfl rfl) (fun _ _ _ _ h => h)) (pa_cons pe_str (pa_cons (pe_callB call_len_str rfl T.n_len (by decide +kernel) (pa_cons (pv 0) pa_nil)) pa_nil)))) 
      (pss_one (ps_ret (pe_split (pv 0) pe_str))), ?_⟩
    refine ⟨_, rfl, x, rfl, by rw [sizeLine_eq]; omega, "text", (x.length : Int), 120000, rfl, rfl, fun hle H1 s1 => ?_, fun hlt => ke (by omega)⟩
    refine ⟨_, rfl, ⟨_, rfl⟩, x, "\n", rfl, rfl, by decide +kernel, by rw [sizeLine_eq]; omega, fun p hp => ?_⟩
    exact kq (by omega) p _ (Same.free s1 hp) (same_upd s1 (Same.free s1 hp)) upd_same
/-! names that differ -/
def diffB (seen : List Str) : List Str → Bool
  | [] => true
  | x :: l => smallB x && (!decide (x ∈ seen) && diffB (seen ++ [x]) l)
def seenK (l : List Str) : List (Key × V) := l.map fun x => (Sum.inr x, .bl true)
theorem seen_val (x : Str) : ∀ l : List Str, valV (seenK l) (Sum.inr x) = if x ∈ l then some (.bl true) else none
  | [] => rfl
  | a :: l => by
    have ih := seen_val x l
    unfold valV seenK at ih ⊢
    rw [List.map_cons, List.find?_cons]
    by_cases c : a = x
    · subst c; simp
    · have c' : ¬ x = a := fun z => c z.symm
      have : decide ((Sum.inr a : Key) = Sum.inr x) = false := decide_eq_false fun z => c (Sum.inr.inj z)
      simp only [this]
      rw [ih]
      simp [c']
theorem seen_put (x : Str) (l : List Str) (h : x ∉ l) : putK (seenK l) (Sum.inr x) (.bl true) = seenK (l ++ [x]) := by
  have : (seenK l).any (fun kv => decide (kv.1 = Sum.inr x)) = false := by
    rw [List.any_eq_false]
    intro kv hm
    obtain ⟨a, ha, rfl⟩ := List.mem_map.mp hm
    simp only [decide_eq_true_eq]
    exact fun z => h (by rw [← Sum.inr.inj z]; exact ha)
  unfold putK
  rw [this]
  simp [seenK]
def spDiff (K : PySem.W.Frag) : Sp := fun vs H Q _ => ∃ (a : Addr) (ws : List Str), vs = [.ref a] ∧ SqT K H a (ws.map V.str) ∧ (∀ x ∈ ws, x.length ≤ 200000) ∧ ws.length ≤ 1000 ∧ ∀ H', Same H H' → Q (.bl (diffB [] ws)) H'
theorem sc_are_different_names : FnScope ["words", "seen", "word"] ["words"] (defScope s_are_different_names) := ⟨rfl, rfl, rfl, by decide +kernel, rfl, by decide +kernel, by decide +kernel⟩
theorem good_different (T : Tx w K mg) : Good P w K mg base CX0 3 (He.ga K "are_different_names") ["words"] (spDiff K) := by
  obtain ⟨fd, F⟩ := T.f_are_different_names
  obtain ⟨_, G_is_small, k_is_small, b_is_small⟩ := good_is_small (P := P) (w := w) (base := base) T
  refine ⟨fd, F.ok sc_are_different_names (fun vs H Q E h => ?_) (fun cdv A outer s H vs Q E hr h => ?_), F.kp, F.bindsN fun _ _ _ _ _ _ us hl => match us, hl with | [_], _ => rfl⟩
  · obtain ⟨_, _, rfl, _⟩ := h
    rfl
  · obtain ⟨a, ws, rfl, hS, hl, hn, kq⟩ := h
    have SC := sc_are_different_names
    have hu := hu_of hr
    refine ⟨_, PSs.nox (pss_cons (ps_set (i := 1) SC.nd rfl (by first | exact Or.inl rfl | exact Or.inr rfl) pe_dnewK) 
      (pss_cons (ps_for PassesOwn.never rfl (tupI K rfl (pv 0)) (pg_name (i := 2) SC.nd rfl (by first | exact Or.inl rfl | exact Or.inr rfl)) 
      (pss_cons (ps_if (PW.pt (pw_or (pt_not (pt_val (pe_call G_is_small (hr.mono (by decide)) rfl T.g_is_small k_is_small b_is_small .nil pass0 (pa_cons (pv 2) pa_nil)))) (pw_or1 (pt_cmp (pc_din hu (pv 2) (pv 1)))))) 
      (pss_one (ps_ret pe_bl)) pss_nil) 
      (pss_one (ps_dput hu (pv 1) (pv 2) pe_bl rfl)))) 
      (pss_one (ps_ret pe_bl)))), ?_⟩
    refine fun d hd => ?_
    refine ⟨_, rfl, a, rfl, ⟨_, seqT (same_new hd) hS⟩, ?_⟩
    refine for_tup (K := K) (a := a) (xs := ws.map V.str) (fun i σ H' => ∃ v, σ = [some (.ref a), some (.ref d), v] ∧ Same H H' ∧ H' d = some (.dK (seenK (ws.take i))) ∧ diffB [] ws = diffB (ws.take i) (ws.drop i)) ⟨_, rfl, same_new hd, upd_same, rfl⟩ (fun i σ H' _ ⟨_, _, s, _⟩ => seqT s hS) ?_ ?_
    · rintro i y σ H' hy ⟨v, rfl, s, ed, hB⟩
      rw [List.getElem?_map] at hy
      obtain ⟨x, hx, rfl⟩ := Option.map_eq_some_iff.mp hy
      have hi := (List.getElem?_eq_some_iff.mp hx).1
      have ex : ws.drop i = x :: ws.drop (i + 1) := by
        rw [List.drop_eq_getElem_cons hi]
        rw [List.getElem?_eq_getElem hi] at hx
        rw [Option.some.inj hx]
      have et : ws.take (i + 1) = ws.take i ++ [x] := by
        rw [List.take_succ, hx]; rfl
      rw [ex] at hB
      refine ⟨_, rfl, x, rfl, hl x (List.mem_of_getElem? hx), fun H1 s1 => ⟨_, rfl, ?_⟩⟩
      cases e : smallB x with
      | false =>
        refine iteT (B := False) (iteT (B := False) ?_)
        have := kq H1 (Same.trans s s1)
        rw [hB] at this
        unfold diffB at this
        rw [e] at this
        exact this
      | true =>
        refine iteF (A := False) ?_
        have ed1 := s1 _ _ ed
        refine ⟨_, rfl, _, rfl, d, _, rfl, DGet.k (k := Sum.inr x) ed1, _, rfl, ?_⟩
        rw [seen_val]
        by_cases c : x ∈ ws.take i
        · rw [if_pos c]
          refine iteT (B := False) ?_
          have := kq H1 (Same.trans s s1)
          rw [hB] at this
          unfold diffB at this
          rw [decide_eq_true c, Bool.not_true, Bool.false_and, Bool.and_false] at this
          exact this
        · rw [if_neg c]
          refine iteF (A := False) ?_
          refine ⟨_, rfl, _, rfl, d, _, rfl, DPut.k (k := Sum.inr x) ed1 (by rw [seenK, List.length_map, List.length_take, sizeLine_eq]; omega), ?_⟩
          refine ⟨_, rfl, same_upd (Same.trans s s1) hd, ?_, ?_⟩
          · rw [upd_same, seen_put x _ c, et]
          · rw [hB, et]
            show (smallB x && (!decide (x ∈ ws.take i) && diffB (ws.take i ++ [x]) (ws.drop (i + 1)))) = _
            rw [e, decide_eq_false c]; rfl
    · rintro σ H' ⟨v, rfl, s, ed, hB⟩
      have := kq H' s
      rw [hB, List.length_map, List.drop_length] at this
      exact this
end
end Yd
set_option Elab.async false
set_option linter.all false
set_option maxHeartbeats 2000000
/-! Trees in plain Lean: what hangs together, what is reached by rounds. -/
namespace Yd
variable {α : Type} [DecidableEq α]
inductive Conn (es : List (α × α)) : α → α → Prop where
  | refl (a : α) : Conn es a a
  | step {a b c : α} : Conn es a b → ((b, c) ∈ es ∨ (c, b) ∈ es) → Conn es a c
theorem Conn.trans {es : List (α × α)} {a b c : α} (h : Conn es a b) (h' : Conn es b c) : Conn es a c := by
  induction h' with
  | refl => exact h
  | step _ e ih => exact .step ih e
theorem Conn.one {es : List (α × α)} {a b : α} (h : (a, b) ∈ es ∨ (b, a) ∈ es) : Conn es a b := .step (.refl a) h
theorem Conn.symm {es : List (α × α)} {a b : α} (h : Conn es a b) : Conn es b a := by
  induction h with
  | refl => exact .refl _
  | step _ e ih => exact (Conn.one e.symm).trans ih
theorem Conn.mono {es es' : List (α × α)} {a b : α} (h : Conn es a b) (s : ∀ e ∈ es, e ∈ es') : Conn es' a b := by
  induction h with
  | refl => exact .refl _
  | step _ e ih => exact .step ih (e.imp (s _) (s _))
theorem Conn.nil {a b : α} (h : Conn ([] : List (α × α)) a b) : a = b := by
  induction h with
  | refl => rfl
  | step _ e _ => simp at e
theorem Conn.inv {es : List (α × α)} {a b : α} (h : Conn es a b) (S : α → Prop) (ha : S a) (hs : ∀ e ∈ es, S e.1 ↔ S e.2) : S b := by
  induction h with
  | refl => exact ha
  | step _ e ih =>
    rcases e with e | e
    · exact (hs _ e).mp ih
    · exact (hs _ e).mpr ih
theorem Conn.snoc {es : List (α × α)} {x y a b : α} : Conn (es ++ [(x, y)]) a b ↔ Conn es a b ∨ (Conn es a x ∧ Conn es y b) ∨ (Conn es a y ∧ Conn es x b) := by
  constructor
  · intro h
    induction h with
    | refl => exact .inl (.refl _)
    | @step b c _ e ih =>
      have key : (b, c) ∈ es ∨ (c, b) ∈ es ∨ (b = x ∧ c = y) ∨ (c = x ∧ b = y) := by
        simp only [List.mem_append, List.mem_singleton, Prod.mk.injEq] at e
        rcases e with (e | e) | (e | e)
        · exact .inl e
        · exact .inr (.inr (.inl e))
        · exact .inr (.inl e)
        · exact .inr (.inr (.inr e))
      rcases key with k | k | ⟨rfl, rfl⟩ | ⟨rfl, rfl⟩
      · rcases ih with ih | ⟨i1, i2⟩ | ⟨i1, i2⟩
        · exact .inl (.step ih (.inl k))
        · exact .inr (.inl ⟨i1, .step i2 (.inl k)⟩)
        · exact .inr (.inr ⟨i1, .step i2 (.inl k)⟩)
      · rcases ih with ih | ⟨i1, i2⟩ | ⟨i1, i2⟩
        · exact .inl (.step ih (.inr k))
        · exact .inr (.inl ⟨i1, .step i2 (.inr k)⟩)
        · exact .inr (.inr ⟨i1, .step i2 (.inr k)⟩)
      · rcases ih with ih | ⟨i1, i2⟩ | ⟨i1, i2⟩
        · exact .inr (.inl ⟨ih, .refl _⟩)
        · exact .inr (.inl ⟨i1, .refl _⟩)
        · exact .inl i1
      · rcases ih with ih | ⟨i1, i2⟩ | ⟨i1, i2⟩
        · exact .inr (.inr ⟨ih, .refl _⟩)
        · exact .inl i1
        · exact .inr (.inr ⟨i1, .refl _⟩)
  · have m : ∀ e ∈ es, e ∈ es ++ [(x, y)] := fun e h => List.mem_append_left _ h
    have xy : Conn (es ++ [(x, y)]) x y := .one (.inl (by simp))
    rintro (h | ⟨h1, h2⟩ | ⟨h1, h2⟩)
    · exact h.mono m
    · exact ((h1.mono m).trans xy).trans (h2.mono m)
    · exact ((h1.mono m).trans xy.symm).trans (h2.mono m)
/-! rounds -/
def rch1 (left : Option (α × α)) (found : List α) (e : α × α) : List α :=
  let f := if some e ≠ left ∧ e.1 ∈ found ∧ e.2 ∉ found then found ++ [e.2] else found
  if some e ≠ left ∧ e.2 ∈ f ∧ e.1 ∉ f then f ++ [e.1] else f
def round (left : Option (α × α)) (es : List (α × α)) (found : List α) : List α := es.foldl (rch1 left) found
def rounds (left : Option (α × α)) (es : List (α × α)) : Nat → List α → List α
  | 0, f => f
  | n + 1, f => round left es (rounds left es n f)
def reachL (es : List (α × α)) (start : α) (left : Option (α × α)) : List α := rounds left es es.length [start]
/-- the edges that count -/
def kepts (left : Option (α × α)) (es : List (α × α)) : List (α × α) := es.filter fun e => decide (some e ≠ left)
theorem mem_kepts {left : Option (α × α)} {es : List (α × α)} {e : α × α} : e ∈ kepts left es ↔ e ∈ es ∧ some e ≠ left := by
  unfold kepts; rw [List.mem_filter, decide_eq_true_eq]
theorem kepts_none (es : List (α × α)) : kepts none es = es := by
  unfold kepts
  rw [List.filter_eq_self]
  intro e _
  simp
section
variable {left : Option (α × α)} {es : List (α × α)}
theorem rch1_mono {f : List α} {e : α × α} {x : α} (h : x ∈ f) : x ∈ rch1 left f e := by
  unfold rch1
  simp only
  split <;> split <;> simp [h]
theorem rch1_new {f : List α} {e : α × α} {x : α} (h : x ∈ rch1 left f e) : x ∈ f ∨ (some e ≠ left ∧ ((x = e.2 ∧ e.1 ∈ f) ∨ (x = e.1 ∧ e.2 ∈ f))) := by
  unfold rch1 at h
  simp only at h
  split at h
  · rename_i c
    split at h
    · rename_i d
      exact absurd (List.mem_append_left _ c.2.1) d.2.2
    · rcases List.mem_append.mp h with h | h
      · exact .inl h
      · exact .inr ⟨c.1, .inl ⟨List.mem_singleton.mp h, c.2.1⟩⟩
  · split at h
    · rename_i d
      rcases List.mem_append.mp h with h | h
      · exact .inl h
      · exact .inr ⟨d.1, .inr ⟨List.mem_singleton.mp h, d.2.1⟩⟩
    · exact .inl h
theorem rch1_in {f : List α} {e : α × α} (he : some e ≠ left) : e.1 ∈ rch1 left f e ↔ e.2 ∈ rch1 left f e := by
  by_cases c1 : e.1 ∈ f <;> by_cases c2 : e.2 ∈ f
  · exact ⟨fun _ => rch1_mono c2, fun _ => rch1_mono c1⟩
  · refine ⟨fun _ => ?_, fun _ => rch1_mono c1⟩
    unfold rch1
    simp only [if_pos (show some e ≠ left ∧ e.1 ∈ f ∧ e.2 ∉ f from ⟨he, c1, c2⟩)]
    split <;> simp
  · refine ⟨fun _ => rch1_mono c2, fun _ => ?_⟩
    unfold rch1
    simp only [if_neg (show ¬ (some e ≠ left ∧ e.1 ∈ f ∧ e.2 ∉ f) from fun z => c1 z.2.1), if_pos (show some e ≠ left ∧ e.2 ∈ f ∧ e.1 ∉ f from ⟨he, c2, c1⟩)]
    simp
  · have q : ∀ x, x ∈ rch1 left f e → x ∈ f := fun x h => by
      rcases rch1_new h with h | ⟨_, ⟨_, h⟩ | ⟨_, h⟩⟩
      · exact h
      · exact absurd h c1
      · exact absurd h c2
    exact ⟨fun h => absurd (q _ h) c1, fun h => absurd (q _ h) c2⟩
theorem rch1_nodup {f : List α} {e : α × α} (h : f.Nodup) : (rch1 left f e).Nodup := by
  have q : ∀ (g : List α) (x : α), g.Nodup → x ∉ g → (g ++ [x]).Nodup := fun g x hg hx => by
    rw [List.nodup_append]
    exact ⟨hg, by simp, fun a ha b hb => by rw [List.mem_singleton.mp hb]; rintro rfl; exact hx ha⟩
  unfold rch1
  simp only
  split
  · rename_i c
    split
    · rename_i d
      exact q _ _ (q _ _ h c.2.2) d.2.2
    · exact q _ _ h c.2.2
  · split
    · rename_i d
      exact q _ _ h d.2.2
    · exact h
theorem fold_mono : ∀ (l : List (α × α)) {f : List α} {x : α}, x ∈ f → x ∈ l.foldl (rch1 left) f
  | [], _, _, h => h
  | e :: l, f, x, h => fold_mono l (rch1_mono h)
theorem round_mono {f : List α} {x : α} (h : x ∈ f) : x ∈ round left es f := fold_mono es h
theorem round_len {f : List α} : f.length ≤ (round left es f).length := by
  have q : ∀ (l : List (α × α)) (f : List α), f.length ≤ (l.foldl (rch1 left) f).length := by
    intro l
    induction l with
    | nil => intro f; exact Nat.le_refl _
    | cons e l ih =>
      intro f
      refine Nat.le_trans ?_ (ih _)
      unfold rch1
      simp only
      split <;> split <;> simp <;> omega
  exact q es f
/-- the edges not wholly within -/
def outs (left : Option (α × α)) (es : List (α × α)) (f : List α) : Nat := ((kepts left es).filter fun e => !(decide (e.1 ∈ f) && decide (e.2 ∈ f))).length
theorem outs_le (f : List α) : outs left es f ≤ es.length := by
  unfold outs kepts
  exact Nat.le_trans (List.length_filter_le _ _) (List.length_filter_le _ _)
def Shut (left : Option (α × α)) (es : List (α × α)) (f : List α) : Prop := ∀ e ∈ kepts left es, e.1 ∈ f ↔ e.2 ∈ f
theorem shut_rch1 {f : List α} (h : Shut left es f) {e : α × α} (he : e ∈ es) : rch1 left f e = f := by
  unfold rch1
  by_cases c : some e = left
  · simp [c]
  · have := h e (mem_kepts.mpr ⟨he, c⟩)
    simp only
    rw [if_neg (show ¬ (some e ≠ left ∧ e.1 ∈ f ∧ e.2 ∉ f) from fun z => z.2.2 (this.mp z.2.1)), if_neg (show ¬ (some e ≠ left ∧ e.2 ∈ f ∧ e.1 ∉ f) from fun z => z.2.2 (this.mpr z.2.1))]
theorem shut_round {f : List α} (h : Shut left es f) : round left es f = f := by
  have q : ∀ l : List (α × α), (∀ e ∈ l, e ∈ es) → l.foldl (rch1 left) f = f := by
    intro l
    induction l with
    | nil => intro _; rfl
    | cons e l ih =>
      intro hl
      rw [List.foldl_cons, shut_rch1 h (hl e List.mem_cons_self)]
      exact ih fun x hx => hl x (List.mem_cons_of_mem _ hx)
  exact q es fun _ h => h
/-- a round shuts, or brings an edge within -/
theorem round_less {f : List α} (h : ¬ Shut left es f) : outs left es (round left es f) < outs left es f := by
  have hex : ∃ e ∈ kepts left es, ¬ (e.1 ∈ f ↔ e.2 ∈ f) := by
    by_cases q : ∃ e ∈ kepts left es, ¬ (e.1 ∈ f ↔ e.2 ∈ f)
    · exact q
    · exact absurd (fun e he => by
        by_cases z : (e.1 ∈ f ↔ e.2 ∈ f)
        · exact z
        · exact absurd ⟨e, he, z⟩ q) h
  obtain ⟨e, he, hne⟩ := hex
  have hin : e.1 ∈ round left es f ∧ e.2 ∈ round left es f := by
    obtain ⟨h1, h2⟩ := mem_kepts.mp he
    obtain ⟨l1, l2, rfl⟩ := List.append_of_mem h1
    unfold round
    rw [List.foldl_append, List.foldl_cons]
    have one : e.1 ∈ l1.foldl (rch1 left) f ∨ e.2 ∈ l1.foldl (rch1 left) f := by
      by_cases c : e.1 ∈ f
      · exact .inl (fold_mono l1 c)
      · have : e.2 ∈ f := by
          by_cases d : e.2 ∈ f
          · exact d
          · exact absurd ⟨fun z => absurd z c, fun z => absurd z d⟩ hne
        exact .inr (fold_mono l1 this)
    have both : e.1 ∈ rch1 left (l1.foldl (rch1 left) f) e ∧ e.2 ∈ rch1 left (l1.foldl (rch1 left) f) e := by
      have := rch1_in (f := l1.foldl (rch1 left) f) h2
      rcases one with o | o
      · exact ⟨rch1_mono o, this.mp (rch1_mono o)⟩
      · exact ⟨this.mpr (rch1_mono o), rch1_mono o⟩
    exact ⟨fold_mono l2 both.1, fold_mono l2 both.2⟩
  unfold outs
  have q : ∀ l : List (α × α), e ∈ l → (l.filter fun x => !(decide (x.1 ∈ round left es f) && decide (x.2 ∈ round left es f))).length < (l.filter fun x => !(decide (x.1 ∈ f) && decide (x.2 ∈ f))).length := by
    have le : ∀ l : List (α × α), (l.filter fun x => !(decide (x.1 ∈ round left es f) && decide (x.2 ∈ round left es f))).length ≤ (l.filter fun x => !(decide (x.1 ∈ f) && decide (x.2 ∈ f))).length := by
      intro l
      induction l with
      | nil => exact Nat.le_refl _
      | cons x l ih =>
        rw [List.filter_cons, List.filter_cons]
        by_cases c : x.1 ∈ f ∧ x.2 ∈ f
        · rw [decide_eq_true (round_mono (left := left) (es := es) c.1), decide_eq_true (round_mono (left := left) (es := es) c.2), decide_eq_true c.1, decide_eq_true c.2]
          simp only [Bool.and_self, Bool.not_true, Bool.false_eq_true, if_false]
          exact ih
        · have : (!(decide (x.1 ∈ f) && decide (x.2 ∈ f))) = true := by
            by_cases c1 : x.1 ∈ f <;> by_cases c2 : x.2 ∈ f <;> simp_all
          rw [this]
          simp only [if_true, List.length_cons]
          split <;> (try simp only [List.length_cons]) <;> omega
    intro l
    induction l with
    | nil => intro h; simp at h
    | cons x l ih =>
      intro hm
      rw [List.filter_cons, List.filter_cons]
      rcases List.mem_cons.mp hm with rfl | hm
      · rw [decide_eq_true hin.1, decide_eq_true hin.2]
        have : (!(decide (e.1 ∈ f) && decide (e.2 ∈ f))) = true := by
          by_cases c1 : e.1 ∈ f <;> by_cases c2 : e.2 ∈ f <;> simp_all
        rw [this]
        simp only [Bool.and_self, Bool.not_true, Bool.false_eq_true, if_false, if_true, List.length_cons]
        exact Nat.lt_succ_of_le (le l)
      · have := ih hm
        by_cases c : x.1 ∈ f ∧ x.2 ∈ f
        · rw [decide_eq_true (round_mono (left := left) (es := es) c.1), decide_eq_true (round_mono (left := left) (es := es) c.2), decide_eq_true c.1, decide_eq_true c.2]
          simp only [Bool.and_self, Bool.not_true, Bool.false_eq_true, if_false]
          exact this
        · have hh : (!(decide (x.1 ∈ f) && decide (x.2 ∈ f))) = true := by
            by_cases c1 : x.1 ∈ f <;> by_cases c2 : x.2 ∈ f <;> simp_all
          rw [hh]
          simp only [if_true, List.length_cons]
          split <;> (try simp only [List.length_cons]) <;> omega
  exact q _ he
theorem rounds_shut (f : List α) (n : Nat) : Shut left es (rounds left es n f) ∨ outs left es (rounds left es n f) + n ≤ outs left es f := by
  induction n with
  | zero => exact .inr (Nat.le_refl _)
  | succ n ih =>
    rcases ih with h | h
    · left
      show Shut left es (round left es _)
      rw [shut_round h]; exact h
    · by_cases c : Shut left es (rounds left es n f)
      · left
        show Shut left es (round left es _)
        rw [shut_round c]; exact c
      · right
        have := round_less c
        show outs left es (round left es _) + (n + 1) ≤ _
        omega
theorem outs_shut {f : List α} (h : outs left es f = 0) : Shut left es f := by
  intro e he
  unfold outs at h
  have := List.filter_eq_nil_iff.mp (List.eq_nil_of_length_eq_zero h) e he
  simp at this
  exact ⟨fun _ => this.2, fun _ => this.1⟩
theorem reach_shut (s : α) : Shut left es (reachL es s left) := by
  rcases rounds_shut (left := left) (es := es) [s] es.length with h | h
  · exact h
  · have := outs_le (left := left) (es := es) [s]
    exact outs_shut (show outs left es (rounds left es es.length [s]) = 0 by omega)
theorem reach_sound {s x : α} (h : x ∈ reachL es s left) : Conn (kepts left es) s x := by
  have q : ∀ (l : List (α × α)) (f : List α), (∀ e ∈ l, e ∈ es) → (∀ y ∈ f, Conn (kepts left es) s y) → ∀ y ∈ l.foldl (rch1 left) f, Conn (kepts left es) s y := by
    intro l
    induction l with
    | nil => intro f _ hf; exact hf
    | cons e l ih =>
      intro f hl hf
      refine ih _ (fun x hx => hl x (List.mem_cons_of_mem _ hx)) fun y hy => ?_
      have he := hl e List.mem_cons_self
      rcases rch1_new hy with hy | ⟨hne, ⟨rfl, h1⟩ | ⟨rfl, h1⟩⟩
      · exact hf y hy
      · exact .step (hf _ h1) (.inl (mem_kepts.mpr ⟨he, hne⟩))
      · exact .step (hf _ h1) (.inr (mem_kepts.mpr ⟨he, hne⟩))
  have r : ∀ n, ∀ y ∈ rounds left es n [s], Conn (kepts left es) s y := by
    intro n
    induction n with
    | zero => intro y hy; rw [List.mem_singleton.mp hy]; exact .refl _
    | succ n ih => exact q es _ (fun _ h => h) ih
  exact r _ x h
theorem reach_start (s : α) : s ∈ reachL es s left := by
  have r : ∀ n, s ∈ rounds left es n [s] := by
    intro n
    induction n with
    | zero => exact List.mem_singleton.mpr rfl
    | succ n ih => exact round_mono ih
  exact r _
theorem mem_reach {s x : α} : x ∈ reachL es s left ↔ Conn (kepts left es) s x :=
  ⟨reach_sound, fun h => h.inv (· ∈ reachL es s left) (reach_start s) fun e he => reach_shut s e he⟩
theorem mem_reach_none {s x : α} : x ∈ reachL es s none ↔ Conn es s x := by rw [mem_reach, kepts_none]
end
end Yd
set_option Elab.async false
set_option linter.all false
set_option maxHeartbeats 2000000
/-! Forests in plain Lean: as many pieces as benches without wires; groups. -/
namespace Yd
variable {α : Type} [DecidableEq α] {hs : List α} {es : List (α × α)}
theorem len_sub : ∀ {l l' : List α}, l.Nodup → (∀ x ∈ l, x ∈ l') → l.length ≤ l'.length
  | [], _, _, _ => Nat.zero_le _
  | a :: l, l', nd, h => by
    obtain ⟨n1, n2⟩ := List.nodup_cons.mp nd
    have ha := h a List.mem_cons_self
    have := len_sub (l := l) (l' := l'.erase a) n2 fun x hx => by
      have hne : x ≠ a := fun e => n1 (e ▸ hx)
      exact (List.mem_erase_of_ne hne).mpr (h x (List.mem_cons_of_mem _ hx))
    rw [List.length_erase_of_mem ha] at this
    have : 0 < l'.length := List.length_pos_of_mem ha
    simp only [List.length_cons]
    omega
def Frst (hs : List α) (es : List (α × α)) : Prop := ∃ L : List α, L.Nodup ∧ (∀ x ∈ L, x ∈ hs) ∧ L.length + es.length = hs.length ∧ (∀ a ∈ hs, ∃ b ∈ L, Conn es a b) ∧ ∀ a ∈ L, ∀ b ∈ L, Conn es a b → a = b
theorem Frst.nil (nd : hs.Nodup) : Frst hs [] := ⟨hs, nd, fun _ h => h, rfl, fun a h => ⟨a, h, .refl _⟩, fun _ _ _ _ h => h.nil⟩
theorem Frst.wire (F : Frst hs es) {a b : α} (ha : a ∈ hs) (hb : b ∈ hs) (h : ¬ Conn es a b) : Frst hs (es ++ [(a, b)]) := by
  obtain ⟨L, nd, sub, len, cov, dis⟩ := F
  obtain ⟨ra, la, ca⟩ := cov a ha
  obtain ⟨rb, lb, cb⟩ := cov b hb
  have hne : ra ≠ rb := fun e => h (ca.trans (by rw [e]; exact cb.symm))
  have m : ∀ e ∈ es, e ∈ es ++ [(a, b)] := fun e h => List.mem_append_left _ h
  have ab : Conn (es ++ [(a, b)]) a b := .one (.inl (by simp))
  have inE : ∀ x ∈ L.erase rb, x ∈ L ∧ x ≠ rb := fun x hx => ⟨List.mem_of_mem_erase hx, fun e => by
    subst e
    exact (List.Nodup.not_mem_erase nd) hx⟩
  refine ⟨L.erase rb, nd.erase _, fun x hx => sub x (inE x hx).1, ?_, fun x hx => ?_, fun x hx y hy c => ?_⟩
  · rw [List.length_erase_of_mem lb, List.length_append]
    have := List.length_pos_of_mem lb
    simp only [List.length_cons, List.length_nil]
    omega
  · obtain ⟨y, hy, cy⟩ := cov x hx
    by_cases e : y = rb
    · subst e
      exact ⟨ra, (List.mem_erase_of_ne hne).mpr la, (((cy.mono m).trans (cb.symm.mono m)).trans ab.symm).trans (ca.mono m)⟩
    · exact ⟨y, (List.mem_erase_of_ne e).mpr hy, cy.mono m⟩
  · obtain ⟨x1, x2⟩ := inE x hx
    obtain ⟨y1, y2⟩ := inE y hy
    rcases Conn.snoc.mp c with c | ⟨c1, c2⟩ | ⟨c1, c2⟩
    · exact dis x x1 y y1 c
    · exact absurd (dis y y1 rb lb (c2.symm.trans cb)) y2
    · exact absurd (dis x x1 rb lb (c1.trans cb)) x2
theorem Frst.le (F : Frst hs es) (h : hs ≠ []) : es.length + 1 ≤ hs.length := by
  obtain ⟨L, nd, sub, len, cov, dis⟩ := F
  cases hs with
  | nil => exact absurd rfl h
  | cons x l =>
    obtain ⟨b, hb, _⟩ := cov x List.mem_cons_self
    have := List.length_pos_of_mem hb
    omega
theorem Frst.one (F : Frst hs es) (h : hs.length ≤ es.length + 1) : ∀ a ∈ hs, ∀ b ∈ hs, Conn es a b := by
  obtain ⟨L, nd, sub, len, cov, dis⟩ := F
  intro a ha b hb
  obtain ⟨x, hx, cx⟩ := cov a ha
  obtain ⟨y, hy, cy⟩ := cov b hb
  have : x = y := by
    match L, hx, hy, len with
    | [], hx, _, _ => simp at hx
    | [z], hx, hy, _ => rw [List.mem_singleton.mp hx, List.mem_singleton.mp hy]
    | z :: z' :: l, _, _, len => simp only [List.length_cons] at len; omega
  subst this
  exact cx.trans cy.symm
structure Grp (hs : List α) (es : List (α × α)) (G : α → Int) : Prop where
  conn : ∀ a ∈ hs, ∀ b ∈ hs, (G a = G b ↔ Conn es a b)
  lt : ∀ h ∈ hs, 0 ≤ G h ∧ G h < hs.length
theorem Grp.bench {G : α → Int} (R : Grp hs [] G) {x : α} (hx : x ∉ hs) : Grp (hs ++ [x]) [] (fun h => if h = x then (hs.length : Int) else G h) := by
  refine ⟨fun a ha b hb => ?_, fun h hm => ?_⟩
  · have ia : a ∈ hs ∨ a = x := by simpa using ha
    have ib : b ∈ hs ∨ b = x := by simpa using hb
    have e : Conn ([] : List (α × α)) a b ↔ a = b := ⟨Conn.nil, fun e => e ▸ .refl _⟩
    rw [e]
    by_cases ca : a = x <;> by_cases cb : b = x
    · subst ca; subst cb; simp
    · subst ca
      have hb' : b ∈ hs := ib.resolve_right cb
      have := R.lt b hb'
      simp only [if_true, if_neg cb]
      exact ⟨fun z => by omega, fun z => absurd z.symm cb⟩
    · subst cb
      have ha' : a ∈ hs := ia.resolve_right ca
      have := R.lt a ha'
      simp only [if_true, if_neg ca]
      exact ⟨fun z => by omega, fun z => absurd z ca⟩
    · simp only [if_neg ca, if_neg cb]
      rw [R.conn a (ia.resolve_right ca) b (ib.resolve_right cb), e]
  · have ih : h ∈ hs ∨ h = x := by simpa using hm
    simp only [List.length_append, List.length_cons, List.length_nil]
    by_cases c : h = x
    · simp only [if_pos c]; omega
    · have := R.lt h (ih.resolve_right c)
      simp only [if_neg c]; omega
theorem Grp.wire {G : α → Int} (R : Grp hs es G) {a b : α} (ha : a ∈ hs) (hb : b ∈ hs) : Grp hs (es ++ [(a, b)]) (fun h => if G h = G b then G a else G h) := by
  refine ⟨fun x hx y hy => ?_, fun h hm => ?_⟩
  · have xb := R.conn x hx b hb
    have yb := R.conn y hy b hb
    have xy := R.conn x hx y hy
    have xa := R.conn x hx a ha
    have ya := R.conn y hy a ha
    rw [Conn.snoc]
    by_cases cx : G x = G b <;> by_cases cy : G y = G b
    · simp only [if_pos cx, if_pos cy, true_iff]
      exact .inl ((xb.mp cx).trans (yb.mp cy).symm)
    · simp only [if_pos cx, if_neg cy]
      constructor
      · intro z
        exact .inr (.inr ⟨xb.mp cx, (ya.mp z.symm).symm⟩)
      · rintro (z | ⟨_, z⟩ | ⟨_, z⟩)
        · exact absurd ((xy.mpr z).symm.trans cx) cy
        · exact absurd (yb.mpr z.symm) cy
        · exact (ya.mpr z.symm).symm
    · simp only [if_neg cx, if_pos cy]
      constructor
      · intro z
        exact .inr (.inl ⟨xa.mp z, (yb.mp cy).symm⟩)
      · rintro (z | ⟨z, _⟩ | ⟨z, _⟩)
        · exact absurd ((xy.mpr z).trans cy) cx
        · exact xa.mpr z
        · exact absurd (xb.mpr z) cx
    · simp only [if_neg cx, if_neg cy]
      constructor
      · intro z; exact .inl (xy.mp z)
      · rintro (z | ⟨_, z⟩ | ⟨z, _⟩)
        · exact xy.mpr z
        · exact absurd (yb.mpr z.symm) cy
        · exact absurd (xb.mpr z) cx
  · have h1 := R.lt h hm
    have h2 := R.lt a ha
    by_cases c : G h = G b
    · simp only [if_pos c]; omega
    · simp only [if_neg c]; omega
/-- a course hangs together -/
theorem course_conn : ∀ (hs : List α), ∀ a ∈ hs, ∀ b ∈ hs, Conn (hs.zip hs.tail) a b
  | [], _, h, _, _ => by simp at h
  | [x], a, ha, b, hb => by rw [List.mem_singleton.mp ha, List.mem_singleton.mp hb]; exact .refl _
  | x :: y :: l, a, ha, b, hb => by
    have ih := course_conn (y :: l)
    have m : ∀ e ∈ (y :: l).zip (y :: l).tail, e ∈ (x :: y :: l).zip (x :: y :: l).tail := fun e h => List.mem_cons_of_mem _ h
    have xy : Conn ((x :: y :: l).zip (x :: y :: l).tail) x y := .one (.inl List.mem_cons_self)
    have toY : ∀ c ∈ x :: y :: l, Conn ((x :: y :: l).zip (x :: y :: l).tail) c y := fun c hc => by
      rcases List.mem_cons.mp hc with rfl | hc
      · exact xy
      · exact (ih c hc y List.mem_cons_self).mono m
    exact (toY a ha).trans (toY b hb).symm
end Yd
set_option Elab.async false
set_option linter.all false
set_option maxRecDepth 100000
set_option maxHeartbeats 8000000
namespace Yd
open PySem PySem.Spec PyProof.Rows L2 Xo
/-! ### reading a yard, line by line -/
abbrev Wr := Str × Str
inductive Out where
  | bad
  | many
  | ok (hs : List Str) (es : List Wr) (ended : Bool)
def kwY (days : Bool) : Str := if days = true then "moment" else "bench"
def benchY (hs : List Str) (es : List Wr) (x : Str) : Out := if es ≠ [] then .bad else if smallB x = false then .bad else if x ∈ hs then .bad else if 14 < hs.length + 1 then .many else .ok (hs ++ [x]) es false
def wireY (hs : List Str) (es : List Wr) (a b : Str) : Out := if a ∉ hs ∨ b ∉ hs then .bad else if b ∈ reachL es a none then .bad else .ok hs (es ++ [(a, b)]) false
def endY (days : Bool) (hs : List Str) (es : List Wr) : Out := if hs = [] then .bad else if days = true then .ok hs (hs.zip hs.tail) true else if es.length + 1 < hs.length then .bad else .ok hs es true
def takeY (days : Bool) (hs : List Str) (es : List Wr) (ended : Bool) (ws : List Str) : Out :=
  if ended = true then .bad else if ws = [("done" : Str)] then endY days hs es else match ws with
  | [k, x] => if k = kwY days then benchY hs es x else .bad
  | [k, a, b] => if k = ("wire" : Str) ∧ days = false then wireY hs es a b else .bad
  | _ => .bad
structure RSt (days : Bool) (hs : List Str) (es : List Wr) (ended : Bool) : Prop where
  nd : hs.Nodup
  sm : ∀ h ∈ hs, smallB h = true
  few : hs.length ≤ 14
  frst : days = false → Frst hs es
  wf : ∀ e ∈ es, e.1 ∈ hs ∧ e.2 ∈ hs
  esn : days = true → ended = false → es = []
  whole : ended = true → hs ≠ [] ∧ ∀ a ∈ hs, ∀ b ∈ hs, Conn es a b
  course : days = true → ended = true → es = hs.zip hs.tail
theorem small_len {x : Str} (h : smallB x = true) : x.cps.toList.length ≤ 8 ∧ 0 < x.cps.toList.length := by
  unfold smallB at h
  simp only [Bool.and_eq_true, decide_eq_true_eq] at h
  omega
theorem zip_wf {α : Type} {hs : List α} : ∀ e ∈ hs.zip hs.tail, e.1 ∈ hs ∧ e.2 ∈ hs := fun e he => by
  obtain ⟨h1, h2⟩ := List.of_mem_zip (show (e.1, e.2) ∈ hs.zip hs.tail from he)
  exact ⟨h1, List.mem_of_mem_tail h2⟩
theorem RSt.end_ {days : Bool} {hs : List Str} {es : List Wr} (S : RSt days hs es false) {hs' : List Str} {es' : List Wr} {en' : Bool} (h : endY days hs es = .ok hs' es' en') : RSt days hs' es' en' := by
  unfold endY at h
  by_cases hn : hs = []
  · rw [if_pos hn] at h; cases h
  · rw [if_neg hn] at h
    by_cases hd : days = true
    · rw [if_pos hd] at h
      cases h
      exact ⟨S.nd, S.sm, S.few, fun z => (by rw [hd] at z; cases z), zip_wf, fun _ z => (by cases z), fun _ => ⟨hn, course_conn _⟩, fun _ _ => rfl⟩
    · rw [if_neg hd] at h
      have hd' : days = false := by simpa using hd
      by_cases hl : es.length + 1 < hs.length
      · rw [if_pos hl] at h; cases h
      · rw [if_neg hl] at h
        cases h
        exact ⟨S.nd, S.sm, S.few, S.frst, S.wf, fun z => absurd z hd, fun _ => ⟨hn, (S.frst hd').one (by omega)⟩, fun z => absurd z hd⟩
theorem RSt.bench {days : Bool} {hs : List Str} {es : List Wr} (S : RSt days hs es false) {x : Str} {hs' : List Str} {es' : List Wr} {en' : Bool} (h : benchY hs es x = .ok hs' es' en') : RSt days hs' es' en' := by
  unfold benchY at h
  by_cases hes : es ≠ []
  · rw [if_pos hes] at h; cases h
  · rw [if_neg hes] at h
    have hes' : es = [] := by simpa using hes
    by_cases hsm : smallB x = false
    · rw [if_pos hsm] at h; cases h
    · rw [if_neg hsm] at h
      by_cases hx : x ∈ hs
      · rw [if_pos hx] at h; cases h
      · rw [if_neg hx] at h
        by_cases hf : 14 < hs.length + 1
        · rw [if_pos hf] at h; cases h
        · rw [if_neg hf] at h
          cases h
          subst hes'
          have nd : (hs ++ [x]).Nodup := by
            rw [List.nodup_append]
            exact ⟨S.nd, by simp, fun a ha b hb => by rw [List.mem_singleton.mp hb]; rintro rfl; exact hx ha⟩
          refine ⟨nd, fun y hy => ?_, by simp only [List.length_append, List.length_cons, List.length_nil]; omega, fun _ => Frst.nil nd, fun e he => (by simp at he), fun _ _ => rfl, fun z => (by cases z), fun _ z => (by cases z)⟩
          rcases List.mem_append.mp hy with hy | hy
          · exact S.sm y hy
          · rw [List.mem_singleton.mp hy]
            simpa using hsm
theorem RSt.wire {hs : List Str} {es : List Wr} (S : RSt false hs es false) {a b : Str} {hs' : List Str} {es' : List Wr} {en' : Bool} (h : wireY hs es a b = .ok hs' es' en') : RSt false hs' es' en' := by
  unfold wireY at h
  by_cases hin : a ∉ hs ∨ b ∉ hs
  · rw [if_pos hin] at h; cases h
  · rw [if_neg hin] at h
    by_cases hr : b ∈ reachL es a none
    · rw [if_pos hr] at h; cases h
    · rw [if_neg hr] at h
      cases h
      have ha : a ∈ hs := by
        by_cases c : a ∈ hs
        · exact c
        · exact absurd (.inl c) hin
      have hb : b ∈ hs := by
        by_cases c : b ∈ hs
        · exact c
        · exact absurd (.inr c) hin
      refine ⟨S.nd, S.sm, S.few, fun z => (S.frst z).wire ha hb fun c => hr (mem_reach_none.mpr c), fun e he => ?_, fun z => (by cases z), fun z => (by cases z), fun z => (by cases z)⟩
      rcases List.mem_append.mp he with he | he
      · exact S.wf e he
      · rw [List.mem_singleton.mp he]; exact ⟨ha, hb⟩
theorem RSt.next {days : Bool} {hs : List Str} {es : List Wr} {ended : Bool} (S : RSt days hs es ended) {ws : List Str} {hs' : List Str} {es' : List Wr} {en' : Bool} (h : takeY days hs es ended ws = .ok hs' es' en') : RSt days hs' es' en' := by
  unfold takeY at h
  cases ended with
  | true => simp at h
  | false =>
    simp only [Bool.false_eq_true, if_false] at h
    by_cases hw : ws = [("done" : Str)]
    · rw [if_pos hw] at h; exact S.end_ h
    · rw [if_neg hw] at h
      match ws, h with
      | [k, x], h =>
        simp only at h
        by_cases hk : k = kwY days
        · rw [if_pos hk] at h; exact S.bench h
        · rw [if_neg hk] at h; cases h
      | [k, a, b], h' =>
        simp only at h'
        by_cases hk : k = ("wire" : Str) ∧ days = false
        · rw [if_pos hk] at h'
          have hd := hk.2
          clear h
          subst hd
          exact S.wire h'
        · rw [if_neg hk] at h'; cases h'
      | [], h => cases h
      | [_], h => cases h
      | _ :: _ :: _ :: _ :: _, h => cases h
theorem RSt.new {days : Bool} : RSt days [] [] false := ⟨by simp, fun h m => (by simp at m), by simp, fun _ => Frst.nil (by simp), fun e m => (by simp at m), fun _ _ => rfl, fun z => (by cases z), fun _ z => (by cases z)⟩
end Yd
set_option Elab.async false
set_option linter.all false
set_option maxRecDepth 100000
set_option maxHeartbeats 8000000
namespace Yd
open PySem PySem.Spec PyProof.Rows L2 Xo
/-! ### the reader's state -/
def Keeps (F : List Addr) (H H' : Hp) : Prop := ∀ a o, H a = some o → a ∉ F → H' a = some o
theorem Keeps.refl {F : List Addr} {H : Hp} : Keeps F H H := fun _ _ h _ => h
theorem Keeps.trans {F : List Addr} {H H1 H2 : Hp} (h : Keeps F H H1) (h' : Keeps F H1 H2) : Keeps F H H2 := fun a o e n => h' a o (h a o e n) n
theorem Keeps.upd {F : List Addr} {H H1 : Hp} {p : Addr} {o : HO} (h : Keeps F H H1) (m : p ∈ F) : Keeps F H (L2.upd H1 p o) := fun a u e n => by
  have z : a ≠ p := by rintro rfl; exact n m
  rw [upd_ne z]; exact h a u e n
theorem Keeps.new {F : List Addr} {H H1 : Hp} {p : Addr} {o : HO} (h : Keeps F H H1) (m : H p = none) : Keeps F H (L2.upd H1 p o) := fun a u e n => by rw [upd_ne (ne_of_none e m)]; exact h a u e n
theorem Keeps.free {F : List Addr} {H H1 : Hp} {p : Addr} (h : Keeps F H H1) (n : p ∉ F) (e : H1 p = none) : H p = none := by
  cases q : H p with
  | none => rfl
  | some o =>
    rw [h p o q n] at e
    cases e
theorem Keeps.ofSame {F : List Addr} {H H1 : Hp} (h : Same H H1) : Keeps F H H1 := fun a u e _ => h a u e
theorem Keeps.mono {F G : List Addr} {H H1 : Hp} (h : Keeps F H H1) (m : ∀ a ∈ F, a ∈ G ∨ H a = none) : Keeps G H H1 := fun a u e n => h a u e fun z => (m a z).elim n fun q => by rw [e] at q; cases q
theorem Keeps.same {F : List Addr} {H H1 : Hp} (h : Keeps F H H1) (m : ∀ a ∈ F, H a = none) : Same H H1 := fun a u e => h a u e fun z => by rw [m a z] at e; cases e
def RMK (K : PySem.W.Frag) (E : XK) (F : List Addr) (H : Hp) (what : Str) (count : Int) : Prop := ∀ (H' : Hp) (d : Addr), Keeps F H H' → H d = none → H' d = some (.xd [("count", .int count), ("what", .str what)]) → E (.ref (He.ga K "TooMany")) (some d) H'
def gK (hs : List Str) (G : Str → Int) : List (Key × V) := hs.map fun h => (Sum.inr h, .int (G h))
theorem gK_val (x : Str) (G : Str → Int) : ∀ l : List Str, valV (gK l G) (Sum.inr x) = if x ∈ l then some (.int (G x)) else none
  | [] => rfl
  | a :: l => by
    have ih := gK_val x G l
    unfold valV gK at ih ⊢
    rw [List.map_cons, List.find?_cons]
    by_cases c : a = x
    · subst c; simp
    · have c' : ¬ x = a := fun z => c z.symm
      have : decide ((Sum.inr a : Key) = Sum.inr x) = false := decide_eq_false fun z => c (Sum.inr.inj z)
      simp only [this]
      rw [ih]
      simp [c']
theorem gK_congr {l : List Str} {G G' : Str → Int} (h : ∀ x ∈ l, G x = G' x) : gK l G = gK l G' := List.map_congr_left fun x hx => by rw [h x hx]
theorem gK_any {x : Str} {G : Str → Int} {l : List Str} : (gK l G).any (fun kv => decide (kv.1 = Sum.inr x)) = decide (x ∈ l) := by
  rw [Bool.eq_iff_iff, List.any_eq_true, decide_eq_true_eq]
  constructor
  · rintro ⟨kv, hm, hk⟩
    obtain ⟨a, ha, rfl⟩ := List.mem_map.mp hm
    rw [decide_eq_true_eq] at hk
    rw [← Sum.inr.inj hk]; exact ha
  · intro h
    exact ⟨_, List.mem_map_of_mem h, by simp⟩
theorem gK_new {x : Str} {G : Str → Int} {l : List Str} (h : x ∉ l) (n : Int) : putK (gK l G) (Sum.inr x) (.int n) = gK (l ++ [x]) (fun h => if h = x then n else G h) := by
  unfold putK
  rw [gK_any, decide_eq_false h, if_neg (by simp)]
  unfold gK
  rw [List.map_append]
  congr 1
  · exact List.map_congr_left fun y hy => by
      have : ¬ y = x := fun z => h (z ▸ hy)
      simp [this]
  · simp
theorem gK_old {x : Str} {G : Str → Int} {l : List Str} (h : x ∈ l) (n : Int) : putK (gK l G) (Sum.inr x) (.int n) = gK l (fun h => if h = x then n else G h) := by
  unfold putK
  rw [gK_any, decide_eq_true h, if_pos rfl]
  unfold gK
  rw [List.map_map]
  refine List.map_congr_left fun y hy => ?_
  by_cases c : y = x
  · subst c; simp
  · have : ¬ ((Sum.inr y : Key) = Sum.inr x) := fun z => c (Sum.inr.inj z)
    simp [c, this]
/-- wires as tuples -/
def WAt (H : Hp) (as : List Addr) (es : List Wr) : Prop := as.length = es.length ∧ ∀ (i : Nat) (a : Addr), as[i]? = some a → ∃ e, es[i]? = some e ∧ H a = some (.tup [.str e.1, .str e.2])
theorem WAt.keep {H H' : Hp} {as : List Addr} {es : List Wr} (h : WAt H as es) (k : ∀ a xs, H a = some (.tup xs) → H' a = some (.tup xs)) : WAt H' as es := ⟨h.1, fun i a e => by
  obtain ⟨w, h1, h2⟩ := h.2 i a e
  exact ⟨w, h1, k a _ h2⟩⟩
theorem WAt.same {H H' : Hp} {as : List Addr} {es : List Wr} (h : WAt H as es) (s : Same H H') : WAt H' as es := h.keep fun a _ e => s a _ e
theorem WAt.nil {H : Hp} : WAt H [] [] := ⟨rfl, fun i a h => by simp at h⟩
theorem WAt.snoc {H : Hp} {as : List Addr} {es : List Wr} (h : WAt H as es) {a : Addr} {e : Wr} (he : H a = some (.tup [.str e.1, .str e.2])) : WAt H (as ++ [a]) (es ++ [e]) := by
  refine ⟨by simp [h.1], fun i b hb => ?_⟩
  by_cases c : i < as.length
  · rw [List.getElem?_append_left c] at hb
    obtain ⟨w, h1, h2⟩ := h.2 i b hb
    exact ⟨w, by rw [List.getElem?_append_left (by rw [← h.1]; exact c)]; exact h1, h2⟩
  · rw [List.getElem?_append_right (by omega)] at hb
    have e0 : i - as.length = 0 := by
      have := (List.getElem?_eq_some_iff.mp hb).1
      simpa using this
    rw [e0] at hb
    cases hb
    exact ⟨e, by rw [List.getElem?_append_right (by rw [← h.1]; omega), ← h.1, e0]; rfl, he⟩
theorem WAt.get {H : Hp} {as : List Addr} {es : List Wr} (h : WAt H as es) {i : Nat} {e : Wr} (hi : es[i]? = some e) : ∃ a, as[i]? = some a ∧ H a = some (.tup [.str e.1, .str e.2]) := by
  have hl : i < as.length := by rw [h.1]; exact (List.getElem?_eq_some_iff.mp hi).1
  obtain ⟨e', h1, h2⟩ := h.2 i as[i] (List.getElem?_eq_getElem hl)
  rw [hi] at h1
  cases h1
  exact ⟨_, List.getElem?_eq_getElem hl, h2⟩
def rF (c : Bool) (ab aw ag : Addr) (en : Bool) : List (Str × V) := [("course", .bl c), ("benches", .ref ab), ("wires", .ref aw), ("groups", .ref ag), ("ended", .bl en)]
structure RdA (K : PySem.W.Frag) (H : Hp) (p dx ab aw ag : Addr) (c : Bool) (hs : List Str) (as : List Addr) (es : List Wr) (G : Str → Int) (en : Bool) : Prop where
  hp : H p = some (.ins (He.ga K "YardReader") dx (rF c ab aw ag en))
  hb : H ab = some (.lst (hs.map V.str))
  hw : H aw = some (.lst (as.map V.ref))
  hg : H ag = some (.dK (gK hs G))
  wt : WAt H as es
  nbw : ab ≠ aw
section
variable {K : PySem.W.Frag} {H H' : Hp} {p dx ab aw ag : Addr} {c en : Bool} {hs : List Str} {as : List Addr} {es : List Wr} {G : Str → Int}
theorem RdA.ne (R : RdA K H p dx ab aw ag c hs as es G en) : p ≠ ab ∧ p ≠ aw ∧ p ≠ ag ∧ ab ≠ ag ∧ aw ≠ ag ∧ ab ≠ aw :=
  ⟨ne_of R.hp R.hb (by intro z; cases z), ne_of R.hp R.hw (by intro z; cases z), ne_of R.hp R.hg (by intro z; cases z), ne_of R.hb R.hg (by intro z; cases z), ne_of R.hw R.hg (by intro z; cases z), R.nbw⟩
theorem RdA.same (R : RdA K H p dx ab aw ag c hs as es G en) (s : Same H H') : RdA K H' p dx ab aw ag c hs as es G en :=
  ⟨s _ _ R.hp, s _ _ R.hb, s _ _ R.hw, s _ _ R.hg, R.wt.same s, R.nbw⟩
theorem RdA.tup (R : RdA K H p dx ab aw ag c hs as es G en) {a : Addr} {o : HO} (h : a = p ∨ a = ab ∨ a = aw ∨ a = ag) : ∀ b xs, H b = some (.tup xs) → upd H a o b = some (.tup xs) := fun b xs e => by
  rw [upd_ne ?_]
  · exact e
  · rintro rfl
    rcases h with rfl | rfl | rfl | rfl
    · rw [R.hp] at e; cases e
    · rw [R.hb] at e; cases e
    · rw [R.hw] at e; cases e
    · rw [R.hg] at e; cases e
theorem RdA.setG (R : RdA K H p dx ab aw ag c hs as es G en) {G' : Str → Int} : RdA K (upd H ag (.dK (gK hs G'))) p dx ab aw ag c hs as es G' en := by
  obtain ⟨n1, n2, n3, n4, n5, n6⟩ := R.ne
  exact ⟨by rw [upd_ne n3]; exact R.hp, by rw [upd_ne n4]; exact R.hb, by rw [upd_ne n5]; exact R.hw, upd_same, R.wt.keep (R.tup (.inr (.inr (.inr rfl)))), R.nbw⟩
theorem RdA.setW (R : RdA K H p dx ab aw ag c hs as es G en) {as' : List Addr} {es' : List Wr} (w : WAt H as' es') : RdA K (upd H aw (.lst (as'.map V.ref))) p dx ab aw ag c hs as' es' G en := by
  obtain ⟨n1, n2, n3, n4, n5, n6⟩ := R.ne
  exact ⟨by rw [upd_ne n2]; exact R.hp, by rw [upd_ne n6]; exact R.hb, upd_same, by rw [upd_ne (Ne.symm n5)]; exact R.hg, w.keep (R.tup (.inr (.inr (.inl rfl)))), R.nbw⟩
theorem RdA.setE (R : RdA K H p dx ab aw ag c hs as es G en) {en' : Bool} : RdA K (upd H p (.ins (He.ga K "YardReader") dx (rF c ab aw ag en'))) p dx ab aw ag c hs as es G en' := by
  obtain ⟨n1, n2, n3, n4, n5, n6⟩ := R.ne
  exact ⟨upd_same, by rw [upd_ne (Ne.symm n1)]; exact R.hb, by rw [upd_ne (Ne.symm n2)]; exact R.hw, by rw [upd_ne (Ne.symm n3)]; exact R.hg, R.wt.keep (R.tup (.inl rfl)), R.nbw⟩
end
def rft (p ab aw ag : Addr) : List Addr := [p, ab, aw, ag]
section
variable {P : Program} {w : World} {K : PySem.W.Frag} {mg : Str → Option Value} {base : Heap}
/-! YardReader(course) -/
def spRInit (K : PySem.W.Frag) : Sp := fun vs H Q _ => ∃ (p dx : Addr) (c : Bool), vs = [.ref p, .bl c] ∧ H p = some (.ins (He.ga K "YardReader") dx []) ∧ ∀ (ab aw ag : Addr) (H' : Hp) (G : Str → Int), RdA K H' p dx ab aw ag c [] [] [] G false → Keeps [p] H H' → H ab = none → H aw = none → H ag = none → Q .non H'
theorem sc_YardReaderD__initD_ : FnScope ["self", "course"] ["self", "course"] (defScope s_YardReaderD__initD_) := ⟨rfl, rfl, rfl, by decide +kernel, rfl, by decide +kernel, by decide +kernel⟩
theorem good_RInit (T : Tx w K mg) : Good P w K mg base CX0 1 (He.ma K (He.ga K "YardReader") "__init__") ["self", "course"] (spRInit K) := by
  obtain ⟨fd, F⟩ := T.f_YardReaderD__initD_
  refine ⟨fd, F.ok sc_YardReaderD__initD_ (fun vs H Q E h => ?_) (fun cdv A outer s H vs Q E hr h => ?_), F.kp, F.bindsN fun _ _ _ _ _ _ us hl => match us, hl with | [_, _], _ => rfl⟩
  · obtain ⟨_, _, _, rfl, _⟩ := h
    rfl
  · obtain ⟨p, dx, c, rfl, hp, kq⟩ := h
    have SC := sc_YardReaderD__initD_
    refine ⟨_, PSs.nox (pss_cons (ps_fld (pv 0) (pv 1) rfl) 
      (pss_cons (ps_fld (pv 0) (pe_lst pa_nil) rfl) 
      (pss_cons (ps_fld (pv 0) (pe_lst pa_nil) rfl) 
      (pss_cons (ps_fld (pv 0) pe_dnewK rfl) 
      (pss_one (ps_fld (pv 0) pe_bl rfl)))))), ?_⟩
    refine ⟨_, rfl, _, rfl, p, _, dx, _, rfl, hp, T.cls_YardReader, T.a_YardReader_course, by show 0 < 1000; decide, ?_⟩
    generalize hH1 : upd H p _ = H1
    have e1 : H1 p = some (.ins (He.ga K "YardReader") dx [("course", .bl c)]) := by rw [← hH1, upd_same]; rfl
    have k1 : Keeps [p] H H1 := by rw [← hH1]; exact Keeps.refl.upd (by simp)
    clear hH1
    refine ⟨by show 0 ≤ sizeLine; decide, fun ab h2 => ?_⟩
    have n2 : p ≠ ab := ne_of_none e1 h2
    have z2 := k1.free (by simpa using Ne.symm n2) h2
    refine ⟨_, rfl, p, _, dx, _, rfl, by rw [upd_ne n2]; exact e1, T.cls_YardReader, T.a_YardReader_benches, by show 1 < 1000; decide, ?_⟩
    generalize hH2 : upd (upd H1 ab _) p _ = H2
    have e2 : H2 p = some (.ins (He.ga K "YardReader") dx [("course", .bl c), ("benches", .ref ab)]) := by rw [← hH2, upd_same]; rfl
    have f2 : H2 ab = some (.lst []) := by rw [← hH2, upd_ne (Ne.symm n2), upd_same]
    have k2 : Keeps [p] H H2 := by rw [← hH2]; exact (k1.new z2).upd (by simp)
    clear hH2
    refine ⟨by show 0 ≤ sizeLine; decide, fun aw h3 => ?_⟩
    have n3 : p ≠ aw := ne_of_none e2 h3
    have n4 : ab ≠ aw := ne_of_none f2 h3
    have z3 := k2.free (by simpa using Ne.symm n3) h3
    refine ⟨_, rfl, p, _, dx, _, rfl, by rw [upd_ne n3]; exact e2, T.cls_YardReader, T.a_YardReader_wires, by show 2 < 1000; decide, ?_⟩
    generalize hH3 : upd (upd H2 aw _) p _ = H3
    have e3 : H3 p = some (.ins (He.ga K "YardReader") dx [("course", .bl c), ("benches", .ref ab), ("wires", .ref aw)]) := by rw [← hH3, upd_same]; rfl
    have f3 : H3 ab = some (.lst []) := by rw [← hH3, upd_ne (Ne.symm n2), upd_ne n4]; exact f2
    have g3 : H3 aw = some (.lst []) := by rw [← hH3, upd_ne (Ne.symm n3), upd_same]
    have k3 : Keeps [p] H H3 := by rw [← hH3]; exact (k2.new z3).upd (by simp)
    clear hH3
    refine fun ag h4 => ?_
    have n5 : p ≠ ag := ne_of_none e3 h4
    have n6 : ab ≠ ag := ne_of_none f3 h4
    have n7 : aw ≠ ag := ne_of_none g3 h4
    have z4 := k3.free (by simpa using Ne.symm n5) h4
    refine ⟨_, rfl, p, _, dx, _, rfl, by rw [upd_ne n5]; exact e3, T.cls_YardReader, T.a_YardReader_groups, by show 3 < 1000; decide, ?_⟩
    generalize hH4 : upd (upd H3 ag _) p _ = H4
    have e4 : H4 p = some (.ins (He.ga K "YardReader") dx [("course", .bl c), ("benches", .ref ab), ("wires", .ref aw), ("groups", .ref ag)]) := by rw [← hH4, upd_same]; rfl
    have f4 : H4 ab = some (.lst []) := by rw [← hH4, upd_ne (Ne.symm n2), upd_ne n6]; exact f3
    have g4 : H4 aw = some (.lst []) := by rw [← hH4, upd_ne (Ne.symm n3), upd_ne n7]; exact g3
    have d4 : H4 ag = some (.dK []) := by rw [← hH4, upd_ne (Ne.symm n5), upd_same]
    have k4 : Keeps [p] H H4 := by rw [← hH4]; exact (k3.new z4).upd (by simp)
    clear hH4
    refine ⟨_, rfl, p, _, dx, _, rfl, e4, T.cls_YardReader, T.a_YardReader_ended, by show 4 < 1000; decide, ?_⟩
    refine kq ab aw ag _ (fun _ => 0) ⟨upd_same, by rw [upd_ne (Ne.symm n2)]; exact f4, by rw [upd_ne (Ne.symm n3)]; exact g4, by rw [upd_ne (Ne.symm n5)]; exact d4, WAt.nil, n4⟩ (k4.upd (by simp)) z2 z3 z4
/-! add_bench -/
def spAddBench (K : PySem.W.Frag) : Sp := fun vs H Q E => ∃ (p dx ab aw ag : Addr) (c : Bool) (hs : List Str) (as : List Addr) (es : List Wr) (G : Str → Int) (x : Str) (line : Int), vs = [.ref p, .str x, .int line] ∧ RdA K H p dx ab aw ag c hs as es G false ∧ RSt c hs es false ∧ Grp hs es G ∧ x.length ≤ 200000 ∧
  (benchY hs es x = .bad → RB K E H line) ∧ (benchY hs es x = .many → RMK K E (rft p ab aw ag) H "benches" 14) ∧ (benchY hs es x = .ok (hs ++ [x]) es false → ∀ (H' : Hp) (G' : Str → Int), Keeps (rft p ab aw ag) H H' → RdA K H' p dx ab aw ag c (hs ++ [x]) as es G' false → Grp (hs ++ [x]) es G' → Q .non H')
theorem sc_YardReader_add_bench : FnScope ["self", "name", "line"] ["self", "name", "line"] (defScope s_YardReader_add_bench) := ⟨rfl, rfl, rfl, by decide +kernel, rfl, by decide +kernel, by decide +kernel⟩
theorem good_add_bench (T : Tx w K mg) : Good P w K mg base (L2.CX P w) 4 (He.ma K (He.ga K "YardReader") "add_bench") ["self", "name", "line"] (spAddBench K) := by
  obtain ⟨fd, F⟩ := T.f_YardReader_add_bench
  obtain ⟨_, G_BadYard_init, _, b_BadYard_init⟩ := good_BadYard (P := P) (w := w) (base := base) T
  obtain ⟨_, G_is_small, k_is_small, b_is_small⟩ := good_is_small (P := P) (w := w) (base := base) T
  obtain ⟨_, G_check_bound, k_check_bound, b_check_bound⟩ := good_check_bound (P := P) (w := w) (base := base) T
  refine ⟨fd, F.ok sc_YardReader_add_bench (fun vs H Q E h => ?_) (fun cdv A outer s H vs Q E hr h => ?_), F.kp, F.bindsN fun _ _ _ _ _ _ us hl => match us, hl with | [_, _, _], _ => rfl⟩
  · obtain ⟨_, _, _, _, _, _, _, _, _, _, _, _, rfl, _⟩ := h
    rfl
  · obtain ⟨p, dx, ab, aw, ag, c, hs, as, es, G, x, line, rfl, R, S, GR, hx, kb, km, ko⟩ := h
    have SC := sc_YardReader_add_bench
    have hu := hu_of hr
    refine ⟨_, pss_cons (ps_if (truQ K rfl (fldQ K rfl (pv 0))) 
      (pss_one (ps_raise rfl (takes_of rfl rfl rfl rfl) (pmk_oex T.two_BadYard.oex T.two_BadYard.iC T.two_BadYard.tI G_BadYard_init (hr.mono (by decide)) b_BadYard_init .nil pass0 rfl T.g_BadYard (pa_cons (pv 2) (pa_cons pe_str pa_nil))))) pss_nil) 
      (pss_cons (ps_if (pt_not (pt_val (pe_call G_is_small (hr.mono (by decide)) rfl T.g_is_small k_is_small b_is_small .nil pass0 (pa_cons (pv 1) pa_nil)))) 
      (pss_one (ps_raise rfl (takes_of rfl rfl rfl rfl) (pmk_oex T.two_BadYard.oex T.two_BadYard.iC T.two_BadYard.tI G_BadYard_init (hr.mono (by decide)) b_BadYard_init .nil pass0 rfl T.g_BadYard (pa_cons (pv 2) (pa_cons pe_str pa_nil))))) pss_nil) 
      (pss_cons (ps_if (pt_cmp (pc_din hu (pv 1) (fldQ K rfl (pv 0)))) 
      (pss_one (ps_raise rfl (takes_of rfl rfl rfl rfl) (pmk_oex T.two_BadYard.oex T.two_BadYard.iC T.two_BadYard.tI G_BadYard_init (hr.mono (by decide)) b_BadYard_init .nil pass0 rfl T.g_BadYard (pa_cons (pv 2) (pa_cons pe_str pa_nil))))) pss_nil) 
      (pss_cons (ps_dput hu (fldQ K rfl (pv 0)) (pv 1) (pe_callB (lenQ K) rfl T.n_len (by decide +kernel) (pa_cons (fldQ K rfl (pv 0)) pa_nil)) rfl) 
      (pss_cons (ps_expr (pe_bm PySem.F.plainAttrs_list PySem.F.slot_list_append PySem.F.type_list_append mt_append (fldQ K rfl (pv 0)) (pa_cons (pv 1) pa_nil))) 
      (pss_one (ps_expr (pe_call G_check_bound (hr.mono (by decide)) rfl T.g_check_bound k_check_bound b_check_bound .nil (passes_call (takes_of rfl rfl rfl rfl) (fun _ _ _ _ h => h)) (pa_cons pe_str (pa_cons (pe_callB (lenQ K) rfl T.n_len (by decide +kernel) (pa_cons (fldQ K rfl (pv 0)) pa_nil)) pa_nil))))))))), ?_⟩
    -- if self.wires
    refine ⟨_, rfl, p, _, _, _, _, rfl, R.hp, T.cls_YardReader, T.a_YardReader_wires, rfl, _, .inl ⟨_, SqL.of R.hw, rfl⟩, ?_⟩
    cases es with
    | cons e es =>
      have ne : as ≠ [] := fun z => by have := R.wt.1; rw [z] at this; simp at this
      have e1 : (!(as.map V.ref).isEmpty) = true := by cases as with
        | nil => exact absurd rfl ne
        | cons a l => rfl
      rw [e1]
      refine iteT (B := False) ?_
      refine ⟨_, rfl, mkO_two fun d hd => kb (by unfold benchY; simp) _ d _ (same_new hd) hd upd_same (by decide +kernel)⟩
    | nil =>
      have e0 : as = [] := List.eq_nil_of_length_eq_zero R.wt.1
      subst e0
      refine iteF (A := False) ?_
      refine ⟨_, rfl, x, rfl, hx, fun H1 s1 => ⟨_, rfl, ?_⟩⟩
      have R1 := R.same s1
      cases es1 : smallB x with
      | false =>
        refine iteT (B := False) ?_
        refine ⟨_, rfl, mkO_two fun d hd => kb (by unfold benchY; rw [es1]; simp) _ d _ (same_upd s1 (Same.free s1 hd)) (Same.free s1 hd) upd_same (by decide +kernel)⟩
      | true =>
        refine iteF (A := False) ?_
        refine ⟨_, rfl, _, rfl, p, _, _, _, _, rfl, R1.hp, T.cls_YardReader, T.a_YardReader_groups, rfl, ag, _, rfl, DGet.k (k := Sum.inr x) R1.hg, _, rfl, ?_⟩
        rw [gK_val]
        by_cases hin : x ∈ hs
        · rw [if_pos hin]
          refine iteT (B := False) ?_
          refine ⟨_, rfl, mkO_two fun d hd => kb (by unfold benchY; rw [es1]; simp [hin]) _ d _ (same_upd s1 (Same.free s1 hd)) (Same.free s1 hd) upd_same (by decide +kernel)⟩
        · rw [if_neg hin]
          refine iteF (A := False) ?_
          have few := S.few
          have lm : (hs.map V.str).length = hs.length := List.length_map _
          refine ⟨_, rfl, p, _, _, _, _, rfl, R1.hp, T.cls_YardReader, T.a_YardReader_benches, rfl, ab, _, rfl, .inl (SqL.of R1.hb), _, rfl, p, _, _, _, _, rfl, R1.hp, T.cls_YardReader, T.a_YardReader_groups, rfl, _, rfl, ag, _, rfl, DPut.k (k := Sum.inr x) R1.hg (by rw [gK, List.length_map, sizeLine_eq]; omega), ?_⟩
          rw [lm, gK_new hin]
          have R2 := R1.setG (G' := fun h => if h = x then (hs.length : Int) else G h)
          have GR2 := GR.bench hin
          obtain ⟨n1, n2, n3, n4, n5, n6⟩ := R1.ne
          have R3 : ∀ o : HO, o = .dK (gK (hs ++ [x]) fun h => if h = x then (hs.length : Int) else G h) → RdA K (upd (upd H1 ag o) ab (.lst ((hs ++ [x]).map V.str))) p dx ab aw ag c (hs ++ [x]) [] [] (fun h => if h = x then (hs.length : Int) else G h) false := fun o eo => by
            subst eo
            exact ⟨by rw [upd_ne n1, upd_ne n3]; exact R1.hp, upd_same, by rw [upd_ne (Ne.symm n6), upd_ne n5]; exact R1.hw, by rw [upd_ne (Ne.symm n4)]; exact upd_same, WAt.nil, n6⟩
          have hp2 : ∀ o, upd H1 ag o p = some (.ins (He.ga K "YardReader") dx (rF c ab aw ag false)) := fun o => by rw [upd_ne n3]; exact R1.hp
          have hb2 : ∀ o, upd H1 ag o ab = some (.lst (hs.map V.str)) := fun o => by rw [upd_ne n4]; exact R1.hb
          refine ⟨_, rfl, p, _, _, _, _, rfl, hp2 _, T.cls_YardReader, T.a_YardReader_benches, rfl, .inl ⟨rfl, _, SqL.of (hb2 _)⟩, _, rfl, ab, _, _, rfl, rfl, hb2 _, by rw [lm, sizeLine_eq]; omega, ?_⟩
          have eap : hs.map V.str ++ [V.str x] = (hs ++ [x]).map V.str := by rw [List.map_append]; rfl
          rw [eap]
          have R4 := R3 _ rfl
          have kp : Keeps (rft p ab aw ag) H (upd (upd H1 ag (.dK (gK (hs ++ [x]) fun h => if h = x then (hs.length : Int) else G h))) ab (.lst ((hs ++ [x]).map V.str))) := ((Keeps.ofSame s1).upd (by simp [rft])).upd (by simp [rft])
          generalize upd (upd H1 ag _) ab _ = H4 at R4 kp ⊢
          have len4 : (((hs ++ [x]).map V.str).length : Int) = (hs.length : Int) + 1 := by simp
          refine ⟨_, rfl, p, _, _, _, _, rfl, R4.hp, T.cls_YardReader, T.a_YardReader_benches, rfl, ab, _, rfl, .inl (SqL.of R4.hb), "benches", _, 14, rfl, rfl, fun hle H5 s5 => ?_, fun hlt => ?_⟩
          · rw [len4] at hle
            refine ko ?_ H5 _ (kp.trans (Keeps.ofSame s5)) (R4.same s5) GR2
            unfold benchY
            rw [es1]
            simp [hin]
            omega
          · rw [len4] at hlt
            intro H5 d s5 hd ed
            refine km ?_ H5 d (kp.trans (Keeps.ofSame s5)) ?_ ed
            · unfold benchY
              rw [es1]
              simp [hin]
              omega
            · refine kp.free (fun m => ?_) hd
              simp only [rft, List.mem_cons, List.not_mem_nil, or_false] at m
              rcases m with rfl | rfl | rfl | rfl
              · rw [R4.hp] at hd; cases hd
              · rw [R4.hb] at hd; cases hd
              · rw [R4.hw] at hd; cases hd
              · rw [R4.hg] at hd; cases hd
/-! add_wire -/
def spAddWire (K : PySem.W.Frag) : Sp := fun vs H Q E => ∃ (p dx ab aw ag : Addr) (hs : List Str) (as : List Addr) (es : List Wr) (G : Str → Int) (a b : Str) (line : Int), vs = [.ref p, .str a, .str b, .int line] ∧ RdA K H p dx ab aw ag false hs as es G false ∧ RSt false hs es false ∧ Grp hs es G ∧
  (wireY hs es a b = .bad → RB K E H line) ∧ (wireY hs es a b = .ok hs (es ++ [(a, b)]) false → ∀ (H' : Hp) (G' : Str → Int) (as' : List Addr), Keeps (rft p ab aw ag) H H' → RdA K H' p dx ab aw ag false hs as' (es ++ [(a, b)]) G' false → Grp hs (es ++ [(a, b)]) G' → Q .non H')
theorem sc_YardReader_add_wire : FnScope ["self", "one", "other", "line", "kept", "joined", "name"] ["self", "one", "other", "line"] (defScope s_YardReader_add_wire) := ⟨rfl, rfl, rfl, by decide +kernel, rfl, by decide +kernel, by decide +kernel⟩
theorem good_add_wire (T : Tx w K mg) : Good P w K mg base (L2.CX P w) 4 (He.ma K (He.ga K "YardReader") "add_wire") ["self", "one", "other", "line"] (spAddWire K) := by
  obtain ⟨fd, F⟩ := T.f_YardReader_add_wire
  obtain ⟨_, G_BadYard_init, _, b_BadYard_init⟩ := good_BadYard (P := P) (w := w) (base := base) T
  refine ⟨fd, F.ok sc_YardReader_add_wire (fun vs H Q E h => ?_) (fun cdv A outer s H vs Q E hr h => ?_), F.kp, F.bindsN fun _ _ _ _ _ _ us hl => match us, hl with | [_, _, _, _], _ => rfl⟩
  · obtain ⟨_, _, _, _, _, _, _, _, _, _, _, _, rfl, _⟩ := h
    rfl
  · obtain ⟨p, dx, ab, aw, ag, hs, as, es, G, a, b, line, rfl, R, S, GR, kb, ko⟩ := h
    have SC := sc_YardReader_add_wire
    have hu := hu_of hr
    refine ⟨_, pss_cons (ps_if (PW.pt (pw_or (pt_cmp (pc_dnotin hu (pv 1) (fldQ K rfl (pv 0)))) (pw_or1 (pt_cmp (pc_dnotin hu (pv 2) (fldQ K rfl (pv 0))))))) 
      (pss_one (ps_raise rfl (takes_of rfl rfl rfl rfl) (pmk_oex T.two_BadYard.oex T.two_BadYard.iC T.two_BadYard.tI G_BadYard_init (hr.mono (by decide)) b_BadYard_init .nil pass0 rfl T.g_BadYard (pa_cons (pv 3) (pa_cons pe_str pa_nil))))) pss_nil) 
      (pss_cons (ps_par (i := 4) (j := 5) (by rfl) SC.nd rfl rfl (by decide) rfl rfl (pa_cons (pe_dget hu (fldQ K rfl (pv 0)) (pv 1) (fun _ _ => rfl)) (pa_cons (pe_dget hu (fldQ K rfl (pv 0)) (pv 2) (fun _ _ => rfl)) pa_nil)) (by rfl)) 
      (pss_cons (ps_if (pt_cmpR op_eq (pv 4) (pv 5) (nomark _)) 
      (pss_one (ps_raise rfl (takes_of rfl rfl rfl rfl) (pmk_oex T.two_BadYard.oex T.two_BadYard.iC T.two_BadYard.tI G_BadYard_init (hr.mono (by decide)) b_BadYard_init .nil pass0 rfl T.g_BadYard (pa_cons (pv 3) (pa_cons pe_str pa_nil))))) pss_nil) 
      (pss_cons (ps_for (passes_of rfl) rfl (listI K rfl (fldQ K rfl (pv 0))) (pg_name (i := 6) SC.nd rfl (by first | exact Or.inl rfl | exact Or.inr rfl)) 
      (pss_one (ps_if (pt_cmpR op_eq (pe_dget hu (fldQ K rfl (pv 0)) (pv 6) (fun _ _ => rfl)) (pv 5) (nomark _)) 
      (pss_one (ps_dput hu (fldQ K rfl (pv 0)) (pv 6) (pv 4) rfl)) pss_nil))) 
      (pss_one (ps_expr (pe_bm PySem.F.plainAttrs_list PySem.F.slot_list_append PySem.F.type_list_append mt_append (fldQ K rfl (pv 0)) (pa_cons (pe_tup (pa_cons (pv 1) (pa_cons (pv 2) pa_nil))) pa_nil))))))), ?_⟩
    have few := S.few
    have bad : wireY hs es a b = .bad → RB K E H line := kb
    have lft : wireY hs es a b = .bad → ∀ d, H d = none → E (.ref (He.ga K "BadYard")) (some d) (upd H d (.xd [("why", .str "a wire names a bench that is not there"), ("line", .int line)])) := fun e d hd => kb e _ d _ (same_new hd) hd upd_same (by decide +kernel)
    refine ⟨_, rfl, _, rfl, p, _, _, _, _, rfl, R.hp, T.cls_YardReader, T.a_YardReader_groups, rfl, ag, _, rfl, DGet.k (k := Sum.inr a) R.hg, _, rfl, ?_⟩
    rw [gK_val]
    by_cases ha : a ∈ hs
    · rw [if_pos ha]
      refine iteF (A := False) ?_
      refine ⟨_, rfl, _, rfl, p, _, _, _, _, rfl, R.hp, T.cls_YardReader, T.a_YardReader_groups, rfl, ag, _, rfl, DGet.k (k := Sum.inr b) R.hg, _, rfl, ?_⟩
      rw [gK_val]
      by_cases hb : b ∈ hs
      · rw [if_pos hb]
        refine iteF (A := False) ?_
        have ga : DGet H ag (.str a) (some (.int (G a))) := by have := DGet.k (k := Sum.inr a) R.hg; rw [gK_val, if_pos ha] at this; exact this
        have gb : DGet H ag (.str b) (some (.int (G b))) := by have := DGet.k (k := Sum.inr b) R.hg; rw [gK_val, if_pos hb] at this; exact this
        have hring : G a = G b ↔ b ∈ reachL es a none := (GR.conn a ha b hb).trans mem_reach_none.symm
        refine ⟨_, rfl, p, _, _, _, _, rfl, R.hp, T.cls_YardReader, T.a_YardReader_groups, rfl, _, rfl, ag, _, rfl, ga, _, rfl, p, _, _, _, _, rfl, R.hp, T.cls_YardReader, T.a_YardReader_groups, rfl, _, rfl, ag, _, rfl, gb, _, _, rfl, ?_⟩
        refine ⟨_, rfl, _, rfl, rfl, _, rfl, ?_⟩
        by_cases hr : b ∈ reachL es a none
        · rw [decide_eq_true (show V.int (G a) = V.int (G b) by rw [hring.mpr hr])]
          refine iteT (B := False) ?_
          exact ⟨_, rfl, mkO_two fun d hd => kb (by unfold wireY; rw [if_neg (by simp [ha, hb]), if_pos hr]) _ d _ (same_new hd) hd upd_same (by decide +kernel)⟩
        · have gne : G a ≠ G b := fun z => hr (hring.mp z)
          rw [decide_eq_false (show ¬ V.int (G a) = V.int (G b) from fun z => gne (V.int.inj z))]
          refine iteF (A := False) ?_
          obtain ⟨n1, n2, n3, n4, n5, n6⟩ := R.ne
          refine ⟨_, rfl, p, _, _, _, _, rfl, R.hp, T.cls_YardReader, T.a_YardReader_benches, rfl, ab, rfl, ⟨_, SqL.of R.hb⟩, ?_⟩
          refine for_list (K := K) (a := ab) (xs := hs.map V.str) (fun i σ H' => ∃ v, σ = [some (.ref p), some (.str a), some (.str b), some (.int line), some (.int (G a)), some (.int (G b)), v] ∧ Keeps (rft p ab aw ag) H H' ∧
            RdA K H' p dx ab aw ag false hs as es (fun h => if h ∈ hs.take i ∧ G h = G b then G a else G h) false) ⟨_, rfl, Keeps.refl, ?_⟩ (fun i σ H' _ ⟨_, _, _, R'⟩ => SqL.of R'.hb) ?_ ?_
          · have e : (fun h => if h ∈ hs.take 0 ∧ G h = G b then G a else G h) = G := by funext h; simp
            rw [e]; exact R
          · rintro i y σ H' hy ⟨v, rfl, k, R'⟩
            rw [List.getElem?_map] at hy
            obtain ⟨x, hx, rfl⟩ := Option.map_eq_some_iff.mp hy
            have hm := List.mem_of_getElem? hx
            have hi := (List.getElem?_eq_some_iff.mp hx).1
            have et : hs.take (i + 1) = hs.take i ++ [x] := by rw [List.take_succ, hx]; rfl
            have nin : x ∉ hs.take i := fun m => by
              obtain ⟨j, hj⟩ := List.getElem?_of_mem m
              have hj2 := (List.getElem?_eq_some_iff.mp hj).1
              rw [List.length_take] at hj2
              rw [List.getElem?_take_of_lt (by omega)] at hj
              have := (List.getElem?_inj (by omega) S.nd).mp (hj.trans hx.symm)
              omega
            have gx : DGet H' ag (.str x) (some (.int (G x))) := by
              have := DGet.k (k := Sum.inr x) R'.hg
              rw [gK_val, if_pos hm, if_neg (show ¬ (x ∈ hs.take i ∧ G x = G b) from fun z => nin z.1)] at this
              exact this
            refine ⟨_, rfl, p, _, _, _, _, rfl, R'.hp, T.cls_YardReader, T.a_YardReader_groups, rfl, _, rfl, ag, _, rfl, gx, _, rfl, rfl, _, rfl, ?_⟩
            have step : ∀ h, (if h ∈ hs.take (i + 1) ∧ G h = G b then G a else G h) = (if h = x ∧ G x = G b then G a else if h ∈ hs.take i ∧ G h = G b then G a else G h) := fun h => by
              rw [et]
              by_cases c : h = x
              · subst c
                by_cases d : G h = G b <;> simp [d, nin]
              · simp [c]
            by_cases c : G x = G b
            · rw [decide_eq_true (show V.int (G x) = V.int (G b) by rw [c])]
              refine iteT (B := False) ?_
              refine ⟨_, rfl, _, rfl, p, _, _, _, _, rfl, R'.hp, T.cls_YardReader, T.a_YardReader_groups, rfl, _, rfl, ag, _, rfl, DPut.k (k := Sum.inr x) R'.hg (by rw [gK, List.length_map, sizeLine_eq]; omega), ?_⟩
              rw [gK_old hm]
              have ef : (fun h => if h = x then G a else if h ∈ hs.take i ∧ G h = G b then G a else G h) = fun h => if h ∈ hs.take (i + 1) ∧ G h = G b then G a else G h := by
                funext h
                rw [step h]
                simp [c]
              rw [ef]
              exact ⟨_, rfl, k.upd (by simp [rft]), R'.setG⟩
            · rw [decide_eq_false (show ¬ V.int (G x) = V.int (G b) from fun z => c (V.int.inj z))]
              refine iteF (A := False) ?_
              have ef : (fun h => if h ∈ hs.take i ∧ G h = G b then G a else G h) = fun h => if h ∈ hs.take (i + 1) ∧ G h = G b then G a else G h := by
                funext h
                rw [step h]
                simp [c]
              rw [ef] at R'
              exact ⟨_, rfl, k, R'⟩
          · rintro σ H' ⟨v, rfl, k, R'⟩
            have efin : gK hs (fun h => if h ∈ hs.take (hs.map V.str).length ∧ G h = G b then G a else G h) = gK hs (fun h => if G h = G b then G a else G h) := gK_congr fun x hx => by
              rw [List.length_map, List.take_length]
              simp [hx]
            have R2 : RdA K H' p dx ab aw ag false hs as es (fun h => if G h = G b then G a else G h) false := ⟨R'.hp, R'.hb, R'.hw, by rw [← efin]; exact R'.hg, R'.wt, R'.nbw⟩
            clear R'
            have lw : as.length = es.length := R2.wt.1
            have lee : es.length ≤ 14 := by
              have := (S.frst rfl).le (fun z => by rw [z] at ha; simp at ha)
              omega
            refine ⟨_, rfl, p, _, _, _, _, rfl, R2.hp, T.cls_YardReader, T.a_YardReader_wires, rfl, .inl ⟨rfl, _, SqL.of R2.hw⟩, _, rfl, _, rfl, by show 2 ≤ sizeLine; decide, fun t ht => ?_⟩
            have st : Same H' (upd H' t (.tup [.str a, .str b])) := same_new ht
            have et : upd H' t (.tup [.str a, .str b]) t = some (.tup [.str a, .str b]) := upd_same
            generalize upd H' t _ = H2 at st et ⊢
            have R3 := R2.same st
            refine ⟨aw, _, _, rfl, rfl, R3.hw, by rw [List.length_map, sizeLine_eq]; omega, ?_⟩
            have ea : as.map V.ref ++ [V.ref t] = (as ++ [t]).map V.ref := by rw [List.map_append]; rfl
            rw [ea]
            exact ko (by unfold wireY; rw [if_neg (by simp [ha, hb]), if_neg hr]) _ _ _ ((k.trans (Keeps.ofSame st)).upd (by simp [rft])) (R3.setW (R3.wt.snoc et)) (GR.wire ha hb)
      · rw [if_neg hb]
        refine iteT (B := False) ?_
        exact ⟨_, rfl, mkO_two fun d hd => lft (by unfold wireY; rw [if_pos (.inr hb)]) d hd⟩
    · rw [if_neg ha]
      refine iteT (B := False) (iteT (B := False) ?_)
      exact ⟨_, rfl, mkO_two fun d hd => lft (by unfold wireY; rw [if_pos (.inl ha)]) d hd⟩
end
end Yd
set_option Elab.async false
set_option linter.all false
set_option maxHeartbeats 2000000
/-! What split gives: in plain Lean. -/
namespace Yd
open PySem PySem.Spec PyProof.Rows L2
theorem spl_len (S : List Nat) : ∀ (k : Nat) (acc l : List Nat), (TL.spl S k acc l).length ≤ l.length + 1 ∧ TL.spl S k acc l ≠ []
  | k, acc, [] => by rw [TL.spl_nil]; exact ⟨Nat.le_refl _, by simp⟩
  | 0, acc, c :: r => by
    by_cases h : TL.pre S (c :: r) = true
    · rw [TL.spl_hit h]
      have := spl_len S (S.length - 1) [] r
      exact ⟨by simp only [List.length_cons]; omega, by simp⟩
    · rw [TL.spl_miss (by simpa using h)]
      have := spl_len S 0 (acc ++ [c]) r
      exact ⟨by simp only [List.length_cons]; omega, this.2⟩
  | k + 1, acc, c :: r => by
    have := spl_len S k acc r
    show (TL.spl S k acc r).length ≤ (c :: r).length + 1 ∧ TL.spl S k acc r ≠ []
    exact ⟨by simp only [List.length_cons]; omega, this.2⟩
theorem spl_mem (S : List Nat) : ∀ (k : Nat) (acc l p : List Nat), p ∈ TL.spl S k acc l → ∀ c ∈ p, c ∈ acc ∨ c ∈ l
  | k, acc, [], p, h, c, hc => by
    rw [TL.spl_nil, List.mem_singleton] at h
    subst h
    exact .inl hc
  | 0, acc, d :: r, p, h, c, hc => by
    by_cases q : TL.pre S (d :: r) = true
    · rw [TL.spl_hit q] at h
      rcases List.mem_cons.mp h with rfl | h
      · exact .inl hc
      · rcases spl_mem S _ _ _ _ h c hc with z | z
        · simp at z
        · exact .inr (List.mem_cons_of_mem _ z)
    · rw [TL.spl_miss (by simpa using q)] at h
      rcases spl_mem S _ _ _ _ h c hc with z | z
      · rcases List.mem_append.mp z with z | z
        · exact .inl z
        · rw [List.mem_singleton.mp z]; exact .inr List.mem_cons_self
      · exact .inr (List.mem_cons_of_mem _ z)
  | k + 1, acc, d :: r, p, h, c, hc => by
    rcases spl_mem S k acc r p h c hc with z | z
    · exact .inl z
    · exact .inr (List.mem_cons_of_mem _ z)
def Sep (y : Str) : Prop := TL.tl y ≠ [] ∧ y.cps.all (· < 256) = true
theorem sep_nl : Sep "\n" := ⟨by decide +kernel, by decide +kernel⟩
theorem sep_sp : Sep " " := ⟨by decide +kernel, by decide +kernel⟩
theorem split_len {x y : Str} (h : Sep y) : (Txt.split x y).length ≤ x.length + 1 ∧ Txt.split x y ≠ [] := by
  have e := TL.split_spl x y h.1 (TL.kind_ok h.2)
  have l := congrArg List.length e
  rw [List.length_map] at l
  obtain ⟨q1, q2⟩ := spl_len (TL.tl y) 0 [] (TL.tl x)
  have lx : (TL.tl x).length = x.length := Array.length_toList
  refine ⟨by omega, fun z => q2 ?_⟩
  rw [← e, z]; rfl
theorem split_mem {x y p : Str} (h : Sep y) (hp : p ∈ Txt.split x y) : ∀ c ∈ TL.tl p, c ∈ TL.tl x := fun c hc => by
  have e := TL.split_spl x y h.1 (TL.kind_ok h.2)
  have : TL.tl p ∈ TL.spl (TL.tl y) 0 [] (TL.tl x) := by rw [← e]; exact List.mem_map_of_mem hp
  rcases spl_mem _ _ _ _ _ this c hc with z | z
  · simp at z
  · exact z
theorem split_part {x y p : Str} (hp : p ∈ Txt.split x y) : p.length ≤ x.length := by
  have := PySem.join_mem_le y _ p hp
  rw [StrLaws.join_split] at this
  exact this
def okS (x : Str) : Prop := PyData.strOk x = true
theorem okS_iff {x : Str} : okS x ↔ ∀ c ∈ TL.tl x, c < 1114112 := by
  unfold okS PyData.strOk
  rw [Array.all_eq_true_iff_forall_mem]
  constructor
  · intro h c hc
    exact of_decide_eq_true (h c (Array.mem_toList_iff.mp hc))
  · intro h c hc
    exact decide_eq_true (h c (Array.mem_toList_iff.mpr hc))
theorem split_ok {x y p : Str} (h : Sep y) (hx : okS x) (hp : p ∈ Txt.split x y) : okS p := okS_iff.mpr fun c hc => okS_iff.mp hx c (split_mem h hp c hc)
end Yd
set_option Elab.async false
set_option linter.all false
set_option maxRecDepth 100000
set_option maxHeartbeats 8000000
namespace Yd
open PySem PySem.Spec PyProof.Rows L2 Xo
theorem cut_tail (xs : List V) : cutV xs (some 1) none = xs.tail := by
  unfold cutV HT.sIx
  cases xs with
  | nil => rfl
  | cons a l =>
    have e : (1 : Int).toNat = 1 := rfl
    simp [e]
theorem zip_map_str (xs ys : List Str) : (xs.map V.str).zip (ys.map V.str) = (xs.zip ys).map fun p => (V.str p.1, V.str p.2) := by
  rw [List.zip_map]; rfl
theorem zip_wires {H : Hp} {as : List Addr} {xs ys : List Str} (h : Paired (fun (t : Addr) (p : V × V) => H t = some (.tup [p.1, p.2])) as ((xs.map V.str).zip (ys.map V.str))) : WAt H as (xs.zip ys) := by
  rw [zip_map_str] at h
  refine ⟨by rw [h.length, List.length_map], fun i a ha => ?_⟩
  obtain ⟨y, hy, e⟩ := LiI.paired_get h ha
  rw [List.getElem?_map] at hy
  obtain ⟨p, hp, rfl⟩ := Option.map_eq_some_iff.mp hy
  exact ⟨p, hp, e⟩
section
variable {P : Program} {w : World} {K : PySem.W.Frag} {mg : Str → Option Value} {base : Heap}
def spEnd (K : PySem.W.Frag) : Sp := fun vs H Q E => ∃ (p dx ab aw ag : Addr) (c : Bool) (hs : List Str) (as : List Addr) (es : List Wr) (G : Str → Int) (line : Int), vs = [.ref p, .int line] ∧ RdA K H p dx ab aw ag c hs as es G false ∧ RSt c hs es false ∧
  (endY c hs es = .bad → RB K E H line) ∧ (∀ es', endY c hs es = .ok hs es' true → ∀ (H' : Hp) (aw' : Addr) (as' : List Addr), Keeps (rft p ab aw ag) H H' → RdA K H' p dx ab aw' ag c hs as' es' G true → (aw' = aw ∨ H aw' = none) → Q .non H')
theorem sc_YardReader_end : FnScope ["self", "line"] ["self", "line"] (defScope s_YardReader_end) := ⟨rfl, rfl, rfl, by decide +kernel, rfl, by decide +kernel, by decide +kernel⟩
theorem good_end (T : Tx w K mg) : Good P w K mg base (L2.CX P w) 3 (He.ma K (He.ga K "YardReader") "end") ["self", "line"] (spEnd K) := by
  obtain ⟨fd, F⟩ := T.f_YardReader_end
  obtain ⟨_, G_BadYard_init, _, b_BadYard_init⟩ := good_BadYard (P := P) (w := w) (base := base) T
  refine ⟨fd, F.ok sc_YardReader_end (fun vs H Q E h => ?_) (fun cdv A outer s H vs Q E hr h => ?_), F.kp, F.bindsN fun _ _ _ _ _ _ us hl => match us, hl with | [_, _], _ => rfl⟩
  · obtain ⟨_, _, _, _, _, _, _, _, _, _, _, rfl, _⟩ := h
    rfl
  · obtain ⟨p, dx, ab, aw, ag, c, hs, as, es, G, line, rfl, R, S, kb, ko⟩ := h
    have SC := sc_YardReader_end
    refine ⟨_, pss_cons (ps_if (pt_not (truQ K rfl (fldQ K rfl (pv 0)))) 
      (pss_one (ps_raise rfl (takes_of rfl rfl rfl rfl) (pmk_oex T.two_BadYard.oex T.two_BadYard.iC T.two_BadYard.tI G_BadYard_init (hr.mono (by decide)) b_BadYard_init .nil pass0 rfl T.g_BadYard (pa_cons (pv 1) (pa_cons pe_str pa_nil))))) pss_nil) 
      (Evl.pss_cut (ps_if (pt_val (fldQ K rfl (pv 0))) 
      (pss_one (ps_fld (pv 0) (listZipQ K rfl rfl rfl T.n_list rfl T.n_zip (pa_cons (fldQ K rfl (pv 0)) (pa_cons (pe_slice (slL K) (fldQ K rfl (pv 0)) (po_some pe_int) po_none) pa_nil))) rfl)) pss_nil) 
      (pss_cons (ps_if (pt_cmpR op_lt (pe_op op_add (pe_callB (lenQ K) rfl T.n_len (by decide +kernel) (pa_cons (fldQ K rfl (pv 0)) pa_nil)) pe_int) (pe_callB (lenQ K) rfl T.n_len (by decide +kernel) (pa_cons (fldQ K rfl (pv 0)) pa_nil)) (nomark _)) 
      (pss_one (ps_raise rfl (takes_of rfl rfl rfl rfl) (pmk_oex T.two_BadYard.oex T.two_BadYard.iC T.two_BadYard.tI G_BadYard_init (hr.mono (by decide)) b_BadYard_init .nil pass0 rfl T.g_BadYard (pa_cons (pv 1) (pa_cons pe_str pa_nil))))) pss_nil) 
      (pss_one (ps_fld (pv 0) pe_bl rfl)))), ?_⟩
    have few := S.few
    refine ⟨_, rfl, p, _, _, _, _, rfl, R.hp, T.cls_YardReader, T.a_YardReader_benches, rfl, _, .inl ⟨_, SqL.of R.hb, rfl⟩, ?_⟩
    by_cases hne : hs = []
    · subst hne
      refine iteT (B := False) ?_
      exact ⟨_, rfl, mkO_two fun d hd => kb (by unfold endY; rw [if_pos rfl]) _ d _ (same_new hd) hd upd_same (by decide +kernel)⟩
    · have e1 : (!(hs.map V.str).isEmpty) = true := by
        cases hs with
        | nil => exact absurd rfl hne
        | cons a l => rfl
      rw [e1]
      refine iteF (A := False) ?_
      refine ⟨fun σ' H' => σ' = [some (.ref p), some (.int line)] ∧ ∃ aw' as' es', Keeps (rft p ab aw ag) H H' ∧ RdA K H' p dx ab aw' ag c hs as' es' G false ∧ (aw' = aw ∨ H aw' = none) ∧ (c = true → es' = hs.zip hs.tail) ∧ (c = false → es' = es ∧ Same H H'), ?_, ?_⟩
      · refine ⟨_, rfl, p, _, _, _, _, rfl, R.hp, T.cls_YardReader, T.a_YardReader_course, rfl, _, rfl, ?_⟩
        cases c with
        | false =>
          refine iteF (A := False) ?_
          exact ⟨rfl, aw, as, es, Keeps.refl, R, .inl rfl, fun z => (by cases z), fun _ => ⟨rfl, Same.refl H⟩⟩
        | true =>
          refine iteT (B := False) ?_
          refine ⟨_, rfl, p, _, _, _, _, rfl, R.hp, T.cls_YardReader, T.a_YardReader_benches, rfl, _, rfl, p, _, _, _, _, rfl, R.hp, T.cls_YardReader, T.a_YardReader_benches, rfl, 1, rfl, ab, _, rfl, SqL.of R.hb, fun t ht => ?_⟩
          rw [cut_tail]
          have s1 : Same H (upd H t (.lst (hs.map V.str).tail)) := same_new ht
          have e1 : upd H t (.lst (hs.map V.str).tail) t = some (.lst (hs.map V.str).tail) := upd_same
          generalize upd H t _ = H1 at s1 e1 ⊢
          have R1 := R.same s1
          have etl : (hs.map V.str).tail = hs.tail.map V.str := by rw [List.map_tail]
          refine ⟨ab, t, _, _, rfl, .inl ⟨SqL.of R1.hb, SqL.of e1⟩, fun H2 l as2 s2 hl hn hnl el pr => ?_⟩
          rw [etl] at pr
          have W2 := zip_wires pr
          have R2 := R1.same s2
          have zl : H l = none := Same.free s1 hl
          have n1 : p ≠ l := ne_of_none R1.hp hl
          have n2 : ab ≠ l := ne_of_none R1.hb hl
          refine ⟨_, rfl, p, _, _, _, rfl, R2.hp, T.cls_YardReader, T.a_YardReader_wires, by show 5 < 1000; decide, ?_⟩
          refine ⟨rfl, l, as2, _, (Keeps.ofSame (Same.trans s1 s2)).upd (by simp [rft]), ?_, .inr zl, fun _ => rfl, fun z => (by cases z)⟩
          obtain ⟨m1, m2, m3, m4, m5, m6⟩ := R2.ne
          exact ⟨upd_same, by rw [upd_ne (Ne.symm m1)]; exact R2.hb, by rw [upd_ne (Ne.symm n1)]; exact el, by rw [upd_ne (Ne.symm m3)]; exact R2.hg, W2.keep (R2.tup (.inl rfl)), n2⟩
      · rintro σ' H1 ⟨rfl, aw', as', es', k, R1, haw, hc, hnc⟩
        have lw : (as'.map V.ref).length = es'.length := by rw [List.length_map]; exact R1.wt.1
        have lb : (hs.map V.str).length = hs.length := List.length_map _
        refine ⟨_, rfl, p, _, _, _, _, rfl, R1.hp, T.cls_YardReader, T.a_YardReader_wires, rfl, aw', _, rfl, .inl (SqL.of R1.hw), _, _, rfl, rfl, _, rfl, p, _, _, _, _, rfl, R1.hp, T.cls_YardReader, T.a_YardReader_benches, rfl, ab, _, rfl, .inl (SqL.of R1.hb), _, _, rfl, rfl, _, rfl, ?_⟩
        rw [lw, lb]
        have hlen : ∀ z : Prop, z → True := fun _ _ => trivial
        by_cases hd : c = true
        · have e' := hc hd
          have l1 : es'.length + 1 = hs.length := by
            rw [e', List.length_zip, List.length_tail]
            have : 0 < hs.length := List.length_pos_iff.mpr hne
            omega
          rw [decide_eq_false (show ¬ ((es'.length : Int) + 1 < (hs.length : Int)) by omega)]
          refine iteF (A := False) ?_
          refine ⟨_, rfl, p, _, _, _, rfl, R1.hp, T.cls_YardReader, T.a_YardReader_ended, by show 5 < 1000; decide, ?_⟩
          refine ko es' ?_ _ aw' as' (k.upd (by simp [rft])) R1.setE haw
          unfold endY
          rw [if_neg hne, if_pos hd, e']
        · have hd' : c = false := by simpa using hd
          obtain ⟨e', s1⟩ := hnc hd'
          by_cases hl : es.length + 1 < hs.length
          · rw [decide_eq_true (show ((es'.length : Int) + 1 < (hs.length : Int)) by rw [e']; omega)]
            refine iteT (B := False) ?_
            exact ⟨_, rfl, mkO_two fun d hd2 => kb (by unfold endY; rw [if_neg hne, if_neg hd, if_pos hl]) _ d _ (same_upd s1 (Same.free s1 hd2)) (Same.free s1 hd2) upd_same (by decide +kernel)⟩
          · rw [decide_eq_false (show ¬ ((es'.length : Int) + 1 < (hs.length : Int)) by rw [e']; omega)]
            refine iteF (A := False) ?_
            refine ⟨_, rfl, p, _, _, _, rfl, R1.hp, T.cls_YardReader, T.a_YardReader_ended, by show 5 < 1000; decide, ?_⟩
            refine ko es' ?_ _ aw' as' (k.upd (by simp [rft])) R1.setE haw
            unfold endY
            rw [if_neg hne, if_neg hd, if_neg hl, e']
end
end Yd
set_option Elab.async false
set_option linter.all false
set_option maxRecDepth 100000
set_option maxHeartbeats 8000000
namespace Yd
open PySem PySem.Spec PyProof.Rows L2 Xo
theorem strs_dp {K : PySem.W.Frag} {H : Hp} : ∀ l : List Str, DpAll K H (l.map V.str) (l.map PyData.str)
  | [] => .nil
  | x :: l => .cons (.str x) (strs_dp l)
theorem strs_sh {l : List Str} (h : ∀ x ∈ l, okS x) : SeqAt.shaped (.list (l.map PyData.str)) = true := by
  have h1 : PyData.canLayAll0 (l.map PyData.str) = true := by
    induction l with
    | nil => rfl
    | cons a l ih =>
      rw [List.map_cons]
      simp only [PyData.canLayAll0, PyData.canLay0, Bool.and_eq_true]
      exact ⟨h a List.mem_cons_self, ih fun x hx => h x (List.mem_cons_of_mem _ hx)⟩
  have h2 : PyData.depthAll (l.map PyData.str) = 0 := by
    clear h h1
    induction l with
    | nil => rfl
    | cons a l ih => rw [List.map_cons]; simp only [PyData.depthAll, PyData.depth, ih]; rfl
  show (PyData.canLay0 (.list _) && decide (PyData.depth (.list _) ≤ 64)) = true
  rw [Bool.and_eq_true]
  exact ⟨by simp only [PyData.canLay0]; exact h1, decide_eq_true (by simp only [PyData.depth, h2]; omega)⟩
theorem eqv_strs : ∀ l m : List Str, PyData.eqvAll (l.map PyData.str) (m.map PyData.str) = decide (l = m)
  | [], [] => rfl
  | [], _ :: _ => rfl
  | _ :: _, [] => rfl
  | x :: l, y :: m => by
    simp only [List.map_cons, PyData.eqvAll, PyData.eqv]
    rw [eqv_strs l m, Bool.eq_iff_iff]
    simp
theorem eq_strs {K : PySem.W.Frag} {H : Hp} {a b : Addr} {l m : List Str} {Q : VK} (ha : SqL K H a (l.map V.str)) (hb : SqL K H b (m.map V.str)) (hl : ∀ x ∈ l, okS x) (hm : ∀ x ∈ m, okS x) (q : Q (.bl (decide (l = m))) H) : rEqD K (.ref a) (.ref b) H Q :=
  ⟨.list (l.map PyData.str), .list (m.map PyData.str), .lst ha (strs_dp l), .lst hb (strs_dp m), strs_sh hl, strs_sh hm, by
    show Q (.bl (PyData.eqvAll _ _)) H
    rw [eqv_strs]; exact q⟩
theorem str_dec (x y : Str) : decide (V.str x = V.str y) = decide (x = y) := by
  by_cases c : x = y
  · rw [decide_eq_true c, decide_eq_true (congrArg V.str c)]
  · rw [decide_eq_false c, decide_eq_false fun z => c (V.str.inj z)]
theorem RMK.keep {K : PySem.W.Frag} {E : XK} {F : List Addr} {H H1 : Hp} {what : Str} {count : Int} (r : RMK K E F H what count) (k : Keeps F H H1) (n : ∀ d, H1 d = none → H d = none) : RMK K E F H1 what count := fun H' d k' z e => r H' d (k.trans k') (n d z) e
section
variable {P : Program} {w : World} {K : PySem.W.Frag} {mg : Str → Option Value} {base : Heap}
def spTake (K : PySem.W.Frag) : Sp := fun vs H Q E => ∃ (p dx ab aw ag wa : Addr) (c : Bool) (hs : List Str) (as : List Addr) (es : List Wr) (G : Str → Int) (en : Bool) (ws : List Str) (line : Int), vs = [.ref p, .ref wa, .int line] ∧ RdA K H p dx ab aw ag c hs as es G en ∧ RSt c hs es en ∧ (en = false → Grp hs es G) ∧
  H wa = some (.lst (ws.map V.str)) ∧ (∀ x ∈ ws, x.length ≤ 200000 ∧ okS x) ∧ ws.length ≤ 1000000 ∧
  (takeY c hs es en ws = .bad → RB K E H line) ∧ (takeY c hs es en ws = .many → RMK K E (rft p ab aw ag) H "benches" 14) ∧
  (∀ hs' es' en', takeY c hs es en ws = .ok hs' es' en' → ∀ (H' : Hp) (aw' : Addr) (as' : List Addr) (G' : Str → Int), Keeps (rft p ab aw ag) H H' → RdA K H' p dx ab aw' ag c hs' as' es' G' en' → (en' = false → Grp hs' es' G') → (aw' = aw ∨ H aw' = none) → Q .non H')
theorem sc_YardReader_take : FnScope ["self", "words", "line"] ["self", "words", "line"] (defScope s_YardReader_take) := ⟨rfl, rfl, rfl, by decide +kernel, rfl, by decide +kernel, by decide +kernel⟩
theorem good_take (T : Tx w K mg) : Good P w K mg base (L2.CX P w) 5 (He.ma K (He.ga K "YardReader") "take") ["self", "words", "line"] (spTake K) := by
  obtain ⟨fd, F⟩ := T.f_YardReader_take
  obtain ⟨_, G_BadYard_init, _, b_BadYard_init⟩ := good_BadYard (P := P) (w := w) (base := base) T
  obtain ⟨_, G_YardReader_add_bench, _, b_YardReader_add_bench⟩ := good_add_bench (P := P) (w := w) (base := base) T
  obtain ⟨_, G_YardReader_add_wire, _, b_YardReader_add_wire⟩ := good_add_wire (P := P) (w := w) (base := base) T
  obtain ⟨_, G_YardReader_end, _, b_YardReader_end⟩ := good_end (P := P) (w := w) (base := base) T
  refine ⟨fd, F.ok sc_YardReader_take (fun vs H Q E h => ?_) (fun cdv A outer s H vs Q E hr h => ?_), F.kp, F.bindsN fun _ _ _ _ _ _ us hl => match us, hl with | [_, _, _], _ => rfl⟩
  · obtain ⟨_, _, _, _, _, _, _, _, _, _, _, _, _, _, rfl, _⟩ := h
    rfl
  · obtain ⟨p, dx, ab, aw, ag, wa, c, hs, as, es, G, en, ws, line, rfl, R, S, GR, hw, hwl, hwn, kb, km, ko⟩ := h
    have SC := sc_YardReader_take
    have hu := hu_of hr
    refine ⟨_, pss_cons (ps_if (pt_val (fldQ K rfl (pv 0))) 
      (pss_one (ps_raise rfl (takes_of rfl rfl rfl rfl) (pmk_oex T.two_BadYard.oex T.two_BadYard.iC T.two_BadYard.tI G_BadYard_init (hr.mono (by decide)) b_BadYard_init .nil pass0 rfl T.g_BadYard (pa_cons (pv 2) (pa_cons pe_str pa_nil))))) pss_nil) 
      (pss_one (ps_if (pt_cmpR (eqQ K rfl hr.units) (pv 1) (pe_lst (pa_cons pe_str pa_nil)) (nomark _)) 
      (pss_one (ps_expr (pe_meth (pv 0) T.cls_YardReader T.m_YardReader_end G_YardReader_end (hr.mono (by decide)) b_YardReader_end .nil (passes_call (takes_of rfl rfl rfl rfl) (fun _ _ _ _ h => h)) (pa_cons (pv 2) pa_nil)))) 
      (pss_one (ps_if (PW.pt (pw_and (pt_cmpR op_eq (pe_callB (lenQ K) rfl T.n_len (by decide +kernel) (pa_cons (pv 1) pa_nil)) pe_int (nomark _)) (pw_and1 (pt_cmpR op_eq (pe_ix (ixL K) (pv 1) pe_int (fun _ _ => rfl)) (pe_ifExp (pt_val (fldQ K rfl (pv 0))) pe_str pe_str) (nomark _))))) 
      (pss_one (ps_expr (pe_meth (pv 0) T.cls_YardReader T.m_YardReader_add_bench G_YardReader_add_bench (hr.mono (by decide)) b_YardReader_add_bench .nil (passes_call (takes_of rfl rfl rfl rfl) (fun _ _ _ _ h => h)) (pa_cons (pe_ix (ixL K) (pv 1) pe_int (fun _ _ => rfl)) (pa_cons (pv 2) pa_nil))))) 
      (pss_one (ps_if (PW.pt (pw_and (pt_cmpR op_eq (pe_callB (lenQ K) rfl T.n_len (by decide +kernel) (pa_cons (pv 1) pa_nil)) pe_int (nomark _)) (pw_and (pt_cmpR op_eq (pe_ix (ixL K) (pv 1) pe_int (fun _ _ => rfl)) pe_str (nomark _)) (pw_and1 (pt_not (pt_val (fldQ K rfl (pv 0)))))))) 
      (pss_one (ps_expr (pe_meth (pv 0) T.cls_YardReader T.m_YardReader_add_wire G_YardReader_add_wire (hr.mono (by decide)) b_YardReader_add_wire .nil (passes_call (takes_of rfl rfl rfl rfl) (fun _ _ _ _ h => h)) (pa_cons (pe_ix (ixL K) (pv 1) pe_int (fun _ _ => rfl)) (pa_cons (pe_ix (ixL K) (pv 1) pe_int (fun _ _ => rfl)) (pa_cons (pv 2) pa_nil)))))) 
      (pss_one (ps_raise rfl (takes_of rfl rfl rfl rfl) (pmk_oex T.two_BadYard.oex T.two_BadYard.iC T.two_BadYard.tI G_BadYard_init (hr.mono (by decide)) b_BadYard_init .nil pass0 rfl T.g_BadYard (pa_cons (pv 2) (pa_cons pe_str pa_nil))))))))))), ?_⟩
    have bad : takeY c hs es en ws = .bad → ∀ (H1 : Hp), Same H H1 → ∀ (m : Str), (m == Str.empty) = false → ∀ d, H1 d = none → E (.ref (He.ga K "BadYard")) (some d) (upd H1 d (.xd [("why", .str m), ("line", .int line)])) :=
      fun e H1 s1 m hm d hd => kb e _ d _ (same_upd s1 (Same.free s1 hd)) (Same.free s1 hd) upd_same hm
    refine ⟨_, rfl, p, _, _, _, _, rfl, R.hp, T.cls_YardReader, T.a_YardReader_ended, rfl, _, rfl, ?_⟩
    cases en with
    | true =>
      refine iteT (B := False) ?_
      exact ⟨_, rfl, mkO_two fun d hd => bad (by unfold takeY; rfl) H (Same.refl H) _ (by decide +kernel) d hd⟩
    | false =>
      refine iteF (A := False) ?_
      have GR := GR rfl
      refine ⟨_, rfl, by show 1 ≤ sizeLine; decide, fun t ht => ?_⟩
      have s1 : Same H (upd H t (.lst [.str "done"])) := same_new ht
      have e1 : upd H t (.lst [.str "done"]) t = some (.lst [.str "done"]) := upd_same
      generalize upd H t _ = H1 at s1 e1 ⊢
      have R1 := R.same s1
      have hw1 : SqL K H1 wa (ws.map V.str) := SqL.of (s1 _ _ hw)
      have F1 : ∀ d, H1 d = none → H d = none := fun d hd => Same.free s1 hd
      refine eq_strs hw1 (m := [("done" : Str)]) (SqL.of e1) (fun x hx => (hwl x hx).2) (fun x hx => by rw [List.mem_singleton.mp hx]; show PyData.strOk _ = true; decide +kernel) ?_
      refine ⟨_, rfl, ?_⟩
      by_cases hd : ws = [("done" : Str)]
      · rw [decide_eq_true hd]
        refine iteT (B := False) ?_
        have et : takeY c hs es false ws = endY c hs es := by unfold takeY; rw [if_neg (by simp), if_pos hd]
        refine ⟨_, rfl, p, dx, _, rfl, R1.hp, rfl, _, rfl, p, dx, ab, aw, ag, c, hs, as, es, G, line, rfl, R1, S, fun z => (kb (et.trans z)).same s1, fun es' z H' aw' as' k R' ha => ?_⟩
        exact ko hs es' true (et.trans z) H' aw' as' G ((Keeps.ofSame s1).trans k) R' (fun z => by cases z) (ha.imp id fun z => F1 _ z)
      · rw [decide_eq_false hd]
        refine iteF (A := False) ?_
        have lw : (ws.map V.str).length = ws.length := List.length_map _
        refine ⟨_, rfl, wa, _, rfl, .inl hw1, rfl, _, rfl, ?_⟩
        rw [lw]
        by_cases l2 : ws.length = 2
        · rw [decide_eq_true (show V.int (ws.length : Int) = V.int 2 by rw [l2]; rfl)]
          refine iteT (B := False) ?_
          obtain ⟨k, x, rfl⟩ : ∃ k x, ws = [k, x] := by
            match ws, l2 with
            | [k, x], _ => exact ⟨k, x, rfl⟩
          have et : takeY c hs es false [k, x] = if k = kwY c then benchY hs es x else .bad := by unfold takeY; rw [if_neg (by simp), if_neg hd]
          refine ⟨_, rfl, wa, _, 0, _, rfl, rfl, hw1, rfl, _, rfl, p, _, _, _, _, rfl, R1.hp, T.cls_YardReader, T.a_YardReader_course, rfl, _, rfl, ?_⟩
          have fin : ∀ kw : Str, kw = kwY c → ∀ {A B : Prop}, (k = kwY c → A) → (k ≠ kwY c → B) → if decide (V.str k = V.str kw) = true then A else B := fun kw e A B hA hB => by
            rw [str_dec]
            by_cases hk : k = kw
            · rw [decide_eq_true hk, if_pos rfl]; exact hA (hk.trans e)
            · rw [decide_eq_false hk, if_neg (by simp)]; exact hB (e ▸ hk)
          have pos : k = kwY c → takeY c hs es false [k, x] = benchY hs es x := fun z => by rw [et, if_pos z]
          have neg : k ≠ kwY c → takeY c hs es false [k, x] = .bad := fun z => by rw [et, if_neg z]
          cases c with
          | true =>
            refine iteT (B := False) ⟨rfl, _, rfl, fin _ rfl (fun hk => ?_) fun hk => iteF (A := False) ?_⟩
            · refine ⟨_, rfl, p, dx, _, rfl, R1.hp, rfl, _, rfl, wa, _, 1, _, rfl, rfl, hw1, rfl, _, rfl, p, dx, ab, aw, ag, true, hs, as, es, G, x, line, rfl, R1, S, GR, (hwl x (by simp)).1, fun z => (kb ((pos hk).trans z)).same s1, fun z => (km ((pos hk).trans z)).keep (Keeps.ofSame s1) F1, fun z H' G' k R' GR' => ?_⟩
              exact ko _ _ false ((pos hk).trans z) H' aw as G' ((Keeps.ofSame s1).trans k) R' (fun _ => GR') (.inl rfl)
            · refine ⟨_, rfl, wa, _, rfl, .inl hw1, rfl, _, rfl, ?_⟩
              rw [decide_eq_false (show ¬ V.int (([k, x].map V.str).length : Int) = V.int 3 from fun z => absurd (V.int.inj z) (show ¬ ((2 : Int) = 3) by decide))]
              exact iteF (A := False) (iteF (A := False) ⟨_, rfl, mkO_two fun d hd' => bad (neg hk) H1 s1 _ (by decide +kernel) d hd'⟩)
          | false =>
            refine iteF (A := False) ⟨rfl, _, rfl, fin _ rfl (fun hk => ?_) fun hk => iteF (A := False) ?_⟩
            · refine ⟨_, rfl, p, dx, _, rfl, R1.hp, rfl, _, rfl, wa, _, 1, _, rfl, rfl, hw1, rfl, _, rfl, p, dx, ab, aw, ag, false, hs, as, es, G, x, line, rfl, R1, S, GR, (hwl x (by simp)).1, fun z => (kb ((pos hk).trans z)).same s1, fun z => (km ((pos hk).trans z)).keep (Keeps.ofSame s1) F1, fun z H' G' k R' GR' => ?_⟩
              exact ko _ _ false ((pos hk).trans z) H' aw as G' ((Keeps.ofSame s1).trans k) R' (fun _ => GR') (.inl rfl)
            · refine ⟨_, rfl, wa, _, rfl, .inl hw1, rfl, _, rfl, ?_⟩
              rw [decide_eq_false (show ¬ V.int (([k, x].map V.str).length : Int) = V.int 3 from fun z => absurd (V.int.inj z) (show ¬ ((2 : Int) = 3) by decide))]
              exact iteF (A := False) (iteF (A := False) ⟨_, rfl, mkO_two fun d hd' => bad (neg hk) H1 s1 _ (by decide +kernel) d hd'⟩)
        · rw [decide_eq_false (show ¬ V.int (ws.length : Int) = V.int 2 from fun z => l2 (by have := V.int.inj z; omega))]
          refine iteF (A := False) ?_
          refine iteF (A := False) ?_
          refine ⟨_, rfl, wa, _, rfl, .inl hw1, rfl, _, rfl, ?_⟩
          rw [lw]
          by_cases l3 : ws.length = 3
          · rw [decide_eq_true (show V.int (ws.length : Int) = V.int 3 by rw [l3]; rfl)]
            refine iteT (B := False) ?_
            obtain ⟨k, a, b, rfl⟩ : ∃ k a b, ws = [k, a, b] := by
              match ws, l3 with
              | [k, a, b], _ => exact ⟨k, a, b, rfl⟩
            have et : takeY c hs es false [k, a, b] = if k = ("wire" : Str) ∧ c = false then wireY hs es a b else .bad := by unfold takeY; rw [if_neg (by simp), if_neg hd]
            refine ⟨_, rfl, wa, _, 0, _, rfl, rfl, hw1, rfl, rfl, _, rfl, ?_⟩
            rw [str_dec]
            by_cases hk : k = ("wire" : Str)
            · rw [decide_eq_true hk]
              refine iteT (B := False) ⟨_, rfl, p, _, _, _, _, rfl, R1.hp, T.cls_YardReader, T.a_YardReader_course, rfl, _, rfl, ?_⟩
              cases c with
              | true =>
                refine iteF (A := False) ?_
                exact ⟨_, rfl, mkO_two fun d hd' => bad (by rw [et, if_neg (by simp)]) H1 s1 _ (by decide +kernel) d hd'⟩
              | false =>
                have et : takeY false hs es false [k, a, b] = wireY hs es a b := by rw [et, if_pos ⟨hk, rfl⟩]
                refine iteT (B := False) ?_
                refine ⟨_, rfl, p, dx, _, rfl, R1.hp, rfl, _, rfl, wa, _, 1, _, rfl, rfl, hw1, rfl, _, rfl, wa, _, 2, _, rfl, rfl, hw1, rfl, _, rfl, p, dx, ab, aw, ag, hs, as, es, G, a, b, line, rfl, R1, S, GR, fun z => (kb (et.trans z)).same s1, fun z H' G' as' k R' GR' => ?_⟩
                exact ko hs _ false (et.trans z) H' aw as' G' ((Keeps.ofSame s1).trans k) R' (fun _ => GR') (.inl rfl)
            · rw [decide_eq_false hk]
              refine iteF (A := False) (iteF (A := False) ?_)
              exact ⟨_, rfl, mkO_two fun d hd' => bad (by rw [et, if_neg (fun z => hk z.1)]) H1 s1 _ (by decide +kernel) d hd'⟩
          · rw [decide_eq_false (show ¬ V.int (ws.length : Int) = V.int 3 from fun z => l3 (by have := V.int.inj z; omega))]
            refine iteF (A := False) (iteF (A := False) ?_)
            refine ⟨_, rfl, mkO_two fun d hd' => bad ?_ H1 s1 _ (by decide +kernel) d hd'⟩
            unfold takeY
            rw [if_neg (by simp), if_neg hd]
            match ws, l2, l3 with
            | [], _, _ => rfl
            | [_], _, _ => rfl
            | [_, _], l2, _ => exact absurd rfl l2
            | [_, _, _], _, l3 => exact absurd rfl l3
            | _ :: _ :: _ :: _ :: _, _, _ => rfl
end
end Yd
set_option Elab.async false
set_option linter.all false
set_option maxRecDepth 100000
set_option maxHeartbeats 8000000
namespace Yd
open PySem PySem.Spec PyProof.Rows L2 Xo
inductive RdO where
  | bad (line : Int)
  | many (what : Str) (n : Int)
  | ok (c : Bool) (hs : List Str) (es : List Wr)
def goY (c : Bool) : List Str → Nat → List Str → List Wr → Bool → RdO
  | [], k, hs, es, en => if en = true then .ok c hs es else .bad ((k : Int) + 1)
  | r :: rs, k, hs, es, en => match takeY c hs es en (Txt.split r " ") with
    | .bad => .bad ((k : Int) + 1)
    | .many => .many "benches" 14
    | .ok hs' es' en' => goY c rs (k + 1) hs' es' en'
def rowsY (rows : List Str) : RdO := match rows with
  | [] => .bad 1
  | r :: rs => if r ≠ ("yard" : Str) ∧ r ≠ ("course" : Str) then .bad 1 else goY (decide (r = ("course" : Str))) rs 1 [] [] false
def readY (x : Str) : RdO := if 120000 < x.length then .many "text" 120000 else rowsY (Txt.split x "\n")
section
variable {P : Program} {w : World} {K : PySem.W.Frag} {mg : Str → Option Value} {base : Heap}
def spRead (K : PySem.W.Frag) : Sp := fun vs H Q E => ∃ v, vs = [v] ∧ ((∃ n, TyX K H v (.type n) ∧ kitB n "str" = some false ∧ RB K E H 0) ∨
  ∃ x, v = .str x ∧ okS x ∧ x.length ≤ 1000000 ∧ (∀ line, readY x = .bad line → RB K E H line) ∧ (∀ what n, readY x = .many what n → RM K E H what n) ∧
  (∀ c hs es, readY x = .ok c hs es → ∀ (H' : Hp) (p dx ab aw ag : Addr) (as : List Addr) (G : Str → Int), Same H H' → RdA K H' p dx ab aw ag c hs as es G true → RSt c hs es true → Q (.ref p) H'))
theorem sc_read_yard : FnScope ["text", "lines", "reader", "at"] ["text"] (defScope s_read_yard) := ⟨rfl, rfl, rfl, by decide +kernel, rfl, by decide +kernel, by decide +kernel⟩
theorem good_read (T : Tx w K mg) : Good P w K mg base (L2.CX P w) 6 (He.ga K "read_yard") ["text"] (spRead K) := by
  obtain ⟨fd, F⟩ := T.f_read_yard
  obtain ⟨_, G_BadYard_init, _, b_BadYard_init⟩ := good_BadYard (P := P) (w := w) (base := base) T
  obtain ⟨_, G_text_lines, k_text_lines, b_text_lines⟩ := good_text_lines (P := P) (w := w) (base := base) T
  obtain ⟨_, G_YardReader_init, _, b_YardReader_init⟩ := good_RInit (P := P) (w := w) (base := base) T
  obtain ⟨_, G_YardReader_take, _, b_YardReader_take⟩ := good_take (P := P) (w := w) (base := base) T
  refine ⟨fd, F.ok sc_read_yard (fun vs H Q E h => ?_) (fun cdv A outer s H vs Q E hr h => ?_), F.kp, F.bindsN fun _ _ _ _ _ _ us hl => match us, hl with | [_], _ => rfl⟩
  · obtain ⟨_, rfl, _⟩ := h
    rfl
  · obtain ⟨v, rfl, hv⟩ := h
    have SC := sc_read_yard
    have hu := hu_of hr
    refine ⟨_, pss_cons (ps_if (pt_not (pt_val (pe_callB (isiQ K) rfl T.n_isinstance (by decide +kernel) (pa_cons (pv 0) (pa_cons (pe_bltn (v := .ty "str") (u := .type "str") rfl T.n_str (by decide +kernel) rfl) pa_nil))))) 
      (pss_one (ps_raise rfl (takes_of rfl rfl rfl rfl) (pmk_oex T.two_BadYard.oex T.two_BadYard.iC T.two_BadYard.tI G_BadYard_init (hr.mono (by decide)) b_BadYard_init .nil pass0 rfl T.g_BadYard (pa_cons pe_int (pa_cons pe_str pa_nil))))) pss_nil) 
      (pss_cons (ps_set (i := 1) SC.nd rfl (by first | exact Or.inl rfl | exact Or.inr rfl) (pe_call G_text_lines (hr.mono (by decide)) rfl T.g_text_lines k_text_lines b_text_lines .nil (passes_call (takes_of rfl rfl rfl rfl) (fun _ _ _ _ h => h)) (pa_cons (pv 0) pa_nil))) 
      (Evl.pss_cut (ps_if (PW.pt (pw_and (pt_cmpR op_ne (pe_ix (ixL K) (pv 1) pe_int (fun _ _ => rfl)) pe_str (nomark _)) (pw_and1 (pt_cmpR op_ne (pe_ix (ixL K) (pv 1) pe_int (fun _ _ => rfl)) pe_str (nomark _))))) 
      (pss_one (ps_raise rfl (takes_of rfl rfl rfl rfl) (pmk_oex T.two_BadYard.oex T.two_BadYard.iC T.two_BadYard.tI G_BadYard_init (hr.mono (by decide)) b_BadYard_init .nil pass0 rfl T.g_BadYard (pa_cons pe_int (pa_cons pe_str pa_nil))))) pss_nil) 
      (pss_cons (ps_set (i := 2) SC.nd rfl (by first | exact Or.inl rfl | exact Or.inr rfl) (pe_make T.mk_YardReader G_YardReader_init (hr.mono (by decide)) rfl T.g_YardReader b_YardReader_init .nil pass0 (pa_cons (pe_cmpR op_eq (pe_ix (ixL K) (pv 1) pe_int (fun _ _ => rfl)) pe_str (nomark _)) pa_nil))) 
      (pss_cons (ps_for (passes_of rfl) rfl (pi_range2 rfl T.n_range (pa_cons pe_int (pa_cons (pe_callB (lenQ K) rfl T.n_len (by decide +kernel) (pa_cons (pv 1) pa_nil)) pa_nil))) (pg_name (i := 3) SC.nd rfl (by first | exact Or.inl rfl | exact Or.inr rfl)) 
      (pss_one (ps_expr (pe_meth (pv 2) T.cls_YardReader T.m_YardReader_take G_YardReader_take (hr.mono (by decide)) b_YardReader_take .nil (passes_call (takes_of rfl rfl rfl rfl) (fun _ _ _ _ h => h)) (pa_cons (pe_split (pe_ix (ixL K) (pv 1) (pv 3) (fun _ _ => rfl)) pe_str) (pa_cons (pe_op op_add (pv 3) pe_int) pa_nil)))))) 
      (pss_cons (ps_if (pt_not (pt_val (fldQ K rfl (pv 2)))) 
      (pss_one (ps_raise rfl (takes_of rfl rfl rfl rfl) (pmk_oex T.two_BadYard.oex T.two_BadYard.iC T.two_BadYard.tI G_BadYard_init (hr.mono (by decide)) b_BadYard_init .nil pass0 rfl T.g_BadYard (pa_cons (pe_op op_add (pe_callB (lenQ K) rfl T.n_len (by decide +kernel) (pa_cons (pv 1) pa_nil)) pe_int) (pa_cons pe_str pa_nil))))) pss_nil) 
      (pss_one (ps_ret (pv 2)))))))), ?_⟩
    rcases hv with ⟨n, ty, hk, kb⟩ | ⟨x, rfl, hx, hlx, kb, km, ko⟩
    · refine ⟨_, rfl, _, _, _, _, _, rfl, .ty _, ty, kit_ty hk, _, rfl, ?_⟩
      refine iteT (B := False) ?_
      exact mkO_two fun d hd => kb _ d _ (same_new hd) hd upd_same (by decide +kernel)
    · refine ⟨_, rfl, _, _, _, _, _, rfl, .ty _, .base (.str x), kit_ty (r := true) (by decide +kernel), _, rfl, iteF (A := False) ?_⟩
      refine ⟨_, rfl, x, rfl, hlx, fun hle lp H1 hlp s1 e1 => ?_, fun hlt => km _ _ (by unfold readY; rw [if_pos hlt])⟩
      have hle' : ¬ 120000 < x.length := by omega
      have er : readY x = rowsY (Txt.split x "\n") := by unfold readY; rw [if_neg hle']
      have hps : ∀ q ∈ Txt.split x "\n", q.length ≤ 200000 ∧ okS q := fun q hq => ⟨by have := split_part hq; omega, split_ok sep_nl hx hq⟩
      have hrn := (split_len (x := x) sep_nl)
      generalize Txt.split x "\n" = rows at er hps hrn e1
      obtain ⟨r, rs, rfl⟩ : ∃ r rs, rows = r :: rs := by
        cases rows with
        | nil => exact absurd rfl hrn.2
        | cons r rs => exact ⟨r, rs, rfl⟩
      have hlen : (r :: rs).length ≤ x.length + 1 := hrn.1
      have F1 : ∀ d, H1 d = none → H d = none := fun d hd => Same.free s1 hd
      have first : (r = ("yard" : Str) ∨ r = ("course" : Str)) → readY x = goY (decide (r = ("course" : Str))) rs 1 [] [] false := fun z => by
        rw [er]
        show (if r ≠ ("yard" : Str) ∧ r ≠ ("course" : Str) then _ else _) = _
        rw [if_neg (fun q => z.elim q.1 q.2)]
      refine ⟨fun σ' H' => σ' = [some (.str x), some (.ref lp), none, none] ∧ H' = H1 ∧ (r = ("yard" : Str) ∨ r = ("course" : Str)), ?_, ?_⟩
      · refine ⟨_, rfl, lp, _, 0, _, rfl, rfl, SqL.of e1, at_zero _ _, rfl, _, rfl, ?_⟩
        rw [str_dec]
        by_cases hy : r = ("yard" : Str)
        · rw [decide_eq_true hy]
          exact iteF (A := False) (iteF (A := False) ⟨rfl, rfl, .inl hy⟩)
        · rw [decide_eq_false hy]
          refine iteT (B := False) ⟨_, rfl, lp, _, 0, _, rfl, rfl, SqL.of e1, at_zero _ _, rfl, _, rfl, ?_⟩
          rw [str_dec]
          by_cases hc : r = ("course" : Str)
          · rw [decide_eq_true hc]
            exact iteF (A := False) ⟨rfl, rfl, .inr hc⟩
          · rw [decide_eq_false hc]
            refine iteT (B := False) (mkO_two fun d hd => kb 1 ?_ _ d _ (same_upd s1 (F1 d hd)) (F1 d hd) upd_same (by decide +kernel))
            rw [er]
            show (if r ≠ ("yard" : Str) ∧ r ≠ ("course" : Str) then _ else _) = _
            rw [if_pos ⟨hy, hc⟩]
      · rintro σ' H' ⟨rfl, rfl, hyc⟩
        have er := first hyc
        refine ⟨_, rfl, lp, _, 0, _, rfl, rfl, SqL.of e1, at_zero _ _, rfl, fun p dx hp hdx hne => ?_⟩
        rw [str_dec]
        generalize decide (r = ("course" : Str)) = c at er ⊢
        have np : lp ≠ p := ne_of_none e1 hp
        have nd : lp ≠ dx := ne_of_none e1 hdx
        have hpu : upd (upd H' dx (.own p)) p (.ins (He.ga K "YardReader") dx []) p = some (.ins (He.ga K "YardReader") dx []) := upd_same
        have el : upd (upd H' dx (.own p)) p (.ins (He.ga K "YardReader") dx []) lp = some (.lst ((r :: rs).map V.str)) := by rw [upd_ne np, upd_ne nd]; exact e1
        have s2 : Same H (upd (upd H' dx (.own p)) p (.ins (He.ga K "YardReader") dx [])) := same_upd (same_upd s1 (F1 _ hdx)) (F1 _ hp)
        have F2 : ∀ d, upd (upd H' dx (.own p)) p (.ins (He.ga K "YardReader") dx []) d = none → H d = none := fun d hd => Same.free s2 hd
        have hpz : H p = none := F1 _ hp
        generalize upd (upd H' dx (.own p)) p _ = H2 at hpu el s2 F2 ⊢
        refine ⟨p, dx, c, rfl, hpu, fun ab aw ag H3 G R k3 hab haw hag => ⟨rfl, ?_⟩⟩
        have s3 : Same H H3 := fun a o e => k3 a o (s2 a o e) (by rw [List.mem_singleton]; rintro rfl; rw [hpz] at e; cases e)
        have el3 : H3 lp = some (.lst ((r :: rs).map V.str)) := k3 _ _ el (by rw [List.mem_singleton]; exact np)
        have nab : lp ≠ ab := ne_of_none el hab
        have naw : lp ≠ aw := ne_of_none el haw
        have lr : ((r :: rs).map V.str).length = rs.length + 1 := by rw [List.length_map]; rfl
        have ln : rs.length + 1 ≤ x.length + 1 := hlen
        refine ⟨_, rfl, lp, _, rfl, .inl (SqL.of el3), 1, _, rfl, ⟨by decide, by decide, by rw [lr]; omega, by rw [lr]; omega⟩, ?_⟩
        rw [lr, show (((rs.length + 1 : Nat) : Int) - 1).toNat = rs.length by omega]
        refine for_range (lo := 1) (n := rs.length) (fun i σ H' => ∃ (v : Option V) (aw : Addr) (hs : List Str) (as : List Addr) (es : List Wr) (G : Str → Int) (en : Bool), σ = [some (.str x), some (.ref lp), some (.ref p), v] ∧ Same H H' ∧ H' lp = some (.lst ((r :: rs).map V.str)) ∧
          RdA K H' p dx ab aw ag c hs as es G en ∧ RSt c hs es en ∧ (en = false → Grp hs es G) ∧ (H p = none ∧ H ab = none ∧ H aw = none ∧ H ag = none) ∧ lp ≠ aw ∧ readY x = goY c (rs.drop i) (i + 1) hs es en) ?_ ?_ ?_
        · exact ⟨_, aw, [], [], [], G, false, rfl, s3, el3, R, RSt.new, fun _ => ⟨fun a h => by simp at h, fun a h => by simp at h⟩, ⟨hpz, F2 _ hab, F2 _ haw, F2 _ hag⟩, naw, er⟩
        · rintro i σ H' hi ⟨v, aw, hs, as, es, G, en, rfl, s, el, R, S, GR, ⟨z1, z2, z3, z4⟩, nw, e⟩
          obtain ⟨y, hy⟩ : ∃ y, rs[i]? = some y := ⟨_, List.getElem?_eq_getElem hi⟩
          have hy1 : ((r :: rs).map V.str)[i + 1]? = some (.str y) := by rw [List.getElem?_map, List.getElem?_cons_succ, hy]; rfl
          have ex : rs.drop i = y :: rs.drop (i + 1) := by
            rw [List.drop_eq_getElem_cons hi]
            rw [List.getElem?_eq_getElem hi] at hy
            rw [Option.some.inj hy]
          have hym := hps y (List.mem_cons_of_mem _ (List.mem_of_getElem? hy))
          have ec : (1 : Int) + (i : Nat) = ((i + 1 : Nat) : Int) := by omega
          rw [ex] at e
          have np := ne_of R.hp el (by intro z; cases z)
          have ng := ne_of R.hg el (by intro z; cases z)
          refine ⟨_, rfl, p, dx, _, rfl, R.hp, rfl, _, rfl, _, rfl, lp, _, _, _, rfl, rfl, SqL.of el, (by rw [ec]; exact atI_nat hy1), ⟨_, rfl⟩, y, " ", rfl, rfl, by decide +kernel, by rw [sizeLine_eq]; omega, fun wa hwa => ?_⟩
          have s4 : Same H' (upd H' wa (.lst ((Txt.split y " ").map V.str))) := same_new hwa
          have ew : upd H' wa (.lst ((Txt.split y " ").map V.str)) wa = some (.lst ((Txt.split y " ").map V.str)) := upd_same
          generalize upd H' wa _ = H4 at s4 ew ⊢
          have R4 := R.same s4
          have s5 := Same.trans s s4
          have rfn : ∀ a ∈ rft p ab aw ag, H a = none := fun a m => by
            simp only [rft, List.mem_cons, List.mem_nil_iff, or_false] at m
            rcases m with rfl | rfl | rfl | rfl <;> assumption
          refine ⟨_, rfl, _, _, rfl, rfl, p, dx, ab, aw, ag, wa, c, hs, as, es, G, en, Txt.split y " ", _, rfl, R4, S, GR, ew, fun q hq => ⟨by have := split_part hq; omega, split_ok sep_sp hym.2 hq⟩, by have := (split_len (x := y) sep_sp).1; omega, fun et => ?_, fun et => ?_, fun hs' es' en' et H5 aw' as' G' k5 R5 GR5 ha => ?_⟩
          · have : readY x = .bad (((i + 1 : Nat) : Int) + 1) := by rw [e]; unfold goY; rw [et]
            have q := kb _ this
            rw [ec]
            exact q.same s5
          · have : readY x = .many "benches" 14 := by rw [e]; unfold goY; rw [et]
            intro H6 d k6 hd ed
            exact km _ _ this H6 d (fun a o q => k6 a o (s5 a o q) fun m => by rw [rfn a m] at q; cases q) (Same.free s5 hd) ed
          · have s6 : Same H H5 := fun a o q => k5 a o (s5 a o q) fun m => by rw [rfn a m] at q; cases q
            refine ⟨_, aw', hs', as', es', G', en', rfl, s6, ?_, R5, S.next et, GR5, ⟨z1, z2, ?_, z4⟩, ?_, ?_⟩
            · refine k5 _ _ (s4 _ _ el) fun m => ?_
              simp only [rft, List.mem_cons, List.mem_nil_iff, or_false] at m
              rcases m with m | m | m | m
              · exact np m.symm
              · exact nab m
              · exact nw m
              · exact ng m.symm
            · rcases ha with rfl | ha
              · exact z3
              · exact Same.free s5 ha
            · rcases ha with rfl | ha
              · exact nw
              · rintro rfl
                rw [s4 _ _ el] at ha
                cases ha
            · rw [e]
              conv => lhs; unfold goY
              rw [et]
        · rintro σ H' ⟨v, aw, hs, as, es, G, en, rfl, s, el, R, S, GR, zz, nw, e⟩
          rw [List.drop_length] at e
          refine ⟨_, rfl, p, _, _, _, _, rfl, R.hp, T.cls_YardReader, T.a_YardReader_ended, rfl, _, rfl, ?_⟩
          cases en with
          | true =>
            refine iteF (A := False) ?_
            exact ⟨_, rfl, ko c hs es (by rw [e]; rfl) H' p dx ab aw ag as G s R S⟩
          | false =>
            refine iteT (B := False) ?_
            refine ⟨_, rfl, lp, _, rfl, .inl (SqL.of el), _, _, rfl, rfl, mkO_two fun d hd => ?_⟩
            rw [lr]
            exact kb _ (by rw [e]; rfl) _ d _ (same_upd s (Same.free s hd)) (Same.free s hd) upd_same (by decide +kernel)
end
end Yd
set_option Elab.async false
set_option linter.all false
set_option maxRecDepth 100000
set_option maxHeartbeats 8000000
namespace Yd
open PySem PySem.Spec PyProof.Rows L2 Xo
def rowsT (c : Bool) (hs : List Str) (es : List Wr) : List Str :=
  (if c = true then [("course" : Str)] ++ hs.map (fun h => ("moment " : Str) ++ h) else ([("yard" : Str)] ++ hs.map (fun h => ("bench " : Str) ++ h)) ++ es.map (fun e => ("wire " : Str) ++ e.1 ++ (" " : Str) ++ e.2)) ++ [("done" : Str)]
def yardT (c : Bool) (hs : List Str) (es : List Wr) : Str := Txt.join "\n" (rowsT c hs es)
structure Sml (hs : List Str) (es : List Wr) : Prop where
  hn : hs.length ≤ 30
  en : es.length ≤ 30
  hl : ∀ h ∈ hs, h.length ≤ 100
  el : ∀ e ∈ es, e.1.length ≤ 100 ∧ e.2.length ≤ 100
theorem str_len (a b : Str) : (a ++ b).length = a.length + b.length := PySem.strLen_append a b
theorem rows_le {c : Bool} {hs : List Str} {es : List Wr} (S : Sml hs es) : ∀ r ∈ rowsT c hs es, r.length ≤ 300 := by
  have k1 : ("moment " : Str).length = 7 := by decide +kernel
  have k2 : ("bench " : Str).length = 6 := by decide +kernel
  have k3 : ("wire " : Str).length = 5 := by decide +kernel
  have k4 : (" " : Str).length = 1 := by decide +kernel
  have hd : ("done" : Str).length = 4 := by decide +kernel
  have hy : ("yard" : Str).length = 4 := by decide +kernel
  have hc : ("course" : Str).length = 6 := by decide +kernel
  intro r hr
  unfold rowsT at hr
  rcases List.mem_append.mp hr with hr | hr
  · cases c with
    | true =>
      rw [if_pos rfl] at hr
      rcases List.mem_append.mp hr with hr | hr
      · rw [List.mem_singleton.mp hr]; omega
      · obtain ⟨h, hm, rfl⟩ := List.mem_map.mp hr
        have := S.hl h hm
        rw [str_len]; omega
    | false =>
      rw [if_neg (by simp)] at hr
      rcases List.mem_append.mp hr with hr | hr
      · rcases List.mem_append.mp hr with hr | hr
        · rw [List.mem_singleton.mp hr]; omega
        · obtain ⟨h, hm, rfl⟩ := List.mem_map.mp hr
          have := S.hl h hm
          rw [str_len]; omega
      · obtain ⟨e, hm, rfl⟩ := List.mem_map.mp hr
        have := S.el e hm
        rw [str_len, str_len, str_len]; omega
  · rw [List.mem_singleton.mp hr]; omega
theorem sum_le : ∀ l : List Str, (∀ r ∈ l, r.length ≤ 300) → (l.map (·.length)).sum ≤ l.length * 300
  | [], _ => by simp
  | a :: l, h => by
    have h1 := h a List.mem_cons_self
    have h2 := sum_le l fun r hr => h r (List.mem_cons_of_mem _ hr)
    rw [List.map_cons, List.sum_cons, List.length_cons]
    omega
theorem rows_sum {c : Bool} {hs : List Str} {es : List Wr} (S : Sml hs es) : ((rowsT c hs es).map (·.length)).sum + (rowsT c hs es).length * ("\n" : Str).length ≤ 16777216 := by
  have h1 := sum_le _ (rows_le (c := c) S)
  have h2 : (rowsT c hs es).length ≤ 100 := by
    have := S.hn
    have := S.en
    unfold rowsT
    cases c <;> simp <;> omega
  have h3 : ("\n" : Str).length = 1 := by decide +kernel
  rw [h3]
  omega
theorem zip_fst : ∀ (as : List Addr) (es : List Wr), as.length = es.length → as.map V.ref = (as.zip es).map fun p => V.ref p.1
  | [], [], _ => rfl
  | a :: as, e :: es, h => by
    have := zip_fst as es (by simpa using h)
    simp [this]
  | [], _ :: _, h => by simp at h
  | _ :: _, [], h => by simp at h
theorem zip_snd {β : Type} (f : Wr → β) : ∀ (as : List Addr) (es : List Wr), as.length = es.length → ((as.zip es).filterMap fun p => some (f p.2)) = es.map f
  | [], [], _ => rfl
  | a :: as, e :: es, h => by
    have := zip_snd f as es (by simpa using h)
    simp only [List.zip_cons_cons, List.filterMap_cons, List.map_cons]
    rw [this]
  | [], _ :: _, h => by simp at h
  | _ :: _, [], h => by simp at h
theorem WAt.zget {H : Hp} {as : List Addr} {es : List Wr} (W : WAt H as es) {j : Nat} {p : Addr × Wr} (h : (as.zip es)[j]? = some p) : es[j]? = some p.2 ∧ H p.1 = some (.tup [.str p.2.1, .str p.2.2]) := by
  rw [List.getElem?_zip_eq_some] at h
  obtain ⟨e, e1, e2⟩ := W.2 j p.1 h.1
  rw [h.2] at e1
  cases e1
  exact ⟨h.2, e2⟩
theorem some_map {α : Type} (f : α → V) (l : List α) : (l.filterMap fun x => some (f x)) = l.map f := List.filterMap_eq_map ▸ rfl
section
variable {P : Program} {w : World} {K : PySem.W.Frag} {mg : Str → Option Value} {base : Heap}
def spYText (K : PySem.W.Frag) : Sp := fun vs H Q _ => ∃ (c : Bool) (b we : Addr) (hs : List Str) (as : List Addr) (es : List Wr), vs = [.bl c, .ref b, .ref we] ∧ SqT K H b (hs.map V.str) ∧ (SqL K H we (as.map V.ref) ∨ SqT K H we (as.map V.ref)) ∧ WAt H as es ∧ Sml hs es ∧
  ∀ H', Same H H' → Q (.str (yardT c hs es)) H'
theorem sc_yard_text : FnScope ["course", "benches", "wires", "lines", "name", "one", "other"] ["course", "benches", "wires"] (defScope s_yard_text) := ⟨rfl, rfl, rfl, by decide +kernel, rfl, by decide +kernel, by decide +kernel⟩
theorem good_yard_text (T : Tx w K mg) : Good P w K mg base CX0 1 (He.ga K "yard_text") ["course", "benches", "wires"] (spYText K) := by
  obtain ⟨fd, F⟩ := T.f_yard_text
  refine ⟨fd, F.ok sc_yard_text (fun vs H Q E h => ?_) (fun cdv A outer s H vs Q E hr h => ?_), F.kp, F.bindsN fun _ _ _ _ _ _ us hl => match us, hl with | [_, _, _], _ => rfl⟩
  · obtain ⟨_, _, _, _, _, _, rfl, _⟩ := h
    rfl
  · obtain ⟨c, b, we, hs, as, es, rfl, hb, hw, W, S, kq⟩ := h
    have SC := sc_yard_text
    refine ⟨_, PSs.nox (Evl.pss_cut (ps_if (pt_val (pv 0)) 
      (pss_one (ps_set (i := 3) SC.nd rfl (by first | exact Or.inl rfl | exact Or.inr rfl) (pe_op op_cat (pe_lst (pa_cons pe_str pa_nil)) (pe_lc (own := [("name", 4)]) (g := gName 4) (tt := tYes) rfl SC.nd (tupI K rfl (pv 1)) (blkOk_by (N := ["course", "benches", "wires", "lines", "name", "one", "other"]) (sc := defScope s_yard_text) (by decide +kernel)) (fun _ _ _ _ _ => (pg_name (i := 4) SC.nd rfl (by first | exact Or.inl rfl | exact Or.inr rfl))) (fun _ _ _ _ _ => pts_nil) (fun _ _ _ _ _ => (pe_op op_add_str pe_str (pv 4))))))) 
      (pss_cons (ps_set (i := 3) SC.nd rfl (by first | exact Or.inl rfl | exact Or.inr rfl) (pe_op op_cat (pe_lst (pa_cons pe_str pa_nil)) (pe_lc (own := [("name", 4)]) (g := gName 4) (tt := tYes) rfl SC.nd (tupI K rfl (pv 1)) (blkOk_by (N := ["course", "benches", "wires", "lines", "name", "one", "other"]) (sc := defScope s_yard_text) (by decide +kernel)) (fun _ _ _ _ _ => (pg_name (i := 4) SC.nd rfl (by first | exact Or.inl rfl | exact Or.inr rfl))) (fun _ _ _ _ _ => pts_nil) (fun _ _ _ _ _ => (pe_op op_add_str pe_str (pv 4)))))) 
      (pss_one (ps_set (i := 3) SC.nd rfl (by first | exact Or.inl rfl | exact Or.inr rfl) (pe_op op_cat (pv 3) (pe_lc (own := [("one", 5), ("other", 6)]) (g := gTup K 2 (gCons (gName 5) (gCons (gName 6) gNil))) (tt := tYes) rfl SC.nd (Xo.seqI K rfl (pv 2)) (blkOk_by (N := ["course", "benches", "wires", "lines", "name", "one", "other"]) (sc := defScope s_yard_text) (by decide +kernel)) (fun _ _ _ _ _ => (tupG K rfl rfl (pgs_cons (pg_name (i := 5) SC.nd rfl (by first | exact Or.inl rfl | exact Or.inr rfl)) (pgs_cons (pg_name (i := 6) SC.nd rfl (by first | exact Or.inl rfl | exact Or.inr rfl)) pgs_nil)))) (fun _ _ _ _ _ => pts_nil) (fun _ _ _ _ _ => (pe_op op_add_str (pe_op op_add_str (pe_op op_add_str pe_str (pv 5)) pe_str) (pv 6))))))))) 
      (pss_one (ps_ret (pe_join pe_str (pe_op op_cat (pv 3) (pe_lst (pa_cons pe_str pa_nil))))))), ?_⟩
    have hn := S.hn
    have en := S.en
    have small : ∀ n : Nat, n ≤ 100 → n ≤ sizeLine := fun n h => by rw [sizeLine_eq]; omega
    have smaller : ∀ n : Nat, n ≤ 100 → n < sizeLine := fun n h => by rw [sizeLine_eq]; omega
    -- the lines of the benches
    have part : ∀ (k m : Str), m.length ≤ 10 → ∀ (H0 : Hp) (t : Addr) (Q0 : VK), Same H H0 → H0 t = some (.lst [.str k]) →
        (∀ (H' : Hp) (l : Addr), Same H H' → H' l = some (.lst (([k] ++ hs.map (fun h => m ++ h)).map V.str)) → Q0 (.ref l) H') →
        tLc (iTup K (tVar 1)) (gName 4) tYes (tOp (fun x y H Q => ∃ i j, x = V.str i ∧ y = V.str j ∧ i.length + j.length ≤ sizeLine ∧ Q (V.str (i ++ j)) H) (tC (V.str m)) (tVar 4)) [4] [some (.bl c), some (.ref b), some (.ref we), none, none, none, none] H0 (fun y H1 => rCat (.ref t) y H1 Q0) := by
      intro k m hm H0 t Q0 s0 e0 q
      have hb0 := seqT s0 hb
      refine ⟨_, rfl, b, rfl, ⟨_, hb0⟩, fun D hD => ?_⟩
      refine lc_fmT V.str hs (fun h => some (.str (m ++ h))) hb0 hD (smaller _ (by omega)) (fun j y h acc nx hy s e hacc hnx => ⟨rfl, ?_⟩) (fun h s e => ?_)
      · have := S.hl y (List.mem_of_getElem? hy)
        exact iteT (B := False) ⟨_, rfl, _, _, rfl, rfl, by rw [sizeLine_eq]; omega, acc, e, hacc, hnx⟩
      · have s1 := Same.trans s0 s
        rw [some_map (fun h : Str => V.str (m ++ h))] at e
        refine ⟨t, D, _, _, rfl, rfl, s _ _ e0, e, by rw [List.length_map]; exact small _ (by simp; omega), fun p hp => q _ p (same_upd s1 (Same.free s1 hp)) ?_⟩
        rw [upd_same, List.map_append, List.map_map]; rfl
    refine ⟨fun σ' H' => ∃ (l : Addr) (rs : List Str), σ' = [some (.bl c), some (.ref b), some (.ref we), some (.ref l), none, none, none] ∧ Same H H' ∧ H' l = some (.lst (rs.map V.str)) ∧ rowsT c hs es = rs ++ [("done" : Str)], ?_, ?_⟩
    · refine ⟨_, rfl, _, rfl, ?_⟩
      cases c with
      | true =>
        refine iteT (B := False) ⟨by show 1 ≤ sizeLine; decide, fun t ht => ?_⟩
        refine part "course" "moment " (by decide +kernel) _ t _ (same_new ht) upd_same fun H' l s' e' => ?_
        exact ⟨l, _, rfl, s', e', rfl⟩
      | false =>
        refine iteF (A := False) ⟨by show 1 ≤ sizeLine; decide, fun t ht => ?_⟩
        refine part "yard" "bench " (by decide +kernel) _ t _ (same_new ht) upd_same fun H' l s' e' => ?_
        refine ⟨_, rfl, ?_⟩
        have k3 : ("wire " : Str).length = 5 := by decide +kernel
        have k4 : (" " : Str).length = 1 := by decide +kernel
        have W1 := W.same s'
        have lz : (as.zip es).length ≤ 100 := by rw [List.length_zip]; omega
        have turn : ∀ (D : Addr) (j : Nat) (y : Addr × Wr) (h : Hp) (acc : List V) (nx : Hp → Prop), (as.zip es)[j]? = some y → Same H' h → h D = some (.lst acc) → acc.length < sizeLine → fmNext D acc h nx (some (V.str (("wire " : Str) ++ y.2.1 ++ (" " : Str) ++ y.2.2))) →
            LcTurn (gTup K 2 (gCons (gName 5) (gCons (gName 6) gNil))) tYes (tOp (fun x y H Q => ∃ i j, x = V.str i ∧ y = V.str j ∧ i.length + j.length ≤ sizeLine ∧ Q (V.str (i ++ j)) H) (tOp (fun x y H Q => ∃ i j, x = V.str i ∧ y = V.str j ∧ i.length + j.length ≤ sizeLine ∧ Q (V.str (i ++ j)) H) (tOp (fun x y H Q => ∃ i j, x = V.str i ∧ y = V.str j ∧ i.length + j.length ≤ sizeLine ∧ Q (V.str (i ++ j)) H) (tC (V.str "wire ")) (tVar 5)) (tC (V.str " "))) (tVar 6)) [5, 6]
              [some (.bl false), some (.ref b), some (.ref we), some (.ref l), none, none, none] D (V.ref y.1) h nx := by
          intro D j y h acc nx hy s e hacc hnx
          obtain ⟨g1, g2⟩ := W1.zget hy
          have hy2 := S.el _ (List.mem_of_getElem? g1)
          refine ⟨y.1, _, rfl, SqT.of (s _ _ g2), rfl, _, _, rfl, _, _, rfl, rfl, rfl, ?_⟩
          exact iteT (B := False) ⟨_, rfl, _, _, rfl, rfl, by rw [sizeLine_eq]; omega, _, _, rfl, rfl, by rw [sizeLine_eq, str_len]; omega, _, rfl, _, _, rfl, rfl, by rw [sizeLine_eq, str_len, str_len]; omega, acc, e, hacc, hnx⟩
        have fin : ∀ (D : Addr) (h : Hp), Same H' h → h D = some (.lst ((as.zip es).filterMap fun p => some (V.str (("wire " : Str) ++ p.2.1 ++ (" " : Str) ++ p.2.2)))) → rCat (.ref l) (.ref D) h (fun v H2 => ∃ (l : Addr) (rs : List Str), [some (.bl false), some (.ref b), some (.ref we), some v, none, none, none] = [some (V.bl false), some (.ref b), some (.ref we), some (.ref l), none, none, none] ∧ Same H H2 ∧ H2 l = some (.lst (rs.map V.str)) ∧ rowsT false hs es = rs ++ [("done" : Str)]) := by
          intro D h s e
          rw [zip_snd (fun e : Wr => V.str (("wire " : Str) ++ e.1 ++ (" " : Str) ++ e.2)) as es W.1] at e
          have s1 := Same.trans s' s
          refine ⟨l, D, _, _, rfl, rfl, s _ _ e', e, by rw [List.length_map, List.length_map]; exact small _ (by simp; omega), fun p hp => ⟨p, ([("yard" : Str)] ++ hs.map (fun h => ("bench " : Str) ++ h)) ++ es.map (fun e => ("wire " : Str) ++ e.1 ++ (" " : Str) ++ e.2), rfl, same_upd s1 (Same.free s1 hp), ?_, rfl⟩⟩
          rw [upd_same]
          simp only [List.map_append, List.map_map]
          rfl
        rcases hw with hw | hw
        · have hw1 := s'.seq hw
          have hz := hw1
          rw [zip_fst as es W.1] at hz
          exact .inl ⟨_, rfl, we, rfl, ⟨_, hw1⟩, fun D hD => lc_fm (fun p : Addr × Wr => V.ref p.1) (as.zip es) _ hz hD (smaller _ lz) (turn D) (fin D)⟩
        · have hw1 := seqT s' hw
          have hz := hw1
          rw [zip_fst as es W.1] at hz
          exact .inr ⟨_, rfl, we, rfl, ⟨_, hw1⟩, fun D hD => lc_fmT (fun p : Addr × Wr => V.ref p.1) (as.zip es) _ hz hD (smaller _ lz) (turn D) (fin D)⟩
    · rintro σ' H1 ⟨l, rs, rfl, s1, e1, er⟩
      have lrs : rs.length ≤ 90 := by
        have := congrArg List.length er
        unfold rowsT at this
        cases c <;> simp at this <;> omega
      refine ⟨⟨_, rfl⟩, _, rfl, by show 1 ≤ sizeLine; decide, fun t ht => ?_⟩
      have s2 : Same H1 (upd H1 t (.lst [.str "done"])) := same_new ht
      refine ⟨l, t, _, _, rfl, rfl, s2 _ _ e1, upd_same, by rw [List.length_map, sizeLine_eq]; show rs.length + 1 ≤ _; omega, fun p hp => ?_⟩
      have s3 : Same H (upd (upd H1 t (.lst [.str "done"])) p (.lst (rs.map V.str ++ [.str "done"]))) := same_upd (Same.trans s1 s2) (Same.free (Same.trans s1 s2) hp)
      have ea : rs.map V.str ++ [V.str "done"] = (rowsT c hs es).map V.str := by rw [er, List.map_append]; rfl
      refine ⟨"\n", p, rowsT c hs es, rfl, rfl, .inl (SqL.of (by rw [upd_same, ea])), rows_sum S, kq _ s3⟩
end
end Yd
set_option Elab.async false
set_option linter.all false
set_option maxRecDepth 100000
set_option maxHeartbeats 8000000
namespace Yd
open PySem PySem.Spec PyProof.Rows L2 Xo
section
variable {P : Program} {w : World} {K : PySem.W.Frag} {mg : Str → Option Value} {base : Heap}
def spChkB (K : PySem.W.Frag) : Sp := fun vs H Q E => ∃ (a : Addr) (ws : List Str), vs = [.ref a] ∧ SqT K H a (ws.map V.str) ∧ (∀ x ∈ ws, x.length ≤ 200000) ∧ ws.length ≤ 1000 ∧ ((ws = [] ∨ diffB [] ws = false) → RB K E H 0) ∧ (ws ≠ [] → diffB [] ws = true → 14 < ws.length → RM K E H "benches" 14) ∧
  (ws ≠ [] → diffB [] ws = true → ws.length ≤ 14 → ∀ H', Same H H' → Q .non H')
theorem sc_check_benches : FnScope ["benches"] ["benches"] (defScope s_check_benches) := ⟨rfl, rfl, rfl, by decide +kernel, rfl, by decide +kernel, by decide +kernel⟩
theorem good_check_benches (T : Tx w K mg) : Good P w K mg base (L2.CX P w) 4 (He.ga K "check_benches") ["benches"] (spChkB K) := by
  obtain ⟨fd, F⟩ := T.f_check_benches
  obtain ⟨_, G_BadYard_init, _, b_BadYard_init⟩ := good_BadYard (P := P) (w := w) (base := base) T
  obtain ⟨_, G_are_different_names, k_are_different_names, b_are_different_names⟩ := good_different (P := P) (w := w) (base := base) T
  obtain ⟨_, G_check_bound, k_check_bound, b_check_bound⟩ := good_check_bound (P := P) (w := w) (base := base) T
  refine ⟨fd, F.ok sc_check_benches (fun vs H Q E h => ?_) (fun cdv A outer s H vs Q E hr h => ?_), F.kp, F.bindsN fun _ _ _ _ _ _ us hl => match us, hl with | [_], _ => rfl⟩
  · obtain ⟨_, _, rfl, _⟩ := h
    rfl
  · obtain ⟨a, ws, rfl, hS, hl, hn, kb, km, ko⟩ := h
    have SC := sc_check_benches
    have hu := hu_of hr
    refine ⟨_, pss_cons (ps_if (pt_not (truQ K rfl (pv 0))) 
      (pss_one (ps_raise rfl (takes_of rfl rfl rfl rfl) (pmk_oex T.two_BadYard.oex T.two_BadYard.iC T.two_BadYard.tI G_BadYard_init (hr.mono (by decide)) b_BadYard_init .nil pass0 rfl T.g_BadYard (pa_cons pe_int (pa_cons pe_str pa_nil))))) pss_nil) 
      (pss_cons (ps_if (pt_not (pt_val (pe_call G_are_different_names (hr.mono (by decide)) rfl T.g_are_different_names k_are_different_names b_are_different_names .nil pass0 (pa_cons (pv 0) pa_nil)))) 
      (pss_one (ps_raise rfl (takes_of rfl rfl rfl rfl) (pmk_oex T.two_BadYard.oex T.two_BadYard.iC T.two_BadYard.tI G_BadYard_init (hr.mono (by decide)) b_BadYard_init .nil pass0 rfl T.g_BadYard (pa_cons pe_int (pa_cons pe_str pa_nil))))) pss_nil) 
      (pss_one (ps_expr (pe_call G_check_bound (hr.mono (by decide)) rfl T.g_check_bound k_check_bound b_check_bound .nil (passes_call (takes_of rfl rfl rfl rfl) (fun _ _ _ _ h => h)) (pa_cons pe_str (pa_cons (pe_callB (lenQ K) rfl T.n_len (by decide +kernel) (pa_cons (pv 0) pa_nil)) pa_nil)))))), ?_⟩
    refine ⟨_, rfl, _, .inr (.inl ⟨_, hS, rfl⟩), ?_⟩
    by_cases hne : ws = []
    · subst hne
      refine iteT (B := False) (mkO_two fun d hd => kb (.inl rfl) _ d _ (same_new hd) hd upd_same (by decide +kernel))
    · have e1 : (!(ws.map V.str).isEmpty) = true := by
        cases ws with
        | nil => exact absurd rfl hne
        | cons a l => rfl
      rw [e1]
      refine iteF (A := False) ?_
      refine ⟨_, rfl, a, ws, rfl, hS, hl, hn, fun H1 s1 => ⟨_, rfl, ?_⟩⟩
      cases hd : diffB [] ws with
      | false =>
        refine iteT (B := False) (mkO_two fun d hd' => kb (.inr hd) _ d _ (same_upd s1 (Same.free s1 hd')) (Same.free s1 hd') upd_same (by decide +kernel))
      | true =>
        refine iteF (A := False) ?_
        have lm : (ws.map V.str).length = ws.length := List.length_map _
        refine ⟨_, rfl, a, _, rfl, .inr (seqT s1 hS), "benches", _, 14, rfl, rfl, fun hle H2 s2 => ?_, fun hlt => ?_⟩
        · rw [lm] at hle
          exact ko hne hd (by omega) H2 (Same.trans s1 s2)
        · rw [lm] at hlt
          exact (km hne hd (by omega)).same s1
end
end Yd
set_option Elab.async false
set_option linter.all false
set_option maxRecDepth 100000
set_option maxHeartbeats 8000000
/-! Dicts made by comprehensions over names. -/
namespace Yd
open PySem PySem.Spec PyProof.Rows L2 Xo
def dkv (hs : List Str) (as : List Addr) : List (Key × V) := (hs.zip as).map fun p => (Sum.inr p.1, V.ref p.2)
theorem dkv_none {x : Str} : ∀ {hs : List Str} {as : List Addr}, x ∉ hs → valV (dkv hs as) (Sum.inr x) = none
  | [], _, _ => rfl
  | _ :: _, [], _ => rfl
  | h :: hs, a :: as, n => by
    rw [List.mem_cons, not_or] at n
    show valV ((Sum.inr h, V.ref a) :: dkv hs as) _ = none
    rw [valV_neg (show ¬ (Sum.inr h : Key) = Sum.inr x from fun z => n.1 (Sum.inr.inj z).symm)]
    exact dkv_none n.2
theorem dkv_some {x : Str} : ∀ {hs : List Str} {as : List Addr}, as.length = hs.length → x ∈ hs → ∃ (i : Nat) (a : Addr), hs[i]? = some x ∧ as[i]? = some a ∧ valV (dkv hs as) (Sum.inr x) = some (.ref a)
  | [], _, _, m => by simp at m
  | _ :: _, [], l, _ => by simp at l
  | h :: hs, a :: as, l, m => by
    by_cases e : h = x
    · subst e
      exact ⟨0, a, rfl, rfl, valV_pos rfl⟩
    · obtain ⟨i, b, e1, e2, e3⟩ := dkv_some (hs := hs) (as := as) (by simpa using l) ((List.mem_cons.mp m).resolve_left fun z => e z.symm)
      refine ⟨i + 1, b, by simpa using e1, by simpa using e2, ?_⟩
      show valV ((Sum.inr h, V.ref a) :: dkv hs as) _ = _
      rw [valV_neg (show ¬ (Sum.inr h : Key) = Sum.inr x from fun z => e (Sum.inr.inj z))]
      exact e3
theorem dkv_put {x : Str} {hs : List Str} {as : List Addr} {a : Addr} (l : as.length = hs.length) (n : x ∉ hs) : putK (dkv hs as) (Sum.inr x) (.ref a) = dkv (hs ++ [x]) (as ++ [a]) := by
  rw [putK_new _ (dkv_none n)]
  unfold dkv
  rw [List.zip_append l.symm, List.map_append]
  rfl
theorem dkv_len {hs : List Str} {as : List Addr} : (dkv hs as).length ≤ hs.length := by unfold dkv; rw [List.length_map, List.length_zip]; omega
/-- a dict of names with things of their own -/
structure DAt (H : Hp) (D : Addr) (hs : List Str) (φ : Hp → Str → Addr → Prop) : Prop where
  ex : ∃ as : List Addr, as.length = hs.length ∧ H D = some (.dK (dkv hs as)) ∧ ∀ (i : Nat) (h : Str) (a : Addr), hs[i]? = some h → as[i]? = some a → φ H h a
theorem DAt.keep {H H' : Hp} {D : Addr} {hs : List Str} {φ : Hp → Str → Addr → Prop} (d : DAt H D hs φ) (hD : ∀ o, H D = some o → H' D = some o) (k : ∀ h a, φ H h a → φ H' h a) : DAt H' D hs φ := by
  obtain ⟨as, e1, e2, e3⟩ := d.ex
  exact ⟨as, e1, hD _ e2, fun i h a hi ha => k h a (e3 i h a hi ha)⟩
theorem DAt.get {H : Hp} {D : Addr} {hs : List Str} {φ : Hp → Str → Addr → Prop} (d : DAt H D hs φ) {x : Str} (m : x ∈ hs) : ∃ a, DGet H D (.str x) (some (.ref a)) ∧ φ H x a := by
  obtain ⟨as, e1, e2, e3⟩ := d.ex
  obtain ⟨i, a, q1, q2, q3⟩ := dkv_some e1 m
  refine ⟨a, ?_, e3 i x a q1 q2⟩
  rw [← q3]
  exact DGet.k (k := Sum.inr x) e2
theorem take_snoc {α : Type} {l : List α} {i : Nat} {x : α} (h : l[i]? = some x) : l.take (i + 1) = l.take i ++ [x] := by rw [List.take_succ, h]; rfl
theorem nin_take {α : Type} {l : List α} (nd : l.Nodup) {i : Nat} {x : α} (hx : l[i]? = some x) : x ∉ l.take i := fun m => by
  obtain ⟨j, hj⟩ := List.getElem?_of_mem m
  have hj2 := (List.getElem?_eq_some_iff.mp hj).1
  rw [List.length_take] at hj2
  rw [List.getElem?_take_of_lt (by omega)] at hj
  have := (List.getElem?_inj (by omega) nd).mp (hj.trans hx.symm)
  omega
section
variable {K : PySem.W.Frag} {a D : Addr} {g : TG} {tt : TT} {tk tv : TE} {vs : List Nat} {σ : L2.St} {H1 : Hp} {Qd : Hp → Prop}
abbrev DcTurn (g : TG) (tt : TT) (tk tv : TE) (vs : List Nat) (σ : L2.St) (D : Addr) (x : V) (H : Hp) (nx : Hp → Prop) : Prop :=
  g x (wipe σ vs) H fun σ2 H2 => wipe σ2 vs = wipe σ vs ∧ tt σ2 H2 fun b H3 => if b = true then tk σ2 H3 fun y H4 => tv σ2 H4 fun z H5 => ∃ kvs k, y = kV k ∧ H5 D = some (.dK kvs) ∧ kvs.length < sizeLine ∧ nx (upd H5 D (.dK (putK kvs k z))) else nx H3
theorem dc_strs {hs : List Str} {φ : Hp → Str → Addr → Prop} (hx : SqT K H1 a (hs.map V.str)) (hD : H1 D = none) (nd : hs.Nodup) (hn : hs.length < sizeLine)
    (hφ : ∀ (H H' : Hp) (h : Str) (b : Addr), φ H h b → b ≠ D → (∃ kvs, H D = some (.dK kvs)) → (∀ c o, H c = some o → c ≠ D → H' c = some o) → φ H' h b)
    (hs' : ∀ (i : Nat) (h : Str) (H : Hp) (nx : Hp → Prop), hs[i]? = some h → Same H1 H → (∃ kvs, H D = some (.dK kvs)) →
      (∀ (H5 : Hp) (v : Addr), Same H H5 → φ H5 h v → v ≠ D → ∃ kvs k, V.str h = kV k ∧ H5 D = some (.dK kvs) ∧ kvs.length < sizeLine ∧ nx (upd H5 D (.dK (putK kvs k (.ref v))))) → DcTurn g tt tk tv vs σ D (.str h) H nx)
    (hd : ∀ H, Same H1 H → DAt H D hs φ → Qd H) :
    ∃ W : Nat → Nat → Hp → Prop, (∃ m, W 0 m (upd H1 D (.dK []))) ∧ ∀ i m H, W i m H → ((Itt K a).stop i H ∧ Qd H) ∨
      ((Itt K a).go i H ∧ ∃ nx : Hp → Prop, (∀ H', nx H' → ∃ m', m' < m ∧ W (i + 1) m' H') ∧ ∀ x H', (Itt K a).yld i H x H' → DcTurn g tt tk tv vs σ D x H' nx) := by
  refine dc_tup (fun i H => Same H1 H ∧ ∃ as : List Addr, as.length = i ∧ H D = some (.dK (dkv (hs.take i) as)) ∧ ∀ (j : Nat) (h : Str) (b : Addr), (hs.take i)[j]? = some h → as[j]? = some b → φ H h b ∧ b ≠ D)
    ⟨fun b u z => by rw [upd_ne (ne_of_none z hD)]; exact z, [], rfl, upd_same, fun j h b e => by simp at e⟩ (fun i H _ ⟨s, _⟩ => seqT s hx) (fun i x H hi ⟨s, as, l, e, q⟩ => ?_) (fun H ⟨s, as, l, e, q⟩ => ?_)
  · rw [List.getElem?_map] at hi
    obtain ⟨h, hh, rfl⟩ := Option.map_eq_some_iff.mp hi
    have hlt := (List.getElem?_eq_some_iff.mp hh).1
    refine hs' i h H _ hh s ⟨_, e⟩ fun H5 v s5 f5 ne => ⟨_, Sum.inr h, rfl, s5 _ _ e, ?_, ?_⟩
    · have := dkv_len (hs := hs.take i) (as := as)
      rw [List.length_take] at this
      omega
    · have lt : (hs.take i).length = i := by rw [List.length_take]; omega
      refine ⟨same_upd (Same.trans s s5) hD, as ++ [v], by simp [l], ?_, fun j h' b hj hb => ?_⟩
      · rw [upd_same, dkv_put (l.trans lt.symm) (nin_take nd hh), take_snoc hh]
      · have kp : ∀ H0 : Hp, ∀ o : HO, ∀ c u, H0 c = some u → c ≠ D → upd H0 D o c = some u := fun H0 o c u z n => by rw [upd_ne n]; exact z
        rw [take_snoc hh] at hj
        by_cases c : j < i
        · rw [List.getElem?_append_left (by omega)] at hj
          rw [List.getElem?_append_left (by omega)] at hb
          obtain ⟨f, n⟩ := q j h' b hj hb
          have f1 := hφ H H5 h' b f n ⟨_, e⟩ fun c o z _ => s5 c o z
          exact ⟨hφ H5 _ h' b f1 n ⟨_, s5 _ _ e⟩ (kp _ _), n⟩
        · rw [List.getElem?_append_right (by omega)] at hj
          rw [List.getElem?_append_right (by omega)] at hb
          have j0 : j - (hs.take i).length = 0 := by
            have := (List.getElem?_eq_some_iff.mp hj).1
            simpa using this
          have j1 : j - as.length = 0 := by
            have := (List.getElem?_eq_some_iff.mp hb).1
            simpa using this
          rw [j0] at hj
          rw [j1] at hb
          cases hj
          cases hb
          exact ⟨hφ H5 _ h v f5 ne ⟨_, s5 _ _ e⟩ (kp _ _), ne⟩
  · rw [List.length_map] at l e q
    rw [List.take_length] at e q
    exact hd H s ⟨as, l, e, fun j h b h1 h2 => (q j h b h1 h2).1⟩
end
end Yd
set_option Elab.async false
set_option linter.all false
set_option maxRecDepth 100000
set_option maxHeartbeats 8000000
namespace Yd
open PySem PySem.Spec PyProof.Rows L2 Xo
theorem putK_le {κ : Type} [DecidableEq κ] (c : List (κ × V)) (k : κ) (x : V) : (putK c k x).length ≤ c.length + 1 := by
  unfold putK
  split
  · rw [List.length_map]; omega
  · simp
def joinB (es : List Wr) (a b : Str) : Bool := decide ((a, b) ∈ es ∨ (b, a) ∈ es)
def nbL (hs : List Str) (es : List Wr) (h : Str) : List Str := hs.filter fun o => joinB es h o
def NbAt (hs : List Str) (es : List Wr) : Hp → Str → Addr → Prop := fun H h a => H a = some (.tup ((nbL hs es h).map V.str))
def JnAt (es : List Wr) (kvs : List (List Key × V)) : Prop := kvs.length ≤ 2 * es.length ∧ ∀ a b, (valV kvs [Sum.inr a, Sum.inr b]).isSome = joinB es a b
theorem JnAt.nil : JnAt [] [] := ⟨Nat.le_refl _, fun a b => by simp [joinB, valV]⟩
theorem pair_key {a b c d : Str} : (([Sum.inr a, Sum.inr b] : List Key) = [Sum.inr c, Sum.inr d]) ↔ a = c ∧ b = d := by
  constructor
  · intro h
    simp at h
    exact h
  · rintro ⟨rfl, rfl⟩; rfl
theorem JnAt.put {es : List Wr} {kvs : List (List Key × V)} (J : JnAt es kvs) (e : Wr) : JnAt (es ++ [e]) (putK (putK kvs [Sum.inr e.1, Sum.inr e.2] (.bl true)) [Sum.inr e.2, Sum.inr e.1] (.bl true)) := by
  refine ⟨?_, fun a b => ?_⟩
  · have h1 := putK_le kvs [Sum.inr e.1, Sum.inr e.2] (.bl true)
    have h2 := putK_le (putK kvs [Sum.inr e.1, Sum.inr e.2] (.bl true)) [Sum.inr e.2, Sum.inr e.1] (.bl true)
    have := J.1
    simp only [List.length_append, List.length_cons, List.length_nil]
    omega
  · have := J.2 a b
    rw [valV_put, valV_put]
    unfold joinB at this ⊢
    obtain ⟨e1, e2⟩ := e
    by_cases c1 : a = e2 ∧ b = e1
    · rw [if_pos (pair_key.mpr c1)]
      simp [c1.1, c1.2]
    · rw [if_neg (fun z => c1 (pair_key.mp z))]
      by_cases c2 : a = e1 ∧ b = e2
      · rw [if_pos (pair_key.mpr c2)]
        simp [c2.1, c2.2]
      · rw [if_neg (fun z => c2 (pair_key.mp z)), this]
        rw [Bool.eq_iff_iff, decide_eq_true_eq, decide_eq_true_eq]
        simp only [List.mem_append, List.mem_singleton, Prod.mk.injEq]
        constructor
        · rintro (z | z)
          · exact .inl (.inl z)
          · exact .inr (.inl z)
        · rintro ((z | z) | z | z)
          · exact .inl z
          · exact absurd z c2
          · exact .inr z
          · exact absurd ⟨z.2, z.1⟩ c1
section
variable {P : Program} {w : World} {K : PySem.W.Frag} {mg : Str → Option Value} {base : Heap}
def spNT (K : PySem.W.Frag) : Sp := fun vs H Q _ => ∃ (b we : Addr) (hs : List Str) (as : List Addr) (es : List Wr), vs = [.ref b, .ref we] ∧ SqT K H b (hs.map V.str) ∧ SqT K H we (as.map V.ref) ∧ WAt H as es ∧ hs.Nodup ∧ hs.length ≤ 100 ∧ es.length ≤ 100 ∧
  ∀ (H' : Hp) (D : Addr), Same H H' → H D = none → DAt H' D hs (NbAt hs es) → Q (.ref D) H'
def ntIn : Scope := { kind := .function, names := [(Str.ofString ".0", .local), (Str.ofString "name", .cell), (Str.ofString "tuple", .globalImplicit), (Str.ofString "benches", .free), (Str.ofString "joined", .free)], isGenerator := false, isCoroutine := false }
theorem sc_neighbour_table : FnScope ["benches", "wires", "joined", "one", "other", "name"] ["benches", "wires"] (defScope s_neighbour_table) := ⟨rfl, rfl, rfl, by decide +kernel, rfl, by decide +kernel, by decide +kernel⟩
theorem good_neighbour_table (T : Tx w K mg) : Good P w K mg base CX0 1 (He.ga K "neighbour_table") ["benches", "wires"] (spNT K) := by
  obtain ⟨fd, F⟩ := T.f_neighbour_table
  refine ⟨fd, F.ok sc_neighbour_table (fun vs H Q E h => ?_) (fun cdv A outer s H vs Q E hr h => ?_), F.kp, F.bindsN fun _ _ _ _ _ _ us hl => match us, hl with | [_, _], _ => rfl⟩
  · obtain ⟨_, _, _, _, _, rfl, _⟩ := h
    rfl
  · obtain ⟨b, we, hs, as, es, rfl, hb, hw, W, nd, hn, en, kq⟩ := h
    have SC := sc_neighbour_table
    have hu := hu_of hr
    refine ⟨_, PSs.nox (pss_cons (ps_set (i := 2) SC.nd rfl (by first | exact Or.inl rfl | exact Or.inr rfl) pe_dnewT) 
      (pss_cons (ps_for PassesOwn.never rfl (tupI K rfl (pv 1)) (pg_tup rfl (pgs_cons (pg_name (i := 3) SC.nd rfl (by first | exact Or.inl rfl | exact Or.inr rfl)) (pgs_cons (pg_name (i := 4) SC.nd rfl (by first | exact Or.inl rfl | exact Or.inr rfl)) pgs_nil))) 
      (pss_cons (ps_dput hu (pv 2) (pe_tup (pa_cons (pv 3) (pa_cons (pv 4) pa_nil))) pe_bl rfl) 
      (pss_one (ps_dput hu (pv 2) (pe_tup (pa_cons (pv 4) (pa_cons (pv 3) pa_nil))) pe_bl rfl)))) 
      (pss_one (ps_ret (pe_dc (own := [("name", 5)]) (g := gName 5) (tt := tYes) rfl SC.nd (tupI K rfl (pv 0)) (blkOk_by (N := ["benches", "wires", "joined", "one", "other", "name"]) (sc := defScope s_neighbour_table) (by decide +kernel)) (fun _ _ _ _ _ => (pg_name (i := 5) SC.nd rfl (by first | exact Or.inl rfl | exact Or.inr rfl))) (fun _ _ _ _ _ => pts_nil) (fun _ _ _ _ _ => (pv 5)) (fun _ _ _ _ _ => (pe_callTy (tupOf K) rfl T.n_tuple (by decide +kernel) (pa_cons (pe_lc (own := [("other", 4)]) (g := gName 4) rfl SC.nd (tupI K rfl (pv 0)) (blkOk_in (N := ["benches", "wires", "joined", "one", "other", "name"]) (sc := ntIn) (by decide +kernel)) (fun _ _ _ _ _ => (pg_name (i := 4) SC.nd rfl (by first | exact Or.inl rfl | exact Or.inr rfl))) (fun _ _ _ _ _ => (pts_one (pt_cmp (pc_din hu (pe_tup (pa_cons (pv 5) (pa_cons (pv 4) pa_nil))) (pv 2))))) (fun _ _ _ _ _ => (pv 4))) pa_nil)))))))), ?_⟩
    refine fun J hJ => ?_
    have s0 : Same H (upd H J (.dT [])) := same_new hJ
    refine ⟨_, rfl, we, rfl, ⟨_, seqT s0 hw⟩, ?_⟩
    refine for_tup (K := K) (a := we) (xs := as.map V.ref) (fun i σ H' => ∃ v3 v4 kvs, σ = [some (.ref b), some (.ref we), some (.ref J), v3, v4, none] ∧ Same H H' ∧ H' J = some (.dT kvs) ∧ JnAt (es.take i) kvs) ⟨none, none, [], rfl, s0, upd_same, JnAt.nil⟩ (fun i σ H' _ ⟨_, _, _, _, s, _⟩ => seqT s hw) ?_ ?_
    · rintro i y σ H' hy ⟨v3, v4, kvs, rfl, s, eJ, jn⟩
      rw [List.getElem?_map] at hy
      obtain ⟨a, ha, rfl⟩ := Option.map_eq_some_iff.mp hy
      obtain ⟨e, he, hta⟩ := W.2 i a ha
      have hl := jn.1
      rw [List.length_take] at hl
      refine ⟨a, _, rfl, SqT.of (s _ _ hta), rfl, _, _, rfl, _, _, rfl, rfl, ?_⟩
      refine ⟨_, rfl, _, rfl, _, rfl, by show 2 ≤ sizeLine; decide, fun t ht => ⟨J, _, rfl, DPut.t (k := [Sum.inr e.1, Sum.inr e.2]) (by rw [upd_ne (ne_of_none eJ ht)]; exact eJ) upd_same (by rw [sizeLine_eq]; omega), ?_⟩⟩
      have s1 : Same H (upd (upd H' t (.tup [.str e.1, .str e.2])) J (.dT (putK kvs [Sum.inr e.1, Sum.inr e.2] (.bl true)))) := same_upd (same_upd s (Same.free s ht)) hJ
      have eJ1 : upd (upd H' t (.tup [.str e.1, .str e.2])) J (.dT (putK kvs [Sum.inr e.1, Sum.inr e.2] (.bl true))) J = some (.dT (putK kvs [Sum.inr e.1, Sum.inr e.2] (.bl true))) := upd_same
      generalize upd (upd H' t _) J _ = H1 at s1 eJ1 ⊢
      have hl1 := putK_le kvs [Sum.inr e.1, Sum.inr e.2] (.bl true)
      refine ⟨_, rfl, _, rfl, _, rfl, by show 2 ≤ sizeLine; decide, fun t2 ht2 => ⟨J, _, rfl, DPut.t (k := [Sum.inr e.2, Sum.inr e.1]) (by rw [upd_ne (ne_of_none eJ1 ht2)]; exact eJ1) upd_same (by rw [sizeLine_eq]; omega), ?_⟩⟩
      refine ⟨_, _, _, rfl, same_upd (same_upd s1 (Same.free s1 ht2)) hJ, upd_same, ?_⟩
      rw [take_snoc he]
      exact jn.put e
    · rintro σ H' ⟨v3, v4, kvs, rfl, s, eJ, jn⟩
      have jn : JnAt es kvs := by rw [List.length_map, W.1, List.take_length] at jn; exact jn
      have hb1 := seqT s hb
      have small : ∀ n : Nat, n ≤ 100 → n < sizeLine := fun n h => by rw [sizeLine_eq]; omega
      refine ⟨_, rfl, b, rfl, ⟨_, hb1⟩, fun D hD => ?_⟩
      have zD := Same.free s hD
      refine dc_strs (φ := NbAt hs es) hb1 hD nd (small _ hn) (fun H H' h c f n hk k => k _ _ f n) (fun i h H2 nx hi s2 hk fin => ⟨rfl, ?_⟩) fun H2 s2 d => kq H2 D (Same.trans s s2) zD d
      refine iteT (B := False) ⟨_, rfl, ?_⟩
      have hb2 := seqT s2 hb1
      have eJ2 := s2 _ _ eJ
      refine ⟨_, rfl, b, rfl, ⟨_, hb2⟩, fun L hL => ?_⟩
      refine lc_fmTA V.str hs (fun o => if joinB es h o = true then some (.str o) else none) hb2 hL (small _ hn) (fun j y h3 acc nx hy s3 e3 hacc hnx => ⟨rfl, ?_⟩) (fun h3 s3 e3 => ?_)
      · refine ⟨_, rfl, _, rfl, by show 2 ≤ sizeLine; decide, fun t ht => ⟨_, rfl, ?_⟩⟩
        have s4 : Same h3 (upd h3 t (.tup [.str h, .str y])) := same_new ht
        refine ⟨J, _, rfl, DGet.t (k := [Sum.inr h, Sum.inr y]) (s4 _ _ (s3 _ _ eJ2)) upd_same, _, rfl, ?_⟩
        have n1 := hnx _ s4
        rw [jn.2]
        cases c : joinB es h y with
        | true =>
          rw [c] at n1
          exact iteT (B := False) ⟨_, rfl, acc, s4 _ _ e3, hacc, n1⟩
        | false =>
          rw [c] at n1
          exact iteF (A := False) n1
      · refine ⟨L, _, rfl, .inl ⟨SqL.of e3, fun l hl => ?_⟩⟩
        have s4 := Same.trans s3 (same_new (o := HO.tup (hs.filterMap fun o => if joinB es h o = true then some (V.str o) else none)) hl)
        obtain ⟨kv, ek⟩ := hk
        refine fin _ l s4 ?_ (Ne.symm (ne_of_none (s3 _ _ ek) hl))
        show upd h3 l _ l = _
        rw [upd_same]
        congr 1
        unfold nbL
        congr 1
        rw [← List.filterMap_eq_filter, List.map_filterMap]
        congr 1
        funext o
        cases c : joinB es h o <;> simp [Option.guard, c]
end
end Yd
set_option Elab.async false
set_option linter.all false
set_option maxHeartbeats 2000000
/-! Roads from a start, in plain Lean: a table that grows while it is walked. -/
namespace Yd
section
variable {α : Type} [DecidableEq α] {hs : List α} {nb : α → List α} {s : α}
abbrev Tb (α : Type) := List (α × Option α × Nat)
def rd1 (h : α) (d : Nat) (tb : Tb α) (x : α) : Tb α := if x ∈ tb.map (·.1) then tb else tb ++ [(x, some h, d + 1)]
def rdStep (nb : α → List α) (tb : Tb α) (k : Nat) : Tb α := match tb[k]? with
  | none => tb
  | some e => (nb e.1).foldl (rd1 e.1 e.2.2) tb
def rdL (nb : α → List α) : Nat → Nat → Tb α → Tb α
  | 0, _, tb => tb
  | f + 1, k, tb => if k < tb.length then rdL nb f (k + 1) (rdStep nb tb k) else tb
def roadT (nb : α → List α) (n : Nat) (s : α) : Tb α := rdL nb n 0 [(s, none, 0)]
structure TbI (hs : List α) (nb : α → List α) (s : α) (k : Nat) (tb : Tb α) : Prop where
  nd : (tb.map (·.1)).Nodup
  sub : ∀ x ∈ tb.map (·.1), x ∈ hs
  st : s ∈ tb.map (·.1)
  cl : ∀ i, i < k → ∀ e, tb[i]? = some e → ∀ x ∈ nb e.1, x ∈ tb.map (·.1)
  le : k ≤ tb.length
theorem TbI.few {k : Nat} {tb : Tb α} (T : TbI hs nb s k tb) : tb.length ≤ hs.length := by
  have := len_sub T.nd T.sub
  rw [List.length_map] at this
  exact this
theorem rd1_pre (h : α) (d : Nat) (tb : Tb α) (x : α) : ∃ r, rd1 h d tb x = tb ++ r := by
  unfold rd1
  split
  · exact ⟨[], by simp⟩
  · exact ⟨_, rfl⟩
theorem fold_pre (h : α) (d : Nat) : ∀ (l : List α) (tb : Tb α), ∃ r, l.foldl (rd1 h d) tb = tb ++ r
  | [], tb => ⟨[], by simp⟩
  | x :: l, tb => by
    obtain ⟨r1, e1⟩ := rd1_pre h d tb x
    obtain ⟨r2, e2⟩ := fold_pre h d l (rd1 h d tb x)
    exact ⟨r1 ++ r2, by rw [List.foldl_cons, e2, e1, List.append_assoc]⟩
theorem rd1_ok {h : α} {d : Nat} {tb : Tb α} {x : α} (hx : x ∈ hs) (nd : (tb.map (·.1)).Nodup) (sub : ∀ x ∈ tb.map (·.1), x ∈ hs) :
    ((rd1 h d tb x).map (·.1)).Nodup ∧ (∀ y ∈ (rd1 h d tb x).map (·.1), y ∈ hs) ∧ x ∈ (rd1 h d tb x).map (·.1) := by
  unfold rd1
  by_cases c : x ∈ tb.map (·.1)
  · rw [if_pos c]; exact ⟨nd, sub, c⟩
  · rw [if_neg c]
    rw [List.map_append]
    refine ⟨?_, fun y hy => ?_, by simp⟩
    · rw [List.nodup_append]
      exact ⟨nd, by simp, fun a ha b hb => by
        rw [List.map_singleton, List.mem_singleton] at hb
        subst hb
        rintro rfl
        exact c ha⟩
    · rcases List.mem_append.mp hy with hy | hy
      · exact sub y hy
      · rw [List.map_singleton, List.mem_singleton] at hy
        subst hy
        exact hx
theorem fold_ok {h : α} {d : Nat} : ∀ {l : List α} {tb : Tb α}, (∀ x ∈ l, x ∈ hs) → (tb.map (·.1)).Nodup → (∀ x ∈ tb.map (·.1), x ∈ hs) →
    ((l.foldl (rd1 h d) tb).map (·.1)).Nodup ∧ (∀ y ∈ (l.foldl (rd1 h d) tb).map (·.1), y ∈ hs) ∧ ∀ x ∈ l, x ∈ (l.foldl (rd1 h d) tb).map (·.1)
  | [], tb, _, nd, sub => ⟨nd, sub, fun x h => by simp at h⟩
  | x :: l, tb, hl, nd, sub => by
    obtain ⟨n1, s1, m1⟩ := rd1_ok (h := h) (d := d) (hl x List.mem_cons_self) nd sub
    obtain ⟨n2, s2, m2⟩ := fold_ok (h := h) (d := d) (l := l) (fun y hy => hl y (List.mem_cons_of_mem _ hy)) n1 s1
    rw [List.foldl_cons]
    refine ⟨n2, s2, fun y hy => ?_⟩
    rcases List.mem_cons.mp hy with rfl | hy
    · obtain ⟨r, e⟩ := fold_pre h d l (rd1 h d tb y)
      rw [e, List.map_append]
      exact List.mem_append_left _ m1
    · exact m2 y hy
theorem TbI.step {k : Nat} {tb : Tb α} (T : TbI hs nb s k tb) (hnb : ∀ h ∈ hs, ∀ x ∈ nb h, x ∈ hs) {e : α × Option α × Nat} (he : tb[k]? = some e) : TbI hs nb s (k + 1) ((nb e.1).foldl (rd1 e.1 e.2.2) tb) := by
  have hm : e.1 ∈ hs := T.sub _ (List.mem_map_of_mem (List.mem_of_getElem? he))
  have hk := (List.getElem?_eq_some_iff.mp he).1
  obtain ⟨n1, s1, m1⟩ := fold_ok (h := e.1) (d := e.2.2) (hnb _ hm) T.nd T.sub
  obtain ⟨r, er⟩ := fold_pre e.1 e.2.2 (nb e.1) tb
  refine ⟨n1, s1, ?_, fun i hi e' he' x hx => ?_, ?_⟩
  · rw [er, List.map_append]; exact List.mem_append_left _ T.st
  · rw [er, List.getElem?_append_left (by omega)] at he'
    by_cases c : i < k
    · rw [er, List.map_append]
      exact List.mem_append_left _ (T.cl i c e' he' x hx)
    · have : i = k := by omega
      subst this
      rw [he] at he'
      cases he'
      exact m1 x hx
  · rw [er, List.length_append]; omega
theorem TbI.new (hm : s ∈ hs) : TbI hs nb s 0 [(s, none, 0)] := ⟨by simp, fun x hx => by simp at hx; subst hx; exact hm, by simp, fun i hi => by omega, by simp⟩
theorem rdL_stop {f k : Nat} {tb : Tb α} (h : tb.length ≤ k) : rdL nb f k tb = tb := by
  cases f with
  | zero => rfl
  | succ f => unfold rdL; rw [if_neg (by omega)]
theorem rdL_go {f k : Nat} {tb : Tb α} {e : α × Option α × Nat} (he : tb[k]? = some e) : rdL nb (f + 1) k tb = rdL nb f (k + 1) ((nb e.1).foldl (rd1 e.1 e.2.2) tb) := by
  have hk := (List.getElem?_eq_some_iff.mp he).1
  conv => lhs; unfold rdL
  rw [if_pos hk]
  unfold rdStep
  rw [he]
theorem rdL_ok (hnb : ∀ h ∈ hs, ∀ x ∈ nb h, x ∈ hs) : ∀ (f k : Nat) (tb : Tb α), TbI hs nb s k tb → hs.length ≤ f + k → ∃ m, TbI hs nb s m (rdL nb f k tb) ∧ (rdL nb f k tb).length ≤ m
  | 0, k, tb, T, h => ⟨k, T, by have := T.few; show tb.length ≤ k; omega⟩
  | f + 1, k, tb, T, h => by
    cases e : tb[k]? with
    | none =>
      have := List.getElem?_eq_none_iff.mp e
      rw [rdL_stop this]
      exact ⟨k, T, this⟩
    | some x =>
      rw [rdL_go e]
      exact rdL_ok hnb f (k + 1) _ (T.step hnb e) (by omega)
theorem roadT_ok (hnb : ∀ h ∈ hs, ∀ x ∈ nb h, x ∈ hs) (hm : s ∈ hs) : ((roadT nb hs.length s).map (·.1)).Nodup ∧ (∀ x ∈ (roadT nb hs.length s).map (·.1), x ∈ hs) ∧ s ∈ (roadT nb hs.length s).map (·.1) ∧ ∀ x ∈ (roadT nb hs.length s).map (·.1), ∀ y ∈ nb x, y ∈ (roadT nb hs.length s).map (·.1) := by
  obtain ⟨m, T, l⟩ := rdL_ok hnb hs.length 0 _ (TbI.new hm) (by omega)
  refine ⟨T.nd, T.sub, T.st, fun x hx y hy => ?_⟩
  obtain ⟨e, he, rfl⟩ := List.mem_map.mp hx
  obtain ⟨i, hi⟩ := List.getElem?_of_mem he
  have := (List.getElem?_eq_some_iff.mp hi).1
  exact T.cl i (by have l' : (roadT nb hs.length s).length ≤ m := l; omega) e hi y hy
end
end Yd
set_option Elab.async false
set_option linter.all false
set_option maxRecDepth 100000
set_option maxHeartbeats 8000000
namespace Yd
open PySem PySem.Spec PyProof.Rows L2 Xo
def pV : Option Str → V
  | none => .non
  | some x => .str x
def RoadE (tb : Tb Str) : Hp → Str → Addr → Prop := fun H h a => ∃ (p : Option Str) (d : Nat), (h, p, d) ∈ tb ∧ H a = some (.tup [pV p, .int d])
def RdT (H : Hp) (t : Addr) (tb : Tb Str) : Prop := DAt H t (tb.map (·.1)) (RoadE tb)
theorem DAt.push {H : Hp} {D : Addr} {hs : List Str} {φ φ' : Hp → Str → Addr → Prop} (d : DAt H D hs φ) {x : Str} {a : Addr} (n : x ∉ hs) (k : ∀ o h b, φ H h b → φ' (upd H D o) h b) (kx : ∀ o, φ' (upd H D o) x a) :
    ∃ kvs, H D = some (.dK kvs) ∧ kvs.length ≤ hs.length ∧ DAt (upd H D (.dK (putK kvs (Sum.inr x) (.ref a)))) D (hs ++ [x]) φ' := by
  obtain ⟨as, e1, e2, e3⟩ := d.ex
  refine ⟨_, e2, dkv_len, ⟨as ++ [a], by simp [e1], by rw [upd_same, dkv_put e1 n], fun i h b hi hb => ?_⟩⟩
  by_cases c : i < hs.length
  · rw [List.getElem?_append_left c] at hi
    rw [List.getElem?_append_left (by omega)] at hb
    exact k _ h b (e3 i h b hi hb)
  · rw [List.getElem?_append_right (by omega)] at hi
    rw [List.getElem?_append_right (by omega)] at hb
    have j0 : i - hs.length = 0 := by
      have := (List.getElem?_eq_some_iff.mp hi).1
      simpa using this
    rw [j0] at hi
    rw [e1, j0] at hb
    cases hi
    cases hb
    exact kx _
theorem DAt.mem {H : Hp} {D : Addr} {hs : List Str} {φ : Hp → Str → Addr → Prop} (d : DAt H D hs φ) (x : Str) : ∃ o, DGet H D (.str x) o ∧ o.isSome = decide (x ∈ hs) := by
  by_cases m : x ∈ hs
  · obtain ⟨a, g, _⟩ := d.get m
    exact ⟨_, g, by simp [m]⟩
  · obtain ⟨as, e1, e2, e3⟩ := d.ex
    refine ⟨_, DGet.k (k := Sum.inr x) e2, ?_⟩
    rw [dkv_none m]
    simp [m]
theorem key_inj {tb : Tb Str} (nd : (tb.map (·.1)).Nodup) {e e' : Str × Option Str × Nat} (h : e ∈ tb) (h' : e' ∈ tb) (k : e.1 = e'.1) : e = e' := by
  induction tb with
  | nil => simp at h
  | cons a tb ih =>
    rw [List.map_cons, List.nodup_cons] at nd
    rcases List.mem_cons.mp h with h | h <;> rcases List.mem_cons.mp h' with h' | h'
    · rw [h, h']
    · exact absurd (List.mem_map.mpr ⟨e', h', by rw [← k, h]⟩) nd.1
    · exact absurd (List.mem_map.mpr ⟨e, h, by rw [k, h']⟩) nd.1
    · exact ih nd.2 h h'
theorem while_ix {c : TT} {tb : TS} {D : Ends} {σ : L2.St} {H : Hp} (Pv : Nat → L2.St → Hp → Prop) (m0 : Nat) (h0 : Pv m0 σ H)
    (hs : ∀ m σ H, Pv m σ H → c σ H fun b H1 => if b = true then ∃ N : L2.St → Hp → Prop, (∀ σ' H', N σ' H' → ∃ m', m' < m ∧ Pv m' σ' H') ∧ tb { D with nx := N, ct := N, bk := D.nx } σ H1 else D.nx σ H1) : tWhile c tb D σ H := ⟨Pv, ⟨m0, h0⟩, hs⟩
theorem RdT.same {H H' : Hp} {t : Addr} {tb : Tb Str} (d : RdT H t tb) (s : Same H H') : RdT H' t tb := d.keep (fun o => s t o) fun h a ⟨p, n, m, e⟩ => ⟨p, n, m, s _ _ e⟩
theorem RdT.push {H : Hp} {t b : Addr} {tb : Tb Str} (d : RdT H t tb) {x : Str} {p : Option Str} {n : Nat} (hx : x ∉ tb.map (·.1)) (hb : H b = some (.tup [pV p, .int n])) :
    ∃ kvs, H t = some (.dK kvs) ∧ kvs.length ≤ tb.length ∧ RdT (upd H t (.dK (putK kvs (Sum.inr x) (.ref b)))) t (tb ++ [(x, p, n)]) := by
  obtain ⟨kv0, ht⟩ : ∃ kvs, H t = some (.dK kvs) := by obtain ⟨as, _, e, _⟩ := d.ex; exact ⟨_, e⟩
  have nt : ∀ (c : Addr) xs, H c = some (.tup xs) → c ≠ t := fun c xs e z => by rw [z, ht] at e; cases e
  obtain ⟨kvs, e1, e2, e3⟩ := DAt.push (φ' := RoadE (tb ++ [(x, p, n)])) d hx (a := b) (fun o h c ⟨p', n', m, e⟩ => ⟨p', n', List.mem_append_left _ m, by rw [upd_ne (nt _ _ e)]; exact e⟩) (fun o => ⟨p, n, by simp, by rw [upd_ne (nt _ _ hb)]; exact hb⟩)
  refine ⟨kvs, e1, by rw [List.length_map] at e2; exact e2, ?_⟩
  unfold RdT
  rw [List.map_append]
  exact e3
section
variable {P : Program} {w : World} {K : PySem.W.Frag} {mg : Str → Option Value} {base : Heap}
def spRoadT (K : PySem.W.Frag) : Sp := fun vs H Q _ => ∃ (s : Str) (N : Addr) (hs : List Str) (es : List Wr), vs = [.str s, .ref N] ∧ DAt H N hs (NbAt hs es) ∧ s ∈ hs ∧ hs.Nodup ∧ hs.length ≤ 100 ∧
  ∀ (H' : Hp) (t : Addr), Same H H' → H t = none → RdT H' t (roadT (nbL hs es) hs.length s) → Q (.ref t) H'
theorem sc_road_table : FnScope ["start", "neighbours", "table", "queue", "at", "here", "name"] ["start", "neighbours"] (defScope s_road_table) := ⟨rfl, rfl, rfl, by decide +kernel, rfl, by decide +kernel, by decide +kernel⟩
theorem good_road_table (T : Tx w K mg) : Good P w K mg base CX0 1 (He.ga K "road_table") ["start", "neighbours"] (spRoadT K) := by
  obtain ⟨fd, F⟩ := T.f_road_table
  refine ⟨fd, F.ok sc_road_table (fun vs H Q E h => ?_) (fun cdv A outer s H vs Q E hr h => ?_), F.kp, F.bindsN fun _ _ _ _ _ _ us hl => match us, hl with | [_, _], _ => rfl⟩
  · obtain ⟨_, _, _, _, rfl, _⟩ := h
    rfl
  · obtain ⟨s, N, hs, es, rfl, DN, hm, nd, hn, kq⟩ := h
    have SC := sc_road_table
    have hu := hu_of hr
    refine ⟨_, PSs.nox (pss_cons (ps_set (i := 2) SC.nd rfl (by first | exact Or.inl rfl | exact Or.inr rfl) (pe_disp (pps_cons (pv 0) (pe_tup (pa_cons pe_non (pa_cons pe_int pa_nil))) pps_nil) (by rfl) (by rfl) (fun z => by cases z) (by decide))) 
      (pss_cons (ps_set (i := 3) SC.nd rfl (by first | exact Or.inl rfl | exact Or.inr rfl) (pe_lst (pa_cons (pv 0) pa_nil))) 
      (pss_cons (ps_set (i := 4) SC.nd rfl (by first | exact Or.inl rfl | exact Or.inr rfl) pe_int) 
      (pss_cons (ps_while PassesOwn.never (pt_cmpR op_lt (pv 4) (pe_callB (lenQ K) rfl T.n_len (by decide +kernel) (pa_cons (pv 3) pa_nil)) (nomark _)) 
      (pss_cons (ps_set (i := 5) SC.nd rfl (by first | exact Or.inl rfl | exact Or.inr rfl) (pe_ix (ixL K) (pv 3) (pv 4) (fun _ _ => rfl))) 
      (pss_cons (ps_aug (i := 4) SC.nd rfl (by first | exact Or.inl rfl | exact Or.inr rfl) pe_int ip_add) 
      (pss_one (ps_for PassesOwn.never rfl (tupI K rfl (pe_dget hu (pv 1) (pv 5) (fun _ _ => rfl))) (pg_name (i := 6) SC.nd rfl (by first | exact Or.inl rfl | exact Or.inr rfl)) 
      (pss_one (ps_if (pt_cmp (pc_dnotin hu (pv 6) (pv 2))) 
      (pss_cons (ps_dput hu (pv 2) (pv 6) (pe_tup (pa_cons (pv 5) (pa_cons (pe_op op_add (pe_ix (ixT K) (pe_dget hu (pv 2) (pv 5) (fun _ _ => rfl)) pe_int (fun _ _ => rfl)) pe_int) pa_nil))) rfl) 
      (pss_one (ps_expr (pe_bm PySem.F.plainAttrs_list PySem.F.slot_list_append PySem.F.type_list_append mt_append (pv 3) (pa_cons (pv 6) pa_nil))))) pss_nil))))))) 
      (pss_one (ps_ret (pv 2))))))), ?_⟩
    refine fun t ht => ?_
    have s1 : Same H (upd H t (.dK [])) := same_new ht
    have e1 : upd H t (.dK []) t = some (.dK []) := upd_same
    generalize upd H t (.dK []) = H1 at s1 e1 ⊢
    refine ⟨_, rfl, by show 2 ≤ sizeLine; decide, fun b hb => ?_⟩
    have s2 : Same H1 (upd H1 b (.tup [.non, .int 0])) := same_new hb
    have e2 : upd H1 b (.tup [.non, .int 0]) b = some (.tup [.non, .int 0]) := upd_same
    generalize upd H1 b (.tup [.non, .int 0]) = H2 at s2 e2 ⊢
    have nbt : b ≠ t := ne_of e2 (s2 _ _ e1) (by intro z; cases z)
    refine ⟨s2 _ _ e1, [(Sum.inr s, .ref b)], rfl, by show 1 ≤ 15; decide, ?_⟩
    have s3 : Same H (upd H2 t (.dK (mergeK [] [(Sum.inr s, .ref b)]))) := same_upd (Same.trans s1 s2) ht
    have R3 : RdT (upd H2 t (.dK (mergeK [] [(Sum.inr s, .ref b)]))) t [(s, none, 0)] := ⟨[b], rfl, by rw [upd_same]; rfl, fun i h a hi ha => by
      match i, hi, ha with
      | 0, hi, ha =>
        cases hi
        cases ha
        exact ⟨none, 0, by simp, by rw [upd_ne nbt]; exact e2⟩⟩
    generalize upd H2 t (.dK (mergeK [] [(Sum.inr s, .ref b)])) = H3 at s3 R3 ⊢
    refine ⟨_, rfl, by show 1 ≤ sizeLine; decide, fun q hq => ?_⟩
    have s4 : Same H (upd H3 q (.lst [.str s])) := same_upd s3 (Same.free s3 hq)
    have e4 : upd H3 q (.lst [.str s]) q = some (.lst [.str s]) := upd_same
    have R4 := R3.same (same_new (o := .lst [.str s]) hq)
    have zq := Same.free s3 hq
    generalize upd H3 q (.lst [.str s]) = H4 at s4 e4 R4 ⊢
    have hnb : ∀ h ∈ hs, ∀ x ∈ nbL hs es h, x ∈ hs := fun h _ x hx => (List.mem_filter.mp hx).1
    have small : ∀ n : Nat, n ≤ 1000 → n < sizeLine := fun n h => by rw [sizeLine_eq]; omega
    refine while_ix (fun m σ H' => ∃ (k : Nat) (tb : Tb Str) (v5 v6 : Option V), m = hs.length - k ∧ σ = [some (.str s), some (.ref N), some (.ref t), some (.ref q), some (.int k), v5, v6] ∧ Same H H' ∧ RdT H' t tb ∧ H' q = some (.lst ((tb.map (·.1)).map V.str)) ∧
      TbI hs (nbL hs es) s k tb ∧ rdL (nbL hs es) (hs.length - k) k tb = roadT (nbL hs es) hs.length s) hs.length ⟨0, [(s, none, 0)], none, none, rfl, rfl, s4, R4, e4, TbI.new hm, rfl⟩ ?_
    rintro m σ H' ⟨k, tb, v5, v6, rfl, rfl, s', R', eq', TI, er⟩
    have lk : ((tb.map (·.1)).map V.str).length = tb.length := by rw [List.length_map, List.length_map]
    have few := TI.few
    refine ⟨_, rfl, _, rfl, q, _, rfl, .inl (SqL.of eq'), _, _, rfl, rfl, _, rfl, ?_⟩
    rw [lk]
    by_cases hk : k < tb.length
    · rw [decide_eq_true (show ((k : Nat) : Int) < (tb.length : Int) by omega)]
      refine iteT (B := False) ⟨fun σ' H'' => ∃ m', m' < hs.length - k ∧ ∃ (k : Nat) (tb : Tb Str) (v5 v6 : Option V), m' = hs.length - k ∧ σ' = [some (.str s), some (.ref N), some (.ref t), some (.ref q), some (.int k), v5, v6] ∧ Same H H'' ∧ RdT H'' t tb ∧ H'' q = some (.lst ((tb.map (·.1)).map V.str)) ∧
        TbI hs (nbL hs es) s k tb ∧ rdL (nbL hs es) (hs.length - k) k tb = roadT (nbL hs es) hs.length s, fun _ _ h => h, ?_⟩
      obtain ⟨e, he⟩ : ∃ e, tb[k]? = some e := ⟨_, List.getElem?_eq_getElem hk⟩
      have hem := List.mem_of_getElem? he
      have heq : ((tb.map (·.1)).map V.str)[k]? = some (.str e.1) := by rw [List.getElem?_map, List.getElem?_map, he]; rfl
      have hh : e.1 ∈ hs := TI.sub _ (List.mem_map_of_mem hem)
      obtain ⟨na, gN, fN⟩ := (DN.keep (fun o => s' N o) fun h a f => s' _ _ f).get hh
      have nbl : (nbL hs es e.1).length ≤ hs.length := List.length_filter_le _ _
      have T2 := TI.step hnb he
      have er2 : rdL (nbL hs es) (hs.length - (k + 1)) (k + 1) ((nbL hs es e.1).foldl (rd1 e.1 e.2.2) tb) = roadT (nbL hs es) hs.length s := by
        rw [← er, show hs.length - k = hs.length - (k + 1) + 1 by omega, rdL_go he]
      refine ⟨_, rfl, _, rfl, q, _, _, _, rfl, rfl, SqL.of eq', atI_nat heq, ?_⟩
      refine ⟨_, rfl, _, _, rfl, rfl, ?_⟩
      refine ⟨_, rfl, _, rfl, N, _, rfl, gN, na, rfl, ⟨_, SqT.of fN⟩, ?_⟩
      refine for_tup (K := K) (a := na) (xs := (nbL hs es e.1).map V.str) (fun j σ H'' => ∃ v6, σ = [some (.str s), some (.ref N), some (.ref t), some (.ref q), some (.int (k + 1)), some (.str e.1), v6] ∧ Same H H'' ∧ H'' na = some (.tup ((nbL hs es e.1).map V.str)) ∧
        RdT H'' t (((nbL hs es e.1).take j).foldl (rd1 e.1 e.2.2) tb) ∧ H'' q = some (.lst (((((nbL hs es e.1).take j).foldl (rd1 e.1 e.2.2) tb).map (·.1)).map V.str))) ⟨_, rfl, s', fN, R', eq'⟩ (fun j σ H'' _ ⟨_, _, _, z, _⟩ => SqT.of z) ?_ ?_
      · rintro j y σ H'' hy ⟨v6, rfl, s'', fN2, R2, eq2⟩
        rw [List.getElem?_map] at hy
        obtain ⟨x, hx, rfl⟩ := Option.map_eq_some_iff.mp hy
        have hxm : x ∈ hs := hnb _ hh _ (List.mem_of_getElem? hx)
        have et := take_snoc hx
        obtain ⟨nd2, sub2, _⟩ := fold_ok (h := e.1) (d := e.2.2) (l := (nbL hs es e.1).take j) (fun z hz => hnb _ hh z (List.mem_of_mem_take hz)) TI.nd TI.sub
        obtain ⟨rest, epre⟩ := fold_pre e.1 e.2.2 ((nbL hs es e.1).take j) tb
        rw [et, List.foldl_append]
        show tIfS _ _ _ _ _ _
        have hem2 : e ∈ ((nbL hs es e.1).take j).foldl (rd1 e.1 e.2.2) tb := by rw [epre]; exact List.mem_append_left _ hem
        generalize ((nbL hs es e.1).take j).foldl (rd1 e.1 e.2.2) tb = tb2 at nd2 sub2 hem2 R2 eq2 ⊢
        have few2 : tb2.length ≤ hs.length := by
          have := len_sub nd2 sub2
          rw [List.length_map] at this
          exact this
        obtain ⟨o, g, ho⟩ := DAt.mem R2 x
        refine ⟨_, rfl, _, rfl, t, o, rfl, g, _, rfl, ?_⟩
        rw [ho]
        have e1x : [x].foldl (rd1 e.1 e.2.2) tb2 = rd1 e.1 e.2.2 tb2 x := rfl
        rw [e1x]
        unfold rd1
        by_cases c : x ∈ tb2.map (·.1)
        · rw [decide_eq_true c]
          simp only [if_pos c]
          exact iteF (A := False) ⟨_, rfl, s'', fN2, R2, eq2⟩
        · rw [decide_eq_false c]
          simp only [if_neg c]
          refine iteT (B := False) ?_
          obtain ⟨ha, gh, p', d', hpd, fh⟩ := DAt.get R2 (x := e.1) (List.mem_map_of_mem hem2)
          have ee : (e.1, p', d') = e := key_inj nd2 hpd hem2 rfl
          have ed : d' = e.2.2 := by rw [← ee]
          subst ed
          refine ⟨_, rfl, _, rfl, _, rfl, t, _, rfl, gh, ha, _, 1, _, rfl, rfl, SqT.of fh, rfl, _, _, rfl, rfl, by show 2 ≤ sizeLine; decide, fun b hb => ⟨_, rfl, _, rfl, ?_⟩⟩
          have s5 : Same H'' (upd H'' b (.tup [.str e.1, .int ((e.2.2 : Int) + 1)])) := same_new hb
          have eb : upd H'' b (.tup [.str e.1, .int ((e.2.2 : Int) + 1)]) b = some (.tup [pV (some e.1), .int ((e.2.2 + 1 : Nat) : Int)]) := by rw [upd_same]; rfl
          generalize upd H'' b (.tup [.str e.1, .int ((e.2.2 : Int) + 1)]) = H5 at s5 eb ⊢
          have eq3 := s5 _ _ eq2
          obtain ⟨kvs, f1, f2, f3⟩ := RdT.push (R2.same s5) c eb
          have nqt : q ≠ t := ne_of eq3 f1 (by intro z; cases z)
          have nnt : na ≠ t := ne_of (s5 _ _ fN2) f1 (by intro z; cases z)
          have nnq : na ≠ q := ne_of (s5 _ _ fN2) eq3 (by intro z; cases z)
          refine ⟨t, _, rfl, DPut.k (k := Sum.inr x) f1 (small _ (by omega)), ?_⟩
          have s6 := same_upd (o := .dK (putK kvs (Sum.inr x) (.ref b))) (Same.trans s'' s5) ht
          have eq4 : upd H5 t (.dK (putK kvs (Sum.inr x) (.ref b))) q = some (.lst ((tb2.map (·.1)).map V.str)) := by rw [upd_ne nqt]; exact eq3
          have eN4 : upd H5 t (.dK (putK kvs (Sum.inr x) (.ref b))) na = some (.tup ((nbL hs es e.1).map V.str)) := by rw [upd_ne nnt]; exact s5 _ _ fN2
          generalize upd H5 t (.dK (putK kvs (Sum.inr x) (.ref b))) = H6 at s6 eq4 eN4 f3 ⊢
          refine ⟨_, rfl, .inl ⟨rfl, _, SqL.of eq4⟩, _, rfl, q, _, _, rfl, rfl, eq4, by rw [List.length_map, List.length_map]; exact small _ (by omega), ?_⟩
          refine ⟨_, rfl, same_upd s6 zq, by rw [upd_ne nnq]; exact eN4, f3.keep (fun o z => by rw [upd_ne (ne_of z eq4 (by rintro rfl; obtain ⟨as, _, z2, _⟩ := f3.ex; rw [z2] at z; cases z))]; exact z) (fun h a ⟨p, n, m, z⟩ => ⟨p, n, m, by rw [upd_ne (ne_of z eq4 (by intro y; cases y))]; exact z⟩), ?_⟩
          rw [upd_same]
          simp
      · rintro σ H'' ⟨v6, rfl, s'', fN2, R2, eq2⟩
        rw [List.length_map, List.take_length] at R2 eq2
        exact ⟨hs.length - (k + 1), by omega, k + 1, _, _, _, rfl, rfl, s'', R2, eq2, T2, er2⟩
    · rw [decide_eq_false (show ¬ ((k : Nat) : Int) < (tb.length : Int) by omega)]
      refine iteF (A := False) ?_
      rw [rdL_stop (by omega)] at er
      subst er
      exact ⟨_, rfl, kq _ t s' ht R'⟩
end
end Yd
set_option Elab.async false
set_option linter.all false
set_option maxRecDepth 100000
set_option maxHeartbeats 8000000
namespace Yd
open PySem PySem.Spec PyProof.Rows L2 Xo
def roadOf (hs : List Str) (es : List Wr) (s : Str) : Tb Str := roadT (nbL hs es) hs.length s
def dOf (hs : List Str) (es : List Wr) (s x : Str) : Nat := (((roadOf hs es s).find? fun e => decide (e.1 = x)).map fun e => e.2.2).getD 0
/-- a yard's plan: names that differ, wires between them, all hanging together -/
structure Plan (hs : List Str) (es : List Wr) : Prop where
  nd : hs.Nodup
  few : hs.length ≤ 14
  enf : es.length ≤ 14
  sml : ∀ h ∈ hs, smallB h = true
  wf : ∀ e ∈ es, e.1 ∈ hs ∧ e.2 ∈ hs
  conn : ∀ a ∈ hs, ∀ b ∈ hs, Conn es a b
theorem Plan.road {hs : List Str} {es : List Wr} (S : Plan hs es) {s : Str} (hm : s ∈ hs) : ((roadOf hs es s).map (·.1)).Nodup ∧ ∀ x ∈ hs, x ∈ (roadOf hs es s).map (·.1) := by
  obtain ⟨n, sub, st, cl⟩ := roadT_ok (nb := nbL hs es) (hs := hs) (fun h _ x hx => (List.mem_filter.mp hx).1) hm
  refine ⟨n, fun x hx => ?_⟩
  refine (S.conn s hm x hx).inv (· ∈ (roadOf hs es s).map (·.1)) st fun e he => ?_
  obtain ⟨w1, w2⟩ := S.wf e he
  constructor
  · intro h
    exact cl _ h _ (List.mem_filter.mpr ⟨w2, by unfold joinB; exact decide_eq_true (.inl he)⟩)
  · intro h
    exact cl _ h _ (List.mem_filter.mpr ⟨w1, by unfold joinB; exact decide_eq_true (.inr he)⟩)
theorem dOf_eq {hs : List Str} {es : List Wr} {s x : Str} {p : Option Str} {d : Nat} (nd : ((roadOf hs es s).map (·.1)).Nodup) (h : (x, p, d) ∈ roadOf hs es s) : dOf hs es s x = d := by
  unfold dOf
  cases q : (roadOf hs es s).find? fun e => decide (e.1 = x) with
  | none => exact absurd (List.find?_eq_none.mp q _ h) (by simp)
  | some e =>
    have h1 := List.mem_of_find?_eq_some q
    have h2 : e.1 = x := by have := List.find?_some q; simpa using this
    have : e = (x, p, d) := key_inj nd h1 h h2
    rw [this]; rfl
def sideOf (hs : List Str) (es : List Wr) (a b : Str) : List Str := hs.filter fun x => decide (dOf hs es a x < dOf hs es b x)
def RoadsAt (hs : List Str) (es : List Wr) : Hp → Str → Addr → Prop := fun H h t => RdT H t (roadOf hs es h)
theorem RoadsAt.same {hs : List Str} {es : List Wr} {H H' : Hp} {h : Str} {t : Addr} (r : RoadsAt hs es H h t) (s : Same H H') : RoadsAt hs es H' h t := RdT.same r s
section
variable {P : Program} {w : World} {K : PySem.W.Frag} {mg : Str → Option Value} {base : Heap}
theorem road_get {hs : List Str} {es : List Wr} (S : Plan hs es) {H : Hp} {s x : Str} {t : Addr} (r : RdT H t (roadOf hs es s)) (hs' : s ∈ hs) (hx : x ∈ hs) : ∃ (a : Addr) (p : V), DGet H t (.str x) (some (.ref a)) ∧ H a = some (.tup [p, .int (dOf hs es s x)]) := by
  obtain ⟨n, all⟩ := S.road hs'
  obtain ⟨a, g, p, d, m, e⟩ := DAt.get r (all x hx)
  rw [dOf_eq n m]
  exact ⟨a, pV p, g, e⟩
theorem seq_asg {te : TE} {g : TG} {u : TS} {D : Ends} {σ : L2.St} {H : Hp} (h : te σ H fun x H1 => g x σ H1 fun σ2 H2 => u D σ2 H2) : tSeq (tAsg te g) u D σ H := h
def spSplit (K : PySem.W.Frag) : Sp := fun vs H Q _ => ∃ (p dx b R wa : Addr) (fs : List (Str × V)) (hs : List Str) (es : List Wr) (x y : Str), vs = [.ref p, .ref wa] ∧ H p = some (.ins (He.ga K "Yard") dx fs) ∧ fs.lookup ("benches" : Str) = some (.ref b) ∧ fs.lookup ("_roads" : Str) = some (.ref R) ∧ SqT K H b (hs.map V.str) ∧ DAt H R hs (RoadsAt hs es) ∧ Plan hs es ∧
  H wa = some (.tup [.str x, .str y]) ∧ x ∈ hs ∧ y ∈ hs ∧ ∀ (H' : Hp) (r l1 l2 : Addr), Same H H' → H r = none → H' r = some (.tup [.ref l1, .ref l2]) → H' l1 = some (.tup ((sideOf hs es x y).map V.str)) → H' l2 = some (.tup ((sideOf hs es y x).map V.str)) → Q (.ref r) H'
theorem sc_YardD_split : FnScope ["self", "wire", "from_left", "from_right", "left", "name", "right"] ["self", "wire"] (defScope s_YardD_split) := ⟨rfl, rfl, rfl, by decide +kernel, rfl, by decide +kernel, by decide +kernel⟩
theorem good_split (T : Tx w K mg) : Good P w K mg base CX0 1 (He.ma K (He.ga K "Yard") "_split") ["self", "wire"] (spSplit K) := by
  obtain ⟨fd, F⟩ := T.f_YardD_split
  refine ⟨fd, F.ok sc_YardD_split (fun vs H Q E h => ?_) (fun cdv A outer s H vs Q E hr h => ?_), F.kp, F.bindsN fun _ _ _ _ _ _ us hl => match us, hl with | [_, _], _ => rfl⟩
  · obtain ⟨_, _, _, _, _, _, _, _, _, _, rfl, _⟩ := h
    rfl
  · obtain ⟨p, dx, b, R, wa, fs, hs, es, x, y, rfl, hp, lb, lR, hb, DR, S, hwa, hx, hy, kq⟩ := h
    have SC := sc_YardD_split
    have hu := hu_of hr
    refine ⟨_, PSs.nox (pss_cons (ps_asg (pe_tup (pa_cons (pe_dget hu (fldQ K rfl (pv 0)) (pe_ix (ixT K) (pv 1) pe_int (fun _ _ => rfl)) (fun _ _ => rfl)) (pa_cons (pe_dget hu (fldQ K rfl (pv 0)) (pe_ix (ixT K) (pv 1) pe_int (fun _ _ => rfl)) (fun _ _ => rfl)) pa_nil))) (pg_tup rfl (pgs_cons (pg_name (i := 2) SC.nd rfl (by first | exact Or.inl rfl | exact Or.inr rfl)) (pgs_cons (pg_name (i := 3) SC.nd rfl (by first | exact Or.inl rfl | exact Or.inr rfl)) pgs_nil)))) 
      (pss_cons (ps_setLc (i := 4) (own := [("name", 5)]) (g := gName 5) rfl SC.nd rfl rfl (by rfl) (tupI K rfl (fldQ K rfl (pv 0))) (blkOk_by (N := ["self", "wire", "from_left", "from_right", "left", "name", "right"]) (sc := defScope s_YardD_split) (by decide +kernel)) (fun _ _ _ _ _ => (pg_name (i := 5) SC.nd rfl (by first | exact Or.inl rfl | exact Or.inr rfl))) (fun _ _ _ _ _ => (pts_one (pt_cmpR op_lt (pe_ix (ixT K) (pe_dget hu (pv 2) (pv 5) (fun _ _ => rfl)) pe_int (fun _ _ => rfl)) (pe_ix (ixT K) (pe_dget hu (pv 3) (pv 5) (fun _ _ => rfl)) pe_int (fun _ _ => rfl)) (nomark _)))) (fun _ _ _ _ _ => (pv 5))) 
      (pss_cons (ps_setLc (i := 6) (own := [("name", 5)]) (g := gName 5) rfl SC.nd rfl rfl (by rfl) (tupI K rfl (fldQ K rfl (pv 0))) (blkOk_by (N := ["self", "wire", "from_left", "from_right", "left", "name", "right"]) (sc := defScope s_YardD_split) (by decide +kernel)) (fun _ _ _ _ _ => (pg_name (i := 5) SC.nd rfl (by first | exact Or.inl rfl | exact Or.inr rfl))) (fun _ _ _ _ _ => (pts_one (pt_cmpR op_lt (pe_ix (ixT K) (pe_dget hu (pv 3) (pv 5) (fun _ _ => rfl)) pe_int (fun _ _ => rfl)) (pe_ix (ixT K) (pe_dget hu (pv 2) (pv 5) (fun _ _ => rfl)) pe_int (fun _ _ => rfl)) (nomark _)))) (fun _ _ _ _ _ => (pv 5))) 
      (pss_one (ps_ret (pe_tup (pa_cons (pe_callTy (tupOf K) rfl T.n_tuple (by decide +kernel) (pa_cons (pv 4) pa_nil)) (pa_cons (pe_callTy (tupOf K) rfl T.n_tuple (by decide +kernel) (pa_cons (pv 6) pa_nil)) pa_nil)))))))), ?_⟩
    obtain ⟨tx, gx, rx⟩ := DR.get hx
    obtain ⟨ty, gy, ry⟩ := DR.get hy
    have small : ∀ n : Nat, n ≤ 1000 → n < sizeLine := fun n h => by rw [sizeLine_eq]; omega
    have few := S.few
    have comp : ∀ (i j : Nat) (v4 : Option V) (x y : Str) (t1 t2 : Addr) (H1 : Hp) (Q1 : VK), x ∈ hs → y ∈ hs → Same H H1 → RoadsAt hs es H x t1 → RoadsAt hs es H y t2 →
        (∀ n : Str, ([some (V.ref p), some (.ref wa), some (.ref tx), some (.ref ty), v4, some (.str n), none] : L2.St)[i]? = some (some (.ref t1))) → (∀ n : Str, ([some (V.ref p), some (.ref wa), some (.ref tx), some (.ref ty), v4, some (.str n), none] : L2.St)[j]? = some (some (.ref t2))) →
        (∀ (H2 : Hp) (l : Addr), Same H1 H2 → H2 l = some (.lst ((sideOf hs es x y).map V.str)) → Q1 (.ref l) H2) →
        tLc (iTup K (tFld K (tVar 0) (Str.ofString "benches"))) (gName 5) (tTest (tOp (rI0 fun i j => V.bl (decide (i < j))) (tOp (rIxT K) (tDGet (tVar i) (tVar 5)) (tC (V.int 1))) (tOp (rIxT K) (tDGet (tVar j) (tVar 5)) (tC (V.int 1))))) (tVar 5) [5]
          [some (.ref p), some (.ref wa), some (.ref tx), some (.ref ty), v4, none, none] H1 Q1 := by
      intro i j v4 x y t1 t2 H1 Q1 hx hy s1 r1 r2 hi hj q1
      have hb1 := seqT s1 hb
      refine ⟨_, rfl, p, _, dx, fs, _, rfl, s1 _ _ hp, T.cls_Yard, T.a_Yard_benches, lb, b, rfl, ⟨_, hb1⟩, fun D hD => ?_⟩
      refine lc_fmT V.str hs (fun o => if dOf hs es x o < dOf hs es y o then some (.str o) else none) hb1 hD (small _ (by omega)) (fun k n h acc nx hn s e hacc hnx => ⟨rfl, ?_⟩) (fun h s e => q1 h D s ?_)
      · have hnm := List.mem_of_getElem? hn
        have s2 := Same.trans s1 s
        obtain ⟨a1, p1, g1, e1⟩ := road_get S (r1.same s2) hx hnm
        obtain ⟨a2, p2, g2, e2⟩ := road_get S (r2.same s2) hy hnm
        refine ⟨_, hi n, _, rfl, t1, _, rfl, g1, a1, _, 1, _, rfl, rfl, SqT.of e1, rfl, _, hj n, _, rfl, t2, _, rfl, g2, a2, _, 1, _, rfl, rfl, SqT.of e2, rfl, _, _, rfl, rfl, _, rfl, ?_⟩
        by_cases c : dOf hs es x n < dOf hs es y n
        · rw [decide_eq_true (show ((dOf hs es x n : Nat) : Int) < ((dOf hs es y n : Nat) : Int) by omega)]
          simp only [if_pos c] at hnx
          exact iteT (B := False) ⟨_, rfl, acc, e, hacc, hnx⟩
        · rw [decide_eq_false (show ¬ ((dOf hs es x n : Nat) : Int) < ((dOf hs es y n : Nat) : Int) by omega)]
          simp only [if_neg c] at hnx
          exact iteF (A := False) hnx
      · rw [e]
        congr 2
        unfold sideOf
        rw [← List.filterMap_eq_filter, List.map_filterMap]
        congr 1
        funext o
        by_cases c : dOf hs es x o < dOf hs es y o <;> simp [Option.guard, c]
    refine ⟨_, rfl, p, _, dx, fs, _, rfl, hp, T.cls_Yard, T.a_Yard__roads, lR, _, rfl, wa, _, 0, _, rfl, rfl, SqT.of hwa, rfl, R, _, rfl, gx, _, rfl, p, _, dx, fs, _, rfl, hp, T.cls_Yard, T.a_Yard__roads, lR, _, rfl, wa, _, 1, _, rfl, rfl, SqT.of hwa, rfl, R, _, rfl, gy, by show 2 ≤ sizeLine; decide, fun t ht => ?_⟩
    have s1 : Same H (upd H t (.tup [.ref tx, .ref ty])) := same_new ht
    refine ⟨t, _, rfl, SqT.of upd_same, rfl, _, _, rfl, _, _, rfl, rfl, ?_⟩
    generalize upd H t (.tup [.ref tx, .ref ty]) = H1 at s1 ⊢
    dsimp only
    refine seq_asg ?_
    refine comp 2 3 none x y tx ty H1 _ hx hy s1 rx ry (fun _ => rfl) (fun _ => rfl) fun H2 l1 s2 e1 => ?_
    refine seq_asg ?_
    refine comp 3 2 (some (.ref l1)) y x ty tx H2 _ hy hx (Same.trans s1 s2) ry rx (fun _ => rfl) (fun _ => rfl) fun H3 l2 s3 e2 => ?_
    have s13 := Same.trans (Same.trans s1 s2) s3
    refine ⟨_, rfl, l1, _, rfl, .inl ⟨SqL.of (s3 _ _ e1), fun m1 hm1 => ?_⟩⟩
    have s4 : Same H3 (upd H3 m1 (.tup ((sideOf hs es x y).map V.str))) := same_new hm1
    have f1 : upd H3 m1 (.tup ((sideOf hs es x y).map V.str)) m1 = some (.tup ((sideOf hs es x y).map V.str)) := upd_same
    generalize upd H3 m1 (.tup ((sideOf hs es x y).map V.str)) = H4 at s4 f1 ⊢
    refine ⟨_, rfl, l2, _, rfl, .inl ⟨SqL.of (s4 _ _ e2), fun m2 hm2 => ?_⟩⟩
    have s5 : Same H4 (upd H4 m2 (.tup ((sideOf hs es y x).map V.str))) := same_new hm2
    have f2 : upd H4 m2 (.tup ((sideOf hs es y x).map V.str)) m2 = some (.tup ((sideOf hs es y x).map V.str)) := upd_same
    generalize upd H4 m2 (.tup ((sideOf hs es y x).map V.str)) = H5 at s5 f2 ⊢
    refine ⟨by show 2 ≤ sizeLine; decide, fun r hr => ?_⟩
    have s6 : Same H5 (upd H5 r (.tup [.ref m1, .ref m2])) := same_new hr
    have s15 := Same.trans (Same.trans s13 s4) s5
    exact kq _ r m1 m2 (Same.trans s15 s6) (Same.free s15 hr) upd_same (s6 _ _ (s5 _ _ f1)) (s6 _ _ f2)
end
end Yd
set_option Elab.async false
set_option linter.all false
set_option maxRecDepth 100000
set_option maxHeartbeats 8000000
/-! Dicts by comprehension: positions, sides; a yard in the heap. -/
namespace Yd
open PySem PySem.Spec PyProof.Rows L2 Xo
section
variable {K : PySem.W.Frag} {a D : Addr} {xs : List V} {g : TG} {tt : TT} {tk tv : TE} {vs : List Nat} {σ : L2.St} {H1 : Hp} {Qd : Hp → Prop}
theorem dc_enumT (Pv : Nat → Hp → Prop) (h0 : Pv 0 (upd H1 D (.dK []))) (hl : ∀ i H, i ≤ xs.length → Pv i H → SqT K H a xs)
    (hs : ∀ i x H T, xs[i]? = some x → Pv i H → H T = none → DcTurn g tt tk tv vs σ D (.ref T) (upd H T (.tup [.int (i : Nat), x])) (Pv (i + 1))) (hd : ∀ H, Pv xs.length H → Qd H) :
    ∃ W : Nat → Nat → Hp → Prop, (∃ m, W 0 m (upd H1 D (.dK []))) ∧ ∀ i m H, W i m H → ((IteT K a).stop i H ∧ Qd H) ∨
      ((IteT K a).go i H ∧ ∃ nx : Hp → Prop, (∀ H', nx H' → ∃ m', m' < m ∧ W (i + 1) m' H') ∧ ∀ x H', (IteT K a).yld i H x H' → DcTurn g tt tk tv vs σ D x H' nx) := by
  refine ⟨fun i m H => m = xs.length - i ∧ i ≤ xs.length ∧ Pv i H, ⟨xs.length, by simp, Nat.zero_le _, h0⟩, ?_⟩
  rintro i m H ⟨rfl, hi, p⟩
  have q := hl i H hi p
  by_cases hlt : i < xs.length
  · refine .inr ⟨⟨xs, xs[i], q, by simp [hlt]⟩, Pv (i + 1), fun H' p' => ⟨xs.length - (i + 1), by omega, rfl, hlt, p'⟩, fun v H' y => ?_⟩
    obtain ⟨T, x, rfl, hT, rfl, hx⟩ := y
    exact hs i x H T (hx xs q) p hT
  · have e : i = xs.length := by omega
    subst e
    exact .inl ⟨⟨xs, q, Nat.le_refl _⟩, hd H p⟩
abbrev DtTurn (g : TG) (tt : TT) (tk tv : TE) (vs : List Nat) (σ : L2.St) (D : Addr) (x : V) (H : Hp) (nx : Hp → Prop) : Prop :=
  g x (wipe σ vs) H fun σ2 H2 => wipe σ2 vs = wipe σ vs ∧ tt σ2 H2 fun b H3 => if b = true then tk σ2 H3 fun y H4 => tv σ2 H4 fun z H5 => ∃ kvs k b, y = .ref b ∧ H5 b = some (.tup (k.map kV)) ∧ H5 D = some (.dT kvs) ∧ kvs.length < sizeLine ∧ nx (upd H5 D (.dT (putK kvs k z))) else nx H3
theorem dcT_tup (Pv : Nat → Hp → Prop) (h0 : Pv 0 (upd H1 D (.dT []))) (hl : ∀ i H, i ≤ xs.length → Pv i H → SqT K H a xs)
    (hs : ∀ i x H, xs[i]? = some x → Pv i H → DtTurn g tt tk tv vs σ D x H (Pv (i + 1))) (hd : ∀ H, Pv xs.length H → Qd H) :
    ∃ W : Nat → Nat → Hp → Prop, (∃ m, W 0 m (upd H1 D (.dT []))) ∧ ∀ i m H, W i m H → ((Itt K a).stop i H ∧ Qd H) ∨
      ((Itt K a).go i H ∧ ∃ nx : Hp → Prop, (∀ H', nx H' → ∃ m', m' < m ∧ W (i + 1) m' H') ∧ ∀ x H', (Itt K a).yld i H x H' → DtTurn g tt tk tv vs σ D x H' nx) := by
  refine ⟨fun i m H => m = xs.length - i ∧ i ≤ xs.length ∧ Pv i H, ⟨xs.length, by simp, Nat.zero_le _, h0⟩, ?_⟩
  rintro i m H ⟨rfl, hi, p⟩
  have q := hl i H hi p
  by_cases hlt : i < xs.length
  · refine .inr ⟨⟨xs, xs[i], q, by simp [hlt]⟩, Pv (i + 1), fun H' p' => ⟨xs.length - (i + 1), by omega, rfl, hlt, p'⟩, fun x H' y => ?_⟩
    obtain ⟨e, y⟩ := y
    subst e
    exact hs i x _ (y xs q) p
  · have e : i = xs.length := by omega
    subst e
    exact .inl ⟨⟨xs, q, Nat.le_refl _⟩, hd H p⟩
end
/-! positions -/
def posK (hs : List Str) : List (Key × V) := hs.zipIdx.map fun p => (Sum.inr p.1, V.int (p.2 : Int))
theorem posK_none {x : Str} {hs : List Str} (n : x ∉ hs) : valV (posK hs) (Sum.inr x) = none := by
  unfold valV
  rw [Option.map_eq_none_iff, List.find?_eq_none]
  intro kv h
  obtain ⟨p, hp, rfl⟩ := List.mem_map.mp h
  intro z
  have z' := of_decide_eq_true z
  have e : p.1 = x := Sum.inr.inj z'
  obtain ⟨a, i⟩ := p
  have q := List.fst_mem_of_mem_zipIdx hp
  exact n (e ▸ q)
theorem posK_put {x : Str} {hs : List Str} (n : x ∉ hs) : putK (posK hs) (Sum.inr x) (.int (hs.length : Nat)) = posK (hs ++ [x]) := by
  rw [putK_new _ (posK_none n)]
  unfold posK
  rw [List.zipIdx_append, List.map_append]
  simp
theorem posK_len {hs : List Str} : (posK hs).length = hs.length := by unfold posK; rw [List.length_map, List.length_zipIdx]
/-! sides -/
def SideAt (hs : List Str) (es : List Wr) (H : Hp) (e : Wr) (r : Addr) : Prop := ∃ l1 l2, H r = some (.tup [.ref l1, .ref l2]) ∧ H l1 = some (.tup ((sideOf hs es e.1 e.2).map V.str)) ∧ H l2 = some (.tup ((sideOf hs es e.2 e.1).map V.str))
theorem SideAt.keep {hs : List Str} {es : List Wr} {H H' : Hp} {e : Wr} {r : Addr} (s : SideAt hs es H e r) (k : ∀ a xs, H a = some (.tup xs) → H' a = some (.tup xs)) : SideAt hs es H' e r := by
  obtain ⟨l1, l2, h1, h2, h3⟩ := s
  exact ⟨l1, l2, k _ _ h1, k _ _ h2, k _ _ h3⟩
structure SidesAt (hs : List Str) (es0 es : List Wr) (H : Hp) (S : Addr) : Prop where
  ex : ∃ kvs : List (List Key × V), H S = some (.dT kvs) ∧ kvs.length ≤ es0.length ∧ (∀ e ∈ es0, ∃ r, valV kvs [Sum.inr e.1, Sum.inr e.2] = some (.ref r) ∧ SideAt hs es H e r) ∧ ∀ a b, (a, b) ∉ es0 → valV kvs [Sum.inr a, Sum.inr b] = none
theorem SidesAt.keep {hs : List Str} {es0 es : List Wr} {H H' : Hp} {S : Addr} (s : SidesAt hs es0 es H S) (hS : ∀ o, H S = some o → H' S = some o) (k : ∀ a xs, H a = some (.tup xs) → H' a = some (.tup xs)) : SidesAt hs es0 es H' S := by
  obtain ⟨kvs, h1, h2, h3, h4⟩ := s.ex
  exact ⟨kvs, hS _ h1, h2, fun e he => by obtain ⟨r, g, f⟩ := h3 e he; exact ⟨r, g, f.keep k⟩, h4⟩
theorem SidesAt.put {hs : List Str} {es0 es : List Wr} {H : Hp} {S : Addr} (s : SidesAt hs es0 es H S) {e : Wr} {r : Addr} (f : SideAt hs es H e r) : ∃ kvs, H S = some (.dT kvs) ∧ kvs.length ≤ es0.length ∧ SidesAt hs (es0 ++ [e]) es (upd H S (.dT (putK kvs [Sum.inr e.1, Sum.inr e.2] (.ref r)))) S := by
  obtain ⟨kvs, h1, h2, h3, h4⟩ := s.ex
  have kp : ∀ o, ∀ a xs, H a = some (.tup xs) → upd H S o a = some (.tup xs) := fun o a xs z => by rw [upd_ne (ne_of z h1 (by intro y; cases y))]; exact z
  refine ⟨kvs, h1, h2, ⟨_, upd_same, ?_, fun e' he' => ?_, fun a b n => ?_⟩⟩
  · have := putK_le kvs [Sum.inr e.1, Sum.inr e.2] (.ref r)
    simp only [List.length_append, List.length_cons, List.length_nil]
    omega
  · rw [valV_put]
    by_cases c : e'.1 = e.1 ∧ e'.2 = e.2
    · rw [if_pos (pair_key.mpr c)]
      have : e' = e := Prod.ext c.1 c.2
      subst this
      exact ⟨r, rfl, f.keep (kp _)⟩
    · rw [if_neg (fun z => c (pair_key.mp z))]
      have m : e' ∈ es0 := (List.mem_append.mp he').resolve_right fun z => c (by rw [List.mem_singleton.mp z]; exact ⟨rfl, rfl⟩)
      obtain ⟨r', g, f'⟩ := h3 e' m
      exact ⟨r', g, f'.keep (kp _)⟩
  · rw [List.mem_append, not_or] at n
    rw [valV_put, if_neg (fun z => n.2 (by rw [List.mem_singleton]; obtain ⟨z1, z2⟩ := pair_key.mp z; exact Prod.ext z1 z2))]
    exact h4 a b n.1
/-! a yard -/
def yF (c : Bool) (b we : Addr) (x : Str) (ps N R S : Addr) : List (Str × V) := [("course", .bl c), ("benches", .ref b), ("wires", .ref we), ("text", .str x), ("_positions", .ref ps), ("_neighbours", .ref N), ("_roads", .ref R), ("_sides", .ref S)]
structure YdA (K : PySem.W.Frag) (H : Hp) (p dx b we ps N R S : Addr) (c : Bool) (hs : List Str) (as : List Addr) (es : List Wr) : Prop where
  hp : H p = some (.ins (He.ga K "Yard") dx (yF c b we (yardT c hs es) ps N R S))
  hb : H b = some (.tup (hs.map V.str))
  hw : H we = some (.tup (as.map V.ref))
  wt : WAt H as es
  hP : H ps = some (.dK (posK hs))
  hN : DAt H N hs (NbAt hs es)
  hR : DAt H R hs (RoadsAt hs es)
  hS : SidesAt hs es es H S
theorem YdA.same {K : PySem.W.Frag} {H H' : Hp} {p dx b we ps N R S : Addr} {c : Bool} {hs : List Str} {as : List Addr} {es : List Wr} (Y : YdA K H p dx b we ps N R S c hs as es) (s : Same H H') : YdA K H' p dx b we ps N R S c hs as es :=
  ⟨s _ _ Y.hp, s _ _ Y.hb, s _ _ Y.hw, Y.wt.same s, s _ _ Y.hP, Y.hN.keep (fun o => s _ o) fun h a f => s _ _ f, Y.hR.keep (fun o => s _ o) fun h a f => RoadsAt.same f s, Y.hS.keep (fun o => s _ o) fun a xs => s a _⟩
theorem ins_keep {H : Hp} {p C dx : Addr} {fs : List (Str × V)} {o : HO} (hp : H p = some (.ins C dx fs)) {a : Addr} {u : HO} (h : H a = some u) (n : ∀ C dx fs, u ≠ .ins C dx fs) : upd H p o a = some u := by
  rw [upd_ne (ne_of h hp fun z => n _ _ _ z)]; exact h
theorem RSt.plan {c : Bool} {hs : List Str} {es : List Wr} (S : RSt c hs es true) : Plan hs es := by
  obtain ⟨ne, conn⟩ := S.whole rfl
  refine ⟨S.nd, S.few, ?_, S.sm, S.wf, conn⟩
  have few := S.few
  cases c with
  | true =>
    rw [S.course rfl rfl, List.length_zip, List.length_tail]
    omega
  | false =>
    have := (S.frst rfl).le ne
    omega
theorem Plan.sml8 {hs : List Str} {es : List Wr} (S : Plan hs es) : Sml hs es := by
  have few := S.few
  have enf := S.enf
  have l8 : ∀ h ∈ hs, h.length ≤ 100 := fun h m => by
    have := (small_len (S.sml h m)).1
    have e : h.cps.toList.length = h.length := Array.length_toList
    omega
  exact ⟨by omega, by omega, l8, fun e he => ⟨l8 _ (S.wf e he).1, l8 _ (S.wf e he).2⟩⟩
section
variable {K : PySem.W.Frag} {H : Hp} {p q dx dy ab aw ag : Addr} {c en : Bool} {hs : List Str} {as : List Addr} {es : List Wr} {G : Str → Int}
theorem RdA.other {C : Addr} {fs : List (Str × V)} {o : HO} (R : RdA K H p dx ab aw ag c hs as es G en) (hq : H q = some (.ins C dy fs)) (n : q ≠ p) : RdA K (upd H q o) p dx ab aw ag c hs as es G en :=
  ⟨by rw [upd_ne (Ne.symm n)]; exact R.hp, ins_keep hq R.hb (by intro _ _ _ z; cases z), ins_keep hq R.hw (by intro _ _ _ z; cases z), ins_keep hq R.hg (by intro _ _ _ z; cases z), R.wt.keep (fun a xs e => ins_keep hq e (by intro _ _ _ z; cases z)), R.nbw⟩
end
end Yd
set_option Elab.async false
set_option linter.all false
set_option maxRecDepth 100000
set_option maxHeartbeats 16000000
namespace Yd
open PySem PySem.Spec PyProof.Rows L2 Xo
section
variable {P : Program} {w : World} {K : PySem.W.Frag} {mg : Str → Option Value} {base : Heap}
def spYInit (K : PySem.W.Frag) : Sp := fun vs H Q E => ∃ (p dx : Addr) (v : V), vs = [.ref p, v] ∧ H p = some (.ins (He.ga K "Yard") dx []) ∧ ((∃ n, TyX K H v (.type n) ∧ kitB n "str" = some false ∧ RB K E H 0) ∨
  ∃ x, v = .str x ∧ okS x ∧ x.length ≤ 1000000 ∧ (∀ line, readY x = .bad line → RB K E H line) ∧ (∀ what n, readY x = .many what n → RM K E H what n) ∧
  (∀ c hs es, readY x = .ok c hs es → ∀ (H' : Hp) (b we ps N R S : Addr) (as : List Addr), Keeps [p] H H' → YdA K H' p dx b we ps N R S c hs as es → Plan hs es → Q .non H'))
theorem sc_YardD__initD_ : FnScope ["self", "text", "reader", "at", "name", "wire"] ["self", "text"] (defScope s_YardD__initD_) := ⟨rfl, rfl, rfl, by decide +kernel, rfl, by decide +kernel, by decide +kernel⟩
theorem good_YInitK (T : Tx w K mg) : ∃ fd, FnOk P w K mg base (L2.CX P w) 7 (He.ma K (He.ga K "Yard") "__init__") fd ["self", "text"] (spYInit K) ∧ PySem.W.keepIn K (.ref (He.ma K (He.ga K "Yard") "__init__")) = true ∧ L2.Binds K fd ["self", "text"] [] ∧ KBn K fd ["self", "text"] 1 ["text"] (fun us ws => us ++ ws) (fun us ws => us ++ ws) := by
  obtain ⟨fd, F⟩ := T.f_YardD__initD_
  obtain ⟨_, G_read_yard, k_read_yard, b_read_yard⟩ := good_read (P := P) (w := w) (base := base) T
  obtain ⟨_, G_yard_text, k_yard_text, b_yard_text⟩ := good_yard_text (P := P) (w := w) (base := base) T
  obtain ⟨_, G_neighbour_table, k_neighbour_table, b_neighbour_table⟩ := good_neighbour_table (P := P) (w := w) (base := base) T
  obtain ⟨_, G_road_table, k_road_table, b_road_table⟩ := good_road_table (P := P) (w := w) (base := base) T
  obtain ⟨_, G_Yard_split, _, b_Yard_split⟩ := good_split (P := P) (w := w) (base := base) T
  refine ⟨fd, F.ok sc_YardD__initD_ (fun vs H Q E h => ?_) (fun cdv A outer s H vs Q E hr h => ?_), F.kp, F.bindsN fun _ _ _ _ _ _ us hl => match us, hl with | [_, _], _ => rfl, kb_self F "text" fun _ _ _ _ _ _ _ _ => rfl⟩
  · obtain ⟨_, _, _, rfl, _⟩ := h
    rfl
  · obtain ⟨p, dx, v, rfl, hp, hv⟩ := h
    have SC := sc_YardD__initD_
    have hu := hu_of hr
    refine ⟨_, pss_cons (ps_set (i := 2) SC.nd rfl (by first | exact Or.inl rfl | exact Or.inr rfl) (pe_call G_read_yard (hr.mono (by decide)) rfl T.g_read_yard k_read_yard b_read_yard .nil (passes_call (takes_of rfl rfl rfl rfl) (fun _ _ _ _ h => h)) (pa_cons (pv 1) pa_nil))) 
      (pss_cons (ps_fld (pv 0) (fldQ K rfl (pv 2)) rfl) 
      (pss_cons (ps_fld (pv 0) (pe_callTy (tupOf K) rfl T.n_tuple (by decide +kernel) (pa_cons (fldQ K rfl (pv 2)) pa_nil)) rfl) 
      (pss_cons (ps_fld (pv 0) (pe_callTy (tupOf K) rfl T.n_tuple (by decide +kernel) (pa_cons (fldQ K rfl (pv 2)) pa_nil)) rfl) 
      (pss_cons (ps_fld (pv 0) (pe_call G_yard_text (hr.mono (by decide)) rfl T.g_yard_text k_yard_text b_yard_text .nil pass0 (pa_cons (fldQ K rfl (pv 0)) (pa_cons (fldQ K rfl (pv 0)) (pa_cons (fldQ K rfl (pv 0)) pa_nil)))) rfl) 
      (pss_cons (ps_fld (pv 0) (pe_dc (own := [("at", 3), ("name", 4)]) (g := gTup K 2 (gCons (gName 3) (gCons (gName 4) gNil))) (tt := tYes) rfl SC.nd (enumTQ K rfl rfl T.n_enumerate (pa_cons (fldQ K rfl (pv 0)) pa_nil)) (blkOk_by (N := ["self", "text", "reader", "at", "name", "wire"]) (sc := defScope s_YardD__initD_) (by decide +kernel)) (fun _ _ _ _ _ => (tupG K rfl rfl (pgs_cons (pg_name (i := 3) SC.nd rfl (by first | exact Or.inl rfl | exact Or.inr rfl)) (pgs_cons (pg_name (i := 4) SC.nd rfl (by first | exact Or.inl rfl | exact Or.inr rfl)) pgs_nil)))) (fun _ _ _ _ _ => pts_nil) (fun _ _ _ _ _ => (pv 4)) (fun _ _ _ _ _ => (pv 3))) rfl) 
      (pss_cons (ps_fld (pv 0) (pe_call G_neighbour_table (hr.mono (by decide)) rfl T.g_neighbour_table k_neighbour_table b_neighbour_table .nil pass0 (pa_cons (fldQ K rfl (pv 0)) (pa_cons (fldQ K rfl (pv 0)) pa_nil))) rfl) 
      (pss_cons (ps_fld (pv 0) (pe_dc (own := [("name", 4)]) (g := gName 4) (tt := tYes) rfl SC.nd (tupI K rfl (fldQ K rfl (pv 0))) (blkOk_by (N := ["self", "text", "reader", "at", "name", "wire"]) (sc := defScope s_YardD__initD_) (by decide +kernel)) (fun _ _ _ _ _ => (pg_name (i := 4) SC.nd rfl (by first | exact Or.inl rfl | exact Or.inr rfl))) (fun _ _ _ _ _ => pts_nil) (fun _ _ _ _ _ => (pv 4)) (fun _ _ _ _ _ => (pe_call G_road_table (hr.mono (by decide)) rfl T.g_road_table k_road_table b_road_table .nil pass0 (pa_cons (pv 4) (pa_cons (fldQ K rfl (pv 0)) pa_nil))))) rfl) 
      (pss_one (ps_fld (pv 0) (pe_dcT (own := [("wire", 5)]) (g := gName 5) (tt := tYes) rfl hu SC.nd (tupI K rfl (fldQ K rfl (pv 0))) (blkOk_by (N := ["self", "text", "reader", "at", "name", "wire"]) (sc := defScope s_YardD__initD_) (by decide +kernel)) (fun _ _ _ _ _ => (pg_name (i := 5) SC.nd rfl (by first | exact Or.inl rfl | exact Or.inr rfl))) (fun _ _ _ _ _ => pts_nil) (fun _ _ _ _ _ => (pv 5)) (fun _ _ _ _ _ => (pe_meth (pv 0) T.cls_Yard T.m_Yard_split G_Yard_split (hr.mono (by decide)) b_Yard_split .nil pass0 (pa_cons (pv 5) pa_nil)))) rfl))))))))), ?_⟩
    rcases hv with ⟨n, ty, hk, kb⟩ | ⟨x, rfl, hx, hlx, kb, km, ko⟩
    · exact ⟨_, rfl, v, rfl, .inl ⟨n, ty, hk, kb⟩⟩
    · refine ⟨_, rfl, _, rfl, .inr ⟨x, rfl, hx, hlx, kb, km, fun c hs es er H1 rp rdx ab aw ag as G s1 R1 S => ?_⟩⟩
      have PL := S.plan
      have few := PL.few
      have enf := PL.enf
      have small : ∀ n : Nat, n ≤ 1000 → n < sizeLine := fun n h => by rw [sizeLine_eq]; omega
      have k1 : Keeps [p] H H1 := Keeps.ofSame s1
      have p1 := s1 _ _ hp
      have npr : p ≠ rp := ne_of p1 R1.hp (by intro z; injection z with _ _ z; cases z)
      have tk : ∀ {H : Hp} {fs : List (Str × V)} {o : HO}, H p = some (.ins (He.ga K "Yard") dx fs) → ∀ a xs, H a = some (.tup xs) → upd H p o a = some (.tup xs) := fun h a xs e => ins_keep h e (by intro _ _ _ z; cases z)
      have dk : ∀ {H : Hp} {fs : List (Str × V)} {o : HO}, H p = some (.ins (He.ga K "Yard") dx fs) → ∀ a xs, H a = some (.dK xs) → upd H p o a = some (.dK xs) := fun h a xs e => ins_keep h e (by intro _ _ _ z; cases z)
      -- self.course
      refine ⟨_, rfl, rp, _, _, _, _, rfl, R1.hp, T.cls_YardReader, T.a_YardReader_course, rfl, _, rfl, p, _, dx, _, rfl, p1, T.cls_Yard, T.a_Yard_course, by show 0 < 1000; decide, ?_⟩
      generalize hH : upd H1 p _ = H2
      have R2 : RdA K H2 rp rdx ab aw ag c hs as es G true := hH ▸ R1.other p1 npr
      have p2 : H2 p = some (.ins (He.ga K "Yard") dx [("course", .bl c)]) := by rw [← hH, upd_same]; rfl
      have k2 : Keeps [p] H H2 := hH ▸ k1.upd (by simp)
      clear hH R1 p1 s1 k1
      -- self.benches
      refine ⟨_, rfl, rp, _, _, _, _, rfl, R2.hp, T.cls_YardReader, T.a_YardReader_benches, rfl, ab, _, rfl, .inl ⟨SqL.of R2.hb, fun b hb => ?_⟩⟩
      have s3 : Same H2 (upd H2 b (.tup (hs.map V.str))) := same_new hb
      have b3 : upd H2 b (.tup (hs.map V.str)) b = some (.tup (hs.map V.str)) := upd_same
      generalize upd H2 b _ = H3 at s3 b3 ⊢
      have p3 := s3 _ _ p2
      refine ⟨_, rfl, p, _, dx, _, rfl, p3, T.cls_Yard, T.a_Yard_benches, by show 1 < 1000; decide, ?_⟩
      have R3 := R2.same s3
      have k3 := k2.trans (Keeps.ofSame s3)
      generalize hH : upd H3 p _ = H4
      have R4 : RdA K H4 rp rdx ab aw ag c hs as es G true := hH ▸ R3.other p3 npr
      have p4 : H4 p = some (.ins (He.ga K "Yard") dx [("course", .bl c), ("benches", .ref b)]) := by rw [← hH, upd_same]; rfl
      have k4 : Keeps [p] H H4 := hH ▸ k3.upd (by simp)
      have b4 : H4 b = some (.tup (hs.map V.str)) := hH ▸ tk p3 _ _ b3
      clear hH R2 R3 p2 p3 k2 k3 s3 b3 hb
      -- self.wires
      refine ⟨_, rfl, rp, _, _, _, _, rfl, R4.hp, T.cls_YardReader, T.a_YardReader_wires, rfl, aw, _, rfl, .inl ⟨SqL.of R4.hw, fun we hwe => ?_⟩⟩
      have s5 : Same H4 (upd H4 we (.tup (as.map V.ref))) := same_new hwe
      have w5 : upd H4 we (.tup (as.map V.ref)) we = some (.tup (as.map V.ref)) := upd_same
      generalize upd H4 we _ = H5 at s5 w5 ⊢
      have p5 := s5 _ _ p4
      refine ⟨_, rfl, p, _, dx, _, rfl, p5, T.cls_Yard, T.a_Yard_wires, by show 2 < 1000; decide, ?_⟩
      have k5 := k4.trans (Keeps.ofSame s5)
      have b5 := s5 _ _ b4
      have W5 := R4.wt.same s5
      generalize hH : upd H5 p _ = H6
      have p6 : H6 p = some (.ins (He.ga K "Yard") dx [("course", .bl c), ("benches", .ref b), ("wires", .ref we)]) := by rw [← hH, upd_same]; rfl
      have k6 : Keeps [p] H H6 := hH ▸ k5.upd (by simp)
      have b6 : H6 b = some (.tup (hs.map V.str)) := hH ▸ tk p5 _ _ b5
      have w6 : H6 we = some (.tup (as.map V.ref)) := hH ▸ tk p5 _ _ w5
      have W6 : WAt H6 as es := hH ▸ W5.keep (tk p5)
      clear hH R4 p4 p5 k4 k5 s5 b4 b5 w5 W5 hwe
      -- self.text
      refine ⟨_, rfl, p, _, dx, _, _, rfl, p6, T.cls_Yard, T.a_Yard_course, rfl, _, rfl, p, _, dx, _, _, rfl, p6, T.cls_Yard, T.a_Yard_benches, rfl, _, rfl, p, _, dx, _, _, rfl, p6, T.cls_Yard, T.a_Yard_wires, rfl, c, b, we, hs, as, es, rfl, SqT.of b6, .inr (SqT.of w6), W6, PL.sml8, fun H7 s7 => ?_⟩
      have p7 := s7 _ _ p6
      refine ⟨_, rfl, p, _, dx, _, rfl, p7, T.cls_Yard, T.a_Yard_text, by show 3 < 1000; decide, ?_⟩
      have k7 := k6.trans (Keeps.ofSame s7)
      have b7 := s7 _ _ b6
      have w7 := s7 _ _ w6
      have W7 := W6.same s7
      generalize hH : upd H7 p _ = H8
      have p8 : H8 p = some (.ins (He.ga K "Yard") dx [("course", .bl c), ("benches", .ref b), ("wires", .ref we), ("text", .str (yardT c hs es))]) := by rw [← hH, upd_same]; rfl
      have k8 : Keeps [p] H H8 := hH ▸ k7.upd (by simp)
      have b8 : H8 b = some (.tup (hs.map V.str)) := hH ▸ tk p7 _ _ b7
      have w8 : H8 we = some (.tup (as.map V.ref)) := hH ▸ tk p7 _ _ w7
      have W8 : WAt H8 as es := hH ▸ W7.keep (tk p7)
      clear hH p6 p7 k6 k7 s7 b6 b7 w6 w7 W6 W7
      -- self._positions
      refine ⟨_, rfl, p, _, dx, _, _, rfl, p8, T.cls_Yard, T.a_Yard_benches, rfl, b, _, rfl, SqT.of b8, fun ps hps => ?_⟩
      refine dc_enumT (xs := hs.map V.str) (fun i H => Same H8 H ∧ H ps = some (.dK (posK (hs.take i)))) ⟨same_new hps, upd_same⟩ (fun i H _ ⟨s, _⟩ => SqT.of (s _ _ b8)) (fun i x H T hi ⟨s, e⟩ hT => ?_) (fun H9 ⟨s9, e9⟩ => ?_)
      · rw [List.getElem?_map] at hi
        obtain ⟨h, hh, rfl⟩ := Option.map_eq_some_iff.mp hi
        have hlt := (List.getElem?_eq_some_iff.mp hh).1
        have lt : (hs.take i).length = i := by rw [List.length_take]; omega
        have sT : Same H (upd H T (.tup [.int (i : Nat), .str h])) := same_new hT
        refine ⟨T, _, rfl, SqT.of upd_same, rfl, _, _, rfl, _, _, rfl, rfl, rfl, ?_⟩
        refine iteT (B := False) ⟨_, rfl, _, rfl, _, Sum.inr h, rfl, sT _ _ e, by rw [posK_len, lt]; exact small _ (by omega), same_upd (Same.trans s sT) hps, ?_⟩
        have e2 := posK_put (nin_take PL.nd hh)
        rw [lt] at e2
        rw [upd_same, e2, take_snoc hh]
      rw [List.length_map, List.take_length] at e9
      have p9 := s9 _ _ p8
      refine ⟨_, rfl, p, _, dx, _, rfl, p9, T.cls_Yard, T.a_Yard__positions, by show 4 < 1000; decide, ?_⟩
      have k9 := k8.trans (Keeps.ofSame s9)
      have b9 := s9 _ _ b8
      have w9 := s9 _ _ w8
      have W9 := W8.same s9
      generalize hH : upd H9 p _ = H10
      have p10 : H10 p = some (.ins (He.ga K "Yard") dx [("course", .bl c), ("benches", .ref b), ("wires", .ref we), ("text", .str (yardT c hs es)), ("_positions", .ref ps)]) := by rw [← hH, upd_same]; rfl
      have k10 : Keeps [p] H H10 := hH ▸ k9.upd (by simp)
      have b10 : H10 b = some (.tup (hs.map V.str)) := hH ▸ tk p9 _ _ b9
      have w10 : H10 we = some (.tup (as.map V.ref)) := hH ▸ tk p9 _ _ w9
      have W10 : WAt H10 as es := hH ▸ W9.keep (tk p9)
      have e10 : H10 ps = some (.dK (posK hs)) := hH ▸ dk p9 _ _ e9
      clear hH p8 p9 k8 k9 s9 b8 b9 w8 w9 W8 W9 e9 hps
      -- self._neighbours
      refine ⟨_, rfl, p, _, dx, _, _, rfl, p10, T.cls_Yard, T.a_Yard_benches, rfl, _, rfl, p, _, dx, _, _, rfl, p10, T.cls_Yard, T.a_Yard_wires, rfl, b, we, hs, as, es, rfl, SqT.of b10, SqT.of w10, W10, PL.nd, by omega, by omega, fun H11 N s11 zN N11 => ?_⟩
      have p11 := s11 _ _ p10
      refine ⟨_, rfl, p, _, dx, _, rfl, p11, T.cls_Yard, T.a_Yard__neighbours, by show 5 < 1000; decide, ?_⟩
      have k11 := k10.trans (Keeps.ofSame s11)
      have b11 := s11 _ _ b10
      have w11 := s11 _ _ w10
      have W11 := W10.same s11
      have e11 := s11 _ _ e10
      have dk' : ∀ {H : Hp} {fs : List (Str × V)} {o : HO} {D : Addr} {l : List Str} {φ : Hp → Str → Addr → Prop}, H p = some (.ins (He.ga K "Yard") dx fs) → DAt H D l φ → (∀ h a, φ H h a → φ (upd H p o) h a) → DAt (upd H p o) D l φ := fun h d k => by
        obtain ⟨as', z1, z2, z3⟩ := d.ex
        exact ⟨as', z1, dk h _ _ z2, fun i h' a hi ha => k h' a (z3 i h' a hi ha)⟩
      generalize hH : upd H11 p _ = H12
      have p12 : H12 p = some (.ins (He.ga K "Yard") dx [("course", .bl c), ("benches", .ref b), ("wires", .ref we), ("text", .str (yardT c hs es)), ("_positions", .ref ps), ("_neighbours", .ref N)]) := by rw [← hH, upd_same]; rfl
      have k12 : Keeps [p] H H12 := hH ▸ k11.upd (by simp)
      have b12 : H12 b = some (.tup (hs.map V.str)) := hH ▸ tk p11 _ _ b11
      have w12 : H12 we = some (.tup (as.map V.ref)) := hH ▸ tk p11 _ _ w11
      have W12 : WAt H12 as es := hH ▸ W11.keep (tk p11)
      have e12 : H12 ps = some (.dK (posK hs)) := hH ▸ dk p11 _ _ e11
      have N12 : DAt H12 N hs (NbAt hs es) := hH ▸ dk' p11 N11 fun h a f => tk p11 _ _ f
      clear hH p10 p11 k10 k11 s11 b10 b11 w10 w11 W10 W11 e10 e11 N11 zN
      -- self._roads
      refine ⟨_, rfl, p, _, dx, _, _, rfl, p12, T.cls_Yard, T.a_Yard_benches, rfl, b, rfl, ⟨_, SqT.of b12⟩, fun R hR => ?_⟩
      refine dc_strs (φ := RoadsAt hs es) (SqT.of b12) hR PL.nd (small _ (by omega)) (fun H H' h t f n ⟨kv, ek⟩ k => f.keep (fun o z => k _ _ z n) fun h2 a ⟨p', n', m, z⟩ => ⟨p', n', m, k _ _ z (ne_of z ek (by intro y; cases y))⟩) (fun i h H nx hh s ⟨kv, ek⟩ fin => ⟨rfl, ?_⟩) (fun H13 s13 R13 => ?_)
      · refine iteT (B := False) ⟨_, rfl, _, rfl, _, rfl, p, _, dx, _, _, rfl, s _ _ p12, T.cls_Yard, T.a_Yard__neighbours, rfl, h, N, hs, es, rfl, N12.keep (fun o => s _ o) (fun h a f => s _ _ f), List.mem_of_getElem? hh, PL.nd, by omega, fun H' t s' zt r => fin H' t s' r ?_⟩
        exact fun z => by rw [z, ek] at zt; cases zt
      have p13 := s13 _ _ p12
      refine ⟨_, rfl, p, _, dx, _, rfl, p13, T.cls_Yard, T.a_Yard__roads, by show 6 < 1000; decide, ?_⟩
      have k13 := k12.trans (Keeps.ofSame s13)
      have b13 := s13 _ _ b12
      have w13 := s13 _ _ w12
      have W13 := W12.same s13
      have e13 := s13 _ _ e12
      have N13 : DAt H13 N hs (NbAt hs es) := N12.keep (fun o => s13 _ o) fun h a f => s13 _ _ f
      have rk : ∀ {H : Hp} {fs : List (Str × V)} {o : HO}, H p = some (.ins (He.ga K "Yard") dx fs) → ∀ h a, RoadsAt hs es H h a → RoadsAt hs es (upd H p o) h a := fun h h' a f => dk' h f fun h2 a2 ⟨p', n', m, z⟩ => ⟨p', n', m, tk h _ _ z⟩
      generalize hH : upd H13 p _ = H14
      have p14 : H14 p = some (.ins (He.ga K "Yard") dx [("course", .bl c), ("benches", .ref b), ("wires", .ref we), ("text", .str (yardT c hs es)), ("_positions", .ref ps), ("_neighbours", .ref N), ("_roads", .ref R)]) := by rw [← hH, upd_same]; rfl
      have k14 : Keeps [p] H H14 := hH ▸ k13.upd (by simp)
      have b14 : H14 b = some (.tup (hs.map V.str)) := hH ▸ tk p13 _ _ b13
      have w14 : H14 we = some (.tup (as.map V.ref)) := hH ▸ tk p13 _ _ w13
      have W14 : WAt H14 as es := hH ▸ W13.keep (tk p13)
      have e14 : H14 ps = some (.dK (posK hs)) := hH ▸ dk p13 _ _ e13
      have N14 : DAt H14 N hs (NbAt hs es) := hH ▸ dk' p13 N13 fun h a f => tk p13 _ _ f
      have R14 : DAt H14 R hs (RoadsAt hs es) := hH ▸ dk' p13 R13 (rk p13)
      clear hH p12 p13 k12 k13 s13 b12 b13 w12 w13 W12 W13 e12 e13 N12 N13 R13 hR
      -- self._sides
      refine ⟨_, rfl, p, _, dx, _, _, rfl, p14, T.cls_Yard, T.a_Yard_wires, rfl, we, rfl, ⟨_, SqT.of w14⟩, fun D hD => ?_⟩
      refine dcT_tup (xs := as.map V.ref) (fun i H => Same H14 H ∧ SidesAt hs (es.take i) es H D) ⟨same_new hD, [], upd_same, Nat.le_refl _, fun e he => by simp at he, fun a b _ => rfl⟩ (fun i H _ ⟨s, _⟩ => SqT.of (s _ _ w14)) (fun i x H hi ⟨s, e⟩ => ?_) (fun H15 ⟨s15, S15⟩ => ?_)
      · rw [List.getElem?_map] at hi
        obtain ⟨wa, hwa, rfl⟩ := Option.map_eq_some_iff.mp hi
        obtain ⟨e0, he0, hta⟩ := W14.2 i wa hwa
        have wm := PL.wf _ (List.mem_of_getElem? he0)
        refine ⟨rfl, iteT (B := False) ⟨_, rfl, _, rfl, p, dx, _, rfl, s _ _ p14, rfl, _, rfl, p, dx, b, R, wa, _, hs, es, e0.1, e0.2, rfl, s _ _ p14, rfl, rfl, SqT.of (s _ _ b14), R14.keep (fun o => s _ o) (fun h a f => RoadsAt.same f s), PL, s _ _ hta, wm.1, wm.2, fun H' r l1 l2 s' zr hr1 hl1 hl2 => ?_⟩⟩
        have e' := e.keep (fun o => s' _ o) fun a xs => s' a _
        obtain ⟨kvs, g1, g2, g3⟩ := e'.put (e := e0) ⟨l1, l2, hr1, hl1, hl2⟩
        refine ⟨kvs, [Sum.inr e0.1, Sum.inr e0.2], wa, rfl, s' _ _ (s _ _ hta), g1, ?_, same_upd (Same.trans s s') hD, ?_⟩
        · rw [List.length_take] at g2
          exact small _ (by omega)
        · rw [take_snoc he0]; exact g3
      rw [List.length_map, W14.1, List.take_length] at S15
      have p15 := s15 _ _ p14
      refine ⟨_, rfl, p, _, dx, _, rfl, p15, T.cls_Yard, T.a_Yard__sides, by show 7 < 1000; decide, ?_⟩
      have k15 := k14.trans (Keeps.ofSame s15)
      refine ko c hs es er _ b we ps N R D as (k15.upd (by simp)) ⟨upd_same, tk p15 _ _ (s15 _ _ b14), tk p15 _ _ (s15 _ _ w14), (W14.same s15).keep (tk p15), dk p15 _ _ (s15 _ _ e14), ?_, ?_, ?_⟩ PL
      · exact dk' p15 (N14.keep (fun o => s15 _ o) fun h a f => s15 _ _ f) fun h a f => tk p15 _ _ f
      · exact dk' p15 (R14.keep (fun o => s15 _ o) fun h a f => RoadsAt.same f s15) (rk p15)
      · exact S15.keep (fun o z => by
          obtain ⟨kvs, z1, _⟩ := S15.ex
          rw [z1] at z
          cases z
          exact ins_keep p15 z1 (by intro _ _ _ y; cases y)) (tk p15)
theorem good_YInit (T : Tx w K mg) : Good P w K mg base (L2.CX P w) 7 (He.ma K (He.ga K "Yard") "__init__") ["self", "text"] (spYInit K) := by
  obtain ⟨fd, h1, h2, h3, _⟩ := good_YInitK (P := P) (w := w) (base := base) T
  exact ⟨fd, h1, h2, h3⟩
end
end Yd
set_option Elab.async false
set_option linter.all false
set_option maxRecDepth 100000
set_option maxHeartbeats 16000000
namespace Yd
open PySem PySem.Spec PyProof.Rows L2 Xo
/-! Yard.in_row, in_star, in_days -/
theorem bind_star0 {B : List Value → Sem (List (Str × Value))} {pv : Str} (h0 : B [] = (newTuple [] >>= fun t => pure [(pv, t)])) (h1 : ∀ r rs, B (r :: rs) = (newTuple (r :: rs) >>= fun t => pure [(pv, t)])) :
    ∀ us rest : List Value, us.length = ([] : List Str).length → B (us ++ rest) = (newTuple rest >>= fun t => pure (([] : List Str).zip us ++ [(pv, t)]))
  | [], [], _ => h0
  | [], r :: rs, _ => h1 r rs
def starE (a : Str) (ls : List Str) : List Wr := ls.map fun l => (a, l)
section
variable {P : Program} {w : World} {K : PySem.W.Frag} {mg : Str → Option Value} {base : Heap}
/-- what making a yard of words promises -/
def MadeOf (K : PySem.W.Frag) (c : Bool) (ws : List Str) (es es' : List Wr) (H : Hp) (Q : VK) (E : XK) : Prop :=
  (∀ x ∈ ws, x.length ≤ 200000) ∧ ws.length ≤ 1000 ∧ ((ws = [] ∨ diffB [] ws = false) → RB K E H 0) ∧ (ws ≠ [] → diffB [] ws = true → 14 < ws.length → RM K E H "benches" 14) ∧
  (ws ≠ [] → diffB [] ws = true → ws.length ≤ 14 → okS (yardT c ws es) ∧ readY (yardT c ws es) = .ok c ws es' ∧ ∀ (H' : Hp) (p dx b we ps N R S : Addr) (as : List Addr), Same H H' → YdA K H' p dx b we ps N R S c ws as es' → Plan ws es' → Q (.ref p) H')
theorem MadeOf.same {c : Bool} {ws : List Str} {es es' : List Wr} {H H1 : Hp} {Q : VK} {E : XK} (m : MadeOf K c ws es es' H Q E) (s : Same H H1) : MadeOf K c ws es es' H1 Q E := by
  obtain ⟨h1, h2, h3, h4, h5⟩ := m
  exact ⟨h1, h2, fun z => (h3 z).same s, fun a b d => (h4 a b d).same s, fun a b d => let ⟨q1, q2, q3⟩ := h5 a b d; ⟨q1, q2, fun H' p dx b we ps N R S as s' => q3 H' p dx b we ps N R S as (Same.trans s s')⟩⟩
theorem diff_small {seen : List Str} : ∀ {ws : List Str}, diffB seen ws = true → ∀ x ∈ ws, smallB x = true
  | [], _, x, h => by simp at h
  | y :: ws, h, x, hx => by
    unfold diffB at h
    rw [Bool.and_eq_true, Bool.and_eq_true] at h
    rcases List.mem_cons.mp hx with rfl | hx
    · exact h.1
    · exact diff_small h.2.2 x hx
theorem small_100 {x : Str} (h : smallB x = true) : x.length ≤ 100 := by
  have := (small_len h).1
  have e : x.cps.toList.length = x.length := Array.length_toList
  omega
def spDaysB (K : PySem.W.Frag) : Sp := fun vs H Q E => ∃ (a : Addr) (ws : List Str), vs = [.ref a] ∧ SqT K H a (ws.map V.str) ∧ MadeOf K true ws [] (ws.zip ws.tail) H Q E
theorem text_days (ws : List Str) (es es' : List Wr) : yardT true ws es = yardT true ws es' := rfl
/-- the text made; then the yard of it -/
theorem make_end {c : Bool} {ws : List Str} {es es' : List Wr} {H H1 : Hp} {Q : VK} {E : XK} (M : MadeOf K c ws es es' H Q E) (hn : ws ≠ []) (hd : diffB [] ws = true) (hl : ws.length ≤ 14) (ht : (yardT c ws es).length ≤ 1000000) (s1 : Same H H1) :
    ∀ x dx, H1 x = none → H1 dx = none → dx ≠ x → spYInit K (.ref x :: ([V.str (yardT c ws es)] ++ [])) (upd (upd H1 dx (.own x)) x (.ins (He.ga K "Yard") dx [])) (fun v H2 => v = .non ∧ Q (.ref x) H2) E := by
  intro x dx hx hdx hne
  obtain ⟨_, _, _, _, q⟩ := M
  obtain ⟨ok, er, q⟩ := q hn hd hl
  have zx := Same.free s1 hx
  have s2 : Same H (upd (upd H1 dx (.own x)) x (.ins (He.ga K "Yard") dx [])) := same_upd (same_upd s1 (Same.free s1 hdx)) zx
  refine ⟨x, dx, _, rfl, upd_same, .inr ⟨_, rfl, ok, ht, fun line e => absurd (er.symm.trans e) (by simp), fun w n e => absurd (er.symm.trans e) (by simp), fun c' hs' es2 e H' b we ps N R S as k Y PL => ⟨rfl, ?_⟩⟩⟩
  have e := er.symm.trans e
  cases e
  refine q H' x dx b we ps N R S as (fun a o z => k a o (s2 a o z) ?_) Y PL
  rw [List.mem_singleton]
  rintro rfl
  rw [zx] at z
  cases z
theorem text_len {c : Bool} {hs : List Str} {es : List Wr} (S : Sml hs es) : (yardT c hs es).length ≤ 1000000 := by
  have h1 := rows_le (c := c) S
  have h2 : (rowsT c hs es).length ≤ 100 := by
    have := S.hn
    have := S.en
    unfold rowsT
    cases c <;> simp <;> omega
  have key : ∀ l : List Str, (∀ r ∈ l, r.length ≤ 300) → (Str.join "\n" l).length ≤ l.length * 301 := by
    intro l
    induction l with
    | nil => intro _; show (0 : Nat) ≤ _; omega
    | cons a l ih =>
      intro h
      have ha := h a List.mem_cons_self
      cases l with
      | nil => show a.length ≤ _; simp; omega
      | cons b l =>
        have := ih fun r hr => h r (List.mem_cons_of_mem _ hr)
        have e : (Str.join "\n" (a :: b :: l)).length = a.length + 1 + (Str.join "\n" (b :: l)).length := by
          show (a ++ "\n" ++ Str.join "\n" (b :: l)).length = _
          rw [str_len, str_len]; rfl
        rw [e]
        simp only [List.length_cons] at this ⊢
        omega
  have := key _ h1
  unfold yardT
  rw [TL.join_eq]
  omega
theorem diff_sml {ws : List Str} {es : List Wr} (hd : diffB [] ws = true) (hl : ws.length ≤ 14) (he : es.length ≤ 14) (hw : ∀ e ∈ es, e.1 ∈ ws ∧ e.2 ∈ ws) : Sml ws es :=
  ⟨by omega, by omega, fun h m => small_100 (diff_small hd h m), fun e m => ⟨small_100 (diff_small hd _ (hw e m).1), small_100 (diff_small hd _ (hw e m).2)⟩⟩
theorem sc_Yard_in_days : FnScope ["moments"] ["moments"] (defScope s_Yard_in_days) := ⟨rfl, rfl, rfl, by decide +kernel, rfl, by decide +kernel, by decide +kernel⟩
theorem R_in_days (T : Tx w K mg) : FnR P w K mg base (L2.CX P w) 9 (He5.wf K (He.ga K "Yard") "staticmethod" "in_days") (fun vs H Q E => ∃ ws : List Str, vs = ws.map V.str ∧ MadeOf K true ws [] (ws.zip ws.tail) H Q E) := by
  obtain ⟨fd, F⟩ := T.f_Yard_in_days
  obtain ⟨_, G_check_benches, k_check_benches, b_check_benches⟩ := good_check_benches (P := P) (w := w) (base := base) T
  obtain ⟨_, G_yard_text, k_yard_text, b_yard_text⟩ := good_yard_text (P := P) (w := w) (base := base) T
  obtain ⟨_, G_Yard_init, _, b_Yard_init⟩ := good_YInit (P := P) (w := w) (base := base) T
  obtain ⟨oc, od, dV, kV, doc, pm, an, cdv, ct, osl, rfl, lk, hcd, hD, hK⟩ := F.ex
  obtain ⟨_, rfl⟩ := hD.resolve_right fun z => z.1 rfl
  have R : FnR P w K mg base (L2.CX P w) 9 (He5.wf K (He.ga K "Yard") "staticmethod" "in_days") _ := StX.fn_star (sp := spDaysB K) (ps := []) lk hcd sc_Yard_in_days StX.cxUp (bind_star0 (B := fun us => bindArgs (PySem.W.fnOf "in_days" "Yard.in_days" (defArgs s_Yard_in_days) (defBody s_Yard_in_days) (defScope s_Yard_in_days) .none kV doc pm an cdv ct) ⟨us, []⟩) rfl fun _ _ => rfl) fun A outer s H vs Q E hr h => ?_
  · exact fun A outer s H us vs Q E hr e0 r ⟨ws, ev, M⟩ => R A outer s H us vs Q E hr e0 r ⟨[], vs, rfl, rfl, by rw [ev, List.length_map, sizeLine_eq]; have := M.2.1; omega, fun p hp => ⟨p, ws, rfl, SqT.of (by rw [upd_same, ev]), M.same (same_new hp)⟩⟩
  · obtain ⟨a, ws, rfl, hS, M⟩ := h
    have SC := sc_Yard_in_days
    have hu := hu_of hr
    refine ⟨_, pss_cons (ps_expr (pe_call G_check_benches (hr.mono (by decide)) rfl T.g_check_benches k_check_benches b_check_benches .nil (passes_call (takes_of rfl rfl rfl rfl) (fun _ _ _ _ h => h)) (pa_cons (pv 0) pa_nil))) 
      (pss_one (ps_ret (pe_make T.mk_Yard G_Yard_init (hr.mono (by decide)) rfl T.g_Yard b_Yard_init .nil (passes_call (takes_of rfl rfl rfl rfl) (fun _ _ _ _ h => h)) (pa_cons (pe_call G_yard_text (hr.mono (by decide)) rfl T.g_yard_text k_yard_text b_yard_text .nil pass0 (pa_cons pe_bl (pa_cons (pv 0) (pa_cons (pe_lst pa_nil) pa_nil)))) pa_nil)))), ?_⟩
    refine ⟨_, rfl, a, ws, rfl, hS, M.1, M.2.1, M.2.2.1, M.2.2.2.1, fun hn hd hl H1 s1 => ?_⟩
    have SM : Sml ws [] := diff_sml hd hl (by simp) (by simp)
    refine ⟨_, rfl, by show 0 ≤ sizeLine; decide, fun t ht => ⟨true, a, t, ws, [], [], rfl, seqT (Same.trans s1 (same_new ht)) hS, .inl (SqL.of upd_same), WAt.nil, SM, fun H2 s2 => ?_⟩⟩
    exact make_end M hn hd hl (text_len SM) (Same.trans (Same.trans s1 (same_new ht)) s2)
def spRowB (K : PySem.W.Frag) : Sp := fun vs H Q E => ∃ (a : Addr) (ws : List Str), vs = [.ref a] ∧ SqT K H a (ws.map V.str) ∧ MadeOf K false ws (ws.zip ws.tail) (ws.zip ws.tail) H Q E
theorem sc_Yard_in_row : FnScope ["benches"] ["benches"] (defScope s_Yard_in_row) := ⟨rfl, rfl, rfl, by decide +kernel, rfl, by decide +kernel, by decide +kernel⟩
theorem R_in_row (T : Tx w K mg) : FnR P w K mg base (L2.CX P w) 9 (He5.wf K (He.ga K "Yard") "staticmethod" "in_row") (fun vs H Q E => ∃ ws : List Str, vs = ws.map V.str ∧ MadeOf K false ws (ws.zip ws.tail) (ws.zip ws.tail) H Q E) := by
  obtain ⟨fd, F⟩ := T.f_Yard_in_row
  obtain ⟨_, G_check_benches, k_check_benches, b_check_benches⟩ := good_check_benches (P := P) (w := w) (base := base) T
  obtain ⟨_, G_yard_text, k_yard_text, b_yard_text⟩ := good_yard_text (P := P) (w := w) (base := base) T
  obtain ⟨_, G_Yard_init, _, b_Yard_init⟩ := good_YInit (P := P) (w := w) (base := base) T
  obtain ⟨oc, od, dV, kV, doc, pm, an, cdv, ct, osl, rfl, lk, hcd, hD, hK⟩ := F.ex
  obtain ⟨_, rfl⟩ := hD.resolve_right fun z => z.1 rfl
  have R : FnR P w K mg base (L2.CX P w) 9 (He5.wf K (He.ga K "Yard") "staticmethod" "in_row") _ := StX.fn_star (sp := spRowB K) (ps := []) lk hcd sc_Yard_in_row StX.cxUp (bind_star0 (B := fun us => bindArgs (PySem.W.fnOf "in_row" "Yard.in_row" (defArgs s_Yard_in_row) (defBody s_Yard_in_row) (defScope s_Yard_in_row) .none kV doc pm an cdv ct) ⟨us, []⟩) rfl fun _ _ => rfl) fun A outer s H vs Q E hr h => ?_
  · exact fun A outer s H us vs Q E hr e0 r ⟨ws, ev, M⟩ => R A outer s H us vs Q E hr e0 r ⟨[], vs, rfl, rfl, by rw [ev, List.length_map, sizeLine_eq]; have := M.2.1; omega, fun p hp => ⟨p, ws, rfl, SqT.of (by rw [upd_same, ev]), M.same (same_new hp)⟩⟩
  · obtain ⟨a, ws, rfl, hS, M⟩ := h
    have SC := sc_Yard_in_row
    have hu := hu_of hr
    refine ⟨_, pss_cons (ps_expr (pe_call G_check_benches (hr.mono (by decide)) rfl T.g_check_benches k_check_benches b_check_benches .nil (passes_call (takes_of rfl rfl rfl rfl) (fun _ _ _ _ h => h)) (pa_cons (pv 0) pa_nil))) 
      (pss_one (ps_ret (pe_make T.mk_Yard G_Yard_init (hr.mono (by decide)) rfl T.g_Yard b_Yard_init .nil (passes_call (takes_of rfl rfl rfl rfl) (fun _ _ _ _ h => h)) (pa_cons (pe_call G_yard_text (hr.mono (by decide)) rfl T.g_yard_text k_yard_text b_yard_text .nil pass0 (pa_cons pe_bl (pa_cons (pv 0) (pa_cons (listZipQ K rfl rfl rfl T.n_list rfl T.n_zip (pa_cons (pv 0) (pa_cons (pe_slice (slT K) (pv 0) (po_some pe_int) po_none) pa_nil))) pa_nil)))) pa_nil)))), ?_⟩
    refine ⟨_, rfl, a, ws, rfl, hS, M.1, M.2.1, M.2.2.1, M.2.2.2.1, fun hn hd hl H1 s1 => ?_⟩
    have SM : Sml ws (ws.zip ws.tail) := diff_sml hd hl (by rw [List.length_zip, List.length_tail]; omega) zip_wf
    have hS1 := seqT s1 hS
    have pos : 0 < ws.length := List.length_pos_iff.mpr hn
    refine ⟨_, rfl, _, rfl, _, rfl, 1, rfl, a, _, rfl, hS1, fun z => ?_, fun t ht => ?_⟩
    · have := z.1
      rw [List.length_map] at this
      have e : HT.sIx ws.length 0 (some 1) = min 1 ws.length := HT.sIx_nat ws.length 0 1
      rw [e] at this
      omega
    · rw [cut_tail]
      have s2 : Same H1 (upd H1 t (.tup (ws.map V.str).tail)) := same_new ht
      have e2 : upd H1 t (.tup (ws.map V.str).tail) t = some (.tup (ws.map V.str).tail) := upd_same
      generalize upd H1 t _ = H2 at s2 e2 ⊢
      have s12 := Same.trans s1 s2
      refine ⟨a, t, _, _, rfl, .inr ⟨seqT s12 hS, SqT.of e2⟩, fun H3 l as s3 hl3 hn3 hnl el pr => ?_⟩
      rw [List.map_tail.symm] at pr
      have W3 := zip_wires pr
      refine ⟨false, a, l, ws, as, _, rfl, seqT (Same.trans s12 s3) hS, .inl (SqL.of el), W3, SM, fun H4 s4 => ?_⟩
      exact make_end M hn hd hl (text_len SM) (Same.trans (Same.trans s12 s3) s4)
def spStarB (K : PySem.W.Frag) : Sp := fun vs H Q E => ∃ (a : Addr) (m : Str) (ls : List Str), vs = [.str m, .ref a] ∧ SqT K H a (ls.map V.str) ∧ MadeOf K false (m :: ls) (starE m ls) (starE m ls) H Q E
theorem sc_Yard_in_star : FnScope ["middle", "leaves", "benches", "leaf"] ["middle", "leaves"] (defScope s_Yard_in_star) := ⟨rfl, rfl, rfl, by decide +kernel, rfl, by decide +kernel, by decide +kernel⟩
theorem R_in_star (T : Tx w K mg) : FnR P w K mg base (L2.CX P w) 9 (He5.wf K (He.ga K "Yard") "staticmethod" "in_star") (fun vs H Q E => ∃ (m : Str) (ls : List Str), vs = (m :: ls).map V.str ∧ MadeOf K false (m :: ls) (starE m ls) (starE m ls) H Q E) := by
  obtain ⟨fd, F⟩ := T.f_Yard_in_star
  obtain ⟨_, G_check_benches, k_check_benches, b_check_benches⟩ := good_check_benches (P := P) (w := w) (base := base) T
  obtain ⟨_, G_yard_text, k_yard_text, b_yard_text⟩ := good_yard_text (P := P) (w := w) (base := base) T
  obtain ⟨_, G_Yard_init, _, b_Yard_init⟩ := good_YInit (P := P) (w := w) (base := base) T
  obtain ⟨oc, od, dV, kV, doc, pm, an, cdv, ct, osl, rfl, lk, hcd, hD, hK⟩ := F.ex
  obtain ⟨_, rfl⟩ := hD.resolve_right fun z => z.1 rfl
  have R : FnR P w K mg base (L2.CX P w) 9 (He5.wf K (He.ga K "Yard") "staticmethod" "in_star") _ := StX.fn_star (sp := spStarB K) (ps := ["middle"]) lk hcd sc_Yard_in_star StX.cxUp (StX.bind_star1 (B := fun us => bindArgs (PySem.W.fnOf "in_star" "Yard.in_star" (defArgs s_Yard_in_star) (defBody s_Yard_in_star) (defScope s_Yard_in_star) .none kV doc pm an cdv ct) ⟨us, []⟩) (fun _ => rfl) fun _ _ _ => rfl) fun A outer s H vs Q E hr h => ?_
  · exact fun A outer s H us vs Q E hr e0 r ⟨m, ls, ev, M⟩ => R A outer s H us vs Q E hr e0 r ⟨[.str m], ls.map V.str, ev, rfl, by rw [List.length_map, sizeLine_eq]; have := M.2.1; simp only [List.length_cons] at this; omega, fun p hp => ⟨p, m, ls, rfl, SqT.of (by rw [upd_same]), M.same (same_new hp)⟩⟩
  · obtain ⟨a, m, ls, rfl, hS, M⟩ := h
    have SC := sc_Yard_in_star
    have hu := hu_of hr
    refine ⟨_, Evl.pss_cut (ps_set (i := 2) SC.nd rfl (by first | exact Or.inl rfl | exact Or.inr rfl) (pe_op op_catT (pe_tup (pa_cons (pv 0) pa_nil)) (pv 1))) 
      (pss_cons (ps_expr (pe_call G_check_benches (hr.mono (by decide)) rfl T.g_check_benches k_check_benches b_check_benches .nil (passes_call (takes_of rfl rfl rfl rfl) (fun _ _ _ _ h => h)) (pa_cons (pv 2) pa_nil))) 
      (pss_one (ps_ret (pe_make T.mk_Yard G_Yard_init (hr.mono (by decide)) rfl T.g_Yard b_Yard_init .nil (passes_call (takes_of rfl rfl rfl rfl) (fun _ _ _ _ h => h)) (pa_cons (pe_call G_yard_text (hr.mono (by decide)) rfl T.g_yard_text k_yard_text b_yard_text .nil pass0 (pa_cons pe_bl (pa_cons (pv 2) (pa_cons (pe_lc (own := [("leaf", 3)]) (g := gName 3) (tt := tYes) rfl SC.nd (tupI K rfl (pv 1)) (blkOk_by (N := ["middle", "leaves", "benches", "leaf"]) (sc := defScope s_Yard_in_star) (by decide +kernel)) (fun _ _ _ _ _ => (pg_name (i := 3) SC.nd rfl (by first | exact Or.inl rfl | exact Or.inr rfl))) (fun _ _ _ _ _ => pts_nil) (fun _ _ _ _ _ => (pe_tup (pa_cons (pv 0) (pa_cons (pv 3) pa_nil))))) pa_nil)))) pa_nil))))), ?_⟩
    have ll := M.2.1
    simp only [List.length_cons] at ll
    refine ⟨fun σ' H' => ∃ bb, σ' = [some (.str m), some (.ref a), some (.ref bb), none] ∧ Same H H' ∧ SqT K H' bb ((m :: ls).map V.str), ?_, ?_⟩
    · refine ⟨_, rfl, by show 1 ≤ sizeLine; decide, fun t ht => ?_⟩
      have s1 : Same H (upd H t (.tup [.str m])) := same_new ht
      refine ⟨_, rfl, t, a, _, _, rfl, rfl, SqT.of upd_same, seqT s1 hS, by simp, by rw [List.length_map, sizeLine_eq]; show 1 + _ ≤ _; omega, fun z => ⟨t, rfl, s1, ?_⟩, fun z p hp => ⟨p, rfl, same_upd s1 (Same.free s1 hp), SqT.of upd_same⟩⟩
      have : ls = [] := List.map_eq_nil_iff.mp z
      subst this
      exact SqT.of upd_same
    · rintro σ' H0 ⟨bb, rfl, s0, hbb⟩
      refine ⟨_, rfl, bb, m :: ls, rfl, hbb, M.1, M.2.1, fun z => (M.2.2.1 z).same s0, fun z1 z2 z3 => (M.2.2.2.1 z1 z2 z3).same s0, fun hn hd hl H1 s1 => ?_⟩
      have SM : Sml (m :: ls) (starE m ls) := diff_sml hd hl (by unfold starE; rw [List.length_map]; simp only [List.length_cons] at hl; omega) fun e he => by
        obtain ⟨l, hl, rfl⟩ := List.mem_map.mp he
        exact ⟨List.mem_cons_self, List.mem_cons_of_mem _ hl⟩
      have s01 := Same.trans s0 s1
      have hS1 := seqT s01 hS
      refine ⟨_, rfl, _, rfl, a, rfl, ⟨_, hS1⟩, fun D hD => ?_⟩
      refine lc_tup (xs := ls.map V.str) (fun i H => Same H1 H ∧ ∃ as : List Addr, H D = some (.lst (as.map V.ref)) ∧ WAt H as ((starE m ls).take i)) ⟨same_new hD, [], upd_same, WAt.nil⟩ (fun i H _ ⟨s, _⟩ => seqT s hS1) (fun i x H hi ⟨s, as, e, W⟩ => ?_) (fun H2 ⟨s2, as, e, W⟩ => ?_)
      · rw [List.getElem?_map] at hi
        obtain ⟨l, hl', rfl⟩ := Option.map_eq_some_iff.mp hi
        have hls : (starE m ls)[i]? = some (m, l) := by unfold starE; rw [List.getElem?_map, hl']; rfl
        refine ⟨rfl, iteT (B := False) ⟨_, rfl, _, rfl, by show 2 ≤ sizeLine; decide, fun t ht => ?_⟩⟩
        have s3 : Same H (upd H t (.tup [.str m, .str l])) := same_new ht
        have e3 : upd H t (.tup [.str m, .str l]) t = some (.tup [.str m, .str l]) := upd_same
        generalize upd H t _ = H3 at s3 e3 ⊢
        have eD := s3 _ _ e
        have W3 := (W.same s3).snoc (e := (m, l)) e3
        have la : as.length ≤ 1000 := by
          have := W.1
          rw [this, List.length_take]
          unfold starE
          rw [List.length_map]
          omega
        refine ⟨_, eD, by rw [List.length_map, sizeLine_eq]; omega, same_upd (Same.trans s s3) hD, as ++ [t], by rw [upd_same, List.map_append]; rfl, ?_⟩
        rw [take_snoc hls]
        exact W3.keep fun b xs z => by rw [upd_ne (ne_of z eD (by intro y; cases y))]; exact z
      · rw [List.length_map, show ls.length = (starE m ls).length by unfold starE; rw [List.length_map], List.take_length] at W
        have s02 := Same.trans s01 s2
        refine ⟨false, bb, D, m :: ls, as, _, rfl, seqT (Same.trans s1 s2) hbb, .inl (SqL.of e), W, SM, fun H4 s4 => ?_⟩
        exact make_end M hn hd hl (text_len SM) (Same.trans s02 s4)
end
end Yd
set_option Elab.async false
set_option linter.all false
set_option maxRecDepth 100000
set_option maxHeartbeats 16000000
namespace Yd
open PySem PySem.Spec PyProof.Rows L2 Xo
section
variable {P : Program} {w : World} {K : PySem.W.Frag} {mg : Str → Option Value} {base : Heap}
theorem insc_Yard (T : Tx w K mg) : C8.InsC K (He.ga K "Yard") := ⟨T.cls_Yard, T.ocl_Yard, T.ocg_Yard, T.oct_Yard, T.ocm_Yard, T.ome_Yard⟩
def spLenY (K : PySem.W.Frag) : Sp := fun vs H Q _ => ∃ (p dx b : Addr) (fs : List (Str × V)) (hs : List Str), vs = [.ref p] ∧ H p = some (.ins (He.ga K "Yard") dx fs) ∧ fs.lookup ("benches" : Str) = some (.ref b) ∧ SqT K H b (hs.map V.str) ∧ Q (.int hs.length) H
theorem sc_YardD__lenD_ : FnScope ["self"] ["self"] (defScope s_YardD__lenD_) := ⟨rfl, rfl, rfl, by decide +kernel, rfl, by decide +kernel, by decide +kernel⟩
theorem good_YLen (T : Tx w K mg) : Good P w K mg base CX0 1 (He.ma K (He.ga K "Yard") "__len__") ["self"] (spLenY K) := by
  obtain ⟨fd, F⟩ := T.f_YardD__lenD_
  refine ⟨fd, F.ok sc_YardD__lenD_ (fun vs H Q E h => ?_) (fun cdv A outer s H vs Q E hr h => ?_), F.kp, F.bindsN fun _ _ _ _ _ _ us hl => match us, hl with | [_], _ => rfl⟩
  · obtain ⟨_, _, _, _, _, rfl, _⟩ := h
    rfl
  · obtain ⟨p, dx, b, fs, hs, rfl, hp, lb, hb, kq⟩ := h
    have SC := sc_YardD__lenD_
    refine ⟨_, PSs.nox (pss_one (ps_ret (pe_callB (lenQ K) rfl T.n_len (by decide +kernel) (pa_cons (fldQ K rfl (pv 0)) pa_nil)))), ?_⟩
    refine ⟨_, rfl, p, _, dx, fs, _, rfl, hp, T.cls_Yard, T.a_Yard_benches, lb, b, _, rfl, .inr hb, ?_⟩
    rw [List.length_map]
    exact kq
def spEqY (K : PySem.W.Frag) : Sp := fun vs H Q _ => ∃ (p dx : Addr) (fs : List (Str × V)) (y : V) (a : Str), vs = [.ref p, y] ∧ H p = some (.ins (He.ga K "Yard") dx fs) ∧ fs.lookup ("text" : Str) = some (.str a) ∧
  ((∃ (q dy : Addr) (gs : List (Str × V)) (b : Str), y = .ref q ∧ H q = some (.ins (He.ga K "Yard") dy gs) ∧ gs.lookup ("text" : Str) = some (.str b) ∧ Q (.bl (decide (a = b))) H) ∨ ∃ z : Str, y = .str z ∧ Q (.bl false) H)
theorem sc_YardD__eqD_ : FnScope ["self", "other"] ["self", "other"] (defScope s_YardD__eqD_) := ⟨rfl, rfl, rfl, by decide +kernel, rfl, by decide +kernel, by decide +kernel⟩
theorem good_YEq (T : Tx w K mg) : Good P w K mg base CX0 1 (He.ma K (He.ga K "Yard") "__eq__") ["self", "other"] (spEqY K) := by
  obtain ⟨fd, F⟩ := T.f_YardD__eqD_
  refine ⟨fd, F.ok sc_YardD__eqD_ (fun vs H Q E h => ?_) (fun cdv A outer s H vs Q E hr h => ?_), F.kp, F.bindsN fun _ _ _ _ _ _ us hl => match us, hl with | [_, _], _ => rfl⟩
  · obtain ⟨_, _, _, _, _, rfl, _⟩ := h
    rfl
  · obtain ⟨p, dx, fs, y, a, rfl, hp, la, hy⟩ := h
    have SC := sc_YardD__eqD_
    refine ⟨_, PSs.nox (pss_one (ps_ret (pe_and (pe_callB (isiQ K) rfl T.n_isinstance (by decide +kernel) (pa_cons (pv 1) (pa_cons (pe_glob (v := .ref (He.ga K "Yard")) rfl T.g_Yard rfl) pa_nil))) (pe_one (pe_cmpR op_eq (fldQ K rfl (pv 0)) (fldQ K rfl (pv 1)) (nomark _)))))), ?_⟩
    rcases hy with ⟨q, dy, gs, b, rfl, hq, lb, kq⟩ | ⟨z, rfl, kq⟩
    · have C := insc_Yard T
      refine ⟨_, rfl, _, _, _, _, _, rfl, .own _, .base (TyOf.ins hq C.cl C.ha C.hn C.htk C.hm), C.me, _, rfl, iteT (B := False) ?_⟩
      refine ⟨_, rfl, p, _, dx, fs, _, rfl, hp, T.cls_Yard, T.a_Yard_text, la, _, rfl, q, _, dy, gs, _, rfl, hq, T.cls_Yard, T.a_Yard_text, lb, rfl, ?_⟩
      rw [str_dec]
      exact kq
    · exact ⟨_, rfl, _, _, _, _, _, rfl, .own _, .base (.str z), T.ons_Yard, _, rfl, iteF (A := False) kq⟩
end
end Yd
set_option Elab.async false
set_option linter.all false
set_option maxRecDepth 100000
set_option maxHeartbeats 8000000
namespace Yd
open PySem PySem.Spec PyProof.Rows L2 Xo
/-- all but what stands at b is kept -/
def KeepB (b : Addr) (H H' : Hp) : Prop := ∀ a o, H a = some o → a ≠ b → H' a = some o
theorem KeepB.refl (b : Addr) (H : Hp) : KeepB b H H := fun _ _ h _ => h
theorem KeepB.trans {b : Addr} {H H1 H2 : Hp} (h : KeepB b H H1) (h' : KeepB b H1 H2) : KeepB b H H2 := fun a o e n => h' a o (h a o e n) n
theorem KeepB.upd {b : Addr} {H : Hp} {o : HO} : KeepB b H (upd H b o) := fun a u e n => by rw [upd_ne n]; exact e
theorem KeepB.same {b : Addr} {H H' : Hp} (h : Same H H') : KeepB b H H' := fun a o e _ => h a o e
def bagL (c : Addr) (i r k x n : Int) : List V := [.ref c, .int i, .int r, .int k, .int x, .int n]
/-- the bag at b, its cells ns at c -/
structure BagAt (H : Hp) (b c : Addr) (ns : List Int) (i r k x n : Int) : Prop where
  hb : H b = some (.lst (bagL c i r k x n))
  hc : H c = some (.lst (ns.map V.int))
  i0 : 0 ≤ i
  i1 : i ≤ ns.length
  l63 : ns.length ≤ 63
  r0 : 0 ≤ r
  x0 : 0 ≤ x
  x1 : x < 2147483563
def Bag (H : Hp) (b c : Addr) : Prop := ∃ ns i r k x n, BagAt H b c ns i r k x n
def spDraw : Sp := fun vs H Q _ => ∃ (b c : Addr) (m : Int), vs = [.ref b, .int m] ∧ Bag H b c ∧ 0 < m ∧ m < 1073741824 ∧ ∀ (r : Int) (H' : Hp), 0 ≤ r → r < m → Bag H' b c → KeepB b H H' → Q (.int r) H'
section
variable {P : Program} {w : World} {K : PySem.W.Frag} {mg : Str → Option Value} {base : Heap}
theorem scDraw : FnScope ["bag", "many", "digit"] ["bag", "many"] (defScope s_law_draw) := ⟨rfl, rfl, rfl, by decide +kernel, rfl, by decide +kernel, by decide +kernel⟩
theorem good_draw (T : Tx w K mg) : Good P w K mg base CX0 1 (He.ga K "_law_draw") ["bag", "many"] spDraw := by
  obtain ⟨fd, F⟩ := T.f_law_draw
  refine ⟨fd, F.ok scDraw (fun vs H Q E h => ?_) (fun cdv A outer s H vs Q E hr h => ?_), F.kp, F.bindsN fun _ _ _ _ _ _ us hl => match us, hl with | [_, _], _ => rfl⟩
  · obtain ⟨_, _, _, rfl, _⟩ := h
    rfl
  · obtain ⟨b, c, m, rfl, ⟨ns, i, r, k, x, n, B⟩, m0, m1, kq⟩ := h
    have SC := scDraw
    refine ⟨_, PSs.nox (pss_cons (ps_asg (pe_op op_add (pe_ix (ixL K) (pv 0) pe_int (fun _ _ => rfl)) pe_int) (pg_sub (pv 0) pe_int pset_listN)) 
      (Evl.pss_cut (ps_if (PW.pt (pw_and (pt_cmpR op_eq (pe_ix (ixL K) (pv 0) pe_int (fun _ _ => rfl)) pe_int (nomark _)) (pw_and1 (pt_cmpR op_lt (pe_ix (ixL K) (pv 0) pe_int (fun _ _ => rfl)) (pe_callB (lenQ K) rfl T.n_len (by decide +kernel) (pa_cons (pe_ix (ixL K) (pv 0) pe_int (fun _ _ => rfl)) pa_nil)) (nomark _))))) 
      (pss_cons (ps_asg (pe_op op_add (pe_ix (ixL K) (pv 0) pe_int (fun _ _ => rfl)) pe_int) (pg_sub (pv 0) pe_int pset_listN)) 
      (pss_one (ps_if (pt_cmpR op_ge (pe_ix (ixL K) (pe_ix (ixL K) (pv 0) pe_int (fun _ _ => rfl)) (pe_op op_sub (pe_ix (ixL K) (pv 0) pe_int (fun _ _ => rfl)) pe_int) (fun _ _ => rfl)) (pe_op op_pow pe_int pe_int) (nomark _)) 
      (pss_cons (ps_asg (pe_ix (ixL K) (pe_ix (ixL K) (pv 0) pe_int (fun _ _ => rfl)) (pe_op op_sub (pe_ix (ixL K) (pv 0) pe_int (fun _ _ => rfl)) pe_int) (fun _ _ => rfl)) (pg_sub (pv 0) pe_int pset_listN)) 
      (pss_one (ps_asg pe_int (pg_sub (pv 0) pe_int pset_listN)))) 
      (pss_one (ps_asg (pe_op op_mod (pe_callTy call_int1 rfl T.n_int (by decide +kernel) (pa_cons (pe_op op_add (pe_op op_add (pe_op op_mul (pe_ix (ixL K) (pv 0) pe_int (fun _ _ => rfl)) pe_int) (pe_op op_mul (pe_op op_mod (pe_callTy call_int1 rfl T.n_int (by decide +kernel) (pa_cons (pe_ix (ixL K) (pe_ix (ixL K) (pv 0) pe_int (fun _ _ => rfl)) (pe_op op_sub (pe_ix (ixL K) (pv 0) pe_int (fun _ _ => rfl)) pe_int) (fun _ _ => rfl)) pa_nil)) pe_int) pe_int)) pe_int) pa_nil)) pe_int) (pg_sub (pv 0) pe_int pset_listN)))))) pss_nil) 
      (pss_cons (ps_if (pt_cmpR op_gt (pe_ix (ixL K) (pv 0) pe_int (fun _ _ => rfl)) pe_int (nomark _)) 
      (pss_cons (ps_set (i := 2) SC.nd rfl (by first | exact Or.inl rfl | exact Or.inr rfl) (pe_op op_mod (pe_callTy call_int1 rfl T.n_int (by decide +kernel) (pa_cons (pe_ix (ixL K) (pv 0) pe_int (fun _ _ => rfl)) pa_nil)) (pv 1))) 
      (pss_cons (ps_asg (pe_op op_sub (pe_ix (ixL K) (pv 0) pe_int (fun _ _ => rfl)) pe_int) (pg_sub (pv 0) pe_int pset_listN)) 
      (pss_cons (ps_asg (pe_ifExp (pt_cmpR op_gt (pe_ix (ixL K) (pv 0) pe_int (fun _ _ => rfl)) pe_int (nomark _)) (pe_op op_fdiv (pe_ix (ixL K) (pv 0) pe_int (fun _ _ => rfl)) (pv 1)) pe_int) (pg_sub (pv 0) pe_int pset_listN)) 
      (pss_one (ps_ret (pv 2)))))) pss_nil) 
      (pss_cons (ps_asg (pe_op op_mod (pe_callTy call_int1 rfl T.n_int (by decide +kernel) (pa_cons (pe_op op_add (pe_op op_add (pe_op op_pow (pe_ix (ixL K) (pv 0) pe_int (fun _ _ => rfl)) pe_int) (pe_op op_mul (pe_ix (ixL K) (pv 0) pe_int (fun _ _ => rfl)) pe_int)) pe_int) pa_nil)) pe_int) (pg_sub (pv 0) pe_int pset_listN)) 
      (pss_one (ps_ret (pe_op op_mod (pe_callTy call_int1 rfl T.n_int (by decide +kernel) (pa_cons (pe_op op_add (pe_op op_fdiv (pe_ix (ixL K) (pv 0) pe_int (fun _ _ => rfl)) pe_int) (pe_op op_mul (pe_op op_mod (pe_callTy call_int1 rfl T.n_int (by decide +kernel) (pa_cons (pe_ix (ixL K) (pv 0) pe_int (fun _ _ => rfl)) pa_nil)) pe_int) pe_int)) pa_nil)) (pv 1)))))))), ?_⟩
    have hb := B.hb
    have hcb : c ≠ b := ne_of B.hc hb (by intro z; cases ns <;> simp [bagL] at z)
    -- bag[5] = bag[5] + 1
    refine ⟨_, rfl, b, _, 5, _, rfl, rfl, SqL.of hb, rfl, _, _, rfl, rfl, _, rfl, b, _, 5, rfl, rfl, hb, by show 5 < 6; decide, ?_⟩
    refine ⟨fun σ' H' => σ' = [some (.ref b), some (.int m), none] ∧ Bag H' b c ∧ KeepB b H H', ?_, ?_⟩
    · have B1 : BagAt (upd H b (.lst (bagL c i r k x (n + 1)))) b c ns i r k x (n + 1) := ⟨upd_same, by rw [upd_ne hcb]; exact B.hc, B.i0, B.i1, B.l63, B.r0, B.x0, B.x1⟩
      generalize hH : upd H b _ = H1
      have K1 : KeepB b H H1 := by rw [← hH]; exact .upd
      have B1 : BagAt H1 b c ns i r k x (n + 1) := by rw [← hH]; exact B1
      have hb1 := B1.hb
      have hc1 := B1.hc
      refine ⟨_, rfl, b, _, 2, _, rfl, rfl, SqL.of hb1, rfl, rfl, _, rfl, ?_⟩
      refine ite2 (fun c1 => ?_) (fun c1 => ?_)
      · refine ⟨_, rfl, b, _, 1, _, rfl, rfl, SqL.of hb1, rfl, _, rfl, b, _, 0, _, rfl, rfl, SqL.of hb1, rfl, c, _, rfl, .inl (SqL.of hc1), _, _, rfl, rfl, _, rfl, ?_⟩
        refine ite2 (fun c2 => ?_) (fun c2 => ?_)
        · have c2' : i < ((ns.map V.int).length : Int) := of_decide_eq_true c2
          rw [List.length_map] at c2'
          -- bag[1] = bag[1] + 1
          refine ⟨_, rfl, b, _, 1, _, rfl, rfl, SqL.of hb1, rfl, _, _, rfl, rfl, _, rfl, b, _, 1, rfl, rfl, hb1, by show 1 < 6; decide, ?_⟩
          have B2 : BagAt (upd H1 b (.lst (bagL c (i + 1) r k x (n + 1)))) b c ns (i + 1) r k x (n + 1) := ⟨upd_same, by rw [upd_ne hcb]; exact hc1, by have := B.i0; omega, by omega, B.l63, B.r0, B.x0, B.x1⟩
          generalize hH2 : upd H1 b _ = H2
          have K2 : KeepB b H H2 := by rw [← hH2]; exact K1.trans .upd
          have B2 : BagAt H2 b c ns (i + 1) r k x (n + 1) := by rw [← hH2]; exact B2
          have hb2 := B2.hb
          have hc2 := B2.hc
          obtain ⟨z, hz⟩ : ∃ z, ns[i.toNat]? = some z := ⟨_, List.getElem?_eq_getElem (by have := B.i0; omega)⟩
          have hz' : atI (ns.map V.int) (i + 1 - 1) = some (V.int z) := at_of (j := i.toNat) (by have := B.i0; omega) (by rw [List.getElem?_map, hz]; rfl)
          refine ⟨_, rfl, b, _, 0, _, rfl, rfl, SqL.of hb2, rfl, _, rfl, b, _, 1, _, rfl, rfl, SqL.of hb2, rfl, _, _, rfl, rfl, c, _, _, _, rfl, rfl, SqL.of hc2, hz', _, _, rfl, rfl, ⟨by decide, by decide, by decide⟩, _, _, rfl, rfl, _, rfl, ?_⟩
          refine ite2 (fun c3 => ?_) (fun c3 => ?_)
          · have c3' : (10 : Int) ^ 18 ≤ z := of_decide_eq_true c3
            -- bag[2] = bag[0][bag[1] - 1]
            refine ⟨_, rfl, b, _, 0, _, rfl, rfl, SqL.of hb2, rfl, _, rfl, b, _, 1, _, rfl, rfl, SqL.of hb2, rfl, _, _, rfl, rfl, c, _, _, _, rfl, rfl, SqL.of hc2, hz', _, rfl, b, _, 2, rfl, rfl, hb2, by show 2 < 6; decide, ?_⟩
            refine ⟨_, rfl, b, _, 3, rfl, rfl, upd_same, by show 3 < 6; decide, ?_⟩
            refine ⟨rfl, ⟨ns, i + 1, z, 70, x, n + 1, ⟨upd_same, ?_, B2.i0, B2.i1, B2.l63, ?_, B2.x0, B2.x1⟩⟩, (K2.trans .upd).trans .upd⟩
            · rw [upd_ne hcb, upd_ne hcb]; exact hc2
            · have : (0 : Int) ≤ 10 ^ 18 := by decide
              omega
          · refine ⟨_, rfl, b, _, 4, _, rfl, rfl, SqL.of hb2, rfl, _, _, rfl, rfl, .inr ⟨by decide, by decide⟩, _, rfl, b, _, 0, _, rfl, rfl, SqL.of hb2, rfl, _, rfl, b, _, 1, _, rfl, rfl, SqL.of hb2, rfl, _, _, rfl, rfl, c, _, _, _, rfl, rfl, SqL.of hc2, hz', .inl ⟨_, rfl, _, _, rfl, rfl, (by show (0 : Int) < _; decide), _, _, rfl, rfl, .inr ⟨by decide, by decide⟩, _, _, rfl, rfl, _, _, rfl, rfl, .inl ⟨_, rfl, _, _, rfl, rfl, (by show (0 : Int) < _; decide), _, rfl, b, _, 4, rfl, rfl, hb2, by show 4 < 6; decide, ?_⟩⟩⟩
            refine ⟨rfl, ⟨ns, i + 1, r, k, _, n + 1, ⟨upd_same, ?_, B2.i0, B2.i1, B2.l63, B2.r0, Int.emod_nonneg _ (by decide), Int.emod_lt_of_pos _ (by decide)⟩⟩, K2.trans .upd⟩
            rw [upd_ne hcb]; exact hc2
        · exact ⟨rfl, ⟨ns, i, r, k, x, n + 1, B1⟩, K1⟩
      · exact ⟨rfl, ⟨ns, i, r, k, x, n + 1, B1⟩, K1⟩
    · rintro σ' H' ⟨rfl, ⟨ns, i, r, k, x, n, B⟩, K1⟩
      have hb := B.hb
      have hcb : c ≠ b := ne_of B.hc hb (by intro z; cases ns <;> simp [bagL] at z)
      refine ⟨_, rfl, b, _, 2, _, rfl, rfl, SqL.of hb, rfl, _, _, rfl, rfl, _, rfl, ?_⟩
      refine ite2 (fun c1 => ?_) (fun c1 => ?_)
      · have c1' : 0 < r := of_decide_eq_true c1
        -- digit = int(bag[2]) % many; bag[3] = bag[3] - 1
        refine ⟨_, rfl, b, _, 2, _, rfl, rfl, SqL.of hb, rfl, .inl ⟨_, rfl, _, rfl, _, _, rfl, rfl, m0, ?_⟩⟩
        refine ⟨_, rfl, b, _, 3, _, rfl, rfl, SqL.of hb, rfl, _, _, rfl, rfl, _, rfl, b, _, 3, rfl, rfl, hb, by show 3 < 6; decide, ?_⟩
        refine ⟨_, rfl, b, _, 3, _, rfl, rfl, SqL.of upd_same, rfl, _, _, rfl, rfl, _, rfl, ?_⟩
        refine ite2 (fun c2 => ?_) (fun c2 => ?_)
        · refine ⟨_, rfl, b, _, 2, _, rfl, rfl, SqL.of upd_same, rfl, _, rfl, _, _, rfl, rfl, ⟨m0, m1⟩, _, rfl, b, _, 2, rfl, rfl, upd_same, by show 2 < 6; decide, _, rfl, ?_⟩
          refine kq _ _ (Int.emod_nonneg _ (by omega)) (Int.emod_lt_of_pos _ m0) ⟨ns, i, r / m, k - 1, x, n, ⟨upd_same, by rw [upd_ne hcb, upd_ne hcb]; exact B.hc, B.i0, B.i1, B.l63, Int.ediv_nonneg B.r0 (by omega), B.x0, B.x1⟩⟩ ((K1.trans .upd).trans .upd)
        · refine ⟨_, rfl, b, _, 2, rfl, rfl, upd_same, by show 2 < 6; decide, _, rfl, ?_⟩
          refine kq _ _ (Int.emod_nonneg _ (by omega)) (Int.emod_lt_of_pos _ m0) ⟨ns, i, 0, k - 1, x, n, ⟨upd_same, by rw [upd_ne hcb, upd_ne hcb]; exact B.hc, B.i0, B.i1, B.l63, Int.le_refl _, B.x0, B.x1⟩⟩ ((K1.trans .upd).trans .upd)
      · have xb : x.natAbs < 2 ^ 64 := by have := B.x0; have := B.x1; omega
        refine ⟨_, rfl, b, _, 4, _, rfl, rfl, SqL.of hb, rfl, _, _, rfl, rfl, ⟨by decide, by decide, xb⟩, _, rfl, b, _, 5, _, rfl, rfl, SqL.of hb, rfl, _, _, rfl, rfl, .inr ⟨by decide, by decide⟩, _, _, rfl, rfl, _, _, rfl, rfl, .inl ⟨_, rfl, _, _, rfl, rfl, (by show (0 : Int) < _; decide), _, rfl, b, _, 4, rfl, rfl, hb, by show 4 < 6; decide, ?_⟩⟩
        refine ⟨_, rfl, b, _, 4, _, rfl, rfl, SqL.of upd_same, rfl, _, _, rfl, rfl, ⟨by decide, by decide⟩, _, rfl, b, _, 4, _, rfl, rfl, SqL.of upd_same, rfl, .inl ⟨_, rfl, _, _, rfl, rfl, (by show (0 : Int) < _; decide), _, _, rfl, rfl, .inr ⟨by decide, by decide⟩, _, _, rfl, rfl, .inl ⟨_, rfl, _, rfl, _, _, rfl, rfl, m0, ?_⟩⟩⟩
        refine kq _ _ (Int.emod_nonneg _ (by omega)) (Int.emod_lt_of_pos _ m0) ⟨ns, i, r, k, _, n, ⟨upd_same, by rw [upd_ne hcb]; exact B.hc, B.i0, B.i1, B.l63, B.r0, Int.emod_nonneg _ (by decide), Int.emod_lt_of_pos _ (by decide)⟩⟩ (K1.trans .upd)
/-! ### the bag is made -/
def spBag (K : PySem.W.Frag) : Sp := fun vs H Q _ => ∃ (a : Addr) (ns : List Int), vs = [.ref a] ∧ SqL K H a (ns.map V.int) ∧ ns.length ≤ 63 ∧ ∀ (b c : Addr) (H' : Hp), Bag H' b c → H b = none → H c = none → Same H H' → Q (.ref b) H'
theorem map_get {ns : List Int} {i : Nat} (h : i < ns.length) : (ns.map V.int)[i]? = some (.int ns[i]) := by
  rw [List.getElem?_map, List.getElem?_eq_getElem h]; rfl
theorem scBag : FnScope ["script", "mixed", "spot"] ["script"] (defScope s_law_bag) := ⟨rfl, rfl, rfl, by decide +kernel, rfl, by decide +kernel, by decide +kernel⟩
theorem good_bag (T : Tx w K mg) : Good P w K mg base CX0 1 (He.ga K "_law_bag") ["script"] (spBag K) := by
  obtain ⟨fd, F⟩ := T.f_law_bag
  refine ⟨fd, F.ok scBag (fun vs H Q E h => ?_) (fun cdv A outer s H vs Q E hr h => ?_), F.kp, F.bindsN fun _ _ _ _ _ _ us hl => match us, hl with | [_], _ => rfl⟩
  · obtain ⟨_, _, rfl, _⟩ := h
    rfl
  · obtain ⟨a, ns, rfl, hS, hl, kq⟩ := h
    have SC := scBag
    refine ⟨_, PSs.nox (pss_cons (ps_set (i := 1) SC.nd rfl (by first | exact Or.inl rfl | exact Or.inr rfl) pe_int) 
      (pss_cons (ps_for PassesOwn.never rfl (pi_range1 rfl T.n_range (pa_cons (pe_callB (call_min2 rfl) rfl T.n_min (by decide +kernel) (pa_cons pe_int (pa_cons (pe_callB (lenQ K) rfl T.n_len (by decide +kernel) (pa_cons (pv 0) pa_nil)) pa_nil))) pa_nil)) (pg_name (i := 2) SC.nd rfl (by first | exact Or.inl rfl | exact Or.inr rfl)) 
      (pss_one (ps_set (i := 1) SC.nd rfl (by first | exact Or.inl rfl | exact Or.inr rfl) (pe_op op_mod (pe_callTy call_int1 rfl T.n_int (by decide +kernel) (pa_cons (pe_op op_add (pe_op op_add (pe_op op_add (pe_op op_mul (pv 1) pe_int) (pe_op op_mod (pe_callTy call_int1 rfl T.n_int (by decide +kernel) (pa_cons (pe_ix (ixL K) (pv 0) (pv 2) (fun _ _ => rfl)) pa_nil)) pe_int)) (pe_op op_mul pe_int (pv 2))) pe_int) pa_nil)) pe_int)))) 
      (pss_one (ps_ret (pe_lst (pa_cons (pe_lc (own := [("spot", 2)]) (g := gName 2) (tt := tYes) rfl SC.nd (pi_range1 rfl T.n_range (pa_cons (pe_callB (call_min2 rfl) rfl T.n_min (by decide +kernel) (pa_cons pe_int (pa_cons (pe_callB (lenQ K) rfl T.n_len (by decide +kernel) (pa_cons (pv 0) pa_nil)) pa_nil))) pa_nil)) (blkOk_by (N := ["script", "mixed", "spot"]) (sc := defScope s_law_bag) (by decide +kernel)) (fun _ _ _ _ _ => (pg_name (i := 2) SC.nd rfl (by first | exact Or.inl rfl | exact Or.inr rfl))) (fun _ _ _ _ _ => pts_nil) (fun _ _ _ _ _ => (pe_callTy call_int1 rfl T.n_int (by decide +kernel) (pa_cons (pe_ix (ixL K) (pv 0) (pv 2) (fun _ _ => rfl)) pa_nil)))) (pa_cons pe_int (pa_cons pe_int (pa_cons pe_int (pa_cons (pv 1) (pa_cons pe_int pa_nil))))))))))), ?_⟩
    have hlm : (ns.map V.int).length = ns.length := List.length_map _
    have hmin : (if ((ns.map V.int).length : Int) < 63 then ((ns.map V.int).length : Int) else 63) = (ns.length : Int) := by
      rw [hlm]
      split <;> omega
    refine ⟨_, rfl, a, _, rfl, .inl hS, 63, _, rfl, _, rfl, ?_, ?_, ?_⟩
    · rw [hmin]; omega
    · rw [hmin]; omega
    rw [hmin]
    refine for_range (lo := 0) (n := (ns.length : Int).toNat) (fun i σ H' => ∃ (x : Int) (v : Option V), σ = [some (.ref a), some (.int x), v] ∧ H' = H ∧ 0 ≤ x ∧ x < 2147483563) ⟨61001, none, rfl, rfl, by decide, by decide⟩ ?_ ?_
    · rintro i σ H' hi ⟨x, v, rfl, rfl, h0, h1⟩
      have hi' : i < ns.length := by omega
      refine ⟨_, rfl, _, _, rfl, rfl, .inr ⟨by decide, by decide⟩, _, rfl, _, rfl, a, _, _, _, rfl, rfl, hS, at_of (j := i) (by omega) (map_get hi'), .inl ⟨_, rfl, _, _, rfl, rfl, (by show (0 : Int) < _; decide), _, _, rfl, rfl, _, rfl, _, _, rfl, rfl, .inl ⟨by decide, by decide⟩, _, _, rfl, rfl, _, _, rfl, rfl, .inl ⟨_, rfl, _, _, rfl, rfl, (by show (0 : Int) < _; decide), ?_⟩⟩⟩
      exact ⟨_, _, rfl, rfl, Int.emod_nonneg _ (by decide), Int.emod_lt_of_pos _ (by decide)⟩
    · rintro σ H' ⟨x, v, rfl, rfl, h0, h1⟩
      refine ⟨_, rfl, a, _, rfl, .inl hS, 63, _, rfl, _, rfl, ?_, ?_, ?_⟩
      · rw [hmin]; omega
      · rw [hmin]; omega
      rw [hmin]
      intro D hD
      refine lc_range (lo := 0) (n := (ns.length : Int).toNat) (fun i H2 => H2 D = some (.lst ((ns.take i).map V.int)) ∧ Same H' H2) ⟨upd_same, same_new hD⟩ ?_ ?_
      · rintro i H2 hi ⟨hd, hs⟩
        have hi' : i < ns.length := by omega
        refine ⟨rfl, ?_⟩
        refine iteT (B := False) ?_
        refine ⟨_, rfl, _, rfl, a, _, _, _, rfl, rfl, hs.seq hS, at_of (j := i) (by omega) (map_get hi'), .inl ⟨_, rfl, _, hd, ?_, ?_, same_upd hs hD⟩⟩
        · rw [List.length_map, List.length_take]
          exact small1000 (by omega)
        · rw [upd_same, List.take_succ_eq_append_getElem hi', List.map_append]
          rfl
      · rintro H2 ⟨hd, hs⟩
        have e : ns.take (ns.length : Int).toNat = ns := by rw [Int.toNat_natCast, List.take_length]
        rw [e] at hd
        refine ⟨_, rfl, by show 6 ≤ sizeLine; decide, fun p hp => ?_⟩
        have hDp : D ≠ p := ne_of_none hd hp
        exact kq p D _ ⟨ns, 0, 0, 0, x, 0, ⟨upd_same, by rw [upd_ne hDp]; exact hd, Int.le_refl _, by omega, hl, Int.le_refl _, h0, h1⟩⟩ (hs.free hp) hD (same_upd hs (hs.free hp))
/-! ### one of a list -/
def spOf : Sp := fun vs H Q _ => ∃ (b c a : Addr) (xs : List V), vs = [.ref b, .ref a] ∧ Bag H b c ∧ H a = some (.lst xs) ∧ a ≠ b ∧ 0 < xs.length ∧ xs.length < 1073741824 ∧ ∀ (j : Nat) (x : V) (H' : Hp), xs[j]? = some x → Bag H' b c → KeepB b H H' → Q x H'
theorem scOf : FnScope ["bag", "things"] ["bag", "things"] (defScope s_law_of) := ⟨rfl, rfl, rfl, by decide +kernel, rfl, by decide +kernel, by decide +kernel⟩
theorem good_of (T : Tx w K mg) : Good P w K mg base CX0 2 (He.ga K "_law_of") ["bag", "things"] spOf := by
  obtain ⟨fd, F⟩ := T.f_law_of
  obtain ⟨_, G_law_draw, k_law_draw, b_law_draw⟩ := good_draw (P := P) (w := w) (base := base) T
  refine ⟨fd, F.ok scOf (fun vs H Q E h => ?_) (fun cdv A outer s H vs Q E hr h => ?_), F.kp, F.bindsN fun _ _ _ _ _ _ us hl => match us, hl with | [_, _], _ => rfl⟩
  · obtain ⟨_, _, _, _, rfl, _⟩ := h
    rfl
  · obtain ⟨b, c, a, xs, rfl, B, ha, hab, h0, h1, kq⟩ := h
    have SC := scOf
    refine ⟨_, PSs.nox (pss_one (ps_ret (pe_ix (ixL K) (pv 1) (pe_call G_law_draw (hr.mono (by decide)) rfl T.g_law_draw k_law_draw b_law_draw .nil pass0 (pa_cons (pv 0) (pa_cons (pe_callB (lenQ K) rfl T.n_len (by decide +kernel) (pa_cons (pv 1) pa_nil)) pa_nil))) (fun _ _ => rfl)))), ?_⟩
    refine ⟨_, rfl, _, rfl, _, rfl, a, _, rfl, .inl (SqL.of ha), b, c, _, rfl, B, by omega, by omega, fun r H' r0 r1 B' kp => ?_⟩
    obtain ⟨x, hx⟩ : ∃ x, xs[r.toNat]? = some x := ⟨_, List.getElem?_eq_getElem (by omega)⟩
    exact ⟨a, _, _, _, rfl, rfl, SqL.of (kp a _ ha hab), at_of (j := r.toNat) (by omega) hx, kq _ _ _ hx B' kp⟩
/-! ### a list in a drawn order -/
def spMixed : Sp := fun vs H Q _ => ∃ (b c a : Addr) (xs : List V), vs = [.ref b, .ref a] ∧ Bag H b c ∧ H a = some (.lst xs) ∧ a ≠ b ∧ xs.length ≤ 100000 ∧ ∀ (l : Addr) (ys : List V) (H' : Hp), ys.Perm xs → Bag H' b c → KeepB b H H' → H l = none → H' l = some (.lst ys) → Q (.ref l) H'
theorem scMixed : FnScope ["bag", "things", "left", "found", "k"] ["bag", "things"] (defScope s_law_mixed) := ⟨rfl, rfl, rfl, by decide +kernel, rfl, by decide +kernel, by decide +kernel⟩
theorem perm_erase {α : Type} : ∀ {l : List α} {k : Nat} {x : α}, l[k]? = some x → (x :: l.eraseIdx k).Perm l
  | [], k, x, h => by simp at h
  | a :: l, 0, x, h => by
    have e : a = x := Option.some.inj h
    subst e
    exact List.Perm.refl _
  | a :: l, k + 1, x, h => by
    have ih := perm_erase (l := l) (k := k) (x := x) (by simpa using h)
    rw [List.eraseIdx_cons_succ]
    exact (List.Perm.swap a x _).trans (List.Perm.cons a ih)
theorem seqIndex_nat {n : Nat} {i : Int} (h0 : 0 ≤ i) (h1 : i < n) : seqIndex? i n = some i.toNat := by
  rw [seqIndex_of h0 h1]
theorem bag_keep {H H' : Hp} {b c : Addr} (B : Bag H b c) (h : ∀ a o, H a = some o → H' a = some o) : Bag H' b c := by
  obtain ⟨ns, i, r, k, x, n, B⟩ := B
  exact ⟨ns, i, r, k, x, n, h _ _ B.hb, h _ _ B.hc, B.i0, B.i1, B.l63, B.r0, B.x0, B.x1⟩
theorem Bag.some {H : Hp} {b c : Addr} (B : Bag H b c) : (∃ o, H b = some o) ∧ ∃ o, H c = some o := by
  obtain ⟨ns, i, r, k, x, n, B⟩ := B
  exact ⟨⟨_, B.hb⟩, _, B.hc⟩
/-- an object that is no part of the bag changes -/
theorem Bag.upd {H : Hp} {b c p : Addr} {o : HO} (B : Bag H b c) (c1 : p ≠ b) (c2 : p ≠ c) : Bag (upd H p o) b c := by
  obtain ⟨ns, i, r, k, x, n, B⟩ := B
  exact ⟨ns, i, r, k, x, n, by rw [upd_ne (Ne.symm c1)]; exact B.hb, by rw [upd_ne (Ne.symm c2)]; exact B.hc, B.i0, B.i1, B.l63, B.r0, B.x0, B.x1⟩
theorem Bag.ne {H : Hp} {b c p : Addr} (B : Bag H b c) (h : H p = none) : p ≠ b ∧ p ≠ c := by
  obtain ⟨⟨o, h1⟩, u, h2⟩ := B.some
  exact ⟨Ne.symm (ne_of_none h1 h), Ne.symm (ne_of_none h2 h)⟩
theorem Bag.new {H : Hp} {b c p : Addr} {o : HO} (B : Bag H b c) (h : H p = none) : Bag (L2.upd H p o) b c := B.upd (B.ne h).1 (B.ne h).2
theorem KeepB.free {b p : Addr} {H H' : Hp} (k : KeepB b H H') (hb : p ≠ b) (h : H' p = none) : H p = none := by
  cases q : H p with
  | none => rfl
  | some o =>
    rw [k p o q hb] at h
    cases h
theorem KeepB.upd' {b p : Addr} {H H1 : Hp} {o : HO} (k : KeepB b H H1) (h : H p = none) : KeepB b H (L2.upd H1 p o) := fun a u e n => by rw [upd_ne (ne_of_none e h)]; exact k a u e n
theorem good_mixed (T : Tx w K mg) : Good P w K mg base CX0 2 (He.ga K "_law_mixed") ["bag", "things"] spMixed := by
  obtain ⟨fd, F⟩ := T.f_law_mixed
  obtain ⟨_, G_law_draw, k_law_draw, b_law_draw⟩ := good_draw (P := P) (w := w) (base := base) T
  refine ⟨fd, F.ok scMixed (fun vs H Q E h => ?_) (fun cdv A outer s H vs Q E hr h => ?_), F.kp, F.bindsN fun _ _ _ _ _ _ us hl => match us, hl with | [_, _], _ => rfl⟩
  · obtain ⟨_, _, _, _, rfl, _⟩ := h
    rfl
  · obtain ⟨b, c, a, xs, rfl, B, ha, hab, hl, kq⟩ := h
    have SC := scMixed
    refine ⟨_, PSs.nox (pss_cons (ps_set (i := 2) SC.nd rfl (by first | exact Or.inl rfl | exact Or.inr rfl) (pe_callTy (listOf K) rfl T.n_list (by decide +kernel) (pa_cons (pv 1) pa_nil))) 
      (pss_cons (ps_set (i := 3) SC.nd rfl (by first | exact Or.inl rfl | exact Or.inr rfl) (pe_lst pa_nil)) 
      (pss_cons (ps_for PassesOwn.never rfl (pi_range1 rfl T.n_range (pa_cons (pe_callB (lenQ K) rfl T.n_len (by decide +kernel) (pa_cons (pv 1) pa_nil)) pa_nil)) (pg_name (i := 4) SC.nd rfl (by first | exact Or.inl rfl | exact Or.inr rfl)) 
      (pss_one (ps_expr (pe_bm PySem.F.plainAttrs_list PySem.F.slot_list_append PySem.F.type_list_append mt_append (pv 3) (pa_cons (pe_bm PySem.F.plainAttrs_list PySem.F.slot_list_pop PySem.F.type_list_pop mt_popAt (pv 2) (pa_cons (pe_call G_law_draw (hr.mono (by decide)) rfl T.g_law_draw k_law_draw b_law_draw .nil pass0 (pa_cons (pv 0) (pa_cons (pe_callB (lenQ K) rfl T.n_len (by decide +kernel) (pa_cons (pv 2) pa_nil)) pa_nil))) pa_nil)) pa_nil))))) 
      (pss_one (ps_ret (pv 3)))))), ?_⟩
    -- left = list(things); found = []
    refine ⟨_, rfl, a, xs, rfl, .inl (SqL.of ha), fun l hl0 => ?_⟩
    refine ⟨by show 0 ≤ sizeLine; decide, fun f hf => ?_⟩
    have hf0 : H f = none := by
      cases q : H f with
      | none => rfl
      | some o =>
        have : f ≠ l := ne_of_none q hl0
        rw [upd_ne this, q] at hf
        cases hf
    have hlf : l ≠ f := ne_of_none (upd_same (H := H)) hf
    obtain ⟨lb, lc⟩ := B.ne hl0
    obtain ⟨fb, fc⟩ := B.ne hf0
    have hal : a ≠ l := ne_of_none ha hl0
    have haf : a ≠ f := ne_of_none ha hf0
    refine ⟨_, rfl, a, xs, rfl, .inl (SqL.of (by rw [upd_ne haf, upd_ne hal]; exact ha)), xs.length, rfl, by omega, by omega, ?_⟩
    refine for_range (lo := 0) (n := (xs.length : Int).toNat) (fun i σ H' => ∃ (rest fnd : List V) (v : Option V), σ = [some (.ref b), some (.ref a), some (.ref l), some (.ref f), v] ∧ H' l = some (.lst rest) ∧ H' f = some (.lst fnd) ∧ (fnd ++ rest).Perm xs ∧ fnd.length = i ∧ Bag H' b c ∧ KeepB b H H')
      ⟨xs, [], none, rfl, by rw [upd_ne hlf]; exact upd_same, upd_same, List.Perm.refl _, rfl, (B.new hl0).new hf, (KeepB.refl b H |>.upd' hl0).upd' hf0⟩ ?_ ?_
    · rintro i σ H' hi ⟨rest, fnd, v, rfl, h1, h2, pm, hlen, B', kp⟩
      have hlr : fnd.length + rest.length = xs.length := by rw [← List.length_append]; exact pm.length_eq
      refine ⟨_, rfl, .inl ⟨rfl, _, SqL.of h2⟩, ?_⟩
      refine ⟨_, rfl, .inl ⟨rfl, _, SqL.of h1⟩, ?_⟩
      refine ⟨_, rfl, _, rfl, l, _, rfl, .inl (SqL.of h1), b, c, _, rfl, B', by omega, by omega, fun r H2 r0 r1 B2 kp2 => ?_⟩
      have h1' := kp2 l _ h1 lb
      have h2' := kp2 f _ h2 fb
      obtain ⟨x, hx⟩ : ∃ x, rest[r.toNat]? = some x := ⟨_, List.getElem?_eq_getElem (by omega)⟩
      refine ⟨l, rest, r, r.toNat, x, rfl, rfl, h1', by omega, by omega, seqIndex_nat r0 r1, hx, ?_⟩
      refine ⟨f, fnd, x, rfl, rfl, by rw [upd_ne (Ne.symm hlf)]; exact h2', ?_, ?_⟩
      · have e : sizeLine = 16777216 := sizeLine_eq
        omega
      · refine ⟨rest.eraseIdx r.toNat, fnd ++ [x], _, rfl, by rw [upd_ne hlf]; exact upd_same, upd_same, ?_, by rw [List.length_append]; simp [hlen], (B2.upd lb lc).upd fb fc, ((kp.trans kp2).upd' hl0).upd' hf0⟩
        rw [List.append_assoc]
        exact (List.Perm.append_left fnd (perm_erase hx)).trans pm
    · rintro σ H' ⟨rest, fnd, v, rfl, h1, h2, pm, hlen, B', kp⟩
      have hlr : fnd.length + rest.length = xs.length := by rw [← List.length_append]; exact pm.length_eq
      have e : rest = [] := List.eq_nil_of_length_eq_zero (by omega)
      subst e
      rw [List.append_nil] at pm
      exact ⟨_, rfl, kq f fnd H' pm B' kp hf0 h2⟩
end
end Yd
set_option Elab.async false
set_option linter.all false
set_option maxRecDepth 100000
set_option maxHeartbeats 16000000
namespace Yd
open PySem PySem.Spec PyProof.Rows L2 Xo
def letters : Str := "abcdefghijklmnopqrstuvwxyz"
def signs : Str := "abcdefghijklmnopqrstuvwxyz0123456789"
theorem in_letters (c : Nat) : decide (c ∈ letters.cps.toList) = loA c := by
  by_cases h : c < 128
  · have : ∀ c : Fin 128, decide (c.val ∈ letters.cps.toList) = loA c.val := by decide +kernel
    exact this ⟨c, h⟩
  · have h1 : loA c = false := by unfold loA; simp; omega
    have h2 : ∀ d ∈ letters.cps.toList, d < 128 := by decide +kernel
    rw [h1]
    exact decide_eq_false fun m => h (h2 c m)
theorem in_signs (c : Nat) : decide (c ∈ signs.cps.toList) = (loA c || dgA c) := by
  by_cases h : c < 128
  · have : ∀ c : Fin 128, decide (c.val ∈ signs.cps.toList) = (loA c.val || dgA c.val) := by decide +kernel
    exact this ⟨c, h⟩
  · have h1 : (loA c || dgA c) = false := by unfold loA dgA; simp; omega
    have h2 : ∀ d ∈ signs.cps.toList, d < 128 := by decide +kernel
    rw [h1]
    exact decide_eq_false fun m => h (h2 c m)
section
variable {P : Program} {w : World} {K : PySem.W.Frag} {mg : Str → Option Value} {base : Heap}
def spSmallL : Sp := fun vs H Q _ => ∃ x : Str, vs = [.str x] ∧ x.length ≤ 200000 ∧ okS x ∧ ∀ H', Same H H' → Q (.bl (smallB x)) H'
theorem sc_law_small : FnScope ["word", "sign"] ["word"] (defScope s_law_small) := ⟨rfl, rfl, rfl, by decide +kernel, rfl, by decide +kernel, by decide +kernel⟩
theorem good_lsmall (T : Tx w K mg) : Good P w K mg base CX0 1 (He.ga K "_law_small") ["word"] spSmallL := by
  obtain ⟨fd, F⟩ := T.f_law_small
  refine ⟨fd, F.ok sc_law_small (fun vs H Q E h => ?_) (fun cdv A outer s H vs Q E hr h => ?_), F.kp, F.bindsN fun _ _ _ _ _ _ us hl => match us, hl with | [_], _ => rfl⟩
  · obtain ⟨_, rfl, _⟩ := h
    rfl
  · obtain ⟨x, rfl, hl, hx, kq⟩ := h
    have SC := sc_law_small
    refine ⟨_, PSs.nox (pss_cons (ps_if (PW.pt (pw_or (pt_cmpR (inQ K) (pv 0) (pe_lst (pa_cons pe_str (pa_cons pe_str (pa_cons pe_str (pa_cons pe_str (pa_cons pe_str (pa_cons pe_str (pa_cons pe_str (pa_cons pe_str (pa_cons pe_str (pa_cons pe_str (pa_cons pe_str pa_nil)))))))))))) rfl) (pw_or1 (pt_not (pt_chain op_lt op_lt pe_int (pe_callB call_len_str rfl T.n_len (by decide +kernel) (pa_cons (pv 0) pa_nil)) pe_int))))) 
      (pss_one (ps_ret pe_bl)) pss_nil) 
      (pss_cons (ps_if (pt_cmpR op_notIn_sign (pe_ix ix_str (pv 0) pe_int (fun _ _ => rfl)) pe_str rfl) 
      (pss_one (ps_ret pe_bl)) pss_nil) 
      (pss_one (ps_ret (pe_cmpR (eqQ K rfl hr.units) (pe_lc (own := [("sign", 1)]) (g := gName 1) rfl SC.nd (pi_str (pv 0)) (blkOk_by (N := ["word", "sign"]) (sc := defScope s_law_small) (by decide +kernel)) (fun _ _ _ _ _ => (pg_name (i := 1) SC.nd rfl (by first | exact Or.inl rfl | exact Or.inr rfl))) (fun _ _ _ _ _ => (pts_one (pt_cmpR op_notIn_sign (pv 1) pe_str rfl))) (fun _ _ _ _ _ => (pv 1))) (pe_lst pa_nil) (nomark _)))))), ?_⟩
    have hz : x.length ≤ sizeLine := by rw [sizeLine_eq]; omega
    have ln : x.cps.toList.length = x.length := Array.length_toList
    have kf : smallB x = false → ∀ H', Same H H' → Q (.bl false) H' := fun e H' s => by rw [← e]; exact kq H' s
    refine ⟨_, rfl, by show 11 ≤ sizeLine; decide, fun t ht => ?_⟩
    generalize hH : upd H t _ = H1
    have s1 : Same H H1 := hH ▸ same_new ht
    have e1 : H1 t = some (.lst (kept.map V.str)) := by rw [← hH]; exact upd_same
    clear hH
    refine ⟨t, _, rfl, .inl (SqL.of e1), rfl, strs_flat _, _, rfl, ?_⟩
    rw [in_strs]
    by_cases hk : x ∈ kept
    · rw [decide_eq_true hk]
      exact iteT (B := False) (iteT (B := False) (kf (by unfold smallB; simp [hk]) H1 s1))
    · rw [decide_eq_false hk]
      refine iteF (A := False) ?_
      refine ⟨_, rfl, x, rfl, hz, _, _, rfl, rfl, _, rfl, ?_⟩
      by_cases h1 : (0 : Int) < (x.length : Int)
      · rw [decide_eq_true h1]
        refine iteT (B := False) ⟨_, _, rfl, rfl, _, rfl, ?_⟩
        by_cases h2 : (x.length : Int) < 9
        · rw [decide_eq_true h2]
          refine iteF (A := False) ?_
          have hc : (decide (0 < x.cps.toList.length) && decide (x.cps.toList.length < 9)) = true := by
            rw [ln, Bool.and_eq_true]
            exact ⟨decide_eq_true (by omega), decide_eq_true (by omega)⟩
          obtain ⟨c, rest, ec⟩ : ∃ c rest, x.cps.toList = c :: rest := by
            cases q : x.cps.toList with
            | nil => rw [q] at ln; simp at ln; omega
            | cons c rest => exact ⟨c, rest, rfl⟩
          refine ⟨_, rfl, x, 0, c, rfl, rfl, hz, by rw [ec]; exact at_zero c rest, c, letters, rfl, rfl, _, rfl, ?_⟩
          rw [in_letters]
          cases h3 : loA c with
          | false =>
            exact iteT (B := False) (kf (by unfold smallB; rw [ec]; simp [h3]) H1 s1)
          | true =>
            refine iteF (A := False) ?_
            refine ⟨_, rfl, x, rfl, fun D hD => ?_⟩
            refine lc_fmS x (fun c => if (loA c || dgA c) = true then none else some (.str ⟨#[c]⟩)) hD (by rw [sizeLine_eq]; omega) (fun i d h acc nx hi s e hacc hnx => ⟨rfl, ?_⟩) (fun h s e => ?_)
            · refine ⟨_, rfl, d, signs, rfl, rfl, _, rfl, ?_⟩
              rw [in_signs]
              cases q : (loA d || dgA d) with
              | true =>
                rw [q] at hnx
                exact iteF (A := False) hnx
              | false =>
                rw [q] at hnx
                exact iteT (B := False) ⟨_, rfl, acc, e, hacc, hnx⟩
            · refine ⟨by show 0 ≤ sizeLine; decide, fun u hu => ?_⟩
              have s2 : Same h (upd h u (.lst [])) := same_new hu
              have eD := s2 _ _ e
              have eu : upd h u (.lst []) u = some (.lst (([] : List Str).map V.str)) := upd_same
              generalize upd h u (.lst []) = H3 at s2 eD eu ⊢
              have ef : (x.cps.toList.filterMap fun c => if (loA c || dgA c) = true then none else some (V.str ⟨#[c]⟩)) = ((x.cps.toList.filter fun c => !(loA c || dgA c)).map fun c => (⟨#[c]⟩ : Str)).map V.str := by
                rw [List.map_map, ← List.filterMap_eq_filter, List.map_filterMap]
                congr 1
                funext c
                cases q : (loA c || dgA c) <;> simp [Option.guard, q]
              rw [ef] at eD
              refine eq_strs (SqL.of eD) (SqL.of eu) (fun y hy => ?_) (fun y hy => by simp at hy) ?_
              · obtain ⟨c, hc, rfl⟩ := List.mem_map.mp hy
                exact okS_iff.mpr fun d hd => by
                  have : d = c := by simpa [TL.tl] using hd
                  subst this
                  exact okS_iff.mp hx d (List.mem_filter.mp hc).1
              · have : decide (((x.cps.toList.filter fun c => !(loA c || dgA c)).map fun c => (⟨#[c]⟩ : Str)) = []) = smallB x := by
                  unfold smallB
                  rw [hc, ec]
                  simp only [List.head?_cons, Option.any_some, h3, decide_eq_false hk, Bool.not_false, Bool.and_true, Bool.true_and]
                  rw [Bool.eq_iff_iff, decide_eq_true_eq, List.map_eq_nil_iff, List.filter_eq_nil_iff, List.all_eq_true]
                  constructor
                  · intro h c hc
                    have := h c hc
                    cases q : (loA c || dgA c) with
                    | true => rfl
                    | false => rw [q] at this; exact absurd rfl this
                  · intro h c hc
                    rw [h c hc]; simp
                rw [this]
                exact kq H3 (Same.trans (Same.trans s1 s) s2)
        · rw [decide_eq_false h2]
          refine iteT (B := False) (kf ?_ H1 s1)
          unfold smallB
          rw [ln, decide_eq_false (show ¬ x.length < 9 by omega)]; simp
      · rw [decide_eq_false h1]
        refine iteF (A := False) ⟨_, rfl, iteT (B := False) (kf ?_ H1 s1)⟩
        unfold smallB
        rw [ln, decide_eq_false (show ¬ 0 < x.length by omega)]; simp
end
end Yd
set_option Elab.async false
set_option linter.all false
set_option maxRecDepth 100000
set_option maxHeartbeats 16000000
namespace Yd
open PySem PySem.Spec PyProof.Rows L2 Xo
/-- a word of letters and digits, a letter ahead -/
structure LetW (n : Nat) (x : Str) : Prop where
  head : x.cps.toList.head?.any loA = true
  all : ∀ c ∈ x.cps.toList, (loA c || dgA c) = true
  len : x.cps.toList.length ≤ n
theorem LetW.pos {n : Nat} {x : Str} (h : LetW n x) : 0 < x.cps.toList.length := by
  have := h.head
  cases q : x.cps.toList with
  | nil => rw [q] at this; simp at this
  | cons c l => simp
theorem LetW.lt {n : Nat} {x : Str} (h : LetW n x) : ∀ c ∈ x.cps.toList, c < 128 := fun c hc => low_lt (h.all c hc)
theorem LetW.lower {n : Nat} {x : Str} (h : LetW n x) : Txt.lower x = x := ((lower_same h.lt).mpr fun c hc => by
  have := h.all c hc
  unfold loA dgA at this
  unfold upA
  simp at this ⊢
  omega).symm
theorem LetW.ok {n : Nat} {x : Str} (h : LetW n x) : okS x := okS_iff.mpr fun c hc => by have := h.lt c hc; omega
theorem LetW.small {n : Nat} {x : Str} (h : LetW n x) (hn : n ≤ 8) (hk : x ∉ kept) : smallB x = true := by
  unfold smallB
  have := h.pos
  have := h.len
  rw [h.head, decide_eq_true (by omega), decide_eq_true (by omega), decide_eq_false hk, List.all_eq_true.mpr h.all]
  rfl
def numS (k : Nat) : Str := Str.ofString (toString (k : Int))
theorem num_ok : ∀ k, k < 30 → (numS k).cps.toList ≠ [] ∧ (numS k).cps.toList.length ≤ 2 ∧ (numS k).cps.toList.all dgA = true := by
  have : ∀ k : Fin 30, ((numS k.val).cps.toList ≠ [] ∧ (numS k.val).cps.toList.length ≤ 2 ∧ (numS k.val).cps.toList.all dgA = true) := by decide +kernel
  exact fun k h => this ⟨k, h⟩
theorem num_inj : ∀ i j, i < 30 → j < 30 → numS i = numS j → i = j := by
  have : ∀ i j : Fin 30, numS i.val = numS j.val → i.val = j.val := by decide +kernel
  exact fun i j hi hj => this ⟨i, hi⟩ ⟨j, hj⟩
theorem kept_nodig : ∀ z ∈ kept, z.cps.toList.all (fun c => !dgA c) = true := by decide +kernel
def cut5 (x : Str) : Str := cutS x none (some 5)
theorem cut5_list (x : Str) : (cut5 x).cps.toList = x.cps.toList.take 5 := by
  unfold cut5 cutS
  have e1 : HT.sIx x.length 0 none = 0 := rfl
  have e2 : HT.sIx x.length x.length (some 5) = min 5 x.length := HT.sIx_nat _ _ 5
  rw [e1, e2]
  have ln : x.cps.toList.length = x.length := Array.length_toList
  simp only [List.drop_zero, Nat.sub_zero, List.toList_toArray]
  by_cases h : 5 ≤ x.length
  · rw [Nat.min_eq_left h]
  · rw [Nat.min_eq_right (by omega), List.take_of_length_le (by omega), List.take_of_length_le (by omega)]
def altS (x : Str) (k : Nat) : Str := cut5 x ++ numS k
theorem app_list (a b : Str) : (a ++ b).cps.toList = a.cps.toList ++ b.cps.toList := by
  show (a.cps ++ b.cps).toList = _
  rw [Array.toList_append]
theorem alt_let {n : Nat} {x : Str} (h : LetW n x) {k : Nat} (hk : k < 30) : LetW 7 (altS x k) := by
  obtain ⟨h1, h2, h3⟩ := num_ok k hk
  refine ⟨?_, fun c hc => ?_, ?_⟩
  · have := h.head
    unfold altS
    rw [app_list, cut5_list]
    cases q : x.cps.toList with
    | nil => rw [q] at this; simp at this
    | cons c l => rw [q] at this; simpa using this
  · unfold altS at hc
    rw [app_list, cut5_list] at hc
    rcases List.mem_append.mp hc with hc | hc
    · exact h.all c (List.mem_of_mem_take hc)
    · rw [List.all_eq_true.mp h3 c hc]; simp
  · unfold altS
    rw [app_list, cut5_list, List.length_append, List.length_take]
    omega
theorem alt_small {n : Nat} {x : Str} (h : LetW n x) {k : Nat} (hk : k < 30) : smallB (altS x k) = true := by
  refine (alt_let h hk).small (by omega) fun m => ?_
  obtain ⟨h1, h2, h3⟩ := num_ok k hk
  have q := kept_nodig _ m
  obtain ⟨c, l, e⟩ : ∃ c l, (numS k).cps.toList = c :: l := by
    cases e : (numS k).cps.toList with
    | nil => exact absurd e h1
    | cons c l => exact ⟨c, l, rfl⟩
  have h4 : dgA c = true := List.all_eq_true.mp h3 c (by rw [e]; simp)
  have h5 := List.all_eq_true.mp q c (by unfold altS; rw [app_list, e]; simp)
  rw [h4] at h5
  simp at h5
theorem alt_inj {x : Str} {i j : Nat} (hi : i < 30) (hj : j < 30) (h : altS x i = altS x j) : i = j := by
  refine num_inj i j hi hj ?_
  have := congrArg (fun s : Str => s.cps.toList) h
  unfold altS at this
  simp only [app_list] at this
  have e := List.append_cancel_left this
  have : (numS i).cps = (numS j).cps := Array.toList_inj.mp e
  cases q : numS i
  cases q2 : numS j
  rw [q, q2] at this
  simp only at this
  rw [this]
theorem alt_new {x : Str} {known : List Str} (hl : known.length ≤ 20) : ¬ ∀ k, k < known.length + 1 → altS x k ∈ known := fun h => by
  have nd : ((List.range (known.length + 1)).map (altS x)).Nodup := by
    rw [List.nodup_iff_pairwise_ne, List.pairwise_map]
    refine (List.nodup_iff_pairwise_ne.mp List.nodup_range).imp_of_mem fun {a b} ha hb n e => n (alt_inj ?_ ?_ e)
    · have := List.mem_range.mp ha; omega
    · have := List.mem_range.mp hb; omega
  have := len_sub nd fun y hy => by
    obtain ⟨k, hk, rfl⟩ := List.mem_map.mp hy
    exact h k (List.mem_range.mp hk)
  rw [List.length_map, List.length_range] at this
  omega
section
variable {P : Program} {w : World} {K : PySem.W.Frag} {mg : Str → Option Value} {base : Heap}
def spFresh : Sp := fun vs H Q _ => ∃ (x : Str) (a : Addr) (known : List Str), vs = [.str x, .ref a] ∧ LetW 8 x ∧ H a = some (.lst (known.map V.str)) ∧ known.length ≤ 20 ∧ ∀ (y : Str) (H' : Hp), Same H H' → smallB y = true → y ∉ known → Q (.str y) H'
theorem sc_law_fresh : FnScope ["word", "known", "k"] ["word", "known"] (defScope s_law_fresh) := ⟨rfl, rfl, rfl, by decide +kernel, rfl, by decide +kernel, by decide +kernel⟩
theorem good_fresh (T : Tx w K mg) : Good P w K mg base CX0 2 (He.ga K "_law_fresh") ["word", "known"] spFresh := by
  obtain ⟨fd, F⟩ := T.f_law_fresh
  obtain ⟨_, G_law_small, k_law_small, b_law_small⟩ := good_lsmall (P := P) (w := w) (base := base) T
  refine ⟨fd, F.ok sc_law_fresh (fun vs H Q E h => ?_) (fun cdv A outer s H vs Q E hr h => ?_), F.kp, F.bindsN fun _ _ _ _ _ _ us hl => match us, hl with | [_, _], _ => rfl⟩
  · obtain ⟨_, _, _, rfl, _⟩ := h
    rfl
  · obtain ⟨x, a, known, rfl, W, ha, hl, kq⟩ := h
    have SC := sc_law_fresh
    have lx : x.length ≤ 8 := by have := W.len; have e : x.cps.toList.length = x.length := Array.length_toList; omega
    have lm : (known.map V.str).length = known.length := List.length_map _
    refine ⟨_, PSs.nox (Evl.pss_cut (ps_if (PW.pt (pw_and (pt_val (pe_call G_law_small (hr.mono (by decide)) rfl T.g_law_small k_law_small b_law_small .nil pass0 (pa_cons (pe_lower (pv 0)) pa_nil))) (pw_and1 (pt_cmpR (notInQ K) (pv 0) (pv 1) rfl)))) 
      (pss_one (ps_ret (pv 0))) pss_nil) 
      (pss_cons (ps_for PassesOwn.never rfl (pi_range1 rfl T.n_range (pa_cons (pe_op op_add (pe_callB (lenQ K) rfl T.n_len (by decide +kernel) (pa_cons (pv 1) pa_nil)) pe_int) pa_nil)) (pg_name (i := 2) SC.nd rfl (by first | exact Or.inl rfl | exact Or.inr rfl)) 
      (pss_one (ps_if (pt_cmpR (notInQ K) (pe_op op_add_str (pe_slice sl_str (pv 0) po_none (po_some pe_int)) (pe_callTy call_str_int rfl T.n_str (by decide +kernel) (pa_cons (pv 2) pa_nil))) (pv 1) rfl) 
      (pss_one (ps_ret (pe_op op_add_str (pe_slice sl_str (pv 0) po_none (po_some pe_int)) (pe_callTy call_str_int rfl T.n_str (by decide +kernel) (pa_cons (pv 2) pa_nil))))) pss_nil))) 
      (pss_one (ps_ret (pv 0))))), ?_⟩
    refine ⟨fun σ' H' => σ' = [some (.str x), some (.ref a), none] ∧ Same H H', ?_, ?_⟩
    · refine ⟨_, rfl, ⟨_, rfl⟩, x, rfl, rfl, by omega, ?_⟩
      rw [W.lower]
      refine ⟨x, rfl, by omega, W.ok, fun H1 s1 => ⟨_, rfl, ?_⟩⟩
      cases e : smallB x with
      | false => exact iteF (A := False) (iteF (A := False) ⟨rfl, s1⟩)
      | true =>
        refine iteT (B := False) ⟨_, rfl, _, rfl, a, _, rfl, .inl (SqL.of (s1 _ _ ha)), rfl, strs_flat _, _, rfl, ?_⟩
        rw [in_strs]
        by_cases m : x ∈ known
        · rw [decide_eq_true m]
          exact iteF (A := False) ⟨rfl, s1⟩
        · rw [decide_eq_false m]
          exact iteT (B := False) ⟨_, rfl, kq x H1 s1 e m⟩
    · rintro σ' H1 ⟨rfl, s1⟩
      have ha1 := s1 _ _ ha
      refine ⟨_, rfl, a, _, rfl, .inl (SqL.of ha1), _, _, rfl, rfl, _, rfl, by rw [lm]; omega, by rw [lm]; omega, ?_⟩
      rw [lm]
      refine for_range (lo := 0) (n := ((known.length : Int) + 1).toNat) (fun i σ H' => ∃ v, σ = [some (.str x), some (.ref a), v] ∧ H' = H1 ∧ ∀ k, k < i → altS x k ∈ known) ⟨none, rfl, rfl, fun k h => by omega⟩ ?_ ?_
      · rintro i σ H' hi ⟨v, rfl, rfl, kn⟩
        have i30 : i < 30 := by omega
        have lk : (numS i).length ≤ 2 := by have := (num_ok i i30).2.1; have e : (numS i).cps.toList.length = (numS i).length := Array.length_toList; omega
        have e0 : ((0 : Int) + (i : Nat)) = (i : Int) := by omega
        have l2 : ((i : Int).natAbs).log2 < 1920 := by
          rw [Int.natAbs_natCast]
          have : i.log2 ≤ i := Nat.log2_le_self i
          omega
        have lc : (cut5 x).length ≤ 5 := by
          have e : (cut5 x).cps.toList.length = (cut5 x).length := Array.length_toList
          rw [cut5_list, List.length_take] at e
          omega
        refine ⟨_, rfl, 5, rfl, x, rfl, by rw [sizeLine_eq]; omega, _, rfl, _, rfl, by rw [e0]; exact l2, cut5 x, numS i, rfl, by rw [e0]; rfl, by rw [sizeLine_eq]; omega, _, rfl, a, _, rfl, .inl (SqL.of ha1), rfl, strs_flat _, _, rfl, ?_⟩
        show if (!inV (V.str (altS x i)) (known.map V.str)) = true then _ else _
        rw [in_strs]
        by_cases m : altS x i ∈ known
        · rw [decide_eq_true m]
          refine iteF (A := False) ⟨_, rfl, rfl, fun k hk => ?_⟩
          by_cases c : k = i
          · rw [c]; exact m
          · exact kn k (by omega)
        · rw [decide_eq_false m]
          refine iteT (B := False) ?_
          refine ⟨_, rfl, 5, rfl, x, rfl, by rw [sizeLine_eq]; omega, _, rfl, _, rfl, by rw [e0]; exact l2, cut5 x, numS i, rfl, by rw [e0]; rfl, by rw [sizeLine_eq]; omega, ?_⟩
          exact kq (altS x i) H' s1 (alt_small W i30) m
      · rintro σ H' ⟨v, rfl, rfl, kn⟩
        exact absurd (fun k hk => kn k (by omega)) (alt_new (x := x) hl)
end
end Yd
set_option Elab.async false
set_option linter.all false
set_option maxRecDepth 100000
set_option maxHeartbeats 16000000
namespace Yd
open PySem PySem.Spec PyProof.Rows L2 Xo
theorem at_in {α : Type} {l : List α} {i : Int} (h0 : 0 ≤ i) (h1 : i < l.length) : ∃ x, atI l i = some x ∧ x ∈ l := by
  obtain ⟨x, hx⟩ : ∃ x, l[i.toNat]? = some x := ⟨_, List.getElem?_eq_getElem (by omega)⟩
  refine ⟨x, ?_, List.mem_of_getElem? hx⟩
  have := atI_nat hx
  rwa [show ((i.toNat : Nat) : Int) = i by omega] at this
theorem one_let {c : Nat} (h : loA c = true) : LetW 1 ⟨#[c]⟩ := ⟨by simpa using h, fun d hd => by
  have : d = c := by simpa using hd
  rw [this, h]; rfl, by simp⟩
theorem LetW.app {n : Nat} {x : Str} (h : LetW n x) {c : Nat} (hc : (loA c || dgA c) = true) : LetW (n + 1) (x ++ ⟨#[c]⟩) := by
  refine ⟨?_, fun d hd => ?_, ?_⟩
  · have := h.head
    rw [app_list]
    cases q : x.cps.toList with
    | nil => rw [q] at this; simp at this
    | cons a l => rw [q] at this; simpa using this
  · rw [app_list] at hd
    rcases List.mem_append.mp hd with hd | hd
    · exact h.all d hd
    · have : d = c := by simpa using hd
      rw [this]; exact hc
  · rw [app_list, List.length_append]
    have := h.len
    simp
    omega
theorem LetW.mono {n m : Nat} {x : Str} (h : LetW n x) (l : n ≤ m) : LetW m x := ⟨h.head, h.all, by have := h.len; omega⟩
section
variable {P : Program} {w : World} {K : PySem.W.Frag} {mg : Str → Option Value} {base : Heap}
def spNames : Sp := fun vs H Q _ => ∃ (b c : Addr) (m : Nat), vs = [.ref b, .int m, .bl false] ∧ Bag H b c ∧ m ≤ 20 ∧ ∀ (l : Addr) (ns : List Str) (H' : Hp), Bag H' b c → KeepB b H H' → H l = none → H' l = some (.lst (ns.map V.str)) → ns.length = m → ns.Nodup → (∀ n ∈ ns, smallB n = true) → Q (.ref l) H'
theorem sc_law_names : FnScope ["bag", "many", "great", "found", "k", "word", "turn"] ["bag", "many", "great"] (defScope s_law_names) := ⟨rfl, rfl, rfl, by decide +kernel, rfl, by decide +kernel, by decide +kernel⟩
theorem good_names (T : Tx w K mg) : Good P w K mg base CX0 3 (He.ga K "_law_names") ["bag", "many", "great"] spNames := by
  obtain ⟨fd, F⟩ := T.f_law_names
  obtain ⟨_, G_law_draw, k_law_draw, b_law_draw⟩ := good_draw (P := P) (w := w) (base := base) T
  obtain ⟨_, G_law_of, k_law_of, b_law_of⟩ := good_of (P := P) (w := w) (base := base) T
  obtain ⟨_, G_law_fresh, k_law_fresh, b_law_fresh⟩ := good_fresh (P := P) (w := w) (base := base) T
  refine ⟨fd, F.ok sc_law_names (fun vs H Q E h => ?_) (fun cdv A outer s H vs Q E hr h => ?_), F.kp, F.bindsN fun _ _ _ _ _ _ us hl => match us, hl with | [_, _, _], _ => rfl⟩
  · obtain ⟨_, _, _, rfl, _⟩ := h
    rfl
  · obtain ⟨b, c, m, rfl, B, hm, kq⟩ := h
    have SC := sc_law_names
    refine ⟨_, PSs.nox (pss_cons (ps_set (i := 3) SC.nd rfl (by first | exact Or.inl rfl | exact Or.inr rfl) (pe_lst pa_nil)) 
      (pss_cons (ps_for PassesOwn.never rfl (pi_range1 rfl T.n_range (pa_cons (pv 1) pa_nil)) (pg_name (i := 4) SC.nd rfl (by first | exact Or.inl rfl | exact Or.inr rfl)) 
      (pss_cons (ps_set (i := 5) SC.nd rfl (by first | exact Or.inl rfl | exact Or.inr rfl) (pe_ix ix_str pe_str (pe_call G_law_draw (hr.mono (by decide)) rfl T.g_law_draw k_law_draw b_law_draw .nil pass0 (pa_cons (pv 0) (pa_cons pe_int pa_nil))) (fun _ _ => rfl))) 
      (pss_cons (ps_for PassesOwn.never rfl (pi_range1 rfl T.n_range (pa_cons (pe_call G_law_of (hr.mono (by decide)) rfl T.g_law_of k_law_of b_law_of .nil pass0 (pa_cons (pv 0) (pa_cons (pe_lst (pa_cons pe_int (pa_cons pe_int (pa_cons pe_int (pa_cons pe_int (pa_cons pe_int (pa_cons pe_int (pa_cons pe_int pa_nil)))))))) pa_nil))) pa_nil)) (pg_name (i := 6) SC.nd rfl (by first | exact Or.inl rfl | exact Or.inr rfl)) 
      (pss_one (ps_set (i := 5) SC.nd rfl (by first | exact Or.inl rfl | exact Or.inr rfl) (pe_op op_add_str (pv 5) (pe_ix ix_str pe_str (pe_call G_law_draw (hr.mono (by decide)) rfl T.g_law_draw k_law_draw b_law_draw .nil pass0 (pa_cons (pv 0) (pa_cons pe_int pa_nil))) (fun _ _ => rfl)))))) 
      (pss_one (ps_expr (pe_bm PySem.F.plainAttrs_list PySem.F.slot_list_append PySem.F.type_list_append mt_append (pv 3) (pa_cons (pe_call G_law_fresh (hr.mono (by decide)) rfl T.g_law_fresh k_law_fresh b_law_fresh .nil pass0 (pa_cons (pe_ifExp (pt_val (pv 2)) (pe_upper (pv 5)) (pv 5)) (pa_cons (pv 3) pa_nil))) pa_nil))))))) 
      (pss_one (ps_ret (pv 3))))), ?_⟩
    refine ⟨by show 0 ≤ sizeLine; decide, fun l hl => ?_⟩
    obtain ⟨lb, lc⟩ := B.ne hl
    refine ⟨_, rfl, _, rfl, by omega, by omega, ?_⟩
    refine for_range (lo := 0) (n := (m : Int).toNat) (fun i σ H' => ∃ (ns : List Str) (v4 v5 v6 : Option V), σ = [some (.ref b), some (.int m), some (.bl false), some (.ref l), v4, v5, v6] ∧ Bag H' b c ∧ KeepB b H H' ∧ H' l = some (.lst (ns.map V.str)) ∧ ns.length = i ∧ ns.Nodup ∧ ∀ n ∈ ns, smallB n = true)
      ⟨[], none, none, none, rfl, B.new hl, (KeepB.refl b H).upd' hl, upd_same, rfl, by simp, fun n h => by simp at h⟩ ?_ ?_
    · rintro i σ H' hi ⟨ns, v4, v5, v6, rfl, B1, k1, el, len, nd, sm⟩
      refine ⟨_, rfl, b, c, 26, rfl, B1, by decide, by decide, fun r H2 r0 r1 B2 k2 => ?_⟩
      obtain ⟨ch, hch, hcm⟩ := at_in (l := letters.cps.toList) r0 (by show r < 26; exact r1)
      have hlo : loA ch = true := by rw [← in_letters]; exact decide_eq_true hcm
      refine ⟨letters, _, ch, rfl, rfl, by decide +kernel, hch, ?_⟩
      have el2 := k2 _ _ el lb
      -- how many more signs
      refine ⟨_, rfl, by show 7 ≤ sizeLine; decide, fun t ht => ?_⟩
      generalize hH : upd H2 t _ = H3
      have s3 : Same H2 H3 := hH ▸ same_new ht
      have e3 : H3 t = some (.lst ([0, 0, 1, 0, 2, 4, 7].map V.int)) := by rw [← hH]; exact upd_same
      clear hH
      have B3 := bag_keep B2 s3
      refine ⟨b, c, t, _, rfl, B3, e3, (B2.ne ht).1, by decide, by decide, fun j x H4 hj B4 k4 => ?_⟩
      obtain ⟨z, hz, rfl⟩ : ∃ z : Int, (0 ≤ z ∧ z ≤ 7) ∧ x = .int z := by
        rw [List.getElem?_map] at hj
        obtain ⟨z, hz, rfl⟩ := Option.map_eq_some_iff.mp hj
        have := List.mem_of_getElem? hz
        have q : ∀ z ∈ ([0, 0, 1, 0, 2, 4, 7] : List Int), 0 ≤ z ∧ z ≤ 7 := by decide
        exact ⟨z, q z this, rfl⟩
      have el4 := k4 _ _ (s3 _ _ el2) lb
      have k14 : KeepB b H H4 := ((k1.trans k2).trans (KeepB.same s3)).trans k4
      refine ⟨z, rfl, by omega, by omega, ?_⟩
      refine for_range (lo := 0) (n := z.toNat) (fun j σ H' => ∃ (wd : Str) (v6 : Option V), σ = [some (.ref b), some (.int m), some (.bl false), some (.ref l), some (.int (0 + i)), some (.str wd), v6] ∧ LetW (1 + j) wd ∧ Bag H' b c ∧ KeepB b H H' ∧ H' l = some (.lst (ns.map V.str)))
        ⟨_, v6, rfl, one_let hlo, B4, k14, el4⟩ ?_ ?_
      · rintro j σ H' hj' ⟨wd, v6, rfl, W, B5, k5, e5⟩
        refine ⟨_, rfl, _, rfl, b, c, 36, rfl, B5, by decide, by decide, fun r H6 r0 r1 B6 k6 => ?_⟩
        obtain ⟨ch, hch, hcm⟩ := at_in (l := signs.cps.toList) r0 (by show r < 36; exact r1)
        have hs : (loA ch || dgA ch) = true := by rw [← in_signs]; exact decide_eq_true hcm
        have lw : wd.length ≤ 8 := by have := W.len; have e : wd.cps.toList.length = wd.length := Array.length_toList; omega
        refine ⟨signs, _, ch, rfl, rfl, by decide +kernel, hch, wd, ⟨#[ch]⟩, rfl, rfl, by rw [sizeLine_eq]; show _ + 1 ≤ _; omega, ?_⟩
        exact ⟨_, _, rfl, W.app hs, B6, k5.trans k6, k6 _ _ e5 lb⟩
      · rintro σ H' ⟨wd, v6, rfl, W, B5, k5, e5⟩
        refine ⟨_, rfl, .inl ⟨rfl, _, SqL.of e5⟩, ?_⟩
        refine ⟨_, rfl, _, rfl, iteF (A := False) ⟨_, rfl, _, rfl, wd, l, ns, rfl, W.mono (by omega), e5, by omega, fun y H6 s6 sy ny => ?_⟩⟩
        refine ⟨l, _, _, rfl, rfl, s6 _ _ e5, by rw [List.length_map, sizeLine_eq]; omega, ?_⟩
        refine ⟨ns ++ [y], _, _, _, rfl, (bag_keep B5 s6).upd lb lc, (k5.trans (KeepB.same s6)).upd' hl, by rw [upd_same, List.map_append]; rfl, by simp [len], ?_, fun n hn => ?_⟩
        · rw [List.nodup_append]
          exact ⟨nd, by simp, fun a ha b hb => by rw [List.mem_singleton.mp hb]; rintro rfl; exact ny ha⟩
        · rcases List.mem_append.mp hn with hn | hn
          · exact sm n hn
          · rw [List.mem_singleton.mp hn]; exact sy
    · rintro σ H' ⟨ns, v4, v5, v6, rfl, B1, k1, el, len, nd, sm⟩
      exact ⟨_, rfl, kq l ns H' B1 k1 hl el (by omega) nd sm⟩
end
end Yd
set_option Elab.async false
set_option linter.all false
set_option maxHeartbeats 2000000
/-! Plots in plain Lean: a connected graph needs its wires; permuted lists. -/
namespace Yd
open PySem PySem.Spec PyProof.Rows L2 Xo
theorem perm_map {α β : Type} {f : α → β} {ys : List β} {l : List α} (p : ys.Perm (l.map f)) : ∃ l' : List α, ys = l'.map f ∧ l'.Perm l := by
  have key : ∀ {ys zs : List β}, ys.Perm zs → ∀ l : List α, l.map f = zs → ∃ l' : List α, ys = l'.map f ∧ l'.Perm l := by
    intro ys zs p
    induction p with
    | nil => intro l h; exact ⟨[], rfl, by rw [List.map_eq_nil_iff.mp h]⟩
    | cons x p ih =>
      intro l h
      cases l with
      | nil => cases h
      | cons a l =>
        rw [List.map_cons, List.cons.injEq] at h
        obtain ⟨l', e, q⟩ := ih l h.2
        exact ⟨a :: l', by rw [e, ← h.1]; rfl, q.cons a⟩
    | swap x y l0 =>
      intro l h
      match l, h with
      | a :: b :: l, h =>
        rw [List.map_cons, List.map_cons, List.cons.injEq, List.cons.injEq] at h
        exact ⟨b :: a :: l, by rw [← h.1, ← h.2.1, ← h.2.2]; rfl, List.Perm.swap a b l⟩
    | trans p q ih1 ih2 =>
      intro l h
      obtain ⟨l1, e1, q1⟩ := ih2 l h
      obtain ⟨l2, e2, q2⟩ := ih1 l1 e1.symm
      exact ⟨l2, e2, q2.trans q1⟩
  exact key p l rfl
section
variable {α : Type} [DecidableEq α] {hs : List α} {es : List (α × α)}
/-- pieces: no more are lost than there are wires -/
def Pcs (hs : List α) (es : List (α × α)) : Prop := ∃ L : List α, L.Nodup ∧ (∀ x ∈ L, x ∈ hs) ∧ hs.length ≤ L.length + es.length ∧ (∀ a ∈ L, ∀ b ∈ L, Conn es a b → a = b)
theorem Pcs.nil (nd : hs.Nodup) : Pcs hs [] := ⟨hs, nd, fun _ h => h, by simp, fun _ _ _ _ h => h.nil⟩
theorem Pcs.wire (F : Pcs hs es) (a b : α) : Pcs hs (es ++ [(a, b)]) := by
  obtain ⟨L, nd, sub, len, dis⟩ := F
  have ll : (es ++ [(a, b)]).length = es.length + 1 := by simp
  by_cases h : ∃ r ∈ L, Conn es r b
  · obtain ⟨r, hr, cr⟩ := h
    refine ⟨L.erase r, nd.erase _, fun x hx => sub x (List.mem_of_mem_erase hx), ?_, fun x hx y hy c => ?_⟩
    · rw [List.length_erase_of_mem hr, ll]
      have := List.length_pos_of_mem hr
      omega
    · have hx1 := List.mem_of_mem_erase hx
      have hy1 := List.mem_of_mem_erase hy
      have nx : x ≠ r := fun e => by subst e; exact nd.not_mem_erase hx
      have ny : y ≠ r := fun e => by subst e; exact nd.not_mem_erase hy
      rcases Conn.snoc.mp c with c | ⟨c1, c2⟩ | ⟨c1, c2⟩
      · exact dis x hx1 y hy1 c
      · exact absurd (dis y hy1 r hr (c2.symm.trans cr.symm)) ny
      · exact absurd (dis x hx1 r hr (c1.trans cr.symm)) nx
  · refine ⟨L, nd, sub, by rw [ll]; omega, fun x hx y hy c => ?_⟩
    rcases Conn.snoc.mp c with c | ⟨c1, c2⟩ | ⟨c1, c2⟩
    · exact dis x hx y hy c
    · exact absurd ⟨y, hy, c2.symm⟩ h
    · exact absurd ⟨x, hx, c1⟩ h
theorem pcs_all (nd : hs.Nodup) : ∀ es : List (α × α), Pcs hs es := fun es => by
  have key : ∀ (l : List (α × α)) (e0 : List (α × α)), Pcs hs e0 → Pcs hs (e0 ++ l) := by
    intro l
    induction l with
    | nil => intro e0 h; rw [List.append_nil]; exact h
    | cons e l ih =>
      intro e0 h
      have := ih _ (h.wire e.1 e.2)
      rw [List.append_assoc] at this
      exact this
  exact key es [] (Pcs.nil nd)
/-- a connected graph has wires enough -/
theorem conn_many (nd : hs.Nodup) (h : ∀ a ∈ hs, ∀ b ∈ hs, Conn es a b) : hs.length ≤ es.length + 1 := by
  obtain ⟨L, n, sub, len, dis⟩ := pcs_all nd es
  match L, n, sub, dis, len with
  | [], _, _, _, len => simp at len; omega
  | [x], _, _, _, len => simp at len; omega
  | x :: y :: l, n, sub, dis, len =>
    have hx := sub x (by simp)
    have hy := sub y (by simp)
    have := dis x (by simp) y (by simp) (h x hx y hy)
    subst this
    simp at n
theorem Conn.drop_mid {e1 e2 : List (α × α)} {a b x y : α} (h : Conn (e1 ++ (a, b) :: e2) x y) (c : Conn e1 a b) : Conn (e1 ++ e2) x y := by
  have m : ∀ e ∈ e1, e ∈ e1 ++ e2 := fun e h => List.mem_append_left _ h
  induction h with
  | refl => exact .refl _
  | step h e ih =>
    rcases e with e | e
    · rcases List.mem_append.mp e with e | e
      · exact .step ih (.inl (List.mem_append_left _ e))
      · rcases List.mem_cons.mp e with e | e
        · cases e; exact ih.trans (c.mono m)
        · exact .step ih (.inl (List.mem_append_right _ e))
    · rcases List.mem_append.mp e with e | e
      · exact .step ih (.inr (List.mem_append_left _ e))
      · rcases List.mem_cons.mp e with e | e
        · cases e; exact ih.trans (c.symm.mono m)
        · exact .step ih (.inr (List.mem_append_right _ e))
/-- no wire of a tree closes a ring with those ahead of it -/
theorem tree_prefix (nd : hs.Nodup) (h : ∀ a ∈ hs, ∀ b ∈ hs, Conn es a b) (len : es.length + 1 = hs.length) {e1 e2 : List (α × α)} {a b : α} (he : es = e1 ++ (a, b) :: e2) : ¬ Conn e1 a b := fun c => by
  have := conn_many nd (es := e1 ++ e2) fun x hx y hy => by
    have q := h x hx y hy
    rw [he] at q
    exact q.drop_mid c
  rw [he] at len
  simp at len this
  omega
end
end Yd
set_option Elab.async false
set_option linter.all false
set_option maxRecDepth 100000
set_option maxHeartbeats 16000000
namespace Yd
open PySem PySem.Spec PyProof.Rows L2 Xo
structure PlotOk (days : Bool) (hs : List Str) (es : List Wr) : Prop where
  nd : hs.Nodup
  sm : ∀ h ∈ hs, smallB h = true
  ne : hs ≠ []
  few : hs.length ≤ 16
  dy : days = true → es = hs.zip hs.tail
  tree : days = false → es.length + 1 = hs.length ∧ (∀ e ∈ es, e.1 ∈ hs ∧ e.2 ∈ hs) ∧ ∀ a ∈ hs, ∀ b ∈ hs, Conn es a b
structure PlotAt (H : Hp) (pl lh le : Addr) (days : Bool) (hs : List Str) (as : List Addr) (es : List Wr) : Prop where
  hp : H pl = some (.lst [.bl days, .ref lh, .ref le])
  hh : H lh = some (.lst (hs.map V.str))
  he : H le = some (.lst (as.map V.ref))
  wt : WAt H as es
theorem PlotAt.keepB {b : Addr} {H H' : Hp} {pl lh le : Addr} {days : Bool} {hs : List Str} {as : List Addr} {es : List Wr} (p : PlotAt H pl lh le days hs as es) (k : KeepB b H H') (n1 : pl ≠ b) (n2 : lh ≠ b) (n3 : le ≠ b) (nb : ∀ xs : List V, H b ≠ some (HO.tup xs)) : PlotAt H' pl lh le days hs as es :=
  ⟨k _ _ p.hp n1, k _ _ p.hh n2, k _ _ p.he n3, p.wt.keep fun a xs e => k _ _ e (by rintro rfl; exact nb xs e)⟩
theorem bag_notup {H : Hp} {b c : Addr} (B : Bag H b c) : ∀ xs : List V, H b ≠ some (HO.tup xs) := fun xs e => by
  obtain ⟨ns, i, r, k, x, n, B⟩ := B
  rw [B.hb] at e
  cases e
theorem wat_perm {H : Hp} {as as' : List Addr} {es : List Wr} (W : WAt H as es) (p : as'.Perm as) : ∃ es' : List Wr, WAt H as' es' ∧ es'.Perm es := by
  let rd : Addr → Wr := fun a => match H a with
    | some (.tup [.str x, .str y]) => (x, y)
    | _ => (Str.empty, Str.empty)
  have hrd : ∀ a ∈ as, H a = some (.tup [.str (rd a).1, .str (rd a).2]) := fun a ha => by
    obtain ⟨i, hi⟩ := List.getElem?_of_mem ha
    obtain ⟨e, he, h⟩ := W.2 i a hi
    show H a = some (.tup [.str (rd a).1, .str (rd a).2])
    have : rd a = e := by show (match H a with | some (.tup [.str x, .str y]) => (x, y) | _ => (Str.empty, Str.empty)) = e; rw [h]
    rw [this]; exact h
  have e0 : es = as.map rd := by
    refine List.ext_getElem? fun i => ?_
    rw [List.getElem?_map]
    cases q : as[i]? with
    | none =>
      have := List.getElem?_eq_none_iff.mp q
      rw [List.getElem?_eq_none_iff.mpr (by rw [← W.1]; exact this)]; rfl
    | some a =>
      obtain ⟨e, he, h⟩ := W.2 i a q
      have : rd a = e := by show (match H a with | some (.tup [.str x, .str y]) => (x, y) | _ => (Str.empty, Str.empty)) = e; rw [h]
      rw [he, Option.map_some, this]
  refine ⟨as'.map rd, ⟨by simp, fun i a hi => ⟨rd a, by rw [List.getElem?_map, hi]; rfl, hrd a (p.mem_iff.mp (List.mem_of_getElem? hi))⟩⟩, by rw [e0]; exact p.map rd⟩
theorem zip_at {hs : List Str} {i : Nat} (h : i + 1 < hs.length) : ∃ x y, hs[i]? = some x ∧ hs[i + 1]? = some y ∧ (hs.zip hs.tail)[i]? = some (x, y) := by
  refine ⟨hs[i], hs[i + 1], List.getElem?_eq_getElem (by omega), List.getElem?_eq_getElem h, ?_⟩
  rw [List.getElem?_zip_eq_some]
  exact ⟨List.getElem?_eq_getElem (by omega), by rw [List.getElem?_tail]; exact List.getElem?_eq_getElem h⟩
/-- the pairs of neighbours, listed -/
theorem pairs_lc {K : PySem.W.Frag} {σ : L2.St} {k lhi : Nat} {lh D : Addr} {hs : List Str} {H1 : Hp} {Qd : Hp → Prop} (hk : ∀ v : V, ((wipe σ [k]).set k (some v))[lhi]? = some (some (.ref lh))) (hv : ∀ v : V, ((wipe σ [k]).set k (some v))[k]? = some (some v)) (hw : ∀ v : V, wipe ((wipe σ [k]).set k (some v)) [k] = wipe σ [k])
    (eh : H1 lh = some (.lst (hs.map V.str))) (hD : H1 D = none) (hl : hs.length ≤ 1000) (n : Nat) (hn : n = hs.length - 1)
    (hd : ∀ h as, Same H1 h → h D = some (.lst (as.map V.ref)) → WAt h as (hs.zip hs.tail) → Qd h) :
    ∃ W : Nat → Nat → Hp → Prop, (∃ m, W 0 m (upd H1 D (.lst []))) ∧ ∀ i m h, W i m h → ((Itr 0 n).stop i h ∧ Qd h) ∨
      ((Itr 0 n).go i h ∧ ∃ nx : Hp → Prop, (∀ h', nx h' → ∃ m', m' < m ∧ W (i + 1) m' h') ∧ ∀ v h', (Itr 0 n).yld i h v h' → LcTurn (gName k) tYes (tTup (tCons (tOp (rIxL K) (tVar lhi) (tVar k)) (tCons (tOp (rIxL K) (tVar lhi) (tOp (rI0 fun i j => .int (i + j)) (tVar k) (tC (.int 1)))) tNil))) [k] σ D v h' nx) := by
  refine lc_range (lo := 0) (n := n) (fun i H => Same H1 H ∧ ∃ as : List Addr, H D = some (.lst (as.map V.ref)) ∧ WAt H as ((hs.zip hs.tail).take i)) ⟨same_new hD, [], upd_same, WAt.nil⟩ (fun i h hi ⟨s, as, e, W⟩ => ?_) (fun h ⟨s, as, e, W⟩ => ?_)
  · obtain ⟨x, y, hx, hy, hz⟩ := zip_at (hs := hs) (i := i) (by omega)
    have e0 : (0 : Int) + (i : Nat) = (i : Int) := by omega
    have e1 : (0 : Int) + (i : Nat) + 1 = ((i + 1 : Nat) : Int) := by omega
    have mx : (hs.map V.str)[i]? = some (.str x) := by rw [List.getElem?_map, hx]; rfl
    have my : (hs.map V.str)[i + 1]? = some (.str y) := by rw [List.getElem?_map, hy]; rfl
    have eh' := s _ _ eh
    refine ⟨hw _, iteT (B := False) ⟨_, hk _, _, hv _, lh, _, _, _, rfl, rfl, SqL.of eh', by rw [e0]; exact atI_nat mx, _, hk _, _, hv _, _, _, rfl, rfl, lh, _, _, _, rfl, rfl, SqL.of eh', by rw [e1]; exact atI_nat my, by show 2 ≤ sizeLine; decide, fun t ht => ?_⟩⟩
    have s3 : Same h (upd h t (.tup [.str x, .str y])) := same_new ht
    have e3 : upd h t (.tup [.str x, .str y]) t = some (.tup [.str x, .str y]) := upd_same
    generalize upd h t _ = H3 at s3 e3 ⊢
    have eD := s3 _ _ e
    have W3 := (W.same s3).snoc (e := (x, y)) e3
    have la : as.length ≤ 1000 := by
      have := W.1
      rw [this, List.length_take, List.length_zip]
      omega
    refine ⟨_, eD, by rw [List.length_map, sizeLine_eq]; omega, same_upd (Same.trans s s3) hD, as ++ [t], by rw [upd_same, List.map_append]; rfl, ?_⟩
    rw [take_snoc hz]
    exact W3.keep fun b xs z => by rw [upd_ne (ne_of z eD (by intro y; cases y))]; exact z
  · have e : (hs.zip hs.tail).take n = hs.zip hs.tail := List.take_of_length_le (by rw [List.length_zip, List.length_tail]; omega)
    rw [e] at W
    exact hd h as s (by assumption) W
section
variable {P : Program} {w : World} {K : PySem.W.Frag} {mg : Str → Option Value} {base : Heap}
def spPlot : Sp := fun vs H Q _ => ∃ (b c : Addr) (low high : Nat), vs = [.ref b, .int low, .int high, .int 3] ∧ Bag H b c ∧ 1 ≤ low ∧ low ≤ high ∧ high ≤ 16 ∧
  ∀ (pl lh le : Addr) (days : Bool) (hs : List Str) (as : List Addr) (es : List Wr) (H' : Hp), Bag H' b c → KeepB b H H' → PlotAt H' pl lh le days hs as es → PlotOk days hs es → low ≤ hs.length → hs.length ≤ high → pl ≠ b ∧ lh ≠ b ∧ le ≠ b → H pl = none ∧ H lh = none ∧ H le = none → Q (.ref pl) H'
theorem sc_law_plot : FnScope ["bag", "low", "high", "days", "many", "halls", "k", "form", "edges", "order", "one"] ["bag", "low", "high", "days"] (defScope s_law_plot) := ⟨rfl, rfl, rfl, by decide +kernel, rfl, by decide +kernel, by decide +kernel⟩
theorem good_plot (T : Tx w K mg) : Good P w K mg base CX0 4 (He.ga K "_law_plot") ["bag", "low", "high", "days"] spPlot := by
  obtain ⟨fd, F⟩ := T.f_law_plot
  obtain ⟨_, G_law_draw, k_law_draw, b_law_draw⟩ := good_draw (P := P) (w := w) (base := base) T
  obtain ⟨_, G_law_names, k_law_names, b_law_names⟩ := good_names (P := P) (w := w) (base := base) T
  obtain ⟨_, G_law_mixed, k_law_mixed, b_law_mixed⟩ := good_mixed (P := P) (w := w) (base := base) T
  refine ⟨fd, F.ok sc_law_plot (fun vs H Q E h => ?_) (fun cdv A outer s H vs Q E hr h => ?_), F.kp, F.bindsN fun _ _ _ _ _ _ us hl => match us, hl with | [_, _, _, _], _ => rfl⟩
  · obtain ⟨_, _, _, _, rfl, _⟩ := h
    rfl
  · obtain ⟨b, c, low, high, rfl, B, h1, h2, h3, kq⟩ := h
    have SC := sc_law_plot
    refine ⟨_, PSs.nox (pss_cons (ps_set (i := 4) SC.nd rfl (by first | exact Or.inl rfl | exact Or.inr rfl) (pe_op op_add (pv 1) (pe_call G_law_draw (hr.mono (by decide)) rfl T.g_law_draw k_law_draw b_law_draw .nil pass0 (pa_cons (pv 0) (pa_cons (pe_op op_add (pe_op op_sub (pv 2) (pv 1)) pe_int) pa_nil))))) 
      (pss_cons (ps_set (i := 5) SC.nd rfl (by first | exact Or.inl rfl | exact Or.inr rfl) (pe_call G_law_names (hr.mono (by decide)) rfl T.g_law_names k_law_names b_law_names .nil pass0 (pa_cons (pv 0) (pa_cons (pv 4) (pa_cons pe_bl pa_nil))))) 
      (pss_cons (ps_if (PW.pt (pw_or (pt_cmpR op_eq (pv 3) pe_int (nomark _)) (pw_or1 (pt_cmpR op_eq (pe_call G_law_draw (hr.mono (by decide)) rfl T.g_law_draw k_law_draw b_law_draw .nil pass0 (pa_cons (pv 0) (pa_cons (pe_op op_add (pv 3) pe_int) pa_nil))) (pv 3) (nomark _))))) 
      (pss_one (ps_ret (pe_lst (pa_cons pe_bl (pa_cons (pv 5) (pa_cons (pe_lc (own := [("k", 6)]) (g := gName 6) (tt := tYes) rfl SC.nd (pi_range1 rfl T.n_range (pa_cons (pe_op op_sub (pv 4) pe_int) pa_nil)) (blkOk_by (N := ["bag", "low", "high", "days", "many", "halls", "k", "form", "edges", "order", "one"]) (sc := defScope s_law_plot) (by decide +kernel)) (fun _ _ _ _ _ => (pg_name (i := 6) SC.nd rfl (by first | exact Or.inl rfl | exact Or.inr rfl))) (fun _ _ _ _ _ => pts_nil) (fun _ _ _ _ _ => (pe_tup (pa_cons (pe_ix (ixL K) (pv 5) (pv 6) (fun _ _ => rfl)) (pa_cons (pe_ix (ixL K) (pv 5) (pe_op op_add (pv 6) pe_int) (fun _ _ => rfl)) pa_nil))))) pa_nil)))))) pss_nil) 
      (pss_cons (ps_set (i := 7) SC.nd rfl (by first | exact Or.inl rfl | exact Or.inr rfl) (pe_call G_law_draw (hr.mono (by decide)) rfl T.g_law_draw k_law_draw b_law_draw .nil pass0 (pa_cons (pv 0) (pa_cons pe_int pa_nil)))) 
      (pss_cons (ps_set (i := 8) SC.nd rfl (by first | exact Or.inl rfl | exact Or.inr rfl) (pe_lst pa_nil)) 
      (pss_cons (ps_set (i := 9) SC.nd rfl (by first | exact Or.inl rfl | exact Or.inr rfl) (pe_call G_law_mixed (hr.mono (by decide)) rfl T.g_law_mixed k_law_mixed b_law_mixed .nil pass0 (pa_cons (pv 0) (pa_cons (pv 5) pa_nil)))) 
      (pss_cons (ps_for PassesOwn.never rfl (pi_range2 rfl T.n_range (pa_cons pe_int (pa_cons (pv 4) pa_nil))) (pg_name (i := 6) SC.nd rfl (by first | exact Or.inl rfl | exact Or.inr rfl)) 
      (pss_cons (ps_set (i := 10) SC.nd rfl (by first | exact Or.inl rfl | exact Or.inr rfl) (pe_ix (ixL K) (pv 9) (pe_ix (ixL K) (pe_lst (pa_cons (pe_call G_law_draw (hr.mono (by decide)) rfl T.g_law_draw k_law_draw b_law_draw .nil pass0 (pa_cons (pv 0) (pa_cons (pv 6) pa_nil))) (pa_cons (pe_op op_sub (pv 6) pe_int) (pa_cons pe_int pa_nil)))) (pv 7) (fun _ _ => rfl)) (fun _ _ => rfl))) 
      (pss_one (ps_expr (pe_bm PySem.F.plainAttrs_list PySem.F.slot_list_append PySem.F.type_list_append mt_append (pv 8) (pa_cons (pe_ifExp (pt_cmpR op_eq (pe_call G_law_draw (hr.mono (by decide)) rfl T.g_law_draw k_law_draw b_law_draw .nil pass0 (pa_cons (pv 0) (pa_cons pe_int pa_nil))) pe_int (nomark _)) (pe_tup (pa_cons (pe_ix (ixL K) (pv 9) (pv 6) (fun _ _ => rfl)) (pa_cons (pv 10) pa_nil))) (pe_tup (pa_cons (pv 10) (pa_cons (pe_ix (ixL K) (pv 9) (pv 6) (fun _ _ => rfl)) pa_nil)))) pa_nil)))))) 
      (pss_one (ps_ret (pe_lst (pa_cons pe_bl (pa_cons (pv 5) (pa_cons (pe_call G_law_mixed (hr.mono (by decide)) rfl T.g_law_mixed k_law_mixed b_law_mixed .nil pass0 (pa_cons (pv 0) (pa_cons (pv 8) pa_nil))) pa_nil))))))))))))), ?_⟩
    refine ⟨_, rfl, _, rfl, _, rfl, _, rfl, _, _, rfl, rfl, _, _, rfl, rfl, b, c, _, rfl, B, by omega, by omega, fun r H1 r0 r1 B1 k1 => ?_⟩
    refine ⟨_, _, rfl, rfl, ?_⟩
    obtain ⟨m, hm⟩ : ∃ m : Nat, (low : Int) + r = (m : Int) := ⟨low + r.toNat, by omega⟩
    have em : (fun i j => V.int (i + j)) (low : Int) r = V.int m := by show V.int _ = _; rw [hm]
    rw [em]
    have m1 : low ≤ m := by omega
    have m2 : m ≤ high := by omega
    refine ⟨_, rfl, _, rfl, b, c, m, rfl, B1, by omega, fun lh hs H2 B2 k2 z2 eh len nd sm => ?_⟩
    have lhb := (B1.ne z2).1
    have lhc := (B1.ne z2).2
    have zh : H lh = none := k1.free lhb z2
    refine ⟨_, rfl, rfl, _, rfl, iteF (A := False) ?_⟩
    refine ⟨_, rfl, _, rfl, _, _, rfl, rfl, b, c, 4, rfl, B2, by decide, by decide, fun r2 H3 r20 r21 B3 k3 => ?_⟩
    have eh3 := k3 _ _ eh lhb
    have k13 := (k1.trans k2).trans k3
    refine ⟨_, rfl, rfl, _, rfl, ?_⟩
    have hne : hs ≠ [] := fun z => by rw [z] at len; simp at len; omega
    refine ite2 (fun cd => ?_) (fun cd => ?_)
    · refine ⟨_, rfl, _, rfl, _, _, rfl, rfl, _, rfl, by omega, by omega, fun D hD => ?_⟩
      rw [show ((m : Int) - 1).toNat = m - 1 by omega]
      refine pairs_lc (K := K) (k := 6) (lhi := 5) (fun _ => rfl) (fun _ => rfl) (fun _ => rfl) eh3 hD (by omega) (m - 1) (by omega) fun H4 as s4 eD4 W4 => ?_
      have B4 := bag_keep B3 s4
      have zD : H D = none := k13.free (B3.ne hD).1 hD
      refine ⟨by show 3 ≤ sizeLine; decide, fun pl hpl => ?_⟩
      have s5 : Same H4 (upd H4 pl (.lst [.bl true, .ref lh, .ref D])) := same_new hpl
      have e5 : upd H4 pl (.lst [.bl true, .ref lh, .ref D]) pl = some (.lst [.bl true, .ref lh, .ref D]) := upd_same
      generalize upd H4 pl _ = H5 at s5 e5 ⊢
      have kf := (k13.trans (KeepB.same s4)).trans (KeepB.same s5)
      have npb := (B4.ne hpl).1
      have zp : H pl = none := (k13.trans (KeepB.same s4)).free npb hpl
      exact kq pl lh D true hs as _ H5 (bag_keep B4 s5) kf ⟨e5, s5 _ _ (s4 _ _ eh3), s5 _ _ eD4, W4.same s5⟩ ⟨nd, sm, hne, by omega, fun _ => rfl, fun z => (by cases z)⟩ (by omega) (by omega) ⟨npb, lhb, (B3.ne hD).1⟩ ⟨zp, zh, zD⟩
    · refine ⟨_, rfl, b, c, 3, rfl, B3, by decide, by decide, fun form H4 f0 f1 B4 k4 => ?_⟩
      have eh4 := k4 _ _ eh3 lhb
      have k14 := k13.trans k4
      refine ⟨by show 0 ≤ sizeLine; decide, fun le hle => ?_⟩
      have s5 : Same H4 (upd H4 le (.lst [])) := same_new hle
      have e5 : upd H4 le (.lst []) le = some (.lst []) := upd_same
      have leb := (B4.ne hle).1
      have lec := (B4.ne hle).2
      have zle : H le = none := k14.free leb hle
      have B5 := B4.new (o := .lst []) hle
      have k15 := k14.upd' (o := .lst []) zle
      generalize upd H4 le (.lst []) = H5 at s5 e5 B5 k15 ⊢
      have eh5 := s5 _ _ eh4
      refine ⟨_, rfl, _, rfl, b, c, lh, _, rfl, B5, eh5, lhb, by rw [List.length_map]; omega, fun lo ys H6 pm B6 k6 hlo elo => ?_⟩
      obtain ⟨order, rfl, po⟩ := perm_map pm
      have lol : order.length = m := by rw [po.length_eq]; exact len
      have lob := (B5.ne hlo).1
      have zlo : H lo = none := k15.free lob hlo
      have nlo : le ≠ lo := ne_of_none e5 hlo
      have k16 := k15.trans k6
      have e6 := k6 _ _ e5 leb
      have eh6 := k6 _ _ eh5 lhb
      have nhl : lh ≠ le := fun z => by rw [z, hle] at eh4; cases eh4
      refine ⟨_, rfl, 1, _, rfl, ⟨by decide, by decide, by omega, by omega⟩, ?_⟩
      rw [show ((m : Int) - 1).toNat = m - 1 by omega]
      obtain ⟨o0, ho0⟩ : ∃ o0, order[0]? = some o0 := ⟨_, List.getElem?_eq_getElem (by omega)⟩
      refine for_range (lo := 1) (n := m - 1) (fun i σ H' => ∃ (v6 v10 : Option V) (as : List Addr) (es : List Wr), σ = [some (.ref b), some (.int low), some (.int high), some (.int 3), some (.int m), some (.ref lh), v6, some (.int form), some (.ref le), some (.ref lo), v10] ∧ Bag H' b c ∧ KeepB b H H' ∧
        H' lh = some (.lst (hs.map V.str)) ∧ H' lo = some (.lst (order.map V.str)) ∧ H' le = some (.lst (as.map V.ref)) ∧ WAt H' as es ∧ es.length = i ∧ (∀ e ∈ es, e.1 ∈ hs ∧ e.2 ∈ hs) ∧ ∀ j, j ≤ i → ∀ x, order[j]? = some x → Conn es o0 x)
        ⟨none, none, [], [], rfl, B6, k16, eh6, elo, e6, WAt.nil, rfl, fun e he => by simp at he, fun j hj x hx => ?_⟩ ?_ ?_
      · have : j = 0 := by omega
        subst this
        rw [ho0] at hx
        cases hx
        exact .refl _
      · rintro i σ H' hi ⟨v6, v10, as, es, rfl, B7, k7, eh7, elo7, e7, W7, len7, wf7, cn7⟩
        have k0 : (0 : Int) < 1 + (i : Nat) := by omega
        refine ⟨_, rfl, _, rfl, _, rfl, b, c, 1 + (i : Nat), rfl, B7, k0, by omega, fun r H8 r0 r1 B8 k8 => ?_⟩
        have eh8 := k8 _ _ eh7 lhb
        have elo8 := k8 _ _ elo7 lob
        have e8 := k8 _ _ e7 leb
        have W8 : WAt H8 as es := W7.keep fun a xs e => k8 _ _ e (by rintro rfl; exact bag_notup B7 xs e)
        refine ⟨_, rfl, _, _, rfl, rfl, by show 3 ≤ sizeLine; decide, fun t ht => ?_⟩
        generalize hH : upd H8 t _ = H9
        have s9 : Same H8 H9 := hH ▸ same_new ht
        have e9 : H9 t = some (.lst ([r, 1 + (i : Int) - 1, 0].map V.int)) := by rw [← hH]; exact upd_same
        clear hH
        obtain ⟨z, hz, hzm⟩ := at_in (l := [r, 1 + (i : Int) - 1, 0]) f0 (by show form < 3; exact f1)
        have zb : 0 ≤ z ∧ z < 1 + (i : Int) := by
          simp at hzm
          rcases hzm with rfl | rfl | rfl <;> omega
        have hz' : atI ([r, 1 + (i : Int) - 1, 0].map V.int) form = some (.int z) := by
          obtain ⟨j, hj, hjx, _⟩ := atI_get hz
          have : form = (form.toNat : Int) := by omega
          rw [this] at hz ⊢
          refine atI_nat ?_
          rw [List.getElem?_map]
          have q : ([r, 1 + (i : Int) - 1, 0] : List Int)[form.toNat]? = some z := by
            have h3 : form.toNat < 3 := by omega
            have q1 := atI_nat (xs := [r, 1 + (i : Int) - 1, 0]) (List.getElem?_eq_getElem (by show form.toNat < 3; exact h3))
            rw [hz] at q1
            rw [List.getElem?_eq_getElem (by show form.toNat < 3; exact h3)]
            exact q1.symm
          rw [q]; rfl
        obtain ⟨one, hone⟩ : ∃ one, order[z.toNat]? = some one := ⟨_, List.getElem?_eq_getElem (by omega)⟩
        obtain ⟨ok, hok⟩ : ∃ ok, order[i + 1]? = some ok := ⟨_, List.getElem?_eq_getElem (by omega)⟩
        have mone : (order.map V.str)[z.toNat]? = some (.str one) := by rw [List.getElem?_map, hone]; rfl
        have mok : (order.map V.str)[i + 1]? = some (.str ok) := by rw [List.getElem?_map, hok]; rfl
        have aone : atI (order.map V.str) z = some (.str one) := by have := atI_nat mone; rwa [show ((z.toNat : Nat) : Int) = z by omega] at this
        have aok : atI (order.map V.str) (1 + (i : Nat)) = some (.str ok) := by have := atI_nat mok; rwa [show ((i + 1 : Nat) : Int) = 1 + (i : Nat) by omega] at this
        have elo9 := s9 _ _ elo8
        have e9le := s9 _ _ e8
        refine ⟨_, rfl, t, _, _, _, rfl, rfl, SqL.of e9, hz', lo, _, _, _, rfl, rfl, SqL.of elo9, aone, ?_⟩
        have B9 := bag_keep B8 s9
        refine ⟨_, rfl, .inl ⟨rfl, _, SqL.of e9le⟩, _, rfl, b, c, 2, rfl, B9, by decide, by decide, fun r2 H10 r20 r21 B10 k10 => ?_⟩
        have elo10 := k10 _ _ elo9 lob
        have e10 := k10 _ _ e9le leb
        have eh10 := k10 _ _ (s9 _ _ eh8) lhb
        have W10 : WAt H10 as es := (W8.same s9).keep fun a xs e => k10 _ _ e (by rintro rfl; exact bag_notup B9 xs e)
        have kk : KeepB b H H10 := ((k7.trans k8).trans (KeepB.same s9)).trans k10
        have mo : one ∈ hs := po.mem_iff.mp (List.mem_of_getElem? hone)
        have mk : ok ∈ hs := po.mem_iff.mp (List.mem_of_getElem? hok)
        have c1 := cn7 z.toNat (by omega) one hone
        have fin : ∀ (e : Wr), ((e = (ok, one)) ∨ e = (one, ok)) → ∀ (t2 : Addr), H10 t2 = none → ∃ (l : Addr) (xs : List V) (y : V), V.ref le = .ref l ∧ [V.ref t2] = [y] ∧ upd H10 t2 (.tup [.str e.1, .str e.2]) l = some (.lst xs) ∧ xs.length < sizeLine ∧
            ∃ (v6 v10 : Option V) (as : List Addr) (es : List Wr), [some (V.ref b), some (.int low), some (.int high), some (.int 3), some (.int m), some (.ref lh), some (.int (1 + (i : Nat))), some (.int form), some (.ref le), some (.ref lo), some (.str one)] = [some (V.ref b), some (.int low), some (.int high), some (.int 3), some (.int m), some (.ref lh), v6, some (.int form), some (.ref le), some (.ref lo), v10] ∧
              Bag (upd (upd H10 t2 (.tup [.str e.1, .str e.2])) l (.lst (xs ++ [y]))) b c ∧ KeepB b H (upd (upd H10 t2 (.tup [.str e.1, .str e.2])) l (.lst (xs ++ [y]))) ∧ upd (upd H10 t2 (.tup [.str e.1, .str e.2])) l (.lst (xs ++ [y])) lh = some (.lst (hs.map V.str)) ∧ upd (upd H10 t2 (.tup [.str e.1, .str e.2])) l (.lst (xs ++ [y])) lo = some (.lst (order.map V.str)) ∧
              upd (upd H10 t2 (.tup [.str e.1, .str e.2])) l (.lst (xs ++ [y])) le = some (.lst (as.map V.ref)) ∧ WAt (upd (upd H10 t2 (.tup [.str e.1, .str e.2])) l (.lst (xs ++ [y]))) as es ∧ es.length = i + 1 ∧ (∀ e ∈ es, e.1 ∈ hs ∧ e.2 ∈ hs) ∧ ∀ j, j ≤ i + 1 → ∀ x, order[j]? = some x → Conn es o0 x := by
          intro e he t2 ht2
          have s11 : Same H10 (upd H10 t2 (.tup [.str e.1, .str e.2])) := same_new ht2
          have e11 : upd H10 t2 (.tup [.str e.1, .str e.2]) t2 = some (.tup [.str e.1, .str e.2]) := upd_same
          have B11 := bag_keep B10 s11
          generalize upd H10 t2 (.tup [.str e.1, .str e.2]) = H11 at s11 e11 B11 ⊢
          have l11 := s11 _ _ e10
          refine ⟨le, _, _, rfl, rfl, l11, by rw [List.length_map, W10.1, sizeLine_eq]; omega, _, _, as ++ [t2], es ++ [e], rfl, B11.upd leb lec, (kk.trans (KeepB.same s11)).upd' zle, by rw [upd_ne nhl]; exact s11 _ _ eh10, by rw [upd_ne (Ne.symm nlo)]; exact s11 _ _ elo10, by rw [upd_same, List.map_append]; rfl, ?_, by simp [len7], fun e' he' => ?_, fun j hj x hx => ?_⟩
          · exact ((W10.same s11).snoc e11).keep fun a xs e => by rw [upd_ne (ne_of e l11 (by intro y; cases y))]; exact e
          · rcases List.mem_append.mp he' with q | q
            · exact wf7 e' q
            · rw [List.mem_singleton.mp q]
              rcases he with rfl | rfl
              · exact ⟨mk, mo⟩
              · exact ⟨mo, mk⟩
          · have mono : ∀ e' ∈ es, e' ∈ es ++ [e] := fun e' h => List.mem_append_left _ h
            by_cases cj : j ≤ i
            · exact (cn7 j cj x hx).mono mono
            · have : j = i + 1 := by omega
              subst this
              rw [hok] at hx
              cases hx
              refine (c1.mono mono).trans (Conn.one ?_)
              rcases he with rfl | rfl
              · exact .inr (by simp)
              · exact .inl (by simp)
        refine ⟨rfl, _, rfl, ?_⟩
        refine ite2 (fun _ => ?_) (fun _ => ?_)
        · exact ⟨_, rfl, _, rfl, lo, _, _, _, rfl, rfl, SqL.of elo10, aok, _, rfl, by show 2 ≤ sizeLine; decide, fun t2 ht2 => fin (ok, one) (.inl rfl) t2 ht2⟩
        · exact ⟨_, rfl, _, rfl, _, rfl, lo, _, _, _, rfl, rfl, SqL.of elo10, aok, by show 2 ≤ sizeLine; decide, fun t2 ht2 => fin (one, ok) (.inr rfl) t2 ht2⟩
      · rintro σ H' ⟨v6, v10, as, es, rfl, B7, k7, eh7, elo7, e7, W7, len7, wf7, cn7⟩
        refine ⟨_, rfl, _, rfl, _, rfl, b, c, le, _, rfl, B7, e7, leb, by rw [List.length_map, W7.1]; omega, fun l2 ys H8 pm2 B8 k8 hl2 el2 => ?_⟩
        obtain ⟨as', rfl, pa⟩ := perm_map pm2
        obtain ⟨es', W8, pe⟩ := wat_perm W7 pa
        have l2b := (B7.ne hl2).1
        have W9 : WAt H8 as' es' := W8.keep fun a xs e => k8 _ _ e (by rintro rfl; exact bag_notup B7 xs e)
        refine ⟨by show 3 ≤ sizeLine; decide, fun pl hpl => ?_⟩
        have s9 : Same H8 (upd H8 pl (.lst [.bl false, .ref lh, .ref l2])) := same_new hpl
        have e9 : upd H8 pl (.lst [.bl false, .ref lh, .ref l2]) pl = some (.lst [.bl false, .ref lh, .ref l2]) := upd_same
        generalize upd H8 pl _ = H9 at s9 e9 ⊢
        have npb := (B8.ne hpl).1
        have k8' := k7.trans k8
        have zp : H pl = none := k8'.free npb hpl
        refine kq pl lh l2 false hs as' es' H9 (bag_keep B8 s9) (k8'.trans (KeepB.same s9)) ⟨e9, s9 _ _ (k8 _ _ eh7 lhb), s9 _ _ el2, W9.same s9⟩ ⟨nd, sm, hne, by omega, fun z => (by cases z), fun _ => ⟨?_, fun e he => wf7 e (pe.mem_iff.mp he), ?_⟩⟩ (by omega) (by omega) ⟨npb, lhb, l2b⟩ ⟨zp, zh, k7.free l2b hl2⟩
        · rw [pe.length_eq, len7]; omega
        · have all : ∀ x ∈ hs, Conn es' o0 x := fun x hx => by
            obtain ⟨j, hj⟩ := List.getElem?_of_mem (po.mem_iff.mpr hx)
            have hjl := (List.getElem?_eq_some_iff.mp hj).1
            exact (cn7 j (by omega) x hj).mono fun e he => pe.mem_iff.mpr he
          exact fun x hx y hy => (all x hx).symm.trans (all y hy)
end
end Yd
set_option Elab.async false
set_option linter.all false
set_option maxRecDepth 100000
set_option maxHeartbeats 16000000
namespace Yd
open PySem PySem.Spec PyProof.Rows L2 Xo
section
variable {P : Program} {w : World} {K : PySem.W.Frag} {mg : Str → Option Value} {base : Heap}
def spPText : Sp := fun vs H Q _ => ∃ (pl lh le : Addr) (days : Bool) (hs : List Str) (as : List Addr) (es : List Wr), vs = [.ref pl] ∧ PlotAt H pl lh le days hs as es ∧ Sml hs es ∧ ∀ H', Same H H' → Q (.str (yardT days hs es)) H'
theorem sc_law_plot_text : FnScope ["plot", "hall", "edge"] ["plot"] (defScope s_law_plot_text) := ⟨rfl, rfl, rfl, by decide +kernel, rfl, by decide +kernel, by decide +kernel⟩
theorem good_ptext (T : Tx w K mg) : Good P w K mg base CX0 1 (He.ga K "_law_plot_text") ["plot"] spPText := by
  obtain ⟨fd, F⟩ := T.f_law_plot_text
  refine ⟨fd, F.ok sc_law_plot_text (fun vs H Q E h => ?_) (fun cdv A outer s H vs Q E hr h => ?_), F.kp, F.bindsN fun _ _ _ _ _ _ us hl => match us, hl with | [_], _ => rfl⟩
  · obtain ⟨_, _, _, _, _, _, _, rfl, _⟩ := h
    rfl
  · obtain ⟨pl, lh, le, days, hs, as, es, rfl, p, S, kq⟩ := h
    have SC := sc_law_plot_text
    refine ⟨_, PSs.nox (pss_cons (ps_if (pt_val (pe_ix (ixL K) (pv 0) pe_int (fun _ _ => rfl))) 
      (pss_one (ps_ret (pe_join pe_str (pe_op op_cat (pe_op op_cat (pe_lst (pa_cons pe_str pa_nil)) (pe_lc (own := [("hall", 1)]) (g := gName 1) (tt := tYes) rfl SC.nd (listI K rfl (pe_ix (ixL K) (pv 0) pe_int (fun _ _ => rfl))) (blkOk_by (N := ["plot", "hall", "edge"]) (sc := defScope s_law_plot_text) (by decide +kernel)) (fun _ _ _ _ _ => (pg_name (i := 1) SC.nd rfl (by first | exact Or.inl rfl | exact Or.inr rfl))) (fun _ _ _ _ _ => pts_nil) (fun _ _ _ _ _ => (pe_op op_add_str pe_str (pv 1))))) (pe_lst (pa_cons pe_str pa_nil)))))) pss_nil) 
      (pss_one (ps_ret (pe_join pe_str (pe_op op_cat (pe_op op_cat (pe_op op_cat (pe_lst (pa_cons pe_str pa_nil)) (pe_lc (own := [("hall", 1)]) (g := gName 1) (tt := tYes) rfl SC.nd (listI K rfl (pe_ix (ixL K) (pv 0) pe_int (fun _ _ => rfl))) (blkOk_by (N := ["plot", "hall", "edge"]) (sc := defScope s_law_plot_text) (by decide +kernel)) (fun _ _ _ _ _ => (pg_name (i := 1) SC.nd rfl (by first | exact Or.inl rfl | exact Or.inr rfl))) (fun _ _ _ _ _ => pts_nil) (fun _ _ _ _ _ => (pe_op op_add_str pe_str (pv 1))))) (pe_lc (own := [("edge", 2)]) (g := gName 2) (tt := tYes) rfl SC.nd (listI K rfl (pe_ix (ixL K) (pv 0) pe_int (fun _ _ => rfl))) (blkOk_by (N := ["plot", "hall", "edge"]) (sc := defScope s_law_plot_text) (by decide +kernel)) (fun _ _ _ _ _ => (pg_name (i := 2) SC.nd rfl (by first | exact Or.inl rfl | exact Or.inr rfl))) (fun _ _ _ _ _ => pts_nil) (fun _ _ _ _ _ => (pe_op op_add_str (pe_op op_add_str (pe_op op_add_str pe_str (pe_ix (ixT K) (pv 2) pe_int (fun _ _ => rfl))) pe_str) (pe_ix (ixT K) (pv 2) pe_int (fun _ _ => rfl)))))) (pe_lst (pa_cons pe_str pa_nil))))))), ?_⟩
    have hn := S.hn
    have en := S.en
    have small : ∀ n : Nat, n ≤ 100 → n ≤ sizeLine := fun n h => by rw [sizeLine_eq]; omega
    have smaller : ∀ n : Nat, n ≤ 100 → n < sizeLine := fun n h => by rw [sizeLine_eq]; omega
    have hp := p.hp
    have part : ∀ (k m : Str), m.length ≤ 10 → ∀ (H0 : Hp) (t : Addr) (Q0 : VK), Same H H0 → H0 t = some (.lst [.str k]) →
        (∀ (H' : Hp) (l : Addr), Same H H' → H' l = some (.lst (([k] ++ hs.map (fun h => m ++ h)).map V.str)) → Q0 (.ref l) H') →
        tLc (iList K (tOp (rIxL K) (tVar 0) (tC (.int 1)))) (gName 1) tYes (tOp (fun x y H Q => ∃ i j, x = .str i ∧ y = .str j ∧ i.length + j.length ≤ sizeLine ∧ Q (V.str (i ++ j)) H) (tC (V.str m)) (tVar 1)) [1] [some (.ref pl), none, none] H0 (fun y H1 => rCat (.ref t) y H1 Q0) := by
      intro k m hm H0 t Q0 s0 e0 q
      have hb0 := s0 _ _ p.hh
      refine ⟨_, rfl, pl, _, 1, _, rfl, rfl, SqL.of (s0 _ _ hp), rfl, lh, rfl, ⟨_, SqL.of hb0⟩, fun D hD => ?_⟩
      refine lc_fm V.str hs (fun h => some (.str (m ++ h))) (SqL.of hb0) hD (smaller _ (by omega)) (fun j y h acc nx hy s e hacc hnx => ⟨rfl, ?_⟩) (fun h s e => ?_)
      · have := S.hl y (List.mem_of_getElem? hy)
        exact iteT (B := False) ⟨_, rfl, _, _, rfl, rfl, by rw [sizeLine_eq]; omega, acc, e, hacc, hnx⟩
      · have s1 := Same.trans s0 s
        rw [some_map (fun h : Str => V.str (m ++ h))] at e
        refine ⟨t, D, _, _, rfl, rfl, s _ _ e0, e, by rw [List.length_map]; exact small _ (by simp; omega), fun p hp => q _ p (same_upd s1 (Same.free s1 hp)) ?_⟩
        rw [upd_same, List.map_append, List.map_map]; rfl
    -- the last line; the text
    have last : ∀ (rs : List Str) (H1 : Hp) (l : Addr) (Q0 : VK), Same H H1 → H1 l = some (.lst (rs.map V.str)) → rowsT days hs es = rs ++ [("done" : Str)] → Q0 = Q →
        tLst (tCons (tC (V.str "done")) tNil) [some (.ref pl), none, none] H1 (fun y H2 => rCat (.ref l) y H2 fun z H3 => ∃ a p, ∃ ys : List Str, V.str "\n" = .str a ∧ [z] = [.ref p] ∧ (SqL K H3 p (ys.map V.str) ∨ SqT K H3 p (ys.map V.str)) ∧ (ys.map (·.length)).sum + ys.length * a.length ≤ 16777216 ∧ Q0 (.str (Txt.join a ys)) H3) := by
      intro rs H1 l Q0 s1 e1 er eq
      subst eq
      have lrs : rs.length ≤ 90 := by
        have := congrArg List.length er
        unfold rowsT at this
        cases days <;> simp at this <;> omega
      refine ⟨by show 1 ≤ sizeLine; decide, fun t ht => ?_⟩
      have s2 : Same H1 (upd H1 t (.lst [.str "done"])) := same_new ht
      refine ⟨l, t, _, _, rfl, rfl, s2 _ _ e1, upd_same, by rw [List.length_map, sizeLine_eq]; show rs.length + 1 ≤ _; omega, fun p hp => ?_⟩
      have s3 : Same H (upd (upd H1 t (.lst [.str "done"])) p (.lst (rs.map V.str ++ [.str "done"]))) := same_upd (Same.trans s1 s2) (Same.free (Same.trans s1 s2) hp)
      have ea : rs.map V.str ++ [V.str "done"] = (rowsT days hs es).map V.str := by rw [er, List.map_append]; rfl
      exact ⟨"\n", p, rowsT days hs es, rfl, rfl, .inl (SqL.of (by rw [upd_same, ea])), rows_sum S, kq _ s3⟩
    refine ⟨_, rfl, pl, _, 0, _, rfl, rfl, SqL.of hp, rfl, _, rfl, ?_⟩
    cases days with
    | true =>
      refine iteT (B := False) ⟨⟨_, rfl⟩, by show 1 ≤ sizeLine; decide, fun t ht => ?_⟩
      exact part "course" "moment " (by decide +kernel) _ t _ (same_new ht) upd_same fun H' l s' e' => last _ H' l Q s' e' rfl rfl
    | false =>
      refine iteF (A := False) ⟨⟨_, rfl⟩, by show 1 ≤ sizeLine; decide, fun t ht => ?_⟩
      refine part "yard" "bench " (by decide +kernel) _ t _ (same_new ht) upd_same fun H' l s' e' => ?_
      have k3 : ("wire " : Str).length = 5 := by decide +kernel
      have k4 : (" " : Str).length = 1 := by decide +kernel
      have W := p.wt
      have W1 := W.same s'
      have lz : (as.zip es).length ≤ 100 := by rw [List.length_zip]; omega
      have hw1 := SqL.of (K := K) (s' _ _ p.he)
      have hz := hw1
      rw [zip_fst as es W.1] at hz
      refine ⟨_, rfl, pl, _, 2, _, rfl, rfl, SqL.of (s' _ _ hp), rfl, le, rfl, ⟨_, hw1⟩, fun D hD => ?_⟩
      refine lc_fm (fun p : Addr × Wr => V.ref p.1) (as.zip es) (fun p => some (V.str (("wire " : Str) ++ p.2.1 ++ (" " : Str) ++ p.2.2))) hz hD (smaller _ lz) (fun j y h acc nx hy s e hacc hnx => ⟨rfl, ?_⟩) (fun h s e => ?_)
      · obtain ⟨g1, g2⟩ := W1.zget hy
        have hy2 := S.el _ (List.mem_of_getElem? g1)
        have g3 := s _ _ g2
        exact iteT (B := False) ⟨_, rfl, y.1, _, 0, _, rfl, rfl, SqT.of g3, rfl, _, _, rfl, rfl, by rw [sizeLine_eq]; omega, _, _, rfl, rfl, by rw [sizeLine_eq, str_len]; omega, _, rfl, y.1, _, 1, _, rfl, rfl, SqT.of g3, rfl, _, _, rfl, rfl, by rw [sizeLine_eq, str_len, str_len]; omega, acc, e, hacc, hnx⟩
      · rw [zip_snd (fun e : Wr => V.str (("wire " : Str) ++ e.1 ++ (" " : Str) ++ e.2)) as es W.1] at e
        have s1 := Same.trans s' s
        refine ⟨l, D, _, _, rfl, rfl, s _ _ e', e, by rw [List.length_map, List.length_map]; exact small _ (by simp; omega), fun q hq => ?_⟩
        refine last (([("yard" : Str)] ++ hs.map (fun h => ("bench " : Str) ++ h)) ++ es.map (fun e => ("wire " : Str) ++ e.1 ++ (" " : Str) ++ e.2)) _ q Q (same_upd s1 (Same.free s1 hq)) ?_ rfl rfl
        rw [upd_same]
        simp only [List.map_append, List.map_map]
        rfl
end
end Yd
set_option Elab.async false
set_option linter.all false
set_option maxRecDepth 100000
set_option maxHeartbeats 16000000
namespace Yd
open PySem PySem.Spec PyProof.Rows L2 Xo
theorem rch1_len (f : List Str) (e : Wr) : (rch1 none f e).length ≤ f.length + 2 := by
  unfold rch1
  simp only
  split <;> split <;> simp
theorem rch_step (f : List Str) (e : Wr) : rch1 none f e = (let f1 := if e.1 ∈ f ∧ e.2 ∉ f then f ++ [e.2] else f; if e.2 ∈ f1 ∧ e.1 ∉ f1 then f1 ++ [e.1] else f1) := by
  unfold rch1
  simp
theorem pair_sh {x y : Str} (hx : okS x) (hy : okS y) : SeqAt.shaped (.tuple [.str x, .str y]) = true := by
  show (PyData.canLay0 (.tuple _) && decide (PyData.depth (.tuple _) ≤ 64)) = true
  simp only [PyData.canLay0, PyData.canLayAll0, PyData.depth, PyData.depthAll, Bool.and_eq_true, decide_eq_true_eq]
  exact ⟨⟨hx, hy, trivial⟩, by simp⟩
section
variable {P : Program} {w : World} {K : PySem.W.Frag} {mg : Str → Option Value} {base : Heap}
def spReach : Sp := fun vs H Q _ => ∃ (le : Addr) (as : List Addr) (es : List Wr) (s : Str), vs = [.ref le, .str s, .non] ∧ H le = some (.lst (as.map V.ref)) ∧ WAt H as es ∧ es.length ≤ 1000 ∧ (∀ e ∈ es, okS e.1 ∧ okS e.2) ∧
  ∀ (l : Addr) (H' : Hp), Same H H' → H l = none → H' l = some (.lst ((reachL es s none).map V.str)) → Q (.ref l) H'
theorem sc_law_reach : FnScope ["edges", "start", "left_out", "found", "turn", "edge"] ["edges", "start", "left_out"] (defScope s_law_reach) := ⟨rfl, rfl, rfl, by decide +kernel, rfl, by decide +kernel, by decide +kernel⟩
theorem good_reach (T : Tx w K mg) : Good P w K mg base CX0 1 (He.ga K "_law_reach") ["edges", "start", "left_out"] spReach := by
  obtain ⟨fd, F⟩ := T.f_law_reach
  refine ⟨fd, F.ok sc_law_reach (fun vs H Q E h => ?_) (fun cdv A outer s H vs Q E hr h => ?_), F.kp, F.bindsN fun _ _ _ _ _ _ us hl => match us, hl with | [_, _, _], _ => rfl⟩
  · obtain ⟨_, _, _, _, rfl, _⟩ := h
    rfl
  · obtain ⟨le, as, es, s, rfl, he, W, len, ok, kq⟩ := h
    have SC := sc_law_reach
    refine ⟨_, PSs.nox (pss_cons (ps_set (i := 3) SC.nd rfl (by first | exact Or.inl rfl | exact Or.inr rfl) (pe_lst (pa_cons (pv 1) pa_nil))) 
      (pss_cons (ps_for PassesOwn.never rfl (pi_range1 rfl T.n_range (pa_cons (pe_callB (lenQ K) rfl T.n_len (by decide +kernel) (pa_cons (pv 0) pa_nil)) pa_nil)) (pg_name (i := 4) SC.nd rfl (by first | exact Or.inl rfl | exact Or.inr rfl)) 
      (pss_one (ps_for PassesOwn.never rfl (listI K rfl (pv 0)) (pg_name (i := 5) SC.nd rfl (by first | exact Or.inl rfl | exact Or.inr rfl)) 
      (Evl.pss_cut (ps_if (PW.pt (pw_and (pt_cmpR (neQ K rfl hr.units) (pv 5) (pv 2) (nomark _)) (pw_and (pt_cmpR (inQ K) (pe_ix (ixT K) (pv 5) pe_int (fun _ _ => rfl)) (pv 3) rfl) (pw_and1 (pt_cmpR (notInQ K) (pe_ix (ixT K) (pv 5) pe_int (fun _ _ => rfl)) (pv 3) rfl))))) 
      (pss_one (ps_expr (pe_bm PySem.F.plainAttrs_list PySem.F.slot_list_append PySem.F.type_list_append mt_append (pv 3) (pa_cons (pe_ix (ixT K) (pv 5) pe_int (fun _ _ => rfl)) pa_nil)))) pss_nil) 
      (pss_one (ps_if (PW.pt (pw_and (pt_cmpR (neQ K rfl hr.units) (pv 5) (pv 2) (nomark _)) (pw_and (pt_cmpR (inQ K) (pe_ix (ixT K) (pv 5) pe_int (fun _ _ => rfl)) (pv 3) rfl) (pw_and1 (pt_cmpR (notInQ K) (pe_ix (ixT K) (pv 5) pe_int (fun _ _ => rfl)) (pv 3) rfl))))) 
      (pss_one (ps_expr (pe_bm PySem.F.plainAttrs_list PySem.F.slot_list_append PySem.F.type_list_append mt_append (pv 3) (pa_cons (pe_ix (ixT K) (pv 5) pe_int (fun _ _ => rfl)) pa_nil)))) pss_nil)))))) 
      (pss_one (ps_ret (pv 3))))), ?_⟩
    refine ⟨_, rfl, by show 1 ≤ sizeLine; decide, fun l hl => ?_⟩
    have nl : le ≠ l := ne_of_none he hl
    have s0 : Same H (upd H l (.lst [.str s])) := same_new hl
    have e0 : upd H l (.lst [.str s]) l = some (.lst (([s] : List Str).map V.str)) := upd_same
    generalize upd H l (.lst [.str s]) = H0 at s0 e0 ⊢
    have lw : (as.map V.ref).length = es.length := by rw [List.length_map]; exact W.1
    refine ⟨_, rfl, le, _, rfl, .inl (SqL.of (s0 _ _ he)), _, rfl, by rw [lw]; omega, by rw [lw]; omega, ?_⟩
    rw [lw, Int.toNat_natCast]
    refine for_range (lo := 0) (n := es.length) (fun i σ H' => ∃ v4 v5, σ = [some (.ref le), some (.str s), some .non, some (.ref l), v4, v5] ∧ Same H H' ∧ H' l = some (.lst ((rounds none es i [s]).map V.str)) ∧ (rounds none es i [s]).length ≤ 1 + 2 * (i * es.length)) ⟨none, none, rfl, s0, e0, by show 1 ≤ _; omega⟩ ?_ ?_
    · rintro i σ H' hi ⟨v4, v5, rfl, s1, e1, ll⟩
      refine ⟨_, rfl, le, rfl, ⟨_, SqL.of (s1 _ _ he)⟩, ?_⟩
      refine for_list (K := K) (a := le) (xs := as.map V.ref) (fun j σ H' => ∃ v5, σ = [some (.ref le), some (.str s), some .non, some (.ref l), some (.int (0 + (i : Nat))), v5] ∧ Same H H' ∧ H' l = some (.lst (((es.take j).foldl (rch1 none) (rounds none es i [s])).map V.str)) ∧ ((es.take j).foldl (rch1 none) (rounds none es i [s])).length ≤ 1 + 2 * (i * es.length) + 2 * j) ⟨v5, rfl, s1, e1, ll⟩ (fun j σ H' _ ⟨_, _, s2, _⟩ => SqL.of (s2 _ _ he)) ?_ ?_
      · rintro j y σ H' hy ⟨v5, rfl, s2, e2, l2⟩
        rw [List.getElem?_map] at hy
        obtain ⟨a, ha, rfl⟩ := Option.map_eq_some_iff.mp hy
        obtain ⟨e, hge, hta⟩ := W.2 j a ha
        have hje := (List.getElem?_eq_some_iff.mp hge).1
        have hem := List.mem_of_getElem? hge
        rw [take_snoc hge, List.foldl_append]
        have bnd : i * es.length ≤ 1000 * 1000 := Nat.mul_le_mul (by omega) len
        generalize (es.take j).foldl (rch1 none) (rounds none es i [s]) = f at e2 l2 ⊢
        have h2a := s2 _ _ hta
        have estep : [e].foldl (rch1 none) f = rch1 none f e := rfl
        rw [estep, rch_step]
        have llr := rch1_len f e
        rw [rch_step] at llr
        obtain ⟨o1, o2⟩ := ok e hem
        have half : ∀ (f : List Str) (H2 : Hp) (i1 i2 : Int) (x y : Str) (D0 : Ends), f.length ≤ 3000000 → Same H H2 → H2 l = some (.lst (f.map V.str)) → atI [V.str e.1, V.str e.2] i1 = some (.str x) → atI [V.str e.1, V.str e.2] i2 = some (.str y) →
            (∀ H3, Same H H3 → H3 l = some (.lst ((if x ∈ f ∧ y ∉ f then f ++ [y] else f).map V.str)) → D0.nx [some (.ref le), some (.str s), some .non, some (.ref l), some (.int (0 + (i : Nat))), some (.ref a)] H3) →
            tIfS (tAnd (tTest (tOp (rNeD K) (tVar 5) (tVar 2))) (tAnd (tTest (tOp (rIn K false) (tOp (rIxT K) (tVar 5) (tC (.int i1))) (tVar 3))) (tTest (tOp (rIn K true) (tOp (rIxT K) (tVar 5) (tC (.int i2))) (tVar 3)))))
              (tDrop (tBM K "list" rAppend (tVar 3) (tCons (tOp (rIxT K) (tVar 5) (tC (.int i2))) tNil))) tNext D0 [some (.ref le), some (.str s), some .non, some (.ref l), some (.int (0 + (i : Nat))), some (.ref a)] H2 := by
          intro f H2 i1 i2 x y D0 lf s2 e2 h1 h2 mid
          have hta2 := s2 _ _ hta
          refine ⟨_, rfl, _, rfl, .tuple [.str e.1, .str e.2], .none, .tup (SqT.of hta2) (.cons (.str _) (.cons (.str _) .nil)), .non, pair_sh o1 o2, rfl, _, rfl, iteT (B := False) ?_⟩
          refine ⟨_, rfl, a, _, i1, _, rfl, rfl, SqT.of hta2, h1, _, rfl, l, _, rfl, .inl (SqL.of e2), rfl, strs_flat _, _, rfl, ?_⟩
          rw [in_strs]
          by_cases c1 : x ∈ f
          · rw [decide_eq_true c1]
            refine iteT (B := False) ⟨_, rfl, a, _, i2, _, rfl, rfl, SqT.of hta2, h2, _, rfl, l, _, rfl, .inl (SqL.of e2), rfl, strs_flat _, _, rfl, ?_⟩
            show if (!inV (V.str y) (f.map V.str)) = true then _ else _
            rw [in_strs]
            by_cases c2 : y ∈ f
            · rw [decide_eq_true c2]
              exact iteF (A := False) (mid H2 s2 (by rw [if_neg (fun z => z.2 c2)]; exact e2))
            · rw [decide_eq_false c2]
              refine iteT (B := False) ⟨_, rfl, .inl ⟨rfl, _, SqL.of e2⟩, _, rfl, a, _, i2, _, rfl, rfl, SqT.of hta2, h2, l, _, _, rfl, rfl, e2, by rw [List.length_map, sizeLine_eq]; omega, ?_⟩
              exact mid _ (same_upd s2 hl) (by rw [upd_same, if_pos ⟨c1, c2⟩, List.map_append]; rfl)
          · rw [decide_eq_false c1]
            exact iteF (A := False) (mid H2 s2 (by rw [if_neg (fun z => c1 z.1)]; exact e2))
        simp only at llr
        refine ⟨fun σ' H' => σ' = [some (.ref le), some (.str s), some .non, some (.ref l), some (.int (0 + (i : Nat))), some (.ref a)] ∧ Same H H' ∧ H' l = some (.lst ((if e.1 ∈ f ∧ e.2 ∉ f then f ++ [e.2] else f).map V.str)), ?_, ?_⟩
        · exact half f H' 0 1 e.1 e.2 _ (by omega) s2 e2 rfl rfl fun H3 s3 e3 => ⟨rfl, s3, e3⟩
        · rintro σ' H3 ⟨rfl, s3, e3⟩
          exact half _ H3 1 0 e.2 e.1 _ (by split <;> (try simp only [List.length_append, List.length_cons, List.length_nil]) <;> omega) s3 e3 rfl rfl fun H4 s4 e4 => ⟨_, rfl, s4, e4, Nat.le_trans llr (by omega)⟩
      · rintro σ H' ⟨v5, rfl, s2, e2, l2⟩
        rw [lw, List.take_length] at e2 l2
        refine ⟨_, _, rfl, s2, e2, ?_⟩
        show (round none es (rounds none es i [s])).length ≤ _
        have : (i + 1) * es.length = i * es.length + es.length := Nat.succ_mul _ _
        unfold round
        omega
    · rintro σ H' ⟨v4, v5, rfl, s1, e1, ll⟩
      exact ⟨_, rfl, kq l H' s1 hl e1⟩
end
end Yd
set_option Elab.async false
set_option linter.all false
set_option maxHeartbeats 2000000
/-! One line of a yard, read as the law reads it. -/
namespace Yd
open PySem PySem.Spec PyProof.Rows L2 Xo
section
variable {c : Bool} {hs : List Str} {es les : List Wr} {k0 : Str} {wr : List Str} {y : Str}
def P1 (c : Bool) (hs : List Str) (les : List Wr) (k0 : Str) (wr : List Str) : Prop := ∃ x1, wr = [x1] ∧ k0 = kwY c ∧ les = [] ∧ smallB x1 = true ∧ x1 ∉ hs
def P2 (c : Bool) (hs : List Str) (les : List Wr) (k0 : Str) (wr : List Str) : Prop := c = false ∧ k0 = ("wire" : Str) ∧ ∃ a b, wr = [a, b] ∧ a ∈ hs ∧ b ∈ hs ∧ b ∉ reachL les a none
def P3 (c : Bool) (hs : List Str) (les : List Wr) (y : Str) : Prop := y = ("done" : Str) ∧ hs ≠ [] ∧ (c = true ∨ les.length + 1 = hs.length)
theorem take_bench (S : RSt c hs es false) (hc2 : c = false → les = es) {x1 : Str} (e1 : wr = [x1]) (e2 : k0 = kwY c) (e3 : les = []) (e4 : smallB x1 = true) (e5 : x1 ∉ hs) :
    takeY c hs es false (k0 :: wr) = if 14 < hs.length + 1 then .many else .ok (hs ++ [x1]) es false := by
  have hes : es = [] := by
    cases c with
    | true => exact S.esn rfl rfl
    | false => rw [← hc2 rfl]; exact e3
  subst e1
  have : takeY c hs es false [k0, x1] = benchY hs es x1 := by unfold takeY; simp [e2]
  rw [this]
  unfold benchY
  rw [hes]
  simp only [ne_eq, not_true_eq_false, if_false, e4, Bool.true_eq_false, if_neg e5]
theorem take_wire (hc2 : c = false → les = es) {a b : Str} (c0 : c = false) (e1 : wr = [a, b]) (e2 : k0 = ("wire" : Str)) (ha : a ∈ hs) (hb : b ∈ hs) (hr : b ∉ reachL les a none) :
    takeY c hs es false (k0 :: wr) = .ok hs (es ++ [(a, b)]) false := by
  subst e1
  have : takeY c hs es false [k0, a, b] = wireY hs es a b := by unfold takeY; simp [e2, c0]
  rw [this]
  unfold wireY
  rw [← hc2 c0, if_neg (by simp [ha, hb]), if_neg hr]
theorem take_done (S : RSt c hs es false) (hc2 : c = false → les = es) (h : (k0 :: wr) = [("done" : Str)]) (hne : hs ≠ []) (hl : c = true ∨ les.length + 1 = hs.length) :
    takeY c hs es false (k0 :: wr) = .ok hs (if c = true then hs.zip hs.tail else es) true := by
  have : takeY c hs es false (k0 :: wr) = endY c hs es := by unfold takeY; simp [h]
  rw [this]
  unfold endY
  rw [if_neg hne]
  cases c with
  | true => rfl
  | false =>
    have := hl.resolve_left (by simp)
    rw [hc2 rfl] at this
    simp only [Bool.false_eq_true, if_false]
    rw [if_neg (by omega)]
theorem take_bad (S : RSt c hs es false) (hc1 : c = true → les = []) (hc2 : c = false → les = es) (hdn : (k0 :: wr) = [("done" : Str)] ↔ y = ("done" : Str)) (n1 : ¬ P1 c hs les k0 wr) (n2 : ¬ P2 c hs les k0 wr) (n3 : ¬ P3 c hs les y) : takeY c hs es false (k0 :: wr) = .bad := by
  have les0 : les = [] ↔ es = [] := by
    cases c with
    | true => exact ⟨fun _ => S.esn rfl rfl, fun _ => hc1 rfl⟩
    | false => rw [hc2 rfl]
  by_cases hd : (k0 :: wr) = [("done" : Str)]
  · have : takeY c hs es false (k0 :: wr) = endY c hs es := by unfold takeY; simp [hd]
    rw [this]
    unfold endY
    by_cases hne : hs = []
    · rw [if_pos hne]
    · rw [if_neg hne]
      cases c with
      | true => exact absurd ⟨hdn.mp hd, hne, .inl rfl⟩ n3
      | false =>
        simp only [Bool.false_eq_true, if_false]
        have fl := (S.frst rfl).le hne
        have : ¬ les.length + 1 = hs.length := fun z => n3 ⟨hdn.mp hd, hne, .inr z⟩
        rw [hc2 rfl] at this
        rw [if_pos (by omega)]
  · unfold takeY
    simp only [Bool.false_eq_true, if_false, if_neg hd]
    match wr, n1, n2 with
    | [], _, _ => rfl
    | [x1], n1, _ =>
      by_cases hk : k0 = kwY c
      · simp only [if_pos hk]
        unfold benchY
        by_cases h1 : es = []
        · rw [if_neg (fun z => z h1)]
          cases h2 : smallB x1 with
          | false => simp
          | true =>
            simp only [Bool.true_eq_false, if_false]
            by_cases h3 : x1 ∈ hs
            · rw [if_pos h3]
            · exact absurd ⟨x1, rfl, hk, les0.mpr h1, h2, h3⟩ n1
        · rw [if_pos h1]
      · simp only [if_neg hk]
    | [a, b], _, n2 =>
      by_cases hk : k0 = ("wire" : Str) ∧ c = false
      · simp only [if_pos hk]
        unfold wireY
        by_cases h1 : a ∉ hs ∨ b ∉ hs
        · rw [if_pos h1]
        · rw [if_neg h1]
          by_cases h2 : b ∈ reachL es a none
          · rw [if_pos h2]
          · have ha : a ∈ hs := by
              by_cases z : a ∈ hs
              · exact z
              · exact absurd (.inl z) h1
            have hb : b ∈ hs := by
              by_cases z : b ∈ hs
              · exact z
              · exact absurd (.inr z) h1
            exact absurd ⟨hk.2, hk.1, a, b, rfl, ha, hb, by rw [hc2 hk.2]; exact h2⟩ n2
      · simp only [if_neg hk]
    | _ :: _ :: _ :: _, _, _ => rfl
end
end Yd
set_option Elab.async false
set_option linter.all false
set_option maxRecDepth 100000
set_option maxHeartbeats 16000000
namespace Yd
open PySem PySem.Spec PyProof.Rows L2 Xo
theorem cutG {H : Hp} {G : Hp → Prop} {g : Prop} (m : (∀ H2, Same H H2 → G H2) → g) (k : ∀ H2, Same H H2 → G H2) : g := m k
theorem cutN {H : Hp} {G : Hp → Prop} {N g : Prop} (m : (∀ H2, Same H H2 → N → G H2) → g) (k : ∀ H2, Same H H2 → N → G H2) : g := m k
theorem done_split (r : Str) : Txt.split r " " = [("done" : Str)] ↔ r = ("done" : Str) := by
  constructor
  · intro h
    have := StrLaws.join_split r " "
    rw [h] at this
    exact this.symm
  · intro h
    rw [h]
    decide +kernel
/-- what the law's reading gives -/
def ReadAt (H : Hp) (r : Addr) : RdO → Prop
  | .bad line => H r = some (.tup [.str "bad", .int line])
  | .many _ n => H r = some (.tup [.str "many", .int n])
  | .ok c hs es => ∃ lh le as, H r = some (.tup [.str "good", .bl c, .ref lh, .ref le]) ∧ H lh = some (.lst (hs.map V.str)) ∧ H le = some (.lst (as.map V.ref)) ∧ WAt H as es
theorem wat_dp {K : PySem.W.Frag} {H : Hp} : ∀ {as : List Addr} {es : List Wr}, WAt H as es → (∀ e ∈ es, okS e.1 ∧ okS e.2) → ∃ ds : List PyData, DpAll K H (as.map V.ref) ds ∧ ds.length = es.length ∧ PyData.canLayAll0 ds = true ∧ PyData.depthAll ds ≤ 1
  | [], [], _, _ => ⟨[], .nil, rfl, rfl, by simp [PyData.depthAll]⟩
  | [], _ :: _, W, _ => by have := W.1; simp at this
  | _ :: _, [], W, _ => by have := W.1; simp at this
  | a :: as, e :: es, W, ok => by
    obtain ⟨ds, h1, h2, h3, h4⟩ := wat_dp (K := K) (H := H) (as := as) (es := es) ⟨by have := W.1; simpa using this, fun i b hb => by have := W.2 (i + 1) b (by simpa using hb); simpa using this⟩ fun e he => ok e (List.mem_cons_of_mem _ he)
    obtain ⟨e', he', ha⟩ := W.2 0 a rfl
    simp at he'
    subst he'
    obtain ⟨o1, o2⟩ := ok e List.mem_cons_self
    refine ⟨.tuple [.str e.1, .str e.2] :: ds, .cons (.tup (SqT.of ha) (.cons (.str _) (.cons (.str _) .nil))) h1, by simp [h2], ?_, ?_⟩
    · simp only [PyData.canLayAll0, PyData.canLay0, Bool.and_eq_true]
      exact ⟨⟨o1, o2, trivial⟩, h3⟩
    · simp only [PyData.depthAll, PyData.depth]
      omega
theorem list_sh {ds : List PyData} (h : PyData.canLayAll0 ds = true) (d : PyData.depthAll ds ≤ 5) : SeqAt.shaped (.list ds) = true := by
  show (PyData.canLay0 (.list ds) && decide (PyData.depth (.list ds) ≤ 64)) = true
  rw [Bool.and_eq_true]
  exact ⟨by simp only [PyData.canLay0]; exact h, decide_eq_true (by simp only [PyData.depth]; omega)⟩
theorem eqv_nil : ∀ ds : List PyData, PyData.eqv (.list ds) (.list []) = ds.isEmpty
  | [] => rfl
  | _ :: _ => rfl
theorem goY_cons (c : Bool) (y : Str) (rs : List Str) (k : Nat) (hs : List Str) (es : List Wr) (en : Bool) : goY c (y :: rs) k hs es en = match takeY c hs es en (Txt.split y " ") with
    | .bad => .bad ((k : Int) + 1)
    | .many => .many "benches" 14
    | .ok hs' es' en' => goY c rs (k + 1) hs' es' en' := rfl
theorem small_ok {x : Str} (h : smallB x = true) : okS x := okS_iff.mpr fun c hc => by
  unfold smallB at h
  simp only [Bool.and_eq_true, List.all_eq_true] at h
  have := low_lt (h.2.2.1 c hc)
  omega
section
variable {P : Program} {w : World} {K : PySem.W.Frag} {mg : Str → Option Value} {base : Heap}
def spLRead : Sp := fun vs H Q _ => ∃ x : Str, vs = [.str x] ∧ okS x ∧ x.length ≤ 120000 ∧ ∀ (H' : Hp) (r : Addr), Same H H' → H r = none → ReadAt H' r (rowsY (Txt.split x "\n")) → Q (.ref r) H'
theorem sc_law_read : FnScope ["note", "rows", "days", "halls", "edges", "ended", "k", "words"] ["note"] (defScope s_law_read) := ⟨rfl, rfl, rfl, by decide +kernel, rfl, by decide +kernel, by decide +kernel⟩
theorem good_lread (T : Tx w K mg) : Good P w K mg base CX0 2 (He.ga K "_law_read") ["note"] spLRead := by
  obtain ⟨fd, F⟩ := T.f_law_read
  obtain ⟨_, G_law_small, k_law_small, b_law_small⟩ := good_lsmall (P := P) (w := w) (base := base) T
  obtain ⟨_, G_law_reach, k_law_reach, b_law_reach⟩ := good_reach (P := P) (w := w) (base := base) T
  refine ⟨fd, F.ok sc_law_read (fun vs H Q E h => ?_) (fun cdv A outer s H vs Q E hr h => ?_), F.kp, F.bindsN fun _ _ _ _ _ _ us hl => match us, hl with | [_], _ => rfl⟩
  · obtain ⟨_, rfl, _⟩ := h
    rfl
  · obtain ⟨x, rfl, hx, hlx, kq⟩ := h
    have SC := sc_law_read
    refine ⟨_, PSs.nox (pss_cons (ps_set (i := 1) SC.nd rfl (by first | exact Or.inl rfl | exact Or.inr rfl) (pe_split (pv 0) pe_str)) 
      (pss_cons (ps_if (pt_cmpR (notInQ K) (pe_ix (ixL K) (pv 1) pe_int (fun _ _ => rfl)) (pe_lst (pa_cons pe_str (pa_cons pe_str pa_nil))) rfl) 
      (pss_one (ps_ret (pe_tup (pa_cons pe_str (pa_cons pe_int pa_nil))))) pss_nil) 
      (pss_cons (ps_set (i := 2) SC.nd rfl (by first | exact Or.inl rfl | exact Or.inr rfl) (pe_cmpR op_eq (pe_ix (ixL K) (pv 1) pe_int (fun _ _ => rfl)) pe_str (nomark _))) 
      (pss_cons (ps_set (i := 3) SC.nd rfl (by first | exact Or.inl rfl | exact Or.inr rfl) (pe_lst pa_nil)) 
      (pss_cons (ps_set (i := 4) SC.nd rfl (by first | exact Or.inl rfl | exact Or.inr rfl) (pe_lst pa_nil)) 
      (pss_cons (ps_set (i := 5) SC.nd rfl (by first | exact Or.inl rfl | exact Or.inr rfl) pe_bl) 
      (pss_cons (ps_for PassesOwn.never rfl (pi_range2 rfl T.n_range (pa_cons pe_int (pa_cons (pe_callB (lenQ K) rfl T.n_len (by decide +kernel) (pa_cons (pv 1) pa_nil)) pa_nil))) (pg_name (i := 6) SC.nd rfl (by first | exact Or.inl rfl | exact Or.inr rfl)) 
      (pss_cons (ps_set (i := 7) SC.nd rfl (by first | exact Or.inl rfl | exact Or.inr rfl) (pe_split (pe_ix (ixL K) (pv 1) (pv 6) (fun _ _ => rfl)) pe_str)) 
      (pss_one (ps_if (PW.pt (pw_and (pt_not (pt_val (pv 5))) (pw_and (pt_cmpR op_eq (pe_ix (ixL K) (pv 7) pe_int (fun _ _ => rfl)) (pe_ifExp (pt_val (pv 2)) pe_str pe_str) (nomark _)) (pw_and (pt_cmpR op_eq (pe_callB (lenQ K) rfl T.n_len (by decide +kernel) (pa_cons (pv 7) pa_nil)) pe_int (nomark _)) (pw_and (pt_cmpR (eqQ K rfl hr.units) (pv 4) (pe_lst pa_nil) (nomark _)) (pw_and (pt_val (pe_call G_law_small (hr.mono (by decide)) rfl T.g_law_small k_law_small b_law_small .nil pass0 (pa_cons (pe_ix (ixL K) (pv 7) pe_int (fun _ _ => rfl)) pa_nil))) (pw_and1 (pt_cmpR (notInQ K) (pe_ix (ixL K) (pv 7) pe_int (fun _ _ => rfl)) (pv 3) rfl)))))))) 
      (pss_cons (ps_expr (pe_bm PySem.F.plainAttrs_list PySem.F.slot_list_append PySem.F.type_list_append mt_append (pv 3) (pa_cons (pe_ix (ixL K) (pv 7) pe_int (fun _ _ => rfl)) pa_nil))) 
      (pss_one (ps_if (pt_cmpR op_gt (pe_callB (lenQ K) rfl T.n_len (by decide +kernel) (pa_cons (pv 3) pa_nil)) pe_int (nomark _)) 
      (pss_one (ps_ret (pe_tup (pa_cons pe_str (pa_cons pe_int pa_nil))))) pss_nil))) 
      (pss_one (ps_if (PW.pt (pw_and (pt_not (pt_val (pv 5))) (pw_and (pt_not (pt_val (pv 2))) (pw_and (pt_cmpR op_eq (pe_ix (ixL K) (pv 7) pe_int (fun _ _ => rfl)) pe_str (nomark _)) (pw_and (pt_cmpR op_eq (pe_callB (lenQ K) rfl T.n_len (by decide +kernel) (pa_cons (pv 7) pa_nil)) pe_int (nomark _)) (pw_and (pt_cmpR (inQ K) (pe_ix (ixL K) (pv 7) pe_int (fun _ _ => rfl)) (pv 3) rfl) (pw_and (pt_cmpR (inQ K) (pe_ix (ixL K) (pv 7) pe_int (fun _ _ => rfl)) (pv 3) rfl) (pw_and1 (pt_cmpR (notInQ K) (pe_ix (ixL K) (pv 7) pe_int (fun _ _ => rfl)) (pe_call G_law_reach (hr.mono (by decide)) rfl T.g_law_reach k_law_reach b_law_reach .nil pass0 (pa_cons (pv 4) (pa_cons (pe_ix (ixL K) (pv 7) pe_int (fun _ _ => rfl)) (pa_cons pe_non pa_nil)))) rfl))))))))) 
      (pss_one (ps_expr (pe_bm PySem.F.plainAttrs_list PySem.F.slot_list_append PySem.F.type_list_append mt_append (pv 4) (pa_cons (pe_tup (pa_cons (pe_ix (ixL K) (pv 7) pe_int (fun _ _ => rfl)) (pa_cons (pe_ix (ixL K) (pv 7) pe_int (fun _ _ => rfl)) pa_nil))) pa_nil)))) 
      (pss_one (ps_if (PW.pt (pw_and (pt_not (pt_val (pv 5))) (pw_and (pt_cmpR op_eq (pe_ix (ixL K) (pv 1) (pv 6) (fun _ _ => rfl)) pe_str (nomark _)) (pw_and (pt_cmpR (neQ K rfl hr.units) (pv 3) (pe_lst pa_nil) (nomark _)) (pw_and1 (PW.pt (pw_or (pt_val (pv 2)) (pw_or1 (pt_cmpR op_eq (pe_callB (lenQ K) rfl T.n_len (by decide +kernel) (pa_cons (pv 4) pa_nil)) (pe_op op_sub (pe_callB (lenQ K) rfl T.n_len (by decide +kernel) (pa_cons (pv 3) pa_nil)) pe_int) (nomark _)))))))))) 
      (pss_one (ps_set (i := 5) SC.nd rfl (by first | exact Or.inl rfl | exact Or.inr rfl) pe_bl)) 
      (pss_one (ps_ret (pe_tup (pa_cons pe_str (pa_cons (pe_op op_add (pv 6) pe_int) pa_nil))))))))))))) 
      (pss_cons (ps_if (pt_not (pt_val (pv 5))) 
      (pss_one (ps_ret (pe_tup (pa_cons pe_str (pa_cons (pe_op op_add (pe_callB (lenQ K) rfl T.n_len (by decide +kernel) (pa_cons (pv 1) pa_nil)) pe_int) pa_nil))))) pss_nil) 
      (pss_one (ps_ret (pe_tup (pa_cons pe_str (pa_cons (pv 2) (pa_cons (pv 3) (pa_cons (pe_ifExp (pt_val (pv 2)) (pe_lc (own := [("k", 6)]) (g := gName 6) (tt := tYes) rfl SC.nd (pi_range1 rfl T.n_range (pa_cons (pe_op op_sub (pe_callB (lenQ K) rfl T.n_len (by decide +kernel) (pa_cons (pv 3) pa_nil)) pe_int) pa_nil)) (blkOk_by (N := ["note", "rows", "days", "halls", "edges", "ended", "k", "words"]) (sc := defScope s_law_read) (by decide +kernel)) (fun _ _ _ _ _ => (pg_name (i := 6) SC.nd rfl (by first | exact Or.inl rfl | exact Or.inr rfl))) (fun _ _ _ _ _ => pts_nil) (fun _ _ _ _ _ => (pe_tup (pa_cons (pe_ix (ixL K) (pv 3) (pv 6) (fun _ _ => rfl)) (pa_cons (pe_ix (ixL K) (pv 3) (pe_op op_add (pv 6) pe_int) (fun _ _ => rfl)) pa_nil))))) (pv 4)) pa_nil))))))))))))))), ?_⟩
    refine ⟨_, rfl, ⟨_, rfl⟩, x, "\n", rfl, rfl, by decide +kernel, by rw [sizeLine_eq]; omega, fun lp hlp => ?_⟩
    have hps : ∀ q ∈ Txt.split x "\n", q.length ≤ 200000 ∧ okS q := fun q hq => ⟨by have := split_part hq; omega, split_ok sep_nl hx hq⟩
    have hrn := (split_len (x := x) sep_nl)
    have s1 : Same H (upd H lp (.lst ((Txt.split x "\n").map V.str))) := same_new hlp
    have e1 : upd H lp (.lst ((Txt.split x "\n").map V.str)) lp = some (.lst ((Txt.split x "\n").map V.str)) := upd_same
    generalize Txt.split x "\n" = rows at kq hps hrn e1 s1 ⊢
    generalize upd H lp (.lst (rows.map V.str)) = H1 at s1 e1 ⊢
    obtain ⟨r, rs, rfl⟩ : ∃ r rs, rows = r :: rs := by
      cases rows with
      | nil => exact absurd rfl hrn.2
      | cons r rs => exact ⟨r, rs, rfl⟩
    have hlen : (r :: rs).length ≤ x.length + 1 := hrn.1
    have ret2 : ∀ (H2 : Hp) (o : RdO) (xs : List V), Same H H2 → rowsY (r :: rs) = o → (∀ H3 p, H3 p = some (.tup xs) → ReadAt H3 p o) → ∀ p, H2 p = none → Q (.ref p) (upd H2 p (.tup xs)) := fun H2 o xs s2 e h p hp =>
      kq _ p (same_upd s2 (Same.free s2 hp)) (Same.free s2 hp) (by rw [e]; exact h _ p upd_same)
    -- the first row
    refine ⟨_, rfl, lp, _, 0, _, rfl, rfl, SqL.of e1, at_zero _ _, by show 2 ≤ sizeLine; decide, fun t ht => ?_⟩
    have s2 : Same H1 (upd H1 t (.lst [.str "yard", .str "course"])) := same_new ht
    have e2 : upd H1 t (.lst [.str "yard", .str "course"]) t = some (.lst (([("yard" : Str), ("course" : Str)]).map V.str)) := upd_same
    generalize upd H1 t (.lst [.str "yard", .str "course"]) = H2 at s2 e2 ⊢
    have s12 := Same.trans s1 s2
    refine ⟨t, _, rfl, .inl (SqL.of e2), rfl, strs_flat _, _, rfl, ?_⟩
    show if (!inV (V.str r) (([("yard" : Str), ("course" : Str)]).map V.str)) = true then _ else _
    rw [in_strs]
    by_cases hyc : r ∈ [("yard" : Str), ("course" : Str)]
    · rw [decide_eq_true hyc]
      refine iteF (A := False) ?_
      have hyc' : r = ("yard" : Str) ∨ r = ("course" : Str) := by simpa using hyc
      have er : rowsY (r :: rs) = goY (decide (r = ("course" : Str))) rs 1 [] [] false := by
        show (if r ≠ ("yard" : Str) ∧ r ≠ ("course" : Str) then _ else _) = _
        rw [if_neg (fun q => hyc'.elim q.1 q.2)]
      have el2 := s2 _ _ e1
      refine ⟨_, rfl, lp, _, 0, _, rfl, rfl, SqL.of el2, at_zero _ _, rfl, ?_⟩
      rw [str_dec]
      generalize decide (r = ("course" : Str)) = c at er ⊢
      refine ⟨by show 0 ≤ sizeLine; decide, fun lh hlh => ?_⟩
      have s3 : Same H2 (upd H2 lh (.lst [])) := same_new hlh
      have e3 : upd H2 lh (.lst []) lh = some (.lst (([] : List Str).map V.str)) := upd_same
      generalize upd H2 lh (.lst []) = H3 at s3 e3 ⊢
      refine ⟨by show 0 ≤ sizeLine; decide, fun le hle => ?_⟩
      have s4 : Same H3 (upd H3 le (.lst [])) := same_new hle
      have e4 : upd H3 le (.lst []) le = some (.lst (([] : List Addr).map V.ref)) := upd_same
      generalize upd H3 le (.lst []) = H4 at s4 e4 ⊢
      have s14 := Same.trans (Same.trans s12 s3) s4
      have zh : H lh = none := Same.free s12 hlh
      have ze : H le = none := Same.free (Same.trans s12 s3) hle
      have nhe : lh ≠ le := ne_of_none e3 hle
      have el4 := s4 _ _ (s3 _ _ el2)
      have nlh : lp ≠ lh := ne_of_none el2 hlh
      have nle : lp ≠ le := ne_of_none (s3 _ _ el2) hle
      have lr : ((r :: rs).map V.str).length = rs.length + 1 := by rw [List.length_map]; rfl
      have ln : rs.length + 1 ≤ x.length + 1 := hlen
      refine ⟨_, rfl, lp, _, rfl, .inl (SqL.of el4), 1, _, rfl, ⟨by decide, by decide, by rw [lr]; omega, by rw [lr]; omega⟩, ?_⟩
      rw [lr, show (((rs.length + 1 : Nat) : Int) - 1).toNat = rs.length by omega]
      refine for_range (lo := 1) (n := rs.length) (fun i σ H' => ∃ (v6 v7 : Option V) (hs : List Str) (as : List Addr) (es les : List Wr) (en : Bool), σ = [some (.str x), some (.ref lp), some (.bl c), some (.ref lh), some (.ref le), some (.bl en), v6, v7] ∧ Same H H' ∧ H' lp = some (.lst ((r :: rs).map V.str)) ∧
        H' lh = some (.lst (hs.map V.str)) ∧ H' le = some (.lst (as.map V.ref)) ∧ WAt H' as les ∧ (c = true → les = []) ∧ (c = false → les = es) ∧ RSt c hs es en ∧ rowsY (r :: rs) = goY c (rs.drop i) (i + 1) hs es en) ?_ ?_ ?_
      · exact ⟨none, none, [], [], [], [], false, rfl, s14, el4, s4 _ _ e3, e4, WAt.nil, fun _ => rfl, fun _ => rfl, RSt.new, er⟩
      · rintro i σ H' hi ⟨v6, v7, hs, as, es, les, en, rfl, s', elp, eh, ee, W, hc1, hc2, S, eg⟩
        obtain ⟨y, hy⟩ : ∃ y, rs[i]? = some y := ⟨_, List.getElem?_eq_getElem hi⟩
        have hy1 : ((r :: rs).map V.str)[i + 1]? = some (.str y) := by rw [List.getElem?_map, List.getElem?_cons_succ, hy]; rfl
        have ex : rs.drop i = y :: rs.drop (i + 1) := by
          rw [List.drop_eq_getElem_cons hi]
          rw [List.getElem?_eq_getElem hi] at hy
          rw [Option.some.inj hy]
        have hym := hps y (List.mem_cons_of_mem _ (List.mem_of_getElem? hy))
        have ec : (1 : Int) + (i : Nat) = ((i + 1 : Nat) : Int) := by omega
        rw [ex] at eg
        refine ⟨_, rfl, _, rfl, lp, _, _, _, rfl, rfl, SqL.of elp, (by rw [ec]; exact atI_nat hy1), ⟨_, rfl⟩, y, " ", rfl, rfl, by decide +kernel, by rw [sizeLine_eq]; omega, fun wa hwa => ?_⟩
        have s5 : Same H' (upd H' wa (.lst ((Txt.split y " ").map V.str))) := same_new hwa
        have ew : upd H' wa (.lst ((Txt.split y " ").map V.str)) wa = some (.lst ((Txt.split y " ").map V.str)) := upd_same
        have hwl : ∀ q ∈ Txt.split y " ", q.length ≤ 200000 ∧ okS q := fun q hq => ⟨by have := split_part hq; omega, split_ok sep_sp hym.2 hq⟩
        have hwn := (split_len (x := y) sep_sp).2
        have hdn := done_split y
        have nwl : lh ≠ wa := ne_of_none eh hwa
        have nwe : le ≠ wa := ne_of_none ee hwa
        have egb : takeY c hs es en (Txt.split y " ") = .bad → rowsY (r :: rs) = .bad (((i + 1 : Nat) : Int) + 1) := fun e => by rw [eg, goY_cons, e]
        have egm : takeY c hs es en (Txt.split y " ") = .many → rowsY (r :: rs) = .many "benches" 14 := fun e => by rw [eg, goY_cons, e]
        have ego : ∀ hs' es' en', takeY c hs es en (Txt.split y " ") = .ok hs' es' en' → rowsY (r :: rs) = goY c (rs.drop (i + 1)) (i + 1 + 1) hs' es' en' := fun hs' es' en' e => by rw [eg, goY_cons, e]
        clear eg
        generalize Txt.split y " " = ws at ew s5 hwl hwn hdn egb egm ego ⊢
        generalize upd H' wa (.lst (ws.map V.str)) = H5 at s5 ew ⊢
        obtain ⟨k0, wr, rfl⟩ : ∃ k0 wr, ws = k0 :: wr := by
          cases ws with
          | nil => exact absurd rfl hwn
          | cons k0 wr => exact ⟨k0, wr, rfl⟩
        have s05 := Same.trans s' s5
        have bad : takeY c hs es en (k0 :: wr) = .bad → ∀ H6, Same H5 H6 → ∀ p, H6 p = none → Q (.ref p) (upd H6 p (.tup [.str "bad", .int (1 + (i : Nat) + 1)])) := fun e H6 s6 =>
          ret2 H6 _ _ (Same.trans s05 s6) (egb e) fun H7 p e7 => by show H7 p = _; rw [e7, ec]
        cases en with
        | true =>
          have tb : takeY c hs es true (k0 :: wr) = .bad := by unfold takeY; rfl
          exact ⟨_, rfl, _, rfl, iteF (A := False) (iteF (A := False) ⟨_, rfl, _, rfl, iteF (A := False) (iteF (A := False) ⟨_, rfl, _, rfl, iteF (A := False) (iteF (A := False) ⟨_, rfl, _, _, rfl, rfl, by show 2 ≤ sizeLine; decide, bad tb H5 (Same.refl _)⟩)⟩)⟩)⟩
        | false =>
          have few := S.few
          have okes : ∀ e ∈ les, okS e.1 ∧ okS e.2 := fun e he => by
            cases c with
            | true => rw [hc1 rfl] at he; simp at he
            | false =>
              rw [hc2 rfl] at he
              exact ⟨small_ok (S.sm _ (S.wf e he).1), small_ok (S.sm _ (S.wf e he).2)⟩
          have lw : ((k0 :: wr).map V.str).length = wr.length + 1 := by rw [List.length_map]; rfl
          have nxt : ∀ (H6 : Hp) (hs' : List Str) (as' : List Addr) (es' les' : List Wr) (en' : Bool), takeY c hs es false (k0 :: wr) = .ok hs' es' en' → Same H H6 → H6 lp = some (.lst ((r :: rs).map V.str)) → H6 lh = some (.lst (hs'.map V.str)) → H6 le = some (.lst (as'.map V.ref)) → WAt H6 as' les' → (c = true → les' = []) → (c = false → les' = es') →
              ∃ (v6 v7 : Option V) (hs : List Str) (as : List Addr) (es les : List Wr) (en : Bool), [some (V.str x), some (.ref lp), some (.bl c), some (.ref lh), some (.ref le), some (.bl en'), some (.int (1 + (i : Nat))), some (.ref wa)] = [some (V.str x), some (.ref lp), some (.bl c), some (.ref lh), some (.ref le), some (.bl en), v6, v7] ∧ Same H H6 ∧ H6 lp = some (.lst ((r :: rs).map V.str)) ∧
                H6 lh = some (.lst (hs.map V.str)) ∧ H6 le = some (.lst (as.map V.ref)) ∧ WAt H6 as les ∧ (c = true → les = []) ∧ (c = false → les = es) ∧ RSt c hs es en ∧ rowsY (r :: rs) = goY c (rs.drop (i + 1)) (i + 1 + 1) hs es en :=
            fun H6 hs' as' es' les' en' e s6 q1 q2 q3 q4 q5 q6 => ⟨_, _, hs', as', es', les', en', rfl, s6, q1, q2, q3, q4, q5, q6, S.next e, ego hs' es' en' e⟩
          cases c with
          | true =>
            -- the first test
            apply cutN (H := H5) (N := ¬ P1 true hs les k0 wr)
            · intro k2
              refine ⟨_, rfl, _, rfl, iteT (B := False) ?_⟩
              refine ⟨_, rfl, wa, _, 0, _, rfl, rfl, SqL.of ew, at_zero _ _, _, rfl, _, rfl, iteT (B := False) ⟨rfl, _, rfl, ?_⟩⟩
              rw [str_dec]
              by_cases h1 : k0 = ("moment" : Str)
              · rw [decide_eq_true h1]
                refine iteT (B := False) ⟨_, rfl, wa, _, rfl, .inl (SqL.of ew), rfl, _, rfl, ?_⟩
                rw [lw]
                by_cases h2 : wr.length + 1 = 2
                · rw [decide_eq_true (show V.int ((wr.length + 1 : Nat) : Int) = V.int 2 by rw [h2]; rfl)]
                  obtain ⟨x1, rfl⟩ : ∃ x1, wr = [x1] := by
                    match wr, h2 with
                    | [x1], _ => exact ⟨x1, rfl⟩
                  refine iteT (B := False) ?_
                  refine ⟨_, rfl, by show 0 ≤ sizeLine; decide, fun t ht => ?_⟩
                  have s6 : Same H5 (upd H5 t (.lst [])) := same_new ht
                  have e6 : upd H5 t (.lst []) t = some (.lst []) := upd_same
                  generalize upd H5 t (.lst []) = H6 at s6 e6 ⊢
                  have ee6 := s6 _ _ (s5 _ _ ee)
                  obtain ⟨ds, d1, d2, d3, d4⟩ := wat_dp (K := K) ((W.same s5).same s6) okes
                  refine ⟨.list ds, .list [], .lst (SqL.of ee6) d1, .lst (SqL.of e6) .nil, list_sh d3 (by omega), rfl, _, rfl, ?_⟩
                  rw [eqv_nil]
                  by_cases h3 : les = []
                  · have hds : ds = [] := List.eq_nil_of_length_eq_zero (by rw [d2, h3]; rfl)
                    rw [hds]
                    refine iteT (B := False) ?_
                    have hx1 := hwl x1 (by simp)
                    have ew6 := s6 _ _ ew
                    refine ⟨_, rfl, wa, _, 1, _, rfl, rfl, SqL.of ew6, rfl, x1, rfl, hx1.1, hx1.2, fun H7 s7 => ⟨_, rfl, ?_⟩⟩
                    cases h4 : smallB x1 with
                    | false => exact iteF (A := False) (iteF (A := False) (k2 H7 (Same.trans s6 s7) fun ⟨x2, q1, q2, q3, q4, q5⟩ => by cases q1; rw [h4] at q4; cases q4))
                    | true =>
                      refine iteT (B := False) ?_
                      have ew7 := s7 _ _ ew6
                      have eh7 := s7 _ _ (s6 _ _ (s5 _ _ eh))
                      refine ⟨_, rfl, wa, _, 1, _, rfl, rfl, SqL.of ew7, rfl, _, rfl, lh, _, rfl, .inl (SqL.of eh7), rfl, strs_flat _, _, rfl, ?_⟩
                      show if (!inV (V.str x1) (hs.map V.str)) = true then _ else _
                      rw [in_strs]
                      by_cases h5 : x1 ∈ hs
                      · rw [decide_eq_true h5]
                        exact iteF (A := False) (k2 H7 (Same.trans s6 s7) fun ⟨x2, q1, q2, q3, q4, q5⟩ => by cases q1; exact q5 h5)
                      · rw [decide_eq_false h5]
                        refine iteT (B := False) ?_
                        have tk := take_bench (es := es) S hc2 rfl h1 h3 h4 h5
                        have s57 := Same.trans (Same.trans s05 s6) s7
                        refine ⟨_, rfl, .inl ⟨rfl, _, SqL.of eh7⟩, _, rfl, wa, _, 1, _, rfl, rfl, SqL.of ew7, rfl, lh, _, _, rfl, rfl, eh7, by rw [List.length_map, sizeLine_eq]; omega, ?_⟩
                        have eap : hs.map V.str ++ [V.str x1] = (hs ++ [x1]).map V.str := by rw [List.map_append]; rfl
                        rw [eap]
                        have s8 : Same H (upd H7 lh (.lst ((hs ++ [x1]).map V.str))) := same_upd s57 zh
                        have eh8 : upd H7 lh (.lst ((hs ++ [x1]).map V.str)) lh = some (.lst ((hs ++ [x1]).map V.str)) := upd_same
                        have elp8 : upd H7 lh (.lst ((hs ++ [x1]).map V.str)) lp = some (.lst ((r :: rs).map V.str)) := by rw [upd_ne nlh]; exact s7 _ _ (s6 _ _ (s5 _ _ elp))
                        have ee8 : upd H7 lh (.lst ((hs ++ [x1]).map V.str)) le = some (.lst (as.map V.ref)) := by rw [upd_ne (Ne.symm nhe)]; exact s7 _ _ ee6
                        have W8 : WAt (upd H7 lh (.lst ((hs ++ [x1]).map V.str))) as les := (((W.same s5).same s6).same s7).keep fun b xs z => by rw [upd_ne (ne_of z eh7 (by intro y; cases y))]; exact z
                        generalize upd H7 lh (.lst ((hs ++ [x1]).map V.str)) = H8 at s8 eh8 elp8 ee8 W8 ⊢
                        have l8 : ((hs ++ [x1]).map V.str).length = hs.length + 1 := by simp
                        refine ⟨_, rfl, lh, _, rfl, .inl (SqL.of eh8), _, _, rfl, rfl, _, rfl, ?_⟩
                        rw [l8]
                        by_cases h6 : 14 < hs.length + 1
                        · rw [decide_eq_true (show (14 : Int) < ((hs.length + 1 : Nat) : Int) by omega)]
                          rw [if_pos h6] at tk
                          exact iteT (B := False) ⟨by show 2 ≤ sizeLine; decide, ret2 H8 _ _ s8 (egm tk) fun H9 p e => e⟩
                        · rw [decide_eq_false (show ¬ (14 : Int) < ((hs.length + 1 : Nat) : Int) by omega)]
                          rw [if_neg h6] at tk
                          exact iteF (A := False) (nxt H8 _ as _ les false tk s8 elp8 eh8 ee8 W8 hc1 hc2)
                  · have hds : ds.isEmpty = false := by
                      cases ds with
                      | nil => exact absurd (List.eq_nil_of_length_eq_zero d2.symm) h3
                      | cons a l => rfl
                    rw [hds]
                    exact iteF (A := False) (iteF (A := False) (k2 H6 s6 fun ⟨x2, q1, q2, q3, q4, q5⟩ => h3 q3))
                · rw [decide_eq_false (show ¬ V.int ((wr.length + 1 : Nat) : Int) = V.int 2 from fun z => h2 (by have := V.int.inj z; omega))]
                  exact iteF (A := False) (iteF (A := False) (k2 H5 (Same.refl _) fun ⟨x2, q1, _⟩ => h2 (by rw [q1]; rfl)))
              · rw [decide_eq_false h1]
                exact iteF (A := False) (iteF (A := False) (k2 H5 (Same.refl _) fun ⟨x2, q1, q2, _⟩ => h1 q2))
            · intro H6 s6 n1
              have n2 : ¬ P2 true hs les k0 wr := fun z => by cases z.1
              refine ⟨_, rfl, _, rfl, iteT (B := False) ⟨_, rfl, _, rfl, iteF (A := False) (iteF (A := False) ?_)⟩⟩
              have s7 := s6
              generalize H6 = H7 at s7 ⊢
              refine ⟨_, rfl, _, rfl, iteT (B := False) ?_⟩
              have elp7 := s7 _ _ (s5 _ _ elp)
              have eh7 := s7 _ _ (s5 _ _ eh)
              have ee7 := s7 _ _ (s5 _ _ ee)
              refine ⟨_, rfl, _, rfl, lp, _, _, _, rfl, rfl, SqL.of elp7, (by rw [ec]; exact atI_nat hy1), rfl, _, rfl, ?_⟩
              rw [str_dec]
              by_cases hd : y = ("done" : Str)
              · rw [decide_eq_true hd]
                refine iteT (B := False) ⟨_, rfl, by show 0 ≤ sizeLine; decide, fun t ht => ?_⟩
                have s8 : Same H7 (upd H7 t (.lst [])) := same_new ht
                have e8 : upd H7 t (.lst []) t = some (.lst []) := upd_same
                generalize upd H7 t (.lst []) = H8 at s8 e8 ⊢
                have s58 := Same.trans s7 s8
                refine ⟨.list (hs.map PyData.str), .list [], .lst (SqL.of (s8 _ _ eh7)) (strs_dp hs), .lst (SqL.of e8) .nil, strs_sh (fun z hz => small_ok (S.sm z hz)), rfl, _, rfl, ?_⟩
                rw [eqv_nil]
                by_cases hne : hs = []
                · have he0 : (hs.map PyData.str).isEmpty = true := by rw [hne]; rfl
                  rw [he0]
                  exact iteF (A := False) (iteF (A := False) ⟨_, rfl, _, _, rfl, rfl, by show 2 ≤ sizeLine; decide, bad (take_bad S hc1 hc2 hdn n1 n2 (fun z => z.2.1 hne)) H8 s58⟩)
                · have he0 : (hs.map PyData.str).isEmpty = false := by
                    cases hs with
                    | nil => exact absurd rfl hne
                    | cons a l => rfl
                  rw [he0]
                  have W8 := ((W.same s5).same s7).same s8
                  refine iteT (B := False) ⟨_, rfl, _, rfl, iteT (B := False) (iteT (B := False) ?_)⟩
                  exact nxt H8 hs as _ les true (take_done S hc2 (hdn.mpr hd) hne (.inl rfl)) (Same.trans s05 s58) (s8 _ _ elp7) (s8 _ _ eh7) (s8 _ _ ee7) W8 hc1 (fun z => by cases z)
              · rw [decide_eq_false hd]
                exact iteF (A := False) (iteF (A := False) ⟨_, rfl, _, _, rfl, rfl, by show 2 ≤ sizeLine; decide, bad (take_bad S hc1 hc2 hdn n1 n2 (fun z => hd z.1)) H7 s7⟩)
          | false =>
            -- the first test
            apply cutN (H := H5) (N := ¬ P1 false hs les k0 wr)
            · intro k2
              refine ⟨_, rfl, _, rfl, iteT (B := False) ?_⟩
              refine ⟨_, rfl, wa, _, 0, _, rfl, rfl, SqL.of ew, at_zero _ _, _, rfl, _, rfl, iteF (A := False) ⟨rfl, _, rfl, ?_⟩⟩
              rw [str_dec]
              by_cases h1 : k0 = ("bench" : Str)
              · rw [decide_eq_true h1]
                refine iteT (B := False) ⟨_, rfl, wa, _, rfl, .inl (SqL.of ew), rfl, _, rfl, ?_⟩
                rw [lw]
                by_cases h2 : wr.length + 1 = 2
                · rw [decide_eq_true (show V.int ((wr.length + 1 : Nat) : Int) = V.int 2 by rw [h2]; rfl)]
                  obtain ⟨x1, rfl⟩ : ∃ x1, wr = [x1] := by
                    match wr, h2 with
                    | [x1], _ => exact ⟨x1, rfl⟩
                  refine iteT (B := False) ?_
                  refine ⟨_, rfl, by show 0 ≤ sizeLine; decide, fun t ht => ?_⟩
                  have s6 : Same H5 (upd H5 t (.lst [])) := same_new ht
                  have e6 : upd H5 t (.lst []) t = some (.lst []) := upd_same
                  generalize upd H5 t (.lst []) = H6 at s6 e6 ⊢
                  have ee6 := s6 _ _ (s5 _ _ ee)
                  obtain ⟨ds, d1, d2, d3, d4⟩ := wat_dp (K := K) ((W.same s5).same s6) okes
                  refine ⟨.list ds, .list [], .lst (SqL.of ee6) d1, .lst (SqL.of e6) .nil, list_sh d3 (by omega), rfl, _, rfl, ?_⟩
                  rw [eqv_nil]
                  by_cases h3 : les = []
                  · have hds : ds = [] := List.eq_nil_of_length_eq_zero (by rw [d2, h3]; rfl)
                    rw [hds]
                    refine iteT (B := False) ?_
                    have hx1 := hwl x1 (by simp)
                    have ew6 := s6 _ _ ew
                    refine ⟨_, rfl, wa, _, 1, _, rfl, rfl, SqL.of ew6, rfl, x1, rfl, hx1.1, hx1.2, fun H7 s7 => ⟨_, rfl, ?_⟩⟩
                    cases h4 : smallB x1 with
                    | false => exact iteF (A := False) (iteF (A := False) (k2 H7 (Same.trans s6 s7) fun ⟨x2, q1, q2, q3, q4, q5⟩ => by cases q1; rw [h4] at q4; cases q4))
                    | true =>
                      refine iteT (B := False) ?_
                      have ew7 := s7 _ _ ew6
                      have eh7 := s7 _ _ (s6 _ _ (s5 _ _ eh))
                      refine ⟨_, rfl, wa, _, 1, _, rfl, rfl, SqL.of ew7, rfl, _, rfl, lh, _, rfl, .inl (SqL.of eh7), rfl, strs_flat _, _, rfl, ?_⟩
                      show if (!inV (V.str x1) (hs.map V.str)) = true then _ else _
                      rw [in_strs]
                      by_cases h5 : x1 ∈ hs
                      · rw [decide_eq_true h5]
                        exact iteF (A := False) (k2 H7 (Same.trans s6 s7) fun ⟨x2, q1, q2, q3, q4, q5⟩ => by cases q1; exact q5 h5)
                      · rw [decide_eq_false h5]
                        refine iteT (B := False) ?_
                        have tk := take_bench (es := es) S hc2 rfl h1 h3 h4 h5
                        have s57 := Same.trans (Same.trans s05 s6) s7
                        refine ⟨_, rfl, .inl ⟨rfl, _, SqL.of eh7⟩, _, rfl, wa, _, 1, _, rfl, rfl, SqL.of ew7, rfl, lh, _, _, rfl, rfl, eh7, by rw [List.length_map, sizeLine_eq]; omega, ?_⟩
                        have eap : hs.map V.str ++ [V.str x1] = (hs ++ [x1]).map V.str := by rw [List.map_append]; rfl
                        rw [eap]
                        have s8 : Same H (upd H7 lh (.lst ((hs ++ [x1]).map V.str))) := same_upd s57 zh
                        have eh8 : upd H7 lh (.lst ((hs ++ [x1]).map V.str)) lh = some (.lst ((hs ++ [x1]).map V.str)) := upd_same
                        have elp8 : upd H7 lh (.lst ((hs ++ [x1]).map V.str)) lp = some (.lst ((r :: rs).map V.str)) := by rw [upd_ne nlh]; exact s7 _ _ (s6 _ _ (s5 _ _ elp))
                        have ee8 : upd H7 lh (.lst ((hs ++ [x1]).map V.str)) le = some (.lst (as.map V.ref)) := by rw [upd_ne (Ne.symm nhe)]; exact s7 _ _ ee6
                        have W8 : WAt (upd H7 lh (.lst ((hs ++ [x1]).map V.str))) as les := (((W.same s5).same s6).same s7).keep fun b xs z => by rw [upd_ne (ne_of z eh7 (by intro y; cases y))]; exact z
                        generalize upd H7 lh (.lst ((hs ++ [x1]).map V.str)) = H8 at s8 eh8 elp8 ee8 W8 ⊢
                        have l8 : ((hs ++ [x1]).map V.str).length = hs.length + 1 := by simp
                        refine ⟨_, rfl, lh, _, rfl, .inl (SqL.of eh8), _, _, rfl, rfl, _, rfl, ?_⟩
                        rw [l8]
                        by_cases h6 : 14 < hs.length + 1
                        · rw [decide_eq_true (show (14 : Int) < ((hs.length + 1 : Nat) : Int) by omega)]
                          rw [if_pos h6] at tk
                          exact iteT (B := False) ⟨by show 2 ≤ sizeLine; decide, ret2 H8 _ _ s8 (egm tk) fun H9 p e => e⟩
                        · rw [decide_eq_false (show ¬ (14 : Int) < ((hs.length + 1 : Nat) : Int) by omega)]
                          rw [if_neg h6] at tk
                          exact iteF (A := False) (nxt H8 _ as _ les false tk s8 elp8 eh8 ee8 W8 hc1 hc2)
                  · have hds : ds.isEmpty = false := by
                      cases ds with
                      | nil => exact absurd (List.eq_nil_of_length_eq_zero d2.symm) h3
                      | cons a l => rfl
                    rw [hds]
                    exact iteF (A := False) (iteF (A := False) (k2 H6 s6 fun ⟨x2, q1, q2, q3, q4, q5⟩ => h3 q3))
                · rw [decide_eq_false (show ¬ V.int ((wr.length + 1 : Nat) : Int) = V.int 2 from fun z => h2 (by have := V.int.inj z; omega))]
                  exact iteF (A := False) (iteF (A := False) (k2 H5 (Same.refl _) fun ⟨x2, q1, _⟩ => h2 (by rw [q1]; rfl)))
              · rw [decide_eq_false h1]
                exact iteF (A := False) (iteF (A := False) (k2 H5 (Same.refl _) fun ⟨x2, q1, q2, _⟩ => h1 q2))
            · intro H6 s6 n1
              apply cutN (H := H6) (N := ¬ P2 false hs les k0 wr)
              · intro k3
                have ew6 := s6 _ _ ew
                have eh6 := s6 _ _ (s5 _ _ eh)
                have ee6 := s6 _ _ (s5 _ _ ee)
                refine ⟨_, rfl, _, rfl, iteT (B := False) ⟨_, rfl, _, rfl, iteT (B := False) ?_⟩⟩
                refine ⟨_, rfl, wa, _, 0, _, rfl, rfl, SqL.of ew6, at_zero _ _, rfl, _, rfl, ?_⟩
                rw [str_dec]
                by_cases h1 : k0 = ("wire" : Str)
                · rw [decide_eq_true h1]
                  refine iteT (B := False) ⟨_, rfl, wa, _, rfl, .inl (SqL.of ew6), rfl, _, rfl, ?_⟩
                  rw [lw]
                  by_cases h2 : wr.length + 1 = 3
                  · rw [decide_eq_true (show V.int ((wr.length + 1 : Nat) : Int) = V.int 3 by rw [h2]; rfl)]
                    obtain ⟨a, b, rfl⟩ : ∃ a b, wr = [a, b] := by
                      match wr, h2 with
                      | [a, b], _ => exact ⟨a, b, rfl⟩
                    refine iteT (B := False) ⟨_, rfl, wa, _, 1, _, rfl, rfl, SqL.of ew6, rfl, _, rfl, lh, _, rfl, .inl (SqL.of eh6), rfl, strs_flat _, _, rfl, ?_⟩
                    rw [in_strs]
                    by_cases ha : a ∈ hs
                    · rw [decide_eq_true ha]
                      refine iteT (B := False) ⟨_, rfl, wa, _, 2, _, rfl, rfl, SqL.of ew6, rfl, _, rfl, lh, _, rfl, .inl (SqL.of eh6), rfl, strs_flat _, _, rfl, ?_⟩
                      rw [in_strs]
                      by_cases hb : b ∈ hs
                      · rw [decide_eq_true hb]
                        have fl := (S.frst rfl).le (fun z => by rw [z] at ha; simp at ha)
                        have les14 : les.length ≤ 14 := by rw [hc2 rfl]; omega
                        refine iteT (B := False) ⟨_, rfl, wa, _, 2, _, rfl, rfl, SqL.of ew6, rfl, _, rfl, _, rfl, wa, _, 1, _, rfl, rfl, SqL.of ew6, rfl, le, as, les, a, rfl, ee6, (W.same s5).same s6, by omega, okes, fun l H7 s7 zl el => ?_⟩
                        have ew7 := s7 _ _ ew6
                        refine ⟨l, _, rfl, .inl (SqL.of el), rfl, strs_flat _, _, rfl, ?_⟩
                        show if (!inV (V.str b) ((reachL les a none).map V.str)) = true then _ else _
                        rw [in_strs]
                        by_cases hr : b ∈ reachL les a none
                        · rw [decide_eq_true hr]
                          exact iteF (A := False) (k3 H7 s7 fun ⟨_, _, a', b', q1, q2, q3, q4⟩ => by cases q1; exact q4 hr)
                        · rw [decide_eq_false hr]
                          have tk := take_wire (es := es) hc2 rfl rfl h1 ha hb hr
                          have ee7 := s7 _ _ ee6
                          refine iteT (B := False) ⟨_, rfl, .inl ⟨rfl, _, SqL.of ee7⟩, _, rfl, wa, _, 1, _, rfl, rfl, SqL.of ew7, rfl, _, rfl, wa, _, 2, _, rfl, rfl, SqL.of ew7, rfl, by show 2 ≤ sizeLine; decide, fun t ht => ?_⟩
                          have s8 : Same H7 (upd H7 t (.tup [.str a, .str b])) := same_new ht
                          have e8 : upd H7 t (.tup [.str a, .str b]) t = some (.tup [.str a, .str b]) := upd_same
                          generalize upd H7 t (.tup [.str a, .str b]) = H8 at s8 e8 ⊢
                          have ee8 := s8 _ _ ee7
                          refine ⟨le, _, _, rfl, rfl, ee8, by rw [List.length_map, W.1, sizeLine_eq]; omega, ?_⟩
                          have s58 := Same.trans (Same.trans s6 s7) s8
                          have W8 := ((((W.same s5).same s6).same s7).same s8).snoc (e := (a, b)) e8
                          refine nxt _ hs (as ++ [t]) _ (les ++ [(a, b)]) false tk (same_upd (Same.trans s05 s58) ze) (by rw [upd_ne nle]; exact s58 _ _ (s5 _ _ elp)) (by rw [upd_ne nhe]; exact s58 _ _ (s5 _ _ eh)) (by rw [upd_same, List.map_append]; rfl) (W8.keep fun b xs z => by rw [upd_ne (ne_of z ee8 (by intro y; cases y))]; exact z) (fun z => by cases z) (fun z => by rw [hc2 z])
                      · rw [decide_eq_false hb]
                        exact iteF (A := False) (iteF (A := False) (k3 H6 (Same.refl _) fun ⟨_, _, a', b', q1, q2, q3, q4⟩ => by cases q1; exact hb q3))
                    · rw [decide_eq_false ha]
                      exact iteF (A := False) (iteF (A := False) (k3 H6 (Same.refl _) fun ⟨_, _, a', b', q1, q2, q3, q4⟩ => by cases q1; exact ha q2))
                  · rw [decide_eq_false (show ¬ V.int ((wr.length + 1 : Nat) : Int) = V.int 3 from fun z => h2 (by have := V.int.inj z; omega))]
                    exact iteF (A := False) (iteF (A := False) (k3 H6 (Same.refl _) fun ⟨_, _, a', b', q1, _⟩ => h2 (by rw [q1]; rfl)))
                · rw [decide_eq_false h1]
                  exact iteF (A := False) (iteF (A := False) (k3 H6 (Same.refl _) fun ⟨_, q, _⟩ => h1 q))
              · intro H7 s67 n2
                have s7 := Same.trans s6 s67
                refine ⟨_, rfl, _, rfl, iteT (B := False) ?_⟩
                have elp7 := s7 _ _ (s5 _ _ elp)
                have eh7 := s7 _ _ (s5 _ _ eh)
                have ee7 := s7 _ _ (s5 _ _ ee)
                refine ⟨_, rfl, _, rfl, lp, _, _, _, rfl, rfl, SqL.of elp7, (by rw [ec]; exact atI_nat hy1), rfl, _, rfl, ?_⟩
                rw [str_dec]
                by_cases hd : y = ("done" : Str)
                · rw [decide_eq_true hd]
                  refine iteT (B := False) ⟨_, rfl, by show 0 ≤ sizeLine; decide, fun t ht => ?_⟩
                  have s8 : Same H7 (upd H7 t (.lst [])) := same_new ht
                  have e8 : upd H7 t (.lst []) t = some (.lst []) := upd_same
                  generalize upd H7 t (.lst []) = H8 at s8 e8 ⊢
                  have s58 := Same.trans s7 s8
                  refine ⟨.list (hs.map PyData.str), .list [], .lst (SqL.of (s8 _ _ eh7)) (strs_dp hs), .lst (SqL.of e8) .nil, strs_sh (fun z hz => small_ok (S.sm z hz)), rfl, _, rfl, ?_⟩
                  rw [eqv_nil]
                  by_cases hne : hs = []
                  · have he0 : (hs.map PyData.str).isEmpty = true := by rw [hne]; rfl
                    rw [he0]
                    exact iteF (A := False) (iteF (A := False) ⟨_, rfl, _, _, rfl, rfl, by show 2 ≤ sizeLine; decide, bad (take_bad S hc1 hc2 hdn n1 n2 (fun z => z.2.1 hne)) H8 s58⟩)
                  · have he0 : (hs.map PyData.str).isEmpty = false := by
                      cases hs with
                      | nil => exact absurd rfl hne
                      | cons a l => rfl
                    rw [he0]
                    have W8 := ((W.same s5).same s7).same s8
                    refine iteT (B := False) ⟨_, rfl, _, rfl, iteF (A := False) ?_⟩
                    refine ⟨_, rfl, le, _, rfl, .inl (SqL.of (s8 _ _ ee7)), _, rfl, lh, _, rfl, .inl (SqL.of (s8 _ _ eh7)), _, _, rfl, rfl, rfl, _, rfl, ?_⟩
                    have lq : ((V.int ((as.map V.ref).length : Int)) = V.int (((hs.map V.str).length : Int) - 1)) ↔ les.length + 1 = hs.length := by
                      rw [List.length_map, List.length_map, W.1]
                      have pos : 0 < hs.length := List.length_pos_iff.mpr hne
                      exact ⟨fun z => by have := V.int.inj z; omega, fun z => by congr 1; omega⟩
                    by_cases hl : les.length + 1 = hs.length
                    · rw [decide_eq_true (lq.mpr hl)]
                      refine iteT (B := False) ?_
                      exact nxt H8 hs as _ les true (take_done S hc2 (hdn.mpr hd) hne (.inr hl)) (Same.trans s05 s58) (s8 _ _ elp7) (s8 _ _ eh7) (s8 _ _ ee7) W8 hc1 hc2
                    · rw [decide_eq_false (fun z => hl (lq.mp z))]
                      exact iteF (A := False) ⟨_, rfl, _, _, rfl, rfl, by show 2 ≤ sizeLine; decide, bad (take_bad S hc1 hc2 hdn n1 n2 (fun z => z.2.2.elim (fun q => by cases q) hl)) H8 s58⟩
                · rw [decide_eq_false hd]
                  exact iteF (A := False) (iteF (A := False) ⟨_, rfl, _, _, rfl, rfl, by show 2 ≤ sizeLine; decide, bad (take_bad S hc1 hc2 hdn n1 n2 (fun z => hd z.1)) H7 s7⟩)
      · rintro σ H' ⟨v6, v7, hs, as, es, les, en, rfl, s', elp, eh, ee, W, hc1, hc2, S, eg⟩
        rw [List.drop_length] at eg
        refine ⟨_, rfl, _, rfl, ?_⟩
        cases en with
        | false =>
          refine iteT (B := False) ⟨_, rfl, lp, _, rfl, .inl (SqL.of elp), _, _, rfl, rfl, by show 2 ≤ sizeLine; decide, ret2 H' _ _ s' eg fun H3 p e => ?_⟩
          show H3 p = _
          rw [e, lr]
        | true =>
          refine iteF (A := False) ?_
          refine ⟨_, rfl, _, rfl, _, rfl, _, rfl, ?_⟩
          cases c with
          | false =>
            refine iteF (A := False) ⟨_, rfl, by show 4 ≤ sizeLine; decide, fun p hp => ?_⟩
            have sp : Same H' (upd H' p (.tup [.str "good", .bl false, .ref lh, .ref le])) := same_new hp
            refine kq _ p (Same.trans s' sp) (Same.free s' hp) ?_
            rw [eg]
            refine ⟨lh, le, as, upd_same, sp _ _ eh, sp _ _ ee, ?_⟩
            have := W.same sp
            rw [hc2 rfl] at this
            exact this
          | true =>
            refine iteT (B := False) ⟨_, rfl, lh, _, rfl, .inl (SqL.of eh), _, _, rfl, rfl, _, rfl, by rw [List.length_map]; have := S.few; omega, by rw [List.length_map]; have := S.few; omega, fun D hD => ?_⟩
            rw [List.length_map, show ((hs.length : Int) - 1).toNat = hs.length - 1 by omega]
            refine pairs_lc (K := K) (k := 6) (lhi := 3) (fun _ => rfl) (fun _ => rfl) (fun _ => rfl) eh hD (by have := S.few; omega) (hs.length - 1) rfl fun H6 as6 s6 e6 W6 => ?_
            refine ⟨by show 4 ≤ sizeLine; decide, fun p hp => ?_⟩
            have s06 := Same.trans s' s6
            have sp : Same H6 (upd H6 p (.tup [.str "good", .bl true, .ref lh, .ref D])) := same_new hp
            refine kq _ p (Same.trans s06 sp) (Same.free s06 hp) ?_
            rw [eg]
            refine ⟨lh, D, as6, upd_same, sp _ _ (s6 _ _ eh), sp _ _ e6, ?_⟩
            rw [S.course rfl rfl]
            exact W6.same sp
    · rw [decide_eq_false hyc]
      refine iteT (B := False) ⟨by show 2 ≤ sizeLine; decide, ret2 H2 (.bad 1) _ s12 ?_ fun H3 p e => e⟩
      show (if r ≠ ("yard" : Str) ∧ r ≠ ("course" : Str) then _ else _) = _
      rw [if_pos (by simpa using hyc)]
end
end Yd
set_option Elab.async false
set_option linter.all false
set_option maxRecDepth 100000
set_option maxHeartbeats 16000000
namespace Yd
open PySem PySem.Spec PyProof.Rows L2 Xo
theorem cut_to {xs : List V} {k : Nat} : cutV xs none (some (k : Int)) = xs.take k := by
  unfold cutV
  rw [show HT.sIx xs.length 0 none = 0 from rfl, HT.sIx_nat]
  simp only [List.drop_zero, Nat.sub_zero]
  by_cases h : k ≤ xs.length
  · rw [Nat.min_eq_left h]
  · rw [Nat.min_eq_right (by omega), List.take_of_length_le (Nat.le_refl _), List.take_of_length_le (by omega)]
theorem cut_from {xs : List V} {k : Nat} : cutV xs (some (k : Int)) none = xs.drop k := by
  unfold cutV
  rw [HT.sIx_nat, show HT.sIx xs.length xs.length none = xs.length from rfl]
  by_cases h : k ≤ xs.length
  · rw [Nat.min_eq_left h, List.take_of_length_le (by rw [List.length_drop]; omega)]
  · rw [Nat.min_eq_right (by omega), List.drop_of_length_le (Nat.le_refl _), List.drop_of_length_le (by omega)]
    simp
theorem join_set (x : Str) : ∀ (ws : List Str) (j : Nat), (Str.join " " (ws.set j x)).length ≤ (Str.join " " ws).length + x.length
  | [], _ => by simp
  | [a], 0 => by show x.length ≤ a.length + x.length; omega
  | [a], j + 1 => by show a.length ≤ a.length + x.length; omega
  | a :: b :: ws, 0 => by
    show (x ++ " " ++ Str.join " " (b :: ws)).length ≤ (a ++ " " ++ Str.join " " (b :: ws)).length + x.length
    rw [str_len, str_len, str_len, str_len]
    omega
  | a :: b :: ws, j + 1 => by
    have ih := join_set x (b :: ws) j
    cases q : (b :: ws).set j x with
    | nil => have := congrArg List.length q; simp at this
    | cons c l =>
      rw [q] at ih
      show (Str.join " " (a :: (b :: ws).set j x)).length ≤ _
      rw [q]
      show (a ++ " " ++ Str.join " " (c :: l)).length ≤ (a ++ " " ++ Str.join " " (b :: ws)).length + x.length
      rw [str_len, str_len, str_len, str_len]
      omega
theorem okS_app {a b : Str} (ha : okS a) (hb : okS b) : okS (a ++ b) := okS_iff.mpr fun c hc => by
  have : c ∈ a.cps.toList ++ b.cps.toList := by rw [← app_list]; exact hc
  rcases List.mem_append.mp this with h | h
  · exact okS_iff.mp ha c h
  · exact okS_iff.mp hb c h
theorem okS_join {s : Str} (hs : okS s) : ∀ {l : List Str}, (∀ x ∈ l, okS x) → okS (Str.join s l)
  | [], _ => okS_iff.mpr fun c hc => by
    have : (Str.join s []).cps.toList = [] := rfl
    rw [show TL.tl (Str.join s []) = [] from rfl] at hc
    simp at hc
  | [a], h => h a (by simp)
  | a :: b :: l, h => by
    show okS (a ++ s ++ Str.join s (b :: l))
    exact okS_app (okS_app (h a (by simp)) hs) (okS_join hs fun x hx => h x (List.mem_cons_of_mem _ hx))
section
variable {P : Program} {w : World} {K : PySem.W.Frag} {mg : Str → Option Value} {base : Heap}
def WordsOk (m : Nat) (l : List Str) : Prop := ∀ r ∈ l, r.length ≤ m ∧ okS r
def spBend : Sp := fun vs H Q _ => ∃ (b c ra ha : Addr) (rows halls : List Str) (m : Nat), vs = [.ref b, .ref ra, .ref ha] ∧ Bag H b c ∧ H ra = some (.lst (rows.map V.str)) ∧ H ha = some (.lst (halls.map V.str)) ∧ rows ≠ [] ∧ rows.length ≤ 300 ∧ WordsOk m rows ∧ 100 ≤ m ∧ m ≤ 1000 ∧ halls ≠ [] ∧ halls.length ≤ 20 ∧ WordsOk 8 halls ∧ ra ≠ b ∧ ha ≠ b ∧
  ∀ (l : Addr) (rows' : List Str) (H' : Hp), Bag H' b c → KeepB b H H' → H' l = some (.lst (rows'.map V.str)) → rows' ≠ [] → rows'.length ≤ rows.length + 1 → WordsOk (m + 8) rows' → l ≠ b → Q (.ref l) H'
theorem sc_law_bend : FnScope ["bag", "rows", "halls", "spot", "seat", "pick", "new", "k", "words"] ["bag", "rows", "halls"] (defScope s_law_bend) := ⟨rfl, rfl, rfl, by decide +kernel, rfl, by decide +kernel, by decide +kernel⟩
theorem good_bend (T : Tx w K mg) : Good P w K mg base CX0 3 (He.ga K "_law_bend") ["bag", "rows", "halls"] spBend := by
  obtain ⟨fd, F⟩ := T.f_law_bend
  obtain ⟨_, G_law_draw, k_law_draw, b_law_draw⟩ := good_draw (P := P) (w := w) (base := base) T
  obtain ⟨_, G_law_of, k_law_of, b_law_of⟩ := good_of (P := P) (w := w) (base := base) T
  refine ⟨fd, F.ok sc_law_bend (fun vs H Q E h => ?_) (fun cdv A outer s H vs Q E hr h => ?_), F.kp, F.bindsN fun _ _ _ _ _ _ us hl => match us, hl with | [_, _, _], _ => rfl⟩
  · obtain ⟨_, _, _, _, _, _, _, rfl, _⟩ := h
    rfl
  · obtain ⟨b, c, ra, ha, rows, halls, m, rfl, B, er, eh, rne, rlen, rok, m1, m2, hne, hlen, hok, nrb, nhb, kq⟩ := h
    have SC := sc_law_bend
    refine ⟨_, PSs.nox (pss_cons (ps_set (i := 3) SC.nd rfl (by first | exact Or.inl rfl | exact Or.inr rfl) (pe_call G_law_draw (hr.mono (by decide)) rfl T.g_law_draw k_law_draw b_law_draw .nil pass0 (pa_cons (pv 0) (pa_cons (pe_callB (lenQ K) rfl T.n_len (by decide +kernel) (pa_cons (pv 1) pa_nil)) pa_nil)))) 
      (pss_cons (ps_set (i := 4) SC.nd rfl (by first | exact Or.inl rfl | exact Or.inr rfl) (pe_call G_law_draw (hr.mono (by decide)) rfl T.g_law_draw k_law_draw b_law_draw .nil pass0 (pa_cons (pv 0) (pa_cons (pe_callB (lenQ K) rfl T.n_len (by decide +kernel) (pa_cons (pv 1) pa_nil)) pa_nil)))) 
      (pss_cons (ps_set (i := 5) SC.nd rfl (by first | exact Or.inl rfl | exact Or.inr rfl) (pe_call G_law_draw (hr.mono (by decide)) rfl T.g_law_draw k_law_draw b_law_draw .nil pass0 (pa_cons (pv 0) (pa_cons pe_int pa_nil)))) 
      (pss_cons (ps_set (i := 6) SC.nd rfl (by first | exact Or.inl rfl | exact Or.inr rfl) (pe_lst (pa_cons (pe_op op_add_str (pe_op op_add_str (pe_op op_add_str pe_str (pe_call G_law_of (hr.mono (by decide)) rfl T.g_law_of k_law_of b_law_of .nil pass0 (pa_cons (pv 0) (pa_cons (pv 2) pa_nil)))) pe_str) (pe_call G_law_of (hr.mono (by decide)) rfl T.g_law_of k_law_of b_law_of .nil pass0 (pa_cons (pv 0) (pa_cons (pv 2) pa_nil)))) (pa_cons (pe_op op_add_str pe_str (pe_call G_law_of (hr.mono (by decide)) rfl T.g_law_of k_law_of b_law_of .nil pass0 (pa_cons (pv 0) (pa_cons (pv 2) pa_nil)))) (pa_cons pe_str (pa_cons pe_str (pa_cons (pe_op op_add_str pe_str (pe_ix (ixL K) (pv 2) pe_int (fun _ _ => rfl))) (pa_cons pe_str (pa_cons pe_str pa_nil))))))))) 
      (Evl.pss_cut (ps_set (i := 6) SC.nd rfl (by first | exact Or.inl rfl | exact Or.inr rfl) (pe_call G_law_of (hr.mono (by decide)) rfl T.g_law_of k_law_of b_law_of .nil pass0 (pa_cons (pv 0) (pa_cons (pe_op op_cat (pv 6) (pe_lst (pa_cons pe_str (pa_cons pe_str (pa_cons pe_str (pa_cons pe_str (pa_cons pe_str (pa_cons pe_str (pa_cons pe_str (pa_cons pe_str pa_nil)))))))))) pa_nil)))) 
      (pss_cons (ps_if (pt_cmpR op_eq (pv 5) pe_int (nomark _)) 
      (pss_one (ps_ret (pe_ifExp (pt_cmpR op_gt (pe_callB (lenQ K) rfl T.n_len (by decide +kernel) (pa_cons (pv 1) pa_nil)) pe_int (nomark _)) (pe_op op_cat (pe_slice (slL K) (pv 1) po_none (po_some (pv 3))) (pe_slice (slL K) (pv 1) (po_some (pe_op op_add (pv 3) pe_int)) po_none)) (pv 1)))) pss_nil) 
      (pss_cons (ps_if (pt_cmpR op_eq (pv 5) pe_int (nomark _)) 
      (pss_one (ps_ret (pe_op op_cat (pe_op op_cat (pe_slice (slL K) (pv 1) po_none (po_some (pv 4))) (pe_lst (pa_cons (pe_ix (ixL K) (pv 1) (pv 3) (fun _ _ => rfl)) pa_nil))) (pe_slice (slL K) (pv 1) (po_some (pv 4)) po_none)))) pss_nil) 
      (pss_cons (ps_if (pt_cmpR op_eq (pv 5) pe_int (nomark _)) 
      (pss_one (ps_ret (pe_lc (own := [("k", 7)]) (g := gName 7) (tt := tYes) rfl SC.nd (pi_range1 rfl T.n_range (pa_cons (pe_callB (lenQ K) rfl T.n_len (by decide +kernel) (pa_cons (pv 1) pa_nil)) pa_nil)) (blkOk_by (N := ["bag", "rows", "halls", "spot", "seat", "pick", "new", "k", "words"]) (sc := defScope s_law_bend) (by decide +kernel)) (fun _ _ _ _ _ => (pg_name (i := 7) SC.nd rfl (by first | exact Or.inl rfl | exact Or.inr rfl))) (fun _ _ _ _ _ => pts_nil) (fun _ _ _ _ _ => (pe_ifExp (pt_cmpR op_eq (pv 7) (pv 4) (nomark _)) (pe_ix (ixL K) (pv 1) (pv 3) (fun _ _ => rfl)) (pe_ifExp (pt_cmpR op_eq (pv 7) (pv 3) (nomark _)) (pe_ix (ixL K) (pv 1) (pv 4) (fun _ _ => rfl)) (pe_ix (ixL K) (pv 1) (pv 7) (fun _ _ => rfl)))))))) pss_nil) 
      (pss_cons (ps_if (pt_cmpR (inQ K) (pv 5) (pe_lst (pa_cons pe_int (pa_cons pe_int (pa_cons pe_int pa_nil)))) rfl) 
      (pss_cons (ps_set (i := 8) SC.nd rfl (by first | exact Or.inl rfl | exact Or.inr rfl) (pe_split (pe_ix (ixL K) (pv 1) (pv 3) (fun _ _ => rfl)) pe_str)) 
      (pss_cons (ps_asg (pe_call G_law_of (hr.mono (by decide)) rfl T.g_law_of k_law_of b_law_of .nil pass0 (pa_cons (pv 0) (pa_cons (pe_op op_cat (pv 2) (pe_lst (pa_cons pe_str (pa_cons pe_str (pa_cons pe_str (pa_cons pe_str (pa_cons pe_str (pa_cons pe_str (pa_cons pe_str (pa_cons pe_str (pa_cons pe_str pa_nil))))))))))) pa_nil))) (pg_sub (pv 8) (pe_call G_law_draw (hr.mono (by decide)) rfl T.g_law_draw k_law_draw b_law_draw .nil pass0 (pa_cons (pv 0) (pa_cons (pe_callB (lenQ K) rfl T.n_len (by decide +kernel) (pa_cons (pv 8) pa_nil)) pa_nil))) pset_listN)) 
      (pss_one (ps_ret (pe_op op_cat (pe_op op_cat (pe_slice (slL K) (pv 1) po_none (po_some (pv 3))) (pe_lst (pa_cons (pe_join pe_str (pv 8)) pa_nil))) (pe_slice (slL K) (pv 1) (po_some (pe_op op_add (pv 3) pe_int)) po_none)))))) pss_nil) 
      (pss_one (ps_ret (pe_op op_cat (pe_op op_cat (pe_slice (slL K) (pv 1) po_none (po_some (pe_op op_add (pv 4) (pe_callTy call_int1 rfl T.n_int (by decide +kernel) (pa_cons (pe_cmpR op_gt (pv 5) pe_int (nomark _)) pa_nil))))) (pe_lst (pa_cons (pv 6) pa_nil))) (pe_slice (slL K) (pv 1) (po_some (pe_op op_add (pe_op op_add (pv 4) (pe_callTy call_int1 rfl T.n_int (by decide +kernel) (pa_cons (pe_cmpR op_gt (pv 5) pe_int (nomark _)) pa_nil))) (pe_callTy call_int1 rfl T.n_int (by decide +kernel) (pa_cons (pe_cmpR op_eq (pv 5) pe_int (nomark _)) pa_nil)))) po_none))))))))))))), ?_⟩
    have rpos : 0 < rows.length := List.length_pos_iff.mpr rne
    have lm : (rows.map V.str).length = rows.length := List.length_map _
    refine ⟨_, rfl, _, rfl, ra, _, rfl, .inl (SqL.of er), b, c, _, rfl, B, by rw [lm]; omega, by rw [lm]; omega, fun spot H1 sp0 sp1 B1 k1 => ?_⟩
    rw [lm] at sp1
    have er1 := k1 _ _ er nrb
    refine ⟨_, rfl, _, rfl, ra, _, rfl, .inl (SqL.of er1), b, c, _, rfl, B1, by rw [lm]; omega, by rw [lm]; omega, fun seat H2 se0 se1 B2 k2 => ?_⟩
    rw [lm] at se1
    refine ⟨_, rfl, b, c, 10, rfl, B2, by decide, by decide, fun pick H3 p0 p1 B3 k3 => ?_⟩
    have k13 := (k1.trans k2).trans k3
    have hm : ∀ {xs : List Str} {j : Nat} {v : V}, (xs.map V.str)[j]? = some v → ∃ h, v = .str h ∧ h ∈ xs := fun {xs j v} q => by
      rw [List.getElem?_map] at q
      obtain ⟨h, hh, rfl⟩ := Option.map_eq_some_iff.mp q
      exact ⟨h, rfl, List.mem_of_getElem? hh⟩
    have hpos : 0 < (halls.map V.str).length := by rw [List.length_map]; exact List.length_pos_iff.mpr hne
    have hlt : (halls.map V.str).length < 1073741824 := by rw [List.length_map]; omega
    have ll : ∀ n : Nat, n ≤ 10000 → n ≤ sizeLine := fun n h => by rw [sizeLine_eq]; omega
    have kw : ("wire " : Str).length = 5 := by decide +kernel
    have kb : ("bench " : Str).length = 6 := by decide +kernel
    have ks : (" " : Str).length = 1 := by decide +kernel
    have okw : okS "wire " := by show PyData.strOk _ = true; decide +kernel
    have okb : okS "bench " := by show PyData.strOk _ = true; decide +kernel
    have oks : okS " " := by show PyData.strOk _ = true; decide +kernel
    have okq : okS "wire Q " := by show PyData.strOk _ = true; decide +kernel
    have kq' : ("wire Q " : Str).length = 7 := by decide +kernel
    have eh3 := k13 _ _ eh nhb
    refine ⟨_, rfl, _, rfl, b, c, ha, _, rfl, B3, eh3, nhb, hpos, hlt, fun j1 v1 H4 q1 B4 k4 => ?_⟩
    obtain ⟨h1, rfl, m1'⟩ := hm q1
    obtain ⟨l1, o1⟩ := hok h1 m1'
    refine ⟨_, _, rfl, rfl, ll _ (by omega), _, _, rfl, rfl, ll _ (by rw [str_len]; omega), ?_⟩
    have eh4 := k4 _ _ eh3 nhb
    refine ⟨_, rfl, _, rfl, b, c, ha, _, rfl, B4, eh4, nhb, hpos, hlt, fun j2 v2 H5 q2 B5 k5 => ?_⟩
    obtain ⟨h2, rfl, m2'⟩ := hm q2
    obtain ⟨l2, o2⟩ := hok h2 m2'
    refine ⟨_, _, rfl, rfl, ll _ (by rw [str_len, str_len]; omega), ?_⟩
    have eh5 := k5 _ _ eh4 nhb
    refine ⟨_, rfl, _, rfl, b, c, ha, _, rfl, B5, eh5, nhb, hpos, hlt, fun j3 v3 H6 q3 B6 k6 => ?_⟩
    obtain ⟨h3, rfl, m3'⟩ := hm q3
    obtain ⟨l3, o3⟩ := hok h3 m3'
    have eh6 := k6 _ _ eh5 nhb
    refine ⟨_, _, rfl, rfl, ll _ (by omega), ?_⟩
    obtain ⟨h0, ht, ehh⟩ : ∃ h0 ht, halls = h0 :: ht := by
      cases halls with
      | nil => exact absurd rfl hne
      | cons a l => exact ⟨a, l, rfl⟩
    obtain ⟨l0, o0⟩ := hok h0 (by rw [ehh]; simp)
    refine ⟨_, rfl, ha, _, 0, .str h0, rfl, rfl, SqL.of eh6, by rw [ehh]; exact at_zero _ _, _, _, rfl, rfl, ll _ (by omega), by show 7 ≤ sizeLine; exact ll _ (by omega), fun t ht' => ?_⟩
    generalize hH : upd H6 t _ = H7
    have s7 : Same H6 H7 := hH ▸ same_new ht'
    have e7 : H7 t = some (.lst (([("wire " : Str) ++ h1 ++ (" " : Str) ++ h2, ("bench " : Str) ++ h3, ("moment q" : Str), ("bench Q" : Str), ("wire Q " : Str) ++ h0, ("bench at" : Str), ("done" : Str)] : List Str).map V.str)) := by rw [← hH]; exact upd_same
    clear hH
    have B7 := bag_keep B6 s7
    refine ⟨fun σ' H' => ∃ nw : Str, σ' = [some (.ref b), some (.ref ra), some (.ref ha), some (.int spot), some (.int seat), some (.int pick), some (.str nw), none, none] ∧ Bag H' b c ∧ KeepB b H H' ∧ nw.length ≤ 100 ∧ okS nw, ?_, ?_⟩
    · refine ⟨_, rfl, _, rfl, by show 8 ≤ sizeLine; exact ll _ (by omega), fun u hu => ?_⟩
      generalize hH : upd H7 u _ = H8
      have s8 : Same H7 H8 := hH ▸ same_new hu
      have e8 : H8 u = some (.lst (([("bench abcdefgh1" : Str), ("bench 1a" : Str), ("" : Str), ("yard" : Str), ("bench" : Str), ("bench  q7" : Str), ("bench q7 " : Str), ("bench z99" : Str)] : List Str).map V.str)) := by rw [← hH]; exact upd_same
      clear hH
      refine ⟨t, u, _, _, rfl, rfl, s8 _ _ e7, e8, by show 7 + 8 ≤ sizeLine; exact ll _ (by omega), fun z hz => ?_⟩
      rw [← List.map_append]
      generalize hall : ([("wire " : Str) ++ h1 ++ (" " : Str) ++ h2, ("bench " : Str) ++ h3, ("moment q" : Str), ("bench Q" : Str), ("wire Q " : Str) ++ h0, ("bench at" : Str), ("done" : Str)] : List Str) ++ [("bench abcdefgh1" : Str), ("bench 1a" : Str), ("" : Str), ("yard" : Str), ("bench" : Str), ("bench  q7" : Str), ("bench q7 " : Str), ("bench z99" : Str)] = all
      have okall : WordsOk 100 all := by
        rw [← hall]
        intro y hy
        have lit : ∀ y ∈ ([("moment q" : Str), ("bench Q" : Str), ("bench at" : Str), ("done" : Str), ("bench abcdefgh1" : Str), ("bench 1a" : Str), ("" : Str), ("yard" : Str), ("bench" : Str), ("bench  q7" : Str), ("bench q7 " : Str), ("bench z99" : Str)] : List Str), y.length ≤ 100 ∧ PyData.strOk y = true := by decide +kernel
        simp only [List.cons_append, List.nil_append, List.mem_cons, List.mem_nil_iff, or_false] at hy
        rcases hy with rfl | rfl | rfl | rfl | rfl | hy
        · exact ⟨by rw [str_len, str_len, str_len]; omega, okS_app (okS_app (okS_app okw o1) oks) o2⟩
        · exact ⟨by rw [str_len]; omega, okS_app okb o3⟩
        · exact lit _ (by simp)
        · exact lit _ (by simp)
        · exact ⟨by rw [str_len]; omega, okS_app okq o0⟩
        · exact lit _ (by simp only [List.mem_cons, List.mem_nil_iff, or_false]; exact .inr (.inr hy))
      have lall : all.length = 15 := by rw [← hall]; rfl
      have s9 : Same H8 (upd H8 z (.lst (all.map V.str))) := same_new hz
      have e9 : upd H8 z (.lst (all.map V.str)) z = some (.lst (all.map V.str)) := upd_same
      generalize upd H8 z (.lst (all.map V.str)) = H9 at s9 e9 ⊢
      have B9 := bag_keep (bag_keep B7 s8) s9
      have k69 : KeepB b H H9 := ((((((k13.trans k4).trans k5).trans k6).trans (KeepB.same s7)).trans (KeepB.same s8)).trans (KeepB.same s9))
      refine ⟨b, c, z, _, rfl, B9, e9, ((bag_keep B7 s8).ne hz).1, by rw [List.length_map, lall]; decide, by rw [List.length_map, lall]; decide, fun j v H10 q B10 k10 => ?_⟩
      obtain ⟨nw, rfl, mn⟩ := hm q
      obtain ⟨ln, on⟩ := okall nw mn
      exact ⟨nw, rfl, B10, k69.trans k10, ln, on⟩
    · rintro σ' H' ⟨nw, rfl, B', k', ln, on⟩
      have er' := k' _ _ er nrb
      have eh' := k' _ _ eh nhb
      obtain ⟨sn, hsn⟩ : ∃ sn : Nat, spot = sn := ⟨spot.toNat, by omega⟩
      obtain ⟨tn, htn⟩ : ∃ tn : Nat, seat = tn := ⟨seat.toNat, by omega⟩
      subst hsn htn
      have sl : sn < rows.length := by omega
      have tl : tn < rows.length := by omega
      have ok8 : ∀ r ∈ rows, r.length ≤ m + 8 ∧ okS r := fun r h => ⟨by have := (rok r h).1; omega, (rok r h).2⟩
      have fin : ∀ (H6 : Hp) (p : Addr) (rows' : List Str) (xs : List V), Same H' H6 → H6 p = none → rows' ≠ [] → rows'.length ≤ rows.length + 1 → WordsOk (m + 8) rows' → xs = rows'.map V.str → Q (.ref p) (upd H6 p (.lst xs)) := fun H6 p rows' xs s6 hp q1 q2 q3 q4 => by
        have B6 := bag_keep B' s6
        refine kq p rows' _ (B6.new hp) (k'.trans ((KeepB.same s6).upd' (Same.free s6 hp))) (by rw [upd_same, q4]) q1 q2 q3 (B6.ne hp).1
      have cat : ∀ (H6 : Hp) (l1 l2 : Addr) (A B : List Str), Same H' H6 → H6 l1 = some (.lst (A.map V.str)) → H6 l2 = some (.lst (B.map V.str)) → A ++ B ≠ [] → (A ++ B).length ≤ rows.length + 1 → WordsOk (m + 8) (A ++ B) → rCat (.ref l1) (.ref l2) H6 Q := fun H6 l1 l2 A B s6 e1 e2 q1 q2 q3 =>
        ⟨l1, l2, _, _, rfl, rfl, e1, e2, by rw [List.length_map, List.length_map, ← List.length_append]; exact ll _ (by omega), fun p hp => fin H6 p (A ++ B) _ s6 hp q1 q2 q3 (by rw [List.map_append])⟩
      have three : ∀ (H6 : Hp) (l1 l2 : Addr) (A B : List Str) (w1 : Str) (Q0 : VK), Same H' H6 → H6 l1 = some (.lst (A.map V.str)) → H6 l2 = some (.lst [.str w1]) → A.length ≤ 400 → (∀ (H7 : Hp) (l3 : Addr), Same H' H7 → H7 l3 = some (.lst ((A ++ [w1]).map V.str)) → Q0 (.ref l3) H7) → rCat (.ref l1) (.ref l2) H6 Q0 := fun H6 l1 l2 A B w1 Q0 s6 e1 e2 q1 q2 =>
        ⟨l1, l2, _, _, rfl, rfl, e1, e2, by rw [List.length_map]; exact ll _ (by show A.length + 1 ≤ _; omega), fun p hp => q2 _ p (same_upd s6 (Same.free s6 hp)) (by rw [upd_same, List.map_append]; rfl)⟩
      have rs : (rows.map V.str)[sn]? = some (.str (rows[sn])) := by rw [List.getElem?_map, List.getElem?_eq_getElem sl]; rfl
      have rt : (rows.map V.str)[tn]? = some (.str (rows[tn])) := by rw [List.getElem?_map, List.getElem?_eq_getElem tl]; rfl
      have e1n : ((sn : Int) + 1) = ((sn + 1 : Nat) : Int) := by omega
      have tk : ∀ k : Nat, (rows.map V.str).take k = (rows.take k).map V.str := fun k => by rw [List.map_take]
      have dk : ∀ k : Nat, (rows.map V.str).drop k = (rows.drop k).map V.str := fun k => by rw [List.map_drop]
      -- pick 0
      refine ⟨_, rfl, rfl, _, rfl, ite2 (fun _ => ?_) (fun _ => ?_)⟩
      · refine ⟨_, rfl, ra, _, rfl, .inl (SqL.of er'), _, _, rfl, rfl, _, rfl, ?_⟩
        rw [lm]
        by_cases h1 : 1 < rows.length
        · rw [decide_eq_true (show (1 : Int) < (rows.length : Int) by omega)]
          refine iteT (B := False) ⟨_, rfl, _, rfl, sn, rfl, ra, _, rfl, SqL.of er', fun p1 hp1 => ?_⟩
          rw [cut_to, tk]
          have s1 : Same H' (upd H' p1 (.lst ((rows.take sn).map V.str))) := same_new hp1
          have e1 : upd H' p1 (.lst ((rows.take sn).map V.str)) p1 = some (.lst ((rows.take sn).map V.str)) := upd_same
          generalize upd H' p1 _ = H1 at s1 e1 ⊢
          refine ⟨_, rfl, _, rfl, _, _, rfl, rfl, _, rfl, ra, _, rfl, SqL.of (s1 _ _ er'), fun p2 hp2 => ?_⟩
          rw [e1n, cut_from, dk]
          have s2 : Same H1 (upd H1 p2 (.lst ((rows.drop (sn + 1)).map V.str))) := same_new hp2
          refine cat _ p1 p2 _ _ (Same.trans s1 s2) (s2 _ _ e1) upd_same ?_ ?_ ?_
          · intro z
            have q : (rows.take sn ++ rows.drop (sn + 1)).length = 0 := by rw [z]; rfl
            rw [List.length_append, List.length_take, List.length_drop] at q
            omega
          · rw [List.length_append, List.length_take, List.length_drop]; omega
          · intro r hr
            rcases List.mem_append.mp hr with hr | hr
            · exact ok8 r (List.mem_of_mem_take hr)
            · exact ok8 r (List.mem_of_mem_drop hr)
        · rw [decide_eq_false (show ¬ (1 : Int) < (rows.length : Int) by omega)]
          refine iteF (A := False) ⟨_, rfl, kq ra rows H' B' k' er' rne (by omega) ok8 nrb⟩
      · -- pick 1
        refine ⟨_, rfl, rfl, _, rfl, ite2 (fun _ => ?_) (fun _ => ?_)⟩
        · refine ⟨_, rfl, _, rfl, tn, rfl, ra, _, rfl, SqL.of er', fun p1 hp1 => ?_⟩
          rw [cut_to, tk]
          have s1 : Same H' (upd H' p1 (.lst ((rows.take tn).map V.str))) := same_new hp1
          have e1 : upd H' p1 (.lst ((rows.take tn).map V.str)) p1 = some (.lst ((rows.take tn).map V.str)) := upd_same
          generalize upd H' p1 _ = H1 at s1 e1 ⊢
          refine ⟨_, rfl, _, rfl, ra, _, _, _, rfl, rfl, SqL.of (s1 _ _ er'), atI_nat rs, by show 1 ≤ sizeLine; decide, fun p2 hp2 => ?_⟩
          have s2 : Same H1 (upd H1 p2 (.lst [.str rows[sn]])) := same_new hp2
          refine three _ p1 p2 _ [] _ _ (Same.trans s1 s2) (s2 _ _ e1) upd_same (by rw [List.length_take]; omega) fun H3 l3 s3 e3 => ?_
          refine ⟨_, rfl, _, rfl, tn, rfl, ra, _, rfl, SqL.of (s3 _ _ er'), fun p4 hp4 => ?_⟩
          rw [cut_from, dk]
          have s4 : Same H3 (upd H3 p4 (.lst ((rows.drop tn).map V.str))) := same_new hp4
          refine cat _ l3 p4 _ _ (Same.trans s3 s4) (s4 _ _ e3) upd_same (by simp) ?_ ?_
          · simp only [List.length_append, List.length_take, List.length_drop, List.length_cons, List.length_nil]; omega
          · intro r hr
            rcases List.mem_append.mp hr with hr | hr
            · rcases List.mem_append.mp hr with hr | hr
              · exact ok8 r (List.mem_of_mem_take hr)
              · rw [List.mem_singleton.mp hr]; exact ok8 _ (List.getElem_mem _)
            · exact ok8 r (List.mem_of_mem_drop hr)
        · -- pick 2
          refine ⟨_, rfl, rfl, _, rfl, ite2 (fun _ => ?_) (fun _ => ?_)⟩
          · refine ⟨_, rfl, ra, _, rfl, .inl (SqL.of er'), _, rfl, by rw [lm]; omega, by rw [lm]; omega, fun D hD => ?_⟩
            rw [lm, Int.toNat_natCast]
            let g : Nat → Str := fun k => if k = tn then rows[sn] else if k = sn then rows[tn] else (rows[k]?).getD Str.empty
            refine lc_fmR (fun k => some (V.str (g k))) hD (by have := ll rows.length (by omega); rw [sizeLine_eq] at this ⊢; omega) (fun i h acc nx hi s e hacc hnx => ⟨rfl, ?_⟩) (fun h s e => ?_)
            · have e0 : (0 : Int) + (i : Nat) = (i : Int) := by omega
              have er6 := s _ _ er'
              refine iteT (B := False) ⟨_, rfl, _, rfl, rfl, _, rfl, ?_⟩
              by_cases c1 : i = tn
              · rw [decide_eq_true (show V.int (0 + (i : Nat)) = V.int (tn : Int) by rw [e0, c1])]
                have eg : g i = rows[sn] := by show (if i = tn then _ else _) = _; rw [if_pos c1]
                rw [eg] at hnx
                exact iteT (B := False) ⟨_, rfl, _, rfl, ra, _, _, _, rfl, rfl, SqL.of er6, atI_nat rs, acc, e, hacc, hnx⟩
              · rw [decide_eq_false (show ¬ V.int (0 + (i : Nat)) = V.int (tn : Int) from fun z => c1 (by have := V.int.inj z; omega))]
                refine iteF (A := False) ⟨_, rfl, _, rfl, rfl, _, rfl, ?_⟩
                by_cases c2 : i = sn
                · rw [decide_eq_true (show V.int (0 + (i : Nat)) = V.int (sn : Int) by rw [e0, c2])]
                  have eg : g i = rows[tn] := by show (if i = tn then _ else if i = sn then _ else _) = _; rw [if_neg c1, if_pos c2]
                  rw [eg] at hnx
                  exact iteT (B := False) ⟨_, rfl, _, rfl, ra, _, _, _, rfl, rfl, SqL.of er6, atI_nat rt, acc, e, hacc, hnx⟩
                · rw [decide_eq_false (show ¬ V.int (0 + (i : Nat)) = V.int (sn : Int) from fun z => c2 (by have := V.int.inj z; omega))]
                  have eg : g i = rows[i] := by show (if i = tn then _ else if i = sn then _ else _) = _; rw [if_neg c1, if_neg c2, List.getElem?_eq_getElem hi]; rfl
                  rw [eg] at hnx
                  have ri : (rows.map V.str)[i]? = some (.str (rows[i])) := by rw [List.getElem?_map, List.getElem?_eq_getElem hi]; rfl
                  exact iteF (A := False) ⟨_, rfl, _, rfl, ra, _, _, _, rfl, rfl, SqL.of er6, by rw [e0]; exact atI_nat ri, acc, e, hacc, hnx⟩
            · have e2 : h D = some (.lst (((List.range rows.length).map g).map V.str)) := by
                rw [e, List.map_map]
                exact congrArg (fun z => some (HO.lst z)) (some_map (fun k => V.str (g k)) _)
              have B6 := bag_keep B' s
              have DB := B'.ne hD
              refine kq D ((List.range rows.length).map g) h B6 (k'.trans (KeepB.same s)) e2 ?_ (by simp) ?_ DB.1
              · intro z
                have q : ((List.range rows.length).map g).length = 0 := by rw [z]; rfl
                rw [List.length_map, List.length_range] at q
                omega
              · intro r hr
                obtain ⟨k, hk, rfl⟩ := List.mem_map.mp hr
                have hk' := List.mem_range.mp hk
                show (if k = tn then _ else if k = sn then _ else _ : Str).length ≤ _ ∧ okS (if k = tn then _ else if k = sn then _ else _)
                by_cases c1 : k = tn
                · rw [if_pos c1]; exact ok8 _ (List.getElem_mem _)
                · rw [if_neg c1]
                  by_cases c2 : k = sn
                  · rw [if_pos c2]; exact ok8 _ (List.getElem_mem _)
                  · rw [if_neg c2, List.getElem?_eq_getElem hk']; exact ok8 _ (List.getElem_mem _)
          · -- pick 3, 4, 5
            refine ⟨_, rfl, by show 3 ≤ sizeLine; decide, fun u hu => ?_⟩
            generalize hH : upd H' u _ = H5
            have s5 : Same H' H5 := hH ▸ same_new hu
            have e5 : H5 u = some (.lst (([3, 4, 5] : List Int).map V.int)) := by rw [← hH]; exact upd_same
            clear hH
            have er5 := s5 _ _ er'
            have B5 := bag_keep B' s5
            refine ⟨u, _, rfl, .inl (SqL.of e5), rfl, rfl, _, rfl, ite2 (fun _ => ?_) (fun _ => ?_)⟩
            · refine ⟨_, rfl, _, rfl, ra, _, _, _, rfl, rfl, SqL.of er5, atI_nat rs, ⟨_, rfl⟩, rows[sn], " ", rfl, rfl, by decide +kernel, by have := (rok _ (List.getElem_mem sl)).1; rw [sizeLine_eq]; omega, fun wa hwa => ?_⟩
              have hsn := rok _ (List.getElem_mem sl)
              have wsl := split_len (x := rows[sn]) sep_sp
              have wok : ∀ q ∈ Txt.split rows[sn] " ", okS q := fun q hq => split_ok sep_sp hsn.2 hq
              have wj := StrLaws.join_split rows[sn] " "
              have s6 : Same H5 (upd H5 wa (.lst ((Txt.split rows[sn] " ").map V.str))) := same_new hwa
              have e6 : upd H5 wa (.lst ((Txt.split rows[sn] " ").map V.str)) wa = some (.lst ((Txt.split rows[sn] " ").map V.str)) := upd_same
              generalize Txt.split rows[sn] " " = ws at wsl wok wj s6 e6 ⊢
              generalize upd H5 wa (.lst (ws.map V.str)) = H6 at s6 e6 ⊢
              have wlen : ws.length ≤ 1001 := by have := wsl.1; have := hsn.1; omega
              have wpos : 0 < ws.length := List.length_pos_iff.mpr wsl.2
              have B6 := bag_keep B5 s6
              have nwb := (B5.ne hwa).1
              have s56 := Same.trans s5 s6
              refine ⟨_, rfl, _, rfl, by show 9 ≤ sizeLine; exact ll _ (by omega), fun v hv => ?_⟩
              generalize hH : upd H6 v _ = H7
              have s7 : Same H6 H7 := hH ▸ same_new hv
              have e7 : H7 v = some (.lst (([("q" : Str), ("wire" : Str), ("done" : Str), ("Q" : Str), ("course" : Str), ("yard" : Str), ("moment" : Str), ("bench" : Str), ("" : Str)] : List Str).map V.str)) := by rw [← hH]; exact upd_same
              clear hH
              refine ⟨ha, v, _, _, rfl, rfl, s7 _ _ (s56 _ _ eh'), e7, by rw [List.length_map]; exact ll _ (by show halls.length + 9 ≤ _; omega), fun z hz => ?_⟩
              rw [← List.map_append]
              have okl : ∀ y ∈ ([("q" : Str), ("wire" : Str), ("done" : Str), ("Q" : Str), ("course" : Str), ("yard" : Str), ("moment" : Str), ("bench" : Str), ("" : Str)] : List Str), y.length ≤ 8 ∧ PyData.strOk y = true := by decide +kernel
              have litlen : ([("q" : Str), ("wire" : Str), ("done" : Str), ("Q" : Str), ("course" : Str), ("yard" : Str), ("moment" : Str), ("bench" : Str), ("" : Str)] : List Str).length ≤ 20 := by decide
              generalize ([("q" : Str), ("wire" : Str), ("done" : Str), ("Q" : Str), ("course" : Str), ("yard" : Str), ("moment" : Str), ("bench" : Str), ("" : Str)] : List Str) = lits at e7 okl litlen ⊢
              have s8 : Same H7 (upd H7 z (.lst ((halls ++ lits).map V.str))) := same_new hz
              have e8 : upd H7 z (.lst ((halls ++ lits).map V.str)) z = some (.lst ((halls ++ lits).map V.str)) := upd_same
              have B7 := bag_keep B6 s7
              have nzb := (B7.ne hz).1
              generalize upd H7 z (.lst ((halls ++ lits).map V.str)) = H8 at s8 e8 ⊢
              have B8 := bag_keep B7 s8
              refine ⟨b, c, z, _, rfl, B8, e8, nzb, by rw [List.length_map, List.length_append]; have := List.length_pos_iff.mpr hne; omega, by rw [List.length_map, List.length_append]; have : lits.length ≤ 20 := litlen; omega, fun j v H9 q B9 k9 => ?_⟩
              obtain ⟨nx, rfl, mnx⟩ := hm q
              obtain ⟨lnx, onx⟩ : nx.length ≤ 8 ∧ okS nx := by
                rcases List.mem_append.mp mnx with h | h
                · exact hok nx h
                · exact okl nx h
              have e6' := s8 _ _ (s7 _ _ e6)
              have ew9 := k9 _ _ e6' nwb
              have er9 := k9 _ _ (s8 _ _ (s7 _ _ (s6 _ _ er5))) nrb
              have k09 : KeepB b H H9 := ((((k'.trans (KeepB.same s5)).trans (KeepB.same s6)).trans (KeepB.same s7)).trans (KeepB.same s8)).trans k9
              have lwm : (ws.map V.str).length = ws.length := List.length_map _
              refine ⟨_, rfl, _, rfl, _, rfl, wa, _, rfl, .inl (SqL.of ew9), b, c, _, rfl, B9, by rw [lwm]; omega, by rw [lwm]; omega, fun jd H10 j0 j1 B10 k10 => ?_⟩
              rw [lwm] at j1
              obtain ⟨jn, hjn⟩ : ∃ jn : Nat, jd = jn := ⟨jd.toNat, by omega⟩
              subst hjn
              have ew10 := k10 _ _ ew9 nwb
              have er10 := k10 _ _ er9 nrb
              refine ⟨wa, _, jn, rfl, rfl, ew10, by rw [lwm]; omega, ?_⟩
              have eset : (ws.map V.str).set jn (.str nx) = (ws.set jn nx).map V.str := by rw [List.map_set]
              rw [eset]
              have eraw : wa ≠ ra ∨ rows = ws.set jn nx ∨ True := .inr (.inr trivial)
              have nwr : wa ≠ ra := fun z => by rw [z] at hwa; rw [hwa] at er5; cases er5
              have Bn : Bag (upd H10 wa (.lst ((ws.set jn nx).map V.str))) b c := B10.upd nwb (B5.ne hwa).2
              have zwa : H wa = none := (k'.trans (KeepB.same s5)).free nwb hwa
              have kn : KeepB b H (upd H10 wa (.lst ((ws.set jn nx).map V.str))) := (k09.trans k10).upd' zwa
              have ern : upd H10 wa (.lst ((ws.set jn nx).map V.str)) ra = some (.lst (rows.map V.str)) := by rw [upd_ne (Ne.symm nwr)]; exact er10
              have ewn : upd H10 wa (.lst ((ws.set jn nx).map V.str)) wa = some (.lst ((ws.set jn nx).map V.str)) := upd_same
              generalize upd H10 wa (.lst ((ws.set jn nx).map V.str)) = H11 at Bn kn ern ewn ⊢
              refine ⟨_, rfl, _, rfl, sn, rfl, ra, _, rfl, SqL.of ern, fun p1 hp1 => ?_⟩
              rw [cut_to, tk]
              have s1 : Same H11 (upd H11 p1 (.lst ((rows.take sn).map V.str))) := same_new hp1
              have e1 : upd H11 p1 (.lst ((rows.take sn).map V.str)) p1 = some (.lst ((rows.take sn).map V.str)) := upd_same
              generalize upd H11 p1 _ = H12 at s1 e1 ⊢
              have jl : (Str.join " " (ws.set jn nx)).length ≤ m + 8 := by
                have := join_set nx ws jn
                rw [wj] at this
                have := hsn.1
                omega
              have jok : okS (Str.join " " (ws.set jn nx)) := okS_join oks fun y hy => by
                rcases List.mem_or_eq_of_mem_set hy with h | h
                · exact wok y h
                · rw [h]; exact onx
              have jsum : ∀ l : List Str, (l.map (·.length)).sum + l.length * 1 ≤ (Str.join " " l).length + 1 := by
                intro l
                induction l with
                | nil => show 0 + 0 * 1 ≤ _; omega
                | cons a l ih =>
                  cases l with
                  | nil => show a.length + 0 + 1 * 1 ≤ a.length + 1; omega
                  | cons b l =>
                    have e : (Str.join " " (a :: b :: l)).length = a.length + 1 + (Str.join " " (b :: l)).length := by
                      show (a ++ " " ++ Str.join " " (b :: l)).length = _
                      rw [str_len, str_len, ks]
                    rw [e, List.map_cons, List.sum_cons, List.length_cons]
                    omega
              have jb := jsum (ws.set jn nx)
              refine ⟨⟨_, rfl⟩, _, rfl, " ", wa, ws.set jn nx, rfl, rfl, .inl (SqL.of (s1 _ _ ewn)), by rw [ks]; omega, by show 1 ≤ sizeLine; decide, fun p2 hp2 => ?_⟩
              rw [TL.join_eq]
              have s2 : Same H12 (upd H12 p2 (.lst [.str (Str.join " " (ws.set jn nx))])) := same_new hp2
              have s112 := Same.trans s1 s2
              refine ⟨p1, p2, _, _, rfl, rfl, s2 _ _ e1, upd_same, by rw [List.length_map, List.length_take]; exact ll _ (by show _ + 1 ≤ _; omega), fun p3 hp3 => ?_⟩
              have s3 : Same H11 (upd (upd H12 p2 (.lst [.str (Str.join " " (ws.set jn nx))])) p3 (.lst ((rows.take sn).map V.str ++ [.str (Str.join " " (ws.set jn nx))]))) := same_upd s112 (Same.free s112 hp3)
              have e3 : upd (upd H12 p2 (.lst [.str (Str.join " " (ws.set jn nx))])) p3 (.lst ((rows.take sn).map V.str ++ [.str (Str.join " " (ws.set jn nx))])) p3 = some (.lst ((rows.take sn ++ [Str.join " " (ws.set jn nx)]).map V.str)) := by rw [upd_same, List.map_append]; rfl
              generalize upd (upd H12 p2 _) p3 _ = H13 at s3 e3 ⊢
              refine ⟨_, rfl, _, rfl, _, _, rfl, rfl, _, rfl, ra, _, rfl, SqL.of (s3 _ _ ern), fun p4 hp4 => ?_⟩
              rw [e1n, cut_from, dk]
              have s4 : Same H13 (upd H13 p4 (.lst ((rows.drop (sn + 1)).map V.str))) := same_new hp4
              have s34 := Same.trans s3 s4
              refine ⟨p3, p4, _, _, rfl, rfl, s4 _ _ e3, upd_same, by rw [List.length_map, List.length_map, ← List.length_append]; exact ll _ (by simp only [List.length_append, List.length_take, List.length_drop, List.length_cons, List.length_nil]; omega), fun p5 hp5 => ?_⟩
              have B14 := bag_keep Bn s34
              refine kq p5 (rows.take sn ++ [Str.join " " (ws.set jn nx)] ++ rows.drop (sn + 1)) _ (B14.new hp5) ((kn.trans (KeepB.same s34)).upd' ((kn.trans (KeepB.same s34)).free (B14.ne hp5).1 hp5)) (by rw [upd_same]; simp only [List.map_append]) (by simp) ?_ ?_ (B14.ne hp5).1
              · simp only [List.length_append, List.length_take, List.length_drop, List.length_cons, List.length_nil]; omega
              · intro r hr
                rcases List.mem_append.mp hr with hr | hr
                · rcases List.mem_append.mp hr with hr | hr
                  · exact ok8 r (List.mem_of_mem_take hr)
                  · rw [List.mem_singleton.mp hr]; exact ⟨jl, jok⟩
                · exact ok8 r (List.mem_of_mem_drop hr)
            · -- the last way
              have bi : ∀ k : Bool, ∃ n : Nat, (if k = true then (1 : Int) else 0) = (n : Int) ∧ n ≤ 1 := fun k => by
                cases k
                · exact ⟨0, rfl, by omega⟩
                · exact ⟨1, rfl, by omega⟩
              obtain ⟨n1, en1, ln1⟩ := bi (decide ((8 : Int) < pick))
              obtain ⟨n2, en2, ln2⟩ := bi (decide (V.int pick = V.int 7))
              refine ⟨_, rfl, _, rfl, _, rfl, _, _, rfl, rfl, .inr ⟨_, rfl, _, _, rfl, rfl, _, rfl, ra, _, rfl, SqL.of er5, fun p1 hp1 => ?_⟩⟩
              have ea : (tn : Int) + (if decide ((8 : Int) < pick) = true then (1 : Int) else 0) = ((tn + n1 : Nat) : Int) := by rw [en1]; omega
              rw [ea, cut_to, tk]
              have s1 : Same H5 (upd H5 p1 (.lst ((rows.take (tn + n1)).map V.str))) := same_new hp1
              have e1 : upd H5 p1 (.lst ((rows.take (tn + n1)).map V.str)) p1 = some (.lst ((rows.take (tn + n1)).map V.str)) := upd_same
              generalize upd H5 p1 _ = H1 at s1 e1 ⊢
              have s51 := Same.trans s5 s1
              refine ⟨_, rfl, by show 1 ≤ sizeLine; decide, fun p2 hp2 => ?_⟩
              have s2 : Same H1 (upd H1 p2 (.lst [.str nw])) := same_new hp2
              refine three _ p1 p2 _ [] _ _ (Same.trans s51 s2) (s2 _ _ e1) upd_same (by rw [List.length_take]; omega) fun H3 l3 s3 e3 => ?_
              refine ⟨_, rfl, _, rfl, _, rfl, _, _, rfl, rfl, .inr ⟨_, rfl, _, _, rfl, rfl, _, rfl, rfl, .inr ⟨_, rfl, _, _, rfl, rfl, _, rfl, ra, _, rfl, SqL.of (s3 _ _ er'), fun p4 hp4 => ?_⟩⟩⟩
              have eb : (tn : Int) + (if decide ((8 : Int) < pick) = true then (1 : Int) else 0) + (if decide (V.int pick = V.int 7) = true then (1 : Int) else 0) = ((tn + n1 + n2 : Nat) : Int) := by rw [en1, en2]; omega
              rw [eb, cut_from, dk]
              have s4 : Same H3 (upd H3 p4 (.lst ((rows.drop (tn + n1 + n2)).map V.str))) := same_new hp4
              refine cat _ l3 p4 _ _ (Same.trans s3 s4) (s4 _ _ e3) upd_same (by simp) ?_ ?_
              · simp only [List.length_append, List.length_take, List.length_drop, List.length_cons, List.length_nil]; omega
              · intro r hr
                rcases List.mem_append.mp hr with hr | hr
                · rcases List.mem_append.mp hr with hr | hr
                  · exact ok8 r (List.mem_of_mem_take hr)
                  · rw [List.mem_singleton.mp hr]; exact ⟨by omega, on⟩
                · exact ok8 r (List.mem_of_mem_drop hr)
end
end Yd
set_option Elab.async false
set_option linter.all false
set_option maxHeartbeats 2000000
/-! A yard's text, read and written again. -/
namespace Yd
open PySem PySem.Spec PyProof.Rows L2 Xo
def preT (c : Bool) (hs : List Str) (es : List Wr) : List Str := if c = true then [("course" : Str)] ++ hs.map (fun h => ("moment " : Str) ++ h) else ([("yard" : Str)] ++ hs.map (fun h => ("bench " : Str) ++ h)) ++ es.map (fun e => ("wire " : Str) ++ e.1 ++ (" " : Str) ++ e.2)
theorem rows_pre (c : Bool) (hs : List Str) (es : List Wr) : rowsT c hs es = preT c hs es ++ [("done" : Str)] := rfl
def enT (en : Bool) : List Str := if en = true then [("done" : Str)] else []
theorem lit2 (a b : Str) (k : Str) (h : k ++ (" " : Str) = a) : Str.join " " [k, b] = a ++ b := by
  show k ++ " " ++ b = a ++ b
  rw [h]
theorem take_back {c en en' : Bool} {hs hs' : List Str} {es es' : List Wr} {r : Str} (h : takeY c hs es en (Txt.split r " ") = .ok hs' es' en') : en = false ∧ preT c hs' es' ++ enT en' = preT c hs es ++ [r] := by
  have hj := StrLaws.join_split r " "
  have hd := done_split r
  generalize Txt.split r " " = ws at h hj hd
  unfold takeY at h
  cases en with
  | true => simp at h
  | false =>
    refine ⟨rfl, ?_⟩
    simp only [Bool.false_eq_true, if_false] at h
    by_cases hw : ws = [("done" : Str)]
    · rw [if_pos hw] at h
      rw [hd.mp hw]
      unfold endY at h
      by_cases hn : hs = []
      · rw [if_pos hn] at h; cases h
      · rw [if_neg hn] at h
        cases c with
        | true => cases h; rfl
        | false =>
          simp only [Bool.false_eq_true, if_false] at h
          split at h
          · cases h
          · cases h; rfl
    · rw [if_neg hw] at h
      match ws, h, hj with
      | [], h, _ => cases h
      | [_], h, _ => cases h
      | [k, x], h, hj =>
        simp only at h
        by_cases hk : k = kwY c
        · rw [if_pos hk] at h
          unfold benchY at h
          by_cases h1 : es ≠ []
          · rw [if_pos h1] at h; cases h
          · rw [if_neg h1] at h
            have e0 : es = [] := by simpa using h1
            split at h
            · cases h
            · split at h
              · cases h
              · split at h
                · cases h
                · cases h
                  subst e0
                  have er : r = kwY c ++ (" " : Str) ++ x := by rw [← hj, hk]; rfl
                  rw [er]
                  unfold preT enT kwY
                  cases c with
                  | true =>
                    have e : ("moment" : Str) ++ (" " : Str) = ("moment " : Str) := by decide +kernel
                    simp [e]
                  | false =>
                    have e : ("bench" : Str) ++ (" " : Str) = ("bench " : Str) := by decide +kernel
                    simp [e]
        · rw [if_neg hk] at h; cases h
      | [k, a, b], h2, hj =>
        simp only at h2
        clear h
        by_cases hk : k = ("wire" : Str) ∧ c = false
        · rw [if_pos hk] at h2
          obtain ⟨hk, rfl⟩ := hk
          unfold wireY at h2
          split at h2
          · cases h2
          · split at h2
            · cases h2
            · cases h2
              have er : r = ("wire" : Str) ++ (" " : Str) ++ (a ++ (" " : Str) ++ b) := by rw [← hj, hk]; rfl
              have e : ("wire" : Str) ++ (" " : Str) = ("wire " : Str) := by decide +kernel
              rw [er, e]
              have as1 : ∀ p q r : Str, p ++ q ++ r = p ++ (q ++ r) := fun p q r => by
                have : (p ++ q ++ r).cps = (p ++ (q ++ r)).cps := Array.append_assoc ..
                cases h1 : p ++ q ++ r
                cases h2 : p ++ (q ++ r)
                rw [h1, h2] at this
                simp only at this
                rw [this]
              unfold preT enT
              simp [as1]
        · rw [if_neg hk] at h2; cases h2
      | _ :: _ :: _ :: _ :: _, h, _ => cases h
theorem go_back {c c' : Bool} : ∀ (rs : List Str) (k : Nat) (hs : List Str) (es : List Wr) (en : Bool) (hs' : List Str) (es' : List Wr), goY c rs k hs es en = .ok c' hs' es' → c' = c ∧ (preT c hs es ++ enT en) ++ rs = rowsT c hs' es'
  | [], k, hs, es, en, hs', es', h => by
    unfold goY at h
    cases en with
    | true => simp at h; obtain ⟨rfl, rfl, rfl⟩ := h; exact ⟨rfl, by rw [List.append_nil]; rfl⟩
    | false => simp at h
  | r :: rs, k, hs, es, en, hs', es', h => by
    rw [goY_cons] at h
    cases q : takeY c hs es en (Txt.split r " ") with
    | bad => rw [q] at h; cases h
    | many => rw [q] at h; cases h
    | ok h1 e1 n1 =>
      rw [q] at h
      obtain ⟨hen, hb⟩ := take_back q
      subst hen
      obtain ⟨ec, ih⟩ := go_back rs (k + 1) h1 e1 n1 hs' es' h
      refine ⟨ec, ?_⟩
      rw [← ih, hb]
      unfold enT
      simp
theorem text_back {x : Str} {c : Bool} {hs : List Str} {es : List Wr} (h : readY x = .ok c hs es) : yardT c hs es = x := by
  unfold readY at h
  split at h
  · cases h
  · have hj := StrLaws.join_split x "\n"
    generalize Txt.split x "\n" = rows at h hj
    match rows, h, hj with
    | [], h, _ => cases h
    | r :: rs, h, hj =>
      unfold rowsY at h
      simp only at h
      split at h
      · cases h
      · rename_i hn
        obtain ⟨ec, e⟩ := go_back rs 1 [] [] false hs es h
        unfold yardT
        rw [TL.join_eq, ← hj, ec, ← e]
        congr 1
        unfold preT enT
        by_cases hc : r = ("course" : Str)
        · subst hc; simp
        · have hy : r = ("yard" : Str) := by
            by_cases z : r = ("yard" : Str)
            · exact z
            · exact absurd ⟨z, hc⟩ hn
          subst hy
          have : decide ((Str.ofString "yard" : Str) = Str.ofString "course") = false := by decide +kernel
          rw [this]; simp
end Yd
set_option Elab.async false
set_option linter.all false
set_option maxRecDepth 100000
set_option maxHeartbeats 16000000
namespace Yd
open PySem PySem.Spec PyProof.Rows L2 Xo
theorem go_many {c : Bool} {w : Str} {n : Int} : ∀ (rs : List Str) (k : Nat) (hs : List Str) (es : List Wr) (en : Bool), goY c rs k hs es en = .many w n → w = ("benches" : Str)
  | [], k, hs, es, en, h => by
    unfold goY at h
    split at h <;> cases h
  | r :: rs, k, hs, es, en, h => by
    rw [goY_cons] at h
    cases q : takeY c hs es en (Txt.split r " ") with
    | bad => rw [q] at h; cases h
    | many => rw [q] at h; cases h; rfl
    | ok h1 e1 n1 => rw [q] at h; exact go_many rs _ _ _ _ h
theorem read_many {x w : Str} {n : Int} (h : readY x = .many w n) : w = ("benches" : Str) ∨ w = ("text" : Str) := by
  unfold readY at h
  split at h
  · cases h; exact .inr rfl
  · unfold rowsY at h
    split at h
    · cases h
    · split at h
      · cases h
      · exact .inl (go_many _ _ _ _ _ h)
section
variable {P : Program} {w : World} {K : PySem.W.Frag} {mg : Str → Option Value} {base : Heap}
def spTold (K : PySem.W.Frag) : Sp := fun vs H Q _ => ∃ v, vs = [v] ∧ ((∃ n, (∀ H', Same H H' → TyX K H' v (.type n)) ∧ kitB n "str" = some false ∧ ∀ (H' : Hp) (r : Addr), Same H H' → H r = none → ReadAt H' r (.bad 0) → Q (.ref r) H') ∨
  ∃ x, v = .str x ∧ okS x ∧ x.length ≤ 1000000 ∧ ∀ (H' : Hp) (r : Addr), Same H H' → H r = none → ReadAt H' r (readY x) → Q (.ref r) H')
theorem sc_law_told : FnScope ["note", "made", "e"] ["note"] (defScope s_law_told) := ⟨rfl, rfl, rfl, by decide +kernel, rfl, by decide +kernel, by decide +kernel⟩
theorem good_told (T : Tx w K mg) : Good P w K mg base CX0 9 (He.ga K "_law_told") ["note"] (spTold K) := by
  obtain ⟨fd, F⟩ := T.f_law_told
  obtain ⟨_, G_Yard_init, _, b_Yard_init, kb_Yard⟩ := good_YInitK (P := P) (w := w) (base := base) T
  refine ⟨fd, F.ok sc_law_told (fun vs H Q E h => ?_) (fun cdv A outer s H vs Q E hr h => ?_), F.kp, F.bindsN fun _ _ _ _ _ _ us hl => match us, hl with | [_], _ => rfl⟩
  · obtain ⟨_, rfl, _⟩ := h
    rfl
  · obtain ⟨v, rfl, hv⟩ := h
    have SC := sc_law_told
    have hu := hu_of hr
    refine ⟨_, PSs.nox (pss_cons (ps_try_clauses (Wout := fun _ _ _ _ => False) rfl rfl SC.nd takes0 (fun W pn xe tk _ => 
      (pss_one (ps_set (i := 1) SC.nd rfl (by first | exact Or.inl rfl | exact Or.inr rfl) (pe_makeK0S T.mk_Yard G_Yard_init (hr.mono (by decide)) rfl T.g_Yard kb_Yard (fun σ => passAt tk σ) (pk_cons (pv 0) pk_nil))))) (.cons (i := 2) ⟨rfl, by decide, Or.inl T.g_BadYard⟩ rfl rfl (fun a oe cls d pn hz hf => 
      (pss_cons (ps_if (PW.pt (pw_or (pt_val (pe_callB (call_isX2 hz hf) rfl T.n_isinstance (by decide +kernel) (pa_cons (pv 2) (pa_cons (pe_glob (v := .ref (He.ga K "TooMany")) rfl T.g_TooMany rfl) pa_nil)))) (pw_or (pt_val (pe_callB (call_isX2 hz hf) rfl T.n_isinstance (by decide +kernel) (pa_cons (pv 2) (pa_cons (pe_glob (v := .ref (He.ga K "NoSuch")) rfl T.g_NoSuch rfl) pa_nil)))) (pw_or (pt_val (pe_callB (call_isX2 hz hf) rfl T.n_isinstance (by decide +kernel) (pa_cons (pv 2) (pa_cons (pe_glob (v := .ref (He.ga K "OutOf")) rfl T.g_OutOf rfl) pa_nil)))) (pw_or (pt_not (pt_val (pe_callB (call_isX2 hz hf) rfl T.n_isinstance (by decide +kernel) (pa_cons (pv 2) (pa_cons (pe_bltn (v := .ty "ValueError") (u := .type "ValueError") rfl T.n_ValueError (by decide +kernel) rfl) pa_nil))))) (pw_or (pt_not (pt_val (pe_callB (isiQ K) rfl T.n_isinstance (by decide +kernel) (pa_cons (pe_xf T.two_BadYard.xf (T.two_BadYard.no "why" (by simp)) hz hf (pv 2)) (pa_cons (pe_bltn (v := .ty "str") (u := .type "str") rfl T.n_str (by decide +kernel) rfl) pa_nil))))) (pw_or1 (pt_cmpR op_eq (pe_xf T.two_BadYard.xf (T.two_BadYard.no "why" (by simp)) hz hf (pv 2)) pe_str (nomark _))))))))) 
      (pss_one (ps_ret pe_non)) pss_nil) 
      (pss_one (ps_ret (pe_tup (pa_cons pe_str (pa_cons (pe_xf T.two_BadYard.xf (T.two_BadYard.no "line" (by simp)) hz hf (pv 2)) pa_nil))))))) (.cons (i := 2) ⟨rfl, by decide, Or.inl T.g_TooMany⟩ rfl rfl (fun a oe cls d pn hz hf => 
      (pss_one (ps_ret (pe_ifExp (PW.pt (pw_and (pt_cmpR (inQ K) (pe_xf T.two_TooMany.xf (T.two_TooMany.no "what" (by simp)) hz hf (pv 2)) (pe_lst (pa_cons pe_str (pa_cons pe_str pa_nil))) rfl) (pw_and (pt_val (pe_callB (call_isX2 hz hf) rfl T.n_isinstance (by decide +kernel) (pa_cons (pv 2) (pa_cons (pe_bltn (v := .ty "ValueError") (u := .type "ValueError") rfl T.n_ValueError (by decide +kernel) rfl) pa_nil)))) (pw_and1 (pt_not (pt_val (pe_callB (call_isX2 hz hf) rfl T.n_isinstance (by decide +kernel) (pa_cons (pv 2) (pa_cons (pe_glob (v := .ref (He.ga K "BadYard")) rfl T.g_BadYard rfl) pa_nil))))))))) (pe_tup (pa_cons pe_str (pa_cons (pe_xf T.two_TooMany.xf (T.two_TooMany.no "count" (by simp)) hz hf (pv 2)) pa_nil))) pe_non)))) .nil))) 
      (pss_one (ps_ret (pe_ifExp (PW.pt (pw_and (pt_val (pe_callB (isiQ K) rfl T.n_isinstance (by decide +kernel) (pa_cons (fldQ K rfl (pv 1)) (pa_cons (pe_bltn (v := .ty "tuple") (u := .type "tuple") rfl T.n_tuple (by decide +kernel) rfl) pa_nil)))) (pw_and (pt_val (pe_callB (isiQ K) rfl T.n_isinstance (by decide +kernel) (pa_cons (fldQ K rfl (pv 1)) (pa_cons (pe_bltn (v := .ty "tuple") (u := .type "tuple") rfl T.n_tuple (by decide +kernel) rfl) pa_nil)))) (pw_and1 (pt_cmpR op_eq (fldQ K rfl (pv 1)) (pv 0) (nomark _)))))) (pe_tup (pa_cons pe_str (pa_cons (fldQ K rfl (pv 1)) (pa_cons (pe_callTy (listOf K) rfl T.n_list (by decide +kernel) (pa_cons (fldQ K rfl (pv 1)) pa_nil)) (pa_cons (pe_callTy (listOf K) rfl T.n_list (by decide +kernel) (pa_cons (fldQ K rfl (pv 1)) pa_nil)) pa_nil))))) pe_non)))), ?_⟩
    refine ⟨_, rfl, rfl, rfl, fun p dx hp hdx hne => ?_⟩
    have s0 : Same H (upd (upd H dx (.own p)) p (.ins (He.ga K "Yard") dx [])) := same_upd (same_new hdx) hp
    refine ⟨p, dx, _, rfl, upd_same, ?_⟩
    generalize upd (upd H dx (.own p)) p (.ins (He.ga K "Yard") dx []) = Hm at s0 ⊢
    rcases hv with ⟨n, ty, hk, kq⟩ | ⟨x, rfl, hx, hlx, kq⟩
    · refine .inl ⟨n, ty _ s0, hk, ?_⟩
      intro H1 d wd s1 hd ed hw
      refine ⟨true, T.ex_BadYard_BadYard, (fun _ a na => ?_), fun z => (by cases z)⟩
      refine ⟨_, rfl, He.ga K "BadYard", rfl, T.two_BadYard.ic, _, _, false, d, _, rfl, rfl, ed, (fun _ r => r), T.is_BadYard_TooMany, _, rfl, iteF (A := False) ?_⟩
      refine ⟨_, rfl, He.ga K "BadYard", rfl, T.two_BadYard.ic, _, _, false, d, _, rfl, rfl, ed, (fun _ r => r), T.is_BadYard_NoSuch, _, rfl, iteF (A := False) ?_⟩
      refine ⟨_, rfl, He.ga K "BadYard", rfl, T.two_BadYard.ic, _, _, false, d, _, rfl, rfl, ed, (fun _ r => r), T.is_BadYard_OutOf, _, rfl, iteF (A := False) ?_⟩
      refine ⟨_, rfl, He.ga K "BadYard", rfl, T.two_BadYard.ic, _, _, true, d, _, rfl, rfl, ed, (fun _ r => r), T.is_BadYard_ValueError, _, rfl, iteF (A := False) ?_⟩
      refine ⟨_, rfl, rfl, rfl, d, _, _, rfl, ed, rfl, _, _, _, _, _, rfl, .ty _, .base (.str wd), kit_ty (r := true) (by decide +kernel), _, rfl, iteF (A := False) ?_⟩
      refine ⟨_, rfl, rfl, rfl, d, _, _, rfl, ed, rfl, rfl, _, rfl, ?_⟩
      have hw' : decide (V.str wd = V.str ("" : Str)) = false := by
        rw [str_dec]
        exact decide_eq_false fun z => by subst z; exact absurd hw (by decide +kernel)
      rw [hw']
      refine iteF (A := False) ?_
      refine ⟨_, rfl, rfl, rfl, d, _, _, rfl, ed, rfl, by show 2 ≤ sizeLine; decide, fun D hD => ?_⟩
      have s01 := Same.trans s0 s1
      exact kq _ D (same_upd s01 (Same.free s01 hD)) (Same.free s01 hD) upd_same
    · refine .inr ⟨x, rfl, hx, hlx, fun line er => ?_, fun wh n er => ?_, fun c hs es er H' b we ps N R S as k Y PL => ⟨rfl, ?_⟩⟩
      · skip
        intro H1 d wd s1 hd ed hw
        refine ⟨true, T.ex_BadYard_BadYard, (fun _ a na => ?_), fun z => (by cases z)⟩
        refine ⟨_, rfl, He.ga K "BadYard", rfl, T.two_BadYard.ic, _, _, false, d, _, rfl, rfl, ed, (fun _ r => r), T.is_BadYard_TooMany, _, rfl, iteF (A := False) ?_⟩
        refine ⟨_, rfl, He.ga K "BadYard", rfl, T.two_BadYard.ic, _, _, false, d, _, rfl, rfl, ed, (fun _ r => r), T.is_BadYard_NoSuch, _, rfl, iteF (A := False) ?_⟩
        refine ⟨_, rfl, He.ga K "BadYard", rfl, T.two_BadYard.ic, _, _, false, d, _, rfl, rfl, ed, (fun _ r => r), T.is_BadYard_OutOf, _, rfl, iteF (A := False) ?_⟩
        refine ⟨_, rfl, He.ga K "BadYard", rfl, T.two_BadYard.ic, _, _, true, d, _, rfl, rfl, ed, (fun _ r => r), T.is_BadYard_ValueError, _, rfl, iteF (A := False) ?_⟩
        refine ⟨_, rfl, rfl, rfl, d, _, _, rfl, ed, rfl, _, _, _, _, _, rfl, .ty _, .base (.str wd), kit_ty (r := true) (by decide +kernel), _, rfl, iteF (A := False) ?_⟩
        refine ⟨_, rfl, rfl, rfl, d, _, _, rfl, ed, rfl, rfl, _, rfl, ?_⟩
        have hw' : decide (V.str wd = V.str ("" : Str)) = false := by
          rw [str_dec]
          exact decide_eq_false fun z => by subst z; exact absurd hw (by decide +kernel)
        rw [hw']
        refine iteF (A := False) ?_
        refine ⟨_, rfl, rfl, rfl, d, _, _, rfl, ed, rfl, by show 2 ≤ sizeLine; decide, fun D hD => ?_⟩
        have s01 := Same.trans s0 s1
        exact kq _ D (same_upd s01 (Same.free s01 hD)) (Same.free s01 hD) (by rw [er]; exact upd_same)
      · intro H1 d s1 hd ed
        refine ⟨false, T.ex_TooMany_BadYard, (fun z => by cases z), fun _ => ⟨true, T.ex_TooMany_TooMany, (fun _ a na => ?_), fun z => (by cases z)⟩⟩
        refine ⟨_, rfl, rfl, rfl, d, _, _, rfl, ed, rfl, by show 2 ≤ sizeLine; decide, fun t ht => ?_⟩
        generalize hH : upd H1 t _ = H2
        have s2 : Same H1 H2 := hH ▸ same_new ht
        have e2 : H2 t = some (.lst (([("benches" : Str), ("text" : Str)] : List Str).map V.str)) := by rw [← hH]; exact upd_same
        clear hH
        have ed2 := s2 _ _ ed
        refine ⟨t, _, rfl, .inl (SqL.of e2), rfl, strs_flat _, _, rfl, ?_⟩
        rw [in_strs]
        have hwh : wh ∈ [("benches" : Str), ("text" : Str)] := by
          rcases read_many er with h | h
          · rw [h]; simp
          · rw [h]; simp
        rw [decide_eq_true hwh]
        refine iteT (B := False) ?_
        refine ⟨_, rfl, He.ga K "TooMany", rfl, T.two_TooMany.ic, _, _, true, d, _, rfl, rfl, ed2, (fun _ r => r), T.is_TooMany_ValueError, _, rfl, iteT (B := False) ?_⟩
        refine ⟨_, rfl, He.ga K "TooMany", rfl, T.two_TooMany.ic, _, _, false, d, _, rfl, rfl, ed2, (fun _ r => r), T.is_TooMany_BadYard, _, rfl, iteT (B := False) ?_⟩
        refine ⟨_, rfl, rfl, rfl, d, _, _, rfl, ed2, rfl, by show 2 ≤ sizeLine; decide, fun D hD => ?_⟩
        have s02 := Same.trans (Same.trans s0 s1) s2
        exact kq _ D (same_upd s02 (Same.free s02 hD)) (Same.free s02 hD) (by rw [er]; exact upd_same)
      · have zp : H p = none := hp
        have s1 : Same H H' := fun a o z => k a o (s0 a o z) (by rw [List.mem_singleton]; rintro rfl; rw [zp] at z; cases z)
        refine ⟨_, rfl, p, _, _, _, _, rfl, Y.hp, T.cls_Yard, T.a_Yard_benches, rfl, _, _, _, _, _, rfl, .ty _, .base (.tup Y.hb), kit_ty (r := true) (by decide +kernel), _, rfl, iteT (B := False) ?_⟩
        refine ⟨_, rfl, p, _, _, _, _, rfl, Y.hp, T.cls_Yard, T.a_Yard_wires, rfl, _, _, _, _, _, rfl, .ty _, .base (.tup Y.hw), kit_ty (r := true) (by decide +kernel), _, rfl, iteT (B := False) ?_⟩
        refine ⟨_, rfl, p, _, _, _, _, rfl, Y.hp, T.cls_Yard, T.a_Yard_text, rfl, _, rfl, rfl, _, rfl, ?_⟩
        rw [str_dec, decide_eq_true (text_back er)]
        refine iteT (B := False) ?_
        refine ⟨_, rfl, p, _, _, _, _, rfl, Y.hp, T.cls_Yard, T.a_Yard_course, rfl, _, rfl, p, _, _, _, _, rfl, Y.hp, T.cls_Yard, T.a_Yard_benches, rfl, b, _, rfl, .inr (SqT.of Y.hb), fun l1 hl1 => ?_⟩
        have s2 : Same H' (upd H' l1 (.lst (hs.map V.str))) := same_new hl1
        have e2 : upd H' l1 (.lst (hs.map V.str)) l1 = some (.lst (hs.map V.str)) := upd_same
        generalize upd H' l1 (.lst (hs.map V.str)) = H2 at s2 e2 ⊢
        have Y2 := Y.same s2
        refine ⟨_, rfl, p, _, _, _, _, rfl, Y2.hp, T.cls_Yard, T.a_Yard_wires, rfl, we, _, rfl, .inr (SqT.of Y2.hw), fun l2 hl2 => ?_⟩
        have s3 : Same H2 (upd H2 l2 (.lst (as.map V.ref))) := same_new hl2
        have e3 : upd H2 l2 (.lst (as.map V.ref)) l2 = some (.lst (as.map V.ref)) := upd_same
        generalize upd H2 l2 (.lst (as.map V.ref)) = H3 at s3 e3 ⊢
        refine ⟨by show 4 ≤ sizeLine; decide, fun D hD => ?_⟩
        have s13 := Same.trans (Same.trans s1 s2) s3
        have sD : Same H3 (upd H3 D (.tup [.str "good", .bl c, .ref l1, .ref l2])) := same_new hD
        refine kq _ D (Same.trans s13 sD) (Same.free s13 hD) ?_
        rw [er]
        exact ⟨l1, l2, as, upd_same, sD _ _ (s3 _ _ e2), sD _ _ e3, ((Y2.wt.same s3).same sD)⟩
end
end Yd
set_option Elab.async false
set_option linter.all false
set_option maxHeartbeats 2000000
/-! A plan's text is read back. -/
namespace Yd
open PySem PySem.Spec PyProof.Rows L2 Xo
def Pure (x : Str) : Prop := ∀ c ∈ TL.tl x, c ≠ 10 ∧ c ≠ 32
theorem small_pure {x : Str} (h : smallB x = true) : Pure x := fun c hc => by
  unfold smallB at h
  simp only [Bool.and_eq_true, List.all_eq_true] at h
  have := h.2.2.1 c hc
  unfold loA dgA at this
  simp at this
  omega
theorem tl_app (a b : Str) : TL.tl (a ++ b) = TL.tl a ++ TL.tl b := by
  show (a.cps ++ b.cps).toList = _
  rw [Array.toList_append]
theorem split_two {k x : Str} (hk : Pure k) (hx : Pure x) : Txt.split (Str.join " " [k, x]) " " = [k, x] := by
  have := TL.split_join (y := (" " : Str)) (s := 32) (S := []) (by decide +kernel) (by decide +kernel) (parts := [k, x]) (by simp) (fun p hp => by
    rcases List.mem_cons.mp hp with rfl | hp
    · exact fun m => (hk 32 m).2 rfl
    · rw [List.mem_singleton.mp hp]; exact fun m => (hx 32 m).2 rfl)
  rw [TL.join_eq] at this
  exact this
theorem split_three {k a b : Str} (hk : Pure k) (ha : Pure a) (hb : Pure b) : Txt.split (Str.join " " [k, a, b]) " " = [k, a, b] := by
  have := TL.split_join (y := (" " : Str)) (s := 32) (S := []) (by decide +kernel) (by decide +kernel) (parts := [k, a, b]) (by simp) (fun p hp => by
    rcases List.mem_cons.mp hp with rfl | hp
    · exact fun m => (hk 32 m).2 rfl
    · rcases List.mem_cons.mp hp with rfl | hp
      · exact fun m => (ha 32 m).2 rfl
      · rw [List.mem_singleton.mp hp]; exact fun m => (hb 32 m).2 rfl)
  rw [TL.join_eq] at this
  exact this
theorem app_assoc (p q r : Str) : p ++ q ++ r = p ++ (q ++ r) := by
  have : (p ++ q ++ r).cps = (p ++ (q ++ r)).cps := Array.append_assoc ..
  cases h1 : p ++ q ++ r
  cases h2 : p ++ (q ++ r)
  rw [h1, h2] at this
  simp only at this
  rw [this]
def rowB (c : Bool) (h : Str) : Str := if c = true then ("moment " : Str) ++ h else ("bench " : Str) ++ h
theorem kw_pure (c : Bool) : Pure (kwY c) := by
  cases c
  · have : ∀ c ∈ TL.tl ("bench" : Str), c ≠ 10 ∧ c ≠ 32 := by decide +kernel
    exact this
  · have : ∀ c ∈ TL.tl ("moment" : Str), c ≠ 10 ∧ c ≠ 32 := by decide +kernel
    exact this
theorem row_split {c : Bool} {h : Str} (hx : smallB h = true) : Txt.split (rowB c h) " " = [kwY c, h] := by
  have e : rowB c h = Str.join " " [kwY c, h] := by
    cases c with
    | true =>
      have e1 : ("moment" : Str) ++ (" " : Str) = ("moment " : Str) := by decide +kernel
      exact (lit2 _ h _ e1).symm
    | false =>
      have e1 : ("bench" : Str) ++ (" " : Str) = ("bench " : Str) := by decide +kernel
      exact (lit2 _ h _ e1).symm
  rw [e]
  exact split_two (kw_pure c) (small_pure hx)
def rowW (e : Wr) : Str := ("wire " : Str) ++ e.1 ++ (" " : Str) ++ e.2
theorem wire_split {e : Wr} (h1 : smallB e.1 = true) (h2 : smallB e.2 = true) : Txt.split (rowW e) " " = [("wire" : Str), e.1, e.2] := by
  have kp : Pure ("wire" : Str) := by
    have : ∀ c ∈ TL.tl ("wire" : Str), c ≠ 10 ∧ c ≠ 32 := by decide +kernel
    exact this
  have e1 : ("wire" : Str) ++ (" " : Str) = ("wire " : Str) := by decide +kernel
  have e : rowW e = Str.join " " [("wire" : Str), e.1, e.2] := by
    show _ = ("wire" : Str) ++ " " ++ (e.1 ++ " " ++ e.2)
    unfold rowW
    rw [e1, app_assoc, app_assoc, app_assoc]
  rw [e]
  exact split_three kp (small_pure h1) (small_pure h2)
theorem take_row {c : Bool} {hs : List Str} {x : Str} (hx : smallB x = true) (nx : x ∉ hs) : takeY c hs [] false [kwY c, x] = if 14 < hs.length + 1 then .many else .ok (hs ++ [x]) [] false := by
  have : takeY c hs [] false [kwY c, x] = benchY hs [] x := by unfold takeY; simp
  rw [this]
  unfold benchY
  simp [hx, nx]
theorem go_rows {c : Bool} (rest : List Str) : ∀ (bs : List Str) (k : Nat) (hs : List Str), (hs ++ bs).Nodup → (∀ b ∈ bs, smallB b = true) → (hs ++ bs).length ≤ 14 → goY c (bs.map (rowB c) ++ rest) k hs [] false = goY c rest (k + bs.length) (hs ++ bs) [] false
  | [], k, hs, _, _, _ => by simp
  | b :: bs, k, hs, nd, sm, ln => by
    have nb : b ∉ hs := fun m => by
      rw [List.nodup_append] at nd
      exact nd.2.2 b m b (by simp) rfl
    have e : hs ++ b :: bs = (hs ++ [b]) ++ bs := by simp
    rw [List.map_cons, List.cons_append, goY_cons, row_split (sm b (by simp)), take_row (sm b (by simp)) nb]
    rw [if_neg (by simp at ln; omega)]
    show goY c (bs.map (rowB c) ++ rest) (k + 1) (hs ++ [b]) [] false = _
    rw [go_rows rest bs (k + 1) (hs ++ [b]) (by rw [← e]; exact nd) (fun x hx => sm x (List.mem_cons_of_mem _ hx)) (by rw [← e]; exact ln), e]
    congr 1
    simp; omega
theorem go_rows_many {c : Bool} (rest : List Str) : ∀ (bs : List Str) (k : Nat) (hs : List Str), (hs ++ bs).Nodup → (∀ b ∈ bs, smallB b = true) → hs.length ≤ 14 → 14 < (hs ++ bs).length → goY c (bs.map (rowB c) ++ rest) k hs [] false = .many "benches" 14
  | [], k, hs, _, _, h1, h2 => by simp at h2; omega
  | b :: bs, k, hs, nd, sm, h1, h2 => by
    have nb : b ∉ hs := fun m => by
      rw [List.nodup_append] at nd
      exact nd.2.2 b m b (by simp) rfl
    have e : hs ++ b :: bs = (hs ++ [b]) ++ bs := by simp
    rw [List.map_cons, List.cons_append, goY_cons, row_split (sm b (by simp)), take_row (sm b (by simp)) nb]
    by_cases q : 14 < hs.length + 1
    · rw [if_pos q]
    · rw [if_neg q]
      show goY c (bs.map (rowB c) ++ rest) (k + 1) (hs ++ [b]) [] false = _
      exact go_rows_many rest bs (k + 1) (hs ++ [b]) (by rw [← e]; exact nd) (fun x hx => sm x (List.mem_cons_of_mem _ hx)) (by simp; omega) (by rw [← e]; exact h2)
theorem go_wires {hs : List Str} (sm : ∀ h ∈ hs, smallB h = true) (rest : List Str) : ∀ (ws : List Wr) (k : Nat) (es : List Wr), (∀ e ∈ ws, e.1 ∈ hs ∧ e.2 ∈ hs) → (∀ e1 a b e2, es ++ ws = e1 ++ (a, b) :: e2 → ¬ Conn e1 a b) → goY false (ws.map rowW ++ rest) k hs es false = goY false rest (k + ws.length) hs (es ++ ws) false
  | [], k, es, _, _ => by simp
  | (a, b) :: ws, k, es, hw, nr => by
    obtain ⟨ha, hb⟩ := hw (a, b) (by simp)
    have e : es ++ (a, b) :: ws = (es ++ [(a, b)]) ++ ws := by simp
    have tk : takeY false hs es false [("wire" : Str), a, b] = .ok hs (es ++ [(a, b)]) false :=
      take_wire (les := es) (k0 := ("wire" : Str)) (wr := [a, b]) (fun _ => rfl) rfl rfl rfl ha hb (fun m => nr es a b ws rfl (mem_reach_none.mp m))
    rw [List.map_cons, List.cons_append, goY_cons, wire_split (e := (a, b)) (sm a ha) (sm b hb), tk]
    show goY false (ws.map rowW ++ rest) (k + 1) hs (es ++ [(a, b)]) false = _
    rw [go_wires sm rest ws (k + 1) (es ++ [(a, b)]) (fun x hx => hw x (List.mem_cons_of_mem _ hx)) (fun e1 x y e2 h => nr e1 x y e2 (by rw [← h, e])), e]
    congr 1
    simp; omega
theorem go_done {c : Bool} {hs : List Str} {es : List Wr} {k : Nat} (S : RSt c hs es false) (hne : hs ≠ []) (hl : c = true ∨ es.length + 1 = hs.length) : goY c [("done" : Str)] k hs es false = .ok c hs (if c = true then hs.zip hs.tail else es) := by
  rw [goY_cons, (done_split _).mpr rfl]
  have tk := take_done (c := c) (hs := hs) (es := es) (les := es) (k0 := ("done" : Str)) (wr := []) S (fun _ => rfl) rfl hne hl
  rw [tk]
  show goY c [] (k + 1) hs _ true = _
  unfold goY
  simp
structure Tree (hs : List Str) (es : List Wr) : Prop where
  len : es.length + 1 = hs.length
  wf : ∀ e ∈ es, e.1 ∈ hs ∧ e.2 ∈ hs
  conn : ∀ a ∈ hs, ∀ b ∈ hs, Conn es a b
theorem tree_rst {hs : List Str} (nd : hs.Nodup) (sm : ∀ h ∈ hs, smallB h = true) (few : hs.length ≤ 14) : ∀ (es : List Wr), (∀ e ∈ es, e.1 ∈ hs ∧ e.2 ∈ hs) → (∀ e1 a b e2, es = e1 ++ (a, b) :: e2 → ¬ Conn e1 a b) → RSt false hs es false := fun es wf nr => by
  have fr : ∀ (ws es0 : List Wr), (∀ e ∈ ws, e.1 ∈ hs ∧ e.2 ∈ hs) → (∀ e1 a b e2, es0 ++ ws = e1 ++ (a, b) :: e2 → ¬ Conn e1 a b) → Frst hs es0 → Frst hs (es0 ++ ws) := by
    intro ws
    induction ws with
    | nil => intro es0 _ _ h; rw [List.append_nil]; exact h
    | cons e ws ih =>
      intro es0 hw nr h
      obtain ⟨a, b⟩ := e
      obtain ⟨ha, hb⟩ := hw (a, b) (by simp)
      have q : es0 ++ (a, b) :: ws = (es0 ++ [(a, b)]) ++ ws := by simp
      rw [q]
      exact ih (es0 ++ [(a, b)]) (fun x hx => hw x (List.mem_cons_of_mem _ hx)) (fun e1 x y e2 hh => nr e1 x y e2 (by rw [q, hh])) (h.wire ha hb (nr es0 a b ws rfl))
  exact ⟨nd, sm, few, fun _ => by have := fr es [] wf (by simpa using nr) (Frst.nil nd); simpa using this, wf, fun z => (by cases z), fun z => (by cases z), fun z => (by cases z)⟩
theorem rows_back {c : Bool} {hs : List Str} {es : List Wr} (nd : hs.Nodup) (sm : ∀ h ∈ hs, smallB h = true) (few : hs.length ≤ 14) (hne : hs ≠ []) (tr : c = false → Tree hs es) : rowsY (rowsT c hs es) = .ok c hs (if c = true then hs.zip hs.tail else es) := by
  cases c with
  | true =>
    have e : rowsT true hs es = ("course" : Str) :: (hs.map (rowB true) ++ [("done" : Str)]) := by unfold rowsT rowB; simp
    rw [e]
    show (if ("course" : Str) ≠ ("yard" : Str) ∧ ("course" : Str) ≠ ("course" : Str) then RdO.bad 1 else goY (decide (("course" : Str) = ("course" : Str))) (hs.map (rowB true) ++ [("done" : Str)]) 1 [] [] false) = _
    rw [if_neg (fun z => z.2 rfl), decide_eq_true rfl, go_rows _ hs 1 [] (by simpa using nd) sm (by simpa using few)]
    refine go_done ⟨by simpa using nd, by simpa using sm, by simpa using few, fun z => (by cases z), fun e h => (by simp at h), fun _ _ => rfl, fun z => (by cases z), fun _ z => (by cases z)⟩ (by simpa using hne) (.inl rfl)
  | false =>
    have T := tr rfl
    have nr : ∀ e1 a b e2, es = e1 ++ (a, b) :: e2 → ¬ Conn e1 a b := fun e1 a b e2 h => tree_prefix nd T.conn T.len h
    have e : rowsT false hs es = ("yard" : Str) :: (hs.map (rowB false) ++ (es.map rowW ++ [("done" : Str)])) := by
      unfold rowsT rowB
      simp
      exact fun a b _ => rfl
    have hyc : ¬ (("yard" : Str) = ("course" : Str)) := by decide +kernel
    rw [e]
    show (if ("yard" : Str) ≠ ("yard" : Str) ∧ ("yard" : Str) ≠ ("course" : Str) then RdO.bad 1 else goY (decide (("yard" : Str) = ("course" : Str))) (hs.map (rowB false) ++ (es.map rowW ++ [("done" : Str)])) 1 [] [] false) = _
    rw [if_neg (fun z => z.1 rfl), decide_eq_false hyc, go_rows _ hs 1 [] (by simpa using nd) sm (by simpa using few), List.nil_append, go_wires sm _ es (1 + hs.length) [] T.wf (by simpa using nr), List.nil_append]
    exact go_done (tree_rst nd sm few es T.wf nr) hne (.inr T.len)
theorem rows_many {c : Bool} {hs : List Str} {es : List Wr} (nd : hs.Nodup) (sm : ∀ h ∈ hs, smallB h = true) (many : 14 < hs.length) : rowsY (rowsT c hs es) = .many "benches" 14 := by
  cases c with
  | true =>
    have e : rowsT true hs es = ("course" : Str) :: (hs.map (rowB true) ++ [("done" : Str)]) := by unfold rowsT rowB; simp
    rw [e]
    show (if ("course" : Str) ≠ ("yard" : Str) ∧ ("course" : Str) ≠ ("course" : Str) then RdO.bad 1 else goY (decide (("course" : Str) = ("course" : Str))) (hs.map (rowB true) ++ [("done" : Str)]) 1 [] [] false) = _
    rw [if_neg (fun z => z.2 rfl), decide_eq_true rfl]
    exact go_rows_many _ hs 1 [] (by simpa using nd) sm (by simp) (by simpa using many)
  | false =>
    have e : rowsT false hs es = ("yard" : Str) :: (hs.map (rowB false) ++ (es.map rowW ++ [("done" : Str)])) := by
      unfold rowsT rowB
      simp
      exact fun a b _ => rfl
    have hyc : ¬ (("yard" : Str) = ("course" : Str)) := by decide +kernel
    rw [e]
    show (if ("yard" : Str) ≠ ("yard" : Str) ∧ ("yard" : Str) ≠ ("course" : Str) then RdO.bad 1 else goY (decide (("yard" : Str) = ("course" : Str))) (hs.map (rowB false) ++ (es.map rowW ++ [("done" : Str)])) 1 [] [] false) = _
    rw [if_neg (fun z => z.1 rfl), decide_eq_false hyc]
    exact go_rows_many _ hs 1 [] (by simpa using nd) sm (by simp) (by simpa using many)
end Yd
set_option Elab.async false
set_option linter.all false
set_option maxHeartbeats 2000000
/-! readY of a written yard. -/
namespace Yd
open PySem PySem.Spec PyProof.Rows L2 Xo
def NoNl (x : Str) : Prop := ∀ c ∈ TL.tl x, c ≠ 10
theorem NoNl.app {a b : Str} (ha : NoNl a) (hb : NoNl b) : NoNl (a ++ b) := fun c hc => by
  rw [tl_app] at hc
  rcases List.mem_append.mp hc with h | h
  · exact ha c h
  · exact hb c h
theorem small_nonl {x : Str} (h : smallB x = true) : NoNl x := fun c hc => (small_pure h c hc).1
theorem rows_nonl {c : Bool} {hs : List Str} {es : List Wr} (sm : ∀ h ∈ hs, smallB h = true) (wf : c = false → ∀ e ∈ es, smallB e.1 = true ∧ smallB e.2 = true) : ∀ r ∈ rowsT c hs es, NoNl r ∧ okS r := by
  have lit : ∀ y ∈ ([("course" : Str), ("yard" : Str), ("moment " : Str), ("bench " : Str), ("wire " : Str), (" " : Str), ("done" : Str)] : List Str), (∀ c ∈ TL.tl y, c ≠ 10) ∧ PyData.strOk y = true := by decide +kernel
  intro r hr
  unfold rowsT at hr
  rcases List.mem_append.mp hr with hr | hr
  · cases c with
    | true =>
      rw [if_pos rfl] at hr
      rcases List.mem_append.mp hr with hr | hr
      · rw [List.mem_singleton.mp hr]; exact lit _ (by simp)
      · obtain ⟨h, hm, rfl⟩ := List.mem_map.mp hr
        have l := lit ("moment " : Str) (by simp)
        exact ⟨NoNl.app l.1 (small_nonl (sm h hm)), okS_app l.2 (small_ok (sm h hm))⟩
    | false =>
      rw [if_neg (by simp)] at hr
      rcases List.mem_append.mp hr with hr | hr
      · rcases List.mem_append.mp hr with hr | hr
        · rw [List.mem_singleton.mp hr]; exact lit _ (by simp)
        · obtain ⟨h, hm, rfl⟩ := List.mem_map.mp hr
          have l := lit ("bench " : Str) (by simp)
          exact ⟨NoNl.app l.1 (small_nonl (sm h hm)), okS_app l.2 (small_ok (sm h hm))⟩
      · obtain ⟨e, hm, rfl⟩ := List.mem_map.mp hr
        obtain ⟨s1, s2⟩ := wf rfl e hm
        have l := lit ("wire " : Str) (by simp)
        have l2 := lit (" " : Str) (by simp)
        exact ⟨NoNl.app (NoNl.app (NoNl.app l.1 (small_nonl s1)) l2.1) (small_nonl s2), okS_app (okS_app (okS_app l.2 (small_ok s1)) l2.2) (small_ok s2)⟩
  · rw [List.mem_singleton.mp hr]; exact lit _ (by simp)
theorem text_rows {c : Bool} {hs : List Str} {es : List Wr} (sm : ∀ h ∈ hs, smallB h = true) (wf : c = false → ∀ e ∈ es, smallB e.1 = true ∧ smallB e.2 = true) : Txt.split (yardT c hs es) "\n" = rowsT c hs es := by
  have ne : rowsT c hs es ≠ [] := by unfold rowsT; simp
  exact TL.split_join (y := ("\n" : Str)) (s := 10) (S := []) (by decide +kernel) (by decide +kernel) ne (fun p hp m => (rows_nonl sm wf p hp).1 10 m rfl)
theorem text_ok {c : Bool} {hs : List Str} {es : List Wr} (sm : ∀ h ∈ hs, smallB h = true) (wf : c = false → ∀ e ∈ es, smallB e.1 = true ∧ smallB e.2 = true) : okS (yardT c hs es) := by
  unfold yardT
  rw [TL.join_eq]
  exact okS_join (by show PyData.strOk _ = true; decide +kernel) fun r hr => (rows_nonl sm wf r hr).2
theorem text_short {c : Bool} {hs : List Str} {es : List Wr} (S : Sml hs es) : (yardT c hs es).length ≤ 40000 := by
  have h1 := rows_le (c := c) S
  have h2 : (rowsT c hs es).length ≤ 100 := by
    have := S.hn
    have := S.en
    unfold rowsT
    cases c <;> simp <;> omega
  have key : ∀ l : List Str, (∀ r ∈ l, r.length ≤ 300) → (Str.join "\n" l).length ≤ l.length * 301 := by
    intro l
    induction l with
    | nil => intro _; show (0 : Nat) ≤ _; omega
    | cons a l ih =>
      intro h
      have ha := h a List.mem_cons_self
      cases l with
      | nil => show a.length ≤ _; simp; omega
      | cons b l =>
        have := ih fun r hr => h r (List.mem_cons_of_mem _ hr)
        have e : (Str.join "\n" (a :: b :: l)).length = a.length + 1 + (Str.join "\n" (b :: l)).length := by
          show (a ++ "\n" ++ Str.join "\n" (b :: l)).length = _
          rw [str_len, str_len]; rfl
        rw [e]
        simp only [List.length_cons] at this ⊢
        omega
  have := key _ h1
  unfold yardT
  rw [TL.join_eq]
  omega
theorem small_len100 {hs : List Str} {es : List Wr} (h1 : hs.length ≤ 30) (h2 : es.length ≤ 30) (sm : ∀ h ∈ hs, smallB h = true) (wf : ∀ e ∈ es, e.1 ∈ hs ∧ e.2 ∈ hs) : Sml hs es := by
  have l : ∀ x, smallB x = true → x.length ≤ 100 := fun x h => by
    have := (small_len h).1
    have e : x.cps.toList.length = x.length := Array.length_toList
    omega
  exact ⟨h1, h2, fun h m => l h (sm h m), fun e m => ⟨l _ (sm _ (wf e m).1), l _ (sm _ (wf e m).2)⟩⟩
theorem read_of {c : Bool} {hs : List Str} {es : List Wr} (S : Sml hs es) (sm : ∀ h ∈ hs, smallB h = true) (wf : c = false → ∀ e ∈ es, smallB e.1 = true ∧ smallB e.2 = true) : readY (yardT c hs es) = rowsY (rowsT c hs es) := by
  have := text_short (c := c) S
  unfold readY
  rw [if_neg (by omega), text_rows sm wf]
/-- a tree's text, a course's text -/
theorem read_ok {c : Bool} {hs : List Str} {es : List Wr} (nd : hs.Nodup) (sm : ∀ h ∈ hs, smallB h = true) (few : hs.length ≤ 14) (hne : hs ≠ []) (tr : c = false → Tree hs es) (hz : c = true → Sml hs es) : readY (yardT c hs es) = .ok c hs (if c = true then hs.zip hs.tail else es) := by
  have wf : c = false → ∀ e ∈ es, smallB e.1 = true ∧ smallB e.2 = true := fun z e he => ⟨sm _ ((tr z).wf e he).1, sm _ ((tr z).wf e he).2⟩
  have S : Sml hs es := by
    cases c with
    | true => exact hz rfl
    | false =>
      have := (tr rfl).len
      exact small_len100 (by omega) (by omega) sm (tr rfl).wf
  rw [read_of S sm wf]
  exact rows_back nd sm few hne tr
end Yd
set_option Elab.async false
set_option linter.all false
set_option maxHeartbeats 2000000
/-! Rows, stars and days in plain Lean. -/
namespace Yd
open PySem PySem.Spec PyProof.Rows L2 Xo
theorem diff_iff {seen : List Str} : ∀ {ws : List Str}, diffB seen ws = true ↔ ws.Nodup ∧ (∀ x ∈ ws, smallB x = true) ∧ ∀ x ∈ ws, x ∉ seen
  | [] => by simp [diffB]
  | y :: ws => by
    have ih := diff_iff (seen := seen ++ [y]) (ws := ws)
    unfold diffB
    rw [Bool.and_eq_true, Bool.and_eq_true, ih, List.nodup_cons]
    simp only [Bool.not_eq_true', decide_eq_false_iff_not, List.mem_cons, List.mem_append, List.mem_nil_iff, or_false]
    constructor
    · rintro ⟨h1, h2, h3, h4, h5⟩
      exact ⟨⟨fun m => h5 y m (.inr rfl), h3⟩, fun x hx => hx.elim (fun e => e ▸ h1) (h4 x), fun x hx => hx.elim (fun e => e ▸ h2) fun m q => h5 x m (.inl q)⟩
    · rintro ⟨⟨h1, h2⟩, h3, h4⟩
      exact ⟨h3 y (.inl rfl), h4 y (.inl rfl), h2, fun x hx => h3 x (.inr hx), fun x hx q => q.elim (h4 x (.inr hx)) fun e => h1 (e ▸ hx)⟩
theorem tree_zip {ws : List Str} (hne : ws ≠ []) : Tree ws (ws.zip ws.tail) := by
  refine ⟨?_, zip_wf, course_conn ws⟩
  have := List.length_pos_iff.mpr hne
  rw [List.length_zip, List.length_tail]
  omega
theorem tree_star {m : Str} {ls : List Str} : Tree (m :: ls) (starE m ls) := by
  refine ⟨by unfold starE; simp, fun e he => ?_, ?_⟩
  · obtain ⟨l, hl, rfl⟩ := List.mem_map.mp he
    exact ⟨by simp, List.mem_cons_of_mem _ hl⟩
  · have all : ∀ x ∈ m :: ls, Conn (starE m ls) m x := fun x hx => by
      rcases List.mem_cons.mp hx with rfl | hx
      · exact .refl _
      · exact .one (.inl (List.mem_map.mpr ⟨x, hx, rfl⟩))
    exact fun a ha b hb => (all a ha).symm.trans (all b hb)
theorem made_days {ws : List Str} (hne : ws ≠ []) (hd : diffB [] ws = true) (hl : ws.length ≤ 14) : okS (yardT true ws []) ∧ readY (yardT true ws []) = .ok true ws (ws.zip ws.tail) := by
  obtain ⟨nd, sm, _⟩ := diff_iff.mp hd
  refine ⟨text_ok sm (fun z => by cases z), ?_⟩
  rw [read_ok nd sm hl hne (fun z => by cases z) (fun _ => small_len100 (by omega) (by simp) sm (by simp))]
  rfl
theorem made_tree {ws : List Str} {es : List Wr} (hne : ws ≠ []) (hd : diffB [] ws = true) (hl : ws.length ≤ 14) (T : Tree ws es) : okS (yardT false ws es) ∧ readY (yardT false ws es) = .ok false ws es := by
  obtain ⟨nd, sm, _⟩ := diff_iff.mp hd
  refine ⟨text_ok sm (fun _ e he => ⟨sm _ (T.wf e he).1, sm _ (T.wf e he).2⟩), ?_⟩
  rw [read_ok nd sm hl hne (fun _ => T) (fun z => by cases z)]
  rfl
/-- what the row, star or days of words is due -/
inductive MdO where
  | bad
  | text (c : Bool) (ws : List Str) (es : List Wr)
end Yd
set_option Elab.async false
set_option linter.all false
set_option maxRecDepth 100000
set_option maxHeartbeats 16000000
namespace Yd
open PySem PySem.Spec PyProof.Rows L2 Xo
section
variable {P : Program} {w : World} {K : PySem.W.Frag} {mg : Str → Option Value} {base : Heap}
def spCrowd : Sp := fun vs H Q _ => ∃ (wa : Addr) (ws : List Str) (days : Bool), vs = [.ref wa, .bl days] ∧ H wa = some (.lst (ws.map V.str)) ∧ ws.length = 15 ∧ ws.Nodup ∧ (∀ x ∈ ws, smallB x = true) ∧ ∀ (H' : Hp) (r : Addr), Same H H' → H r = none → H' r = some (.tup [.str "benches", .int 14]) → Q (.ref r) H'
theorem sc_law_crowd : FnScope ["words", "days", "e"] ["words", "days"] (defScope s_law_crowd) := ⟨rfl, rfl, rfl, by decide +kernel, rfl, by decide +kernel, by decide +kernel⟩
theorem good_crowd (T : Tx w K mg) : Good P w K mg base CX0 10 (He.ga K "_law_crowd") ["words", "days"] spCrowd := by
  obtain ⟨fd, F⟩ := T.f_law_crowd
  have R_in_days := R_in_days (P := P) (w := w) (base := base) T
  have R_in_star := R_in_star (P := P) (w := w) (base := base) T
  refine ⟨fd, F.ok sc_law_crowd (fun vs H Q E h => ?_) (fun cdv A outer s H vs Q E hr h => ?_), F.kp, F.bindsN fun _ _ _ _ _ _ us hl => match us, hl with | [_, _], _ => rfl⟩
  · obtain ⟨_, _, _, rfl, _⟩ := h
    rfl
  · obtain ⟨wa, ws, days, rfl, ew, len, nd, sm, kq⟩ := h
    have SC := sc_law_crowd
    have hu := hu_of hr
    refine ⟨_, PSs.nox (pss_cons (ps_try_clauses (Wout := fun _ _ _ _ => False) rfl rfl SC.nd takes0 (fun W pn xe tk _ => 
      (pss_one (ps_if (pt_val (pv 1)) 
      (pss_one (ps_expr (pe_smethS (pe_glob (v := .ref (He.ga K "Yard")) rfl T.g_Yard rfl) T.sm_Yard_in_days R_in_days (hr.mono (by decide)) (fun σ => passAt tk σ) (pa_cons (pe_ix (ixL K) (pv 0) pe_int (fun _ _ => rfl)) (pa_cons (pe_ix (ixL K) (pv 0) pe_int (fun _ _ => rfl)) (pa_cons (pe_ix (ixL K) (pv 0) pe_int (fun _ _ => rfl)) (pa_cons (pe_ix (ixL K) (pv 0) pe_int (fun _ _ => rfl)) (pa_cons (pe_ix (ixL K) (pv 0) pe_int (fun _ _ => rfl)) (pa_cons (pe_ix (ixL K) (pv 0) pe_int (fun _ _ => rfl)) (pa_cons (pe_ix (ixL K) (pv 0) pe_int (fun _ _ => rfl)) (pa_cons (pe_ix (ixL K) (pv 0) pe_int (fun _ _ => rfl)) (pa_cons (pe_ix (ixL K) (pv 0) pe_int (fun _ _ => rfl)) (pa_cons (pe_ix (ixL K) (pv 0) pe_int (fun _ _ => rfl)) (pa_cons (pe_ix (ixL K) (pv 0) pe_int (fun _ _ => rfl)) (pa_cons (pe_ix (ixL K) (pv 0) pe_int (fun _ _ => rfl)) (pa_cons (pe_ix (ixL K) (pv 0) pe_int (fun _ _ => rfl)) (pa_cons (pe_ix (ixL K) (pv 0) pe_int (fun _ _ => rfl)) (pa_cons (pe_ix (ixL K) (pv 0) pe_int (fun _ _ => rfl)) pa_nil)))))))))))))))))) 
      (pss_one (ps_expr (pe_smethS (pe_glob (v := .ref (He.ga K "Yard")) rfl T.g_Yard rfl) T.sm_Yard_in_star R_in_star (hr.mono (by decide)) (fun σ => passAt tk σ) (pa_cons (pe_ix (ixL K) (pv 0) pe_int (fun _ _ => rfl)) (pa_cons (pe_ix (ixL K) (pv 0) pe_int (fun _ _ => rfl)) (pa_cons (pe_ix (ixL K) (pv 0) pe_int (fun _ _ => rfl)) (pa_cons (pe_ix (ixL K) (pv 0) pe_int (fun _ _ => rfl)) (pa_cons (pe_ix (ixL K) (pv 0) pe_int (fun _ _ => rfl)) (pa_cons (pe_ix (ixL K) (pv 0) pe_int (fun _ _ => rfl)) (pa_cons (pe_ix (ixL K) (pv 0) pe_int (fun _ _ => rfl)) (pa_cons (pe_ix (ixL K) (pv 0) pe_int (fun _ _ => rfl)) (pa_cons (pe_ix (ixL K) (pv 0) pe_int (fun _ _ => rfl)) (pa_cons (pe_ix (ixL K) (pv 0) pe_int (fun _ _ => rfl)) (pa_cons (pe_ix (ixL K) (pv 0) pe_int (fun _ _ => rfl)) (pa_cons (pe_ix (ixL K) (pv 0) pe_int (fun _ _ => rfl)) (pa_cons (pe_ix (ixL K) (pv 0) pe_int (fun _ _ => rfl)) (pa_cons (pe_ix (ixL K) (pv 0) pe_int (fun _ _ => rfl)) (pa_cons (pe_ix (ixL K) (pv 0) pe_int (fun _ _ => rfl)) pa_nil))))))))))))))))))))) (.cons (i := 2) ⟨rfl, by decide, Or.inl T.g_TooMany⟩ rfl rfl (fun a oe cls d pn hz hf => 
      (pss_one (ps_ret (pe_tup (pa_cons (pe_xf T.two_TooMany.xf (T.two_TooMany.no "what" (by simp)) hz hf (pv 2)) (pa_cons (pe_xf T.two_TooMany.xf (T.two_TooMany.no "count" (by simp)) hz hf (pv 2)) pa_nil)))))) .nil)) 
      (pss_one (ps_ret pe_non))), ?_⟩
    have hd : diffB [] ws = true := diff_iff.mpr ⟨nd, sm, fun _ _ => by simp⟩
    have ll : ∀ x ∈ ws, x.length ≤ 200000 := fun x hx => by have := small_100 (sm x hx); omega
    obtain ⟨a0, a1, a2, a3, a4, a5, a6, a7, a8, a9, a10, a11, a12, a13, a14, rfl⟩ : ∃ a0 a1 a2 a3 a4 a5 a6 a7 a8 a9 a10 a11 a12 a13 a14, ws = [a0, a1, a2, a3, a4, a5, a6, a7, a8, a9, a10, a11, a12, a13, a14] := by
      match ws, len with
      | [a0, a1, a2, a3, a4, a5, a6, a7, a8, a9, a10, a11, a12, a13, a14], _ => exact ⟨a0, a1, a2, a3, a4, a5, a6, a7, a8, a9, a10, a11, a12, a13, a14, rfl⟩
    refine ⟨_, rfl, _, rfl, ?_⟩
    cases days with
    | true =>
      refine iteT (B := False) ⟨rfl, _, rfl, wa, _, 0, _, rfl, rfl, SqL.of ew, rfl, _, rfl, wa, _, 1, _, rfl, rfl, SqL.of ew, rfl, _, rfl, wa, _, 2, _, rfl, rfl, SqL.of ew, rfl, _, rfl, wa, _, 3, _, rfl, rfl, SqL.of ew, rfl, _, rfl, wa, _, 4, _, rfl, rfl, SqL.of ew, rfl, _, rfl, wa, _, 5, _, rfl, rfl, SqL.of ew, rfl, _, rfl, wa, _, 6, _, rfl, rfl, SqL.of ew, rfl, _, rfl, wa, _, 7, _, rfl, rfl, SqL.of ew, rfl, _, rfl, wa, _, 8, _, rfl, rfl, SqL.of ew, rfl, _, rfl, wa, _, 9, _, rfl, rfl, SqL.of ew, rfl, _, rfl, wa, _, 10, _, rfl, rfl, SqL.of ew, rfl, _, rfl, wa, _, 11, _, rfl, rfl, SqL.of ew, rfl, _, rfl, wa, _, 12, _, rfl, rfl, SqL.of ew, rfl, _, rfl, wa, _, 13, _, rfl, rfl, SqL.of ew, rfl, _, rfl, wa, _, 14, _, rfl, rfl, SqL.of ew, rfl, [a0, a1, a2, a3, a4, a5, a6, a7, a8, a9, a10, a11, a12, a13, a14], rfl, ll, (by show 15 ≤ 1000; decide), fun z => z.elim (fun q => by cases q) (fun q => by rw [hd] at q; cases q), fun _ _ _ => ?_, fun _ _ q => absurd q (by show ¬ 15 ≤ 14; decide)⟩
      · intro H1 d s1 hd ed
        refine ⟨true, T.ex_TooMany_TooMany, (fun _ a na => ?_), fun z => (by cases z)⟩
        refine ⟨_, rfl, rfl, rfl, d, _, _, rfl, ed, rfl, _, rfl, rfl, rfl, d, _, _, rfl, ed, rfl, by show 2 ≤ sizeLine; decide, fun D hD => ?_⟩
        exact kq _ D (same_upd s1 (Same.free s1 hD)) (Same.free s1 hD) upd_same
    | false =>
      refine iteF (A := False) ⟨rfl, _, rfl, wa, _, 0, _, rfl, rfl, SqL.of ew, rfl, _, rfl, wa, _, 1, _, rfl, rfl, SqL.of ew, rfl, _, rfl, wa, _, 2, _, rfl, rfl, SqL.of ew, rfl, _, rfl, wa, _, 3, _, rfl, rfl, SqL.of ew, rfl, _, rfl, wa, _, 4, _, rfl, rfl, SqL.of ew, rfl, _, rfl, wa, _, 5, _, rfl, rfl, SqL.of ew, rfl, _, rfl, wa, _, 6, _, rfl, rfl, SqL.of ew, rfl, _, rfl, wa, _, 7, _, rfl, rfl, SqL.of ew, rfl, _, rfl, wa, _, 8, _, rfl, rfl, SqL.of ew, rfl, _, rfl, wa, _, 9, _, rfl, rfl, SqL.of ew, rfl, _, rfl, wa, _, 10, _, rfl, rfl, SqL.of ew, rfl, _, rfl, wa, _, 11, _, rfl, rfl, SqL.of ew, rfl, _, rfl, wa, _, 12, _, rfl, rfl, SqL.of ew, rfl, _, rfl, wa, _, 13, _, rfl, rfl, SqL.of ew, rfl, _, rfl, wa, _, 14, _, rfl, rfl, SqL.of ew, rfl, a0, [a1, a2, a3, a4, a5, a6, a7, a8, a9, a10, a11, a12, a13, a14], rfl, ll, (by show 15 ≤ 1000; decide), fun z => z.elim (fun q => by cases q) (fun q => by rw [hd] at q; cases q), fun _ _ _ => ?_, fun _ _ q => absurd q (by show ¬ 15 ≤ 14; decide)⟩
      · intro H1 d s1 hd ed
        refine ⟨true, T.ex_TooMany_TooMany, (fun _ a na => ?_), fun z => (by cases z)⟩
        refine ⟨_, rfl, rfl, rfl, d, _, _, rfl, ed, rfl, _, rfl, rfl, rfl, d, _, _, rfl, ed, rfl, by show 2 ≤ sizeLine; decide, fun D hD => ?_⟩
        exact kq _ D (same_upd s1 (Same.free s1 hD)) (Same.free s1 hD) upd_same
end
end Yd
set_option Elab.async false
set_option linter.all false
set_option maxRecDepth 100000
set_option maxHeartbeats 16000000
namespace Yd
open PySem PySem.Spec PyProof.Rows L2 Xo
section
variable {g : TG} {tt : TT} {te : TE} {vs : List Nat} {σ : L2.St} {H1 : Hp} {D : Addr} {Qd : Hp → Prop}
/-- over range; a turn may make new things -/
theorem lc_fmRA {lo : Int} {n : Nat} (F : Nat → Option V) (hD : H1 D = none) (hn : n < sizeLine)
    (hs : ∀ (i : Nat) (h : Hp) (acc : List V) (nx : Hp → Prop), i < n → Same H1 h → h D = some (.lst acc) → acc.length < sizeLine → (∀ h', Same h h' → fmNext D acc h' nx (F i)) → LcTurn g tt te vs σ D (.int (lo + i)) h nx)
    (hd : ∀ h, Same H1 h → h D = some (.lst ((List.range n).filterMap F)) → Qd h) :
    ∃ W : Nat → Nat → Hp → Prop, (∃ m, W 0 m (upd H1 D (.lst []))) ∧ ∀ i m h, W i m h → ((Itr lo n).stop i h ∧ Qd h) ∨
      ((Itr lo n).go i h ∧ ∃ nx : Hp → Prop, (∀ h', nx h' → ∃ m', m' < m ∧ W (i + 1) m' h') ∧ ∀ v h', (Itr lo n).yld i h v h' → LcTurn g tt te vs σ D v h' nx) := by
  have hl : (List.range n).length < sizeLine := by rw [List.length_range]; exact hn
  refine lc_range (fun i h => Same H1 h ∧ h D = some (.lst (((List.range n).take i).filterMap F))) ⟨fun b u z => by rw [upd_ne (ne_of_none z hD)]; exact z, upd_same⟩ (fun i h hi ⟨s, e⟩ => ?_) (fun h ⟨s, e⟩ => ?_)
  · have hy : (List.range n)[i]? = some i := by rw [List.getElem?_range hi]
    exact hs i h _ _ hi s e (fm_len F hl) fun h' s' => fm_step F hy hD (Same.trans s s') (s' _ _ e)
  · have q : (List.range n).take n = List.range n := List.take_of_length_le (by simp)
    rw [q] at e
    exact hd h s e
end
theorem diff_take {ws : List Str} : diffB [] ws = true ↔ ∀ (k : Nat) (x : Str), ws[k]? = some x → smallB x = true ∧ x ∉ ws.take k := by
  rw [diff_iff]
  constructor
  · rintro ⟨nd, sm, _⟩ k x hx
    exact ⟨sm x (List.mem_of_getElem? hx), nin_take nd hx⟩
  · intro h
    refine ⟨?_, fun x hx => ?_, fun _ _ => by simp⟩
    · rw [List.nodup_iff_pairwise_ne, List.pairwise_iff_getElem]
      intro i j hi hj hij e
      refine (h j _ (List.getElem?_eq_getElem hj)).2 (List.mem_of_getElem? (i := i) ?_)
      rw [List.getElem?_take_of_lt hij, List.getElem?_eq_getElem hi, e]
    · obtain ⟨k, hk⟩ := List.getElem?_of_mem hx
      exact (h k x hk).1
def badF (ws : List Str) (k : Nat) : Option V := match ws[k]? with
  | some x => if smallB x = true ∧ x ∉ ws.take k then none else some (.int k)
  | none => none
theorem badF_nil {ws : List Str} : (List.range ws.length).filterMap (badF ws) = [] ↔ diffB [] ws = true := by
  rw [diff_take, List.filterMap_eq_nil_iff]
  constructor
  · intro h k x hx
    have hk := (List.getElem?_eq_some_iff.mp hx).1
    have := h k (List.mem_range.mpr hk)
    unfold badF at this
    rw [hx] at this
    simp only at this
    by_cases c : smallB x = true ∧ x ∉ ws.take k
    · exact c
    · rw [if_neg c] at this; cases this
  · intro h k hk
    unfold badF
    cases q : ws[k]? with
    | none => rfl
    | some x => simp only; rw [if_pos (h k x q)]
section
variable {P : Program} {w : World} {K : PySem.W.Frag} {mg : Str → Option Value} {base : Heap}
theorem ints_dp {K : PySem.W.Frag} {H : Hp} : ∀ l : List V, (∀ v ∈ l, ∃ k : Int, v = .int k) → ∃ ds : List PyData, DpAll K H l ds ∧ ds.length = l.length ∧ PyData.canLayAll0 ds = true ∧ PyData.depthAll ds = 0
  | [], _ => ⟨[], .nil, rfl, rfl, rfl⟩
  | v :: l, h => by
    obtain ⟨k, rfl⟩ := h v (by simp)
    obtain ⟨ds, h1, h2, h3, h4⟩ := ints_dp (K := K) (H := H) l fun v hv => h v (List.mem_cons_of_mem _ hv)
    exact ⟨.int k :: ds, .cons (.int k) h1, by simp [h2], by simp only [PyData.canLayAll0, PyData.canLay0, h3]; rfl, by simp only [PyData.depthAll, PyData.depth, h4]; rfl⟩
theorem badF_int {ws : List Str} : ∀ v ∈ (List.range ws.length).filterMap (badF ws), ∃ k : Int, v = .int k := fun v hv => by
  obtain ⟨k, _, hk⟩ := List.mem_filterMap.mp hv
  unfold badF at hk
  split at hk
  · split at hk
    · cases hk
    · cases hk; exact ⟨_, rfl⟩
  · cases hk
def dueE (pick : Int) (ws : List Str) : List Wr := if pick = 1 then starE (ws.headD Str.empty) ws.tail else ws.zip ws.tail
def spDue : Sp := fun vs H Q _ => ∃ (wa : Addr) (ws : List Str) (pick : Int), vs = [.int pick, .ref wa] ∧ H wa = some (.lst (ws.map V.str)) ∧ ws.length ≤ 14 ∧ (∀ x ∈ ws, x.length ≤ 100 ∧ okS x) ∧
  ((ws = [] ∨ diffB [] ws = false) → ∀ (H' : Hp) (r : Addr), Same H H' → H r = none → H' r = some (.tup [.str "bad", .int 0]) → Q (.ref r) H') ∧ (ws ≠ [] → diffB [] ws = true → ∀ H', Same H H' → Q (.str (yardT (decide (pick = 2)) ws (dueE pick ws))) H')
theorem sc_law_row_due : FnScope ["pick", "words", "bad", "k", "edges"] ["pick", "words"] (defScope s_law_row_due) := ⟨rfl, rfl, rfl, by decide +kernel, rfl, by decide +kernel, by decide +kernel⟩
theorem good_due (T : Tx w K mg) : Good P w K mg base CX0 2 (He.ga K "_law_row_due") ["pick", "words"] spDue := by
  obtain ⟨fd, F⟩ := T.f_law_row_due
  obtain ⟨_, G_law_small, k_law_small, b_law_small⟩ := good_lsmall (P := P) (w := w) (base := base) T
  obtain ⟨_, G_law_plot_text, k_law_plot_text, b_law_plot_text⟩ := good_ptext (P := P) (w := w) (base := base) T
  refine ⟨fd, F.ok sc_law_row_due (fun vs H Q E h => ?_) (fun cdv A outer s H vs Q E hr h => ?_), F.kp, F.bindsN fun _ _ _ _ _ _ us hl => match us, hl with | [_, _], _ => rfl⟩
  · obtain ⟨_, _, _, rfl, _⟩ := h
    rfl
  · obtain ⟨wa, ws, pick, rfl, ew, len, ok, kb, ko⟩ := h
    have SC := sc_law_row_due
    have hu := hu_of hr
    refine ⟨_, PSs.nox (pss_cons (ps_setLc (i := 2) (own := [("k", 3)]) (g := gName 3) rfl SC.nd rfl rfl (by rfl) (pi_range1 rfl T.n_range (pa_cons (pe_callB (lenQ K) rfl T.n_len (by decide +kernel) (pa_cons (pv 1) pa_nil)) pa_nil)) (blkOk_by (N := ["pick", "words", "bad", "k", "edges"]) (sc := defScope s_law_row_due) (by decide +kernel)) (fun _ _ _ _ _ => (pg_name (i := 3) SC.nd rfl (by first | exact Or.inl rfl | exact Or.inr rfl))) (fun _ _ _ _ _ => (pts_one (PW.pt (pw_or (pt_not (pt_val (pe_call G_law_small (hr.mono (by decide)) rfl T.g_law_small k_law_small b_law_small .nil pass0 (pa_cons (pe_ix (ixL K) (pv 1) (pv 3) (fun _ _ => rfl)) pa_nil)))) (pw_or1 (pt_cmpR (inQ K) (pe_ix (ixL K) (pv 1) (pv 3) (fun _ _ => rfl)) (pe_slice (slL K) (pv 1) po_none (po_some (pv 3))) rfl)))))) (fun _ _ _ _ _ => (pv 3))) 
      (pss_cons (ps_if (PW.pt (pw_or (pt_cmpR (neQ K rfl hr.units) (pv 2) (pe_lst pa_nil) (nomark _)) (pw_or1 (pt_cmpR (eqQ K rfl hr.units) (pv 1) (pe_lst pa_nil) (nomark _))))) 
      (pss_one (ps_ret (pe_tup (pa_cons pe_str (pa_cons pe_int pa_nil))))) pss_nil) 
      (pss_cons (ps_setLc (i := 4) (own := [("k", 3)]) (g := gName 3) (tt := tYes) rfl SC.nd rfl rfl (by rfl) (pi_range2 rfl T.n_range (pa_cons pe_int (pa_cons (pe_callB (lenQ K) rfl T.n_len (by decide +kernel) (pa_cons (pv 1) pa_nil)) pa_nil))) (blkOk_by (N := ["pick", "words", "bad", "k", "edges"]) (sc := defScope s_law_row_due) (by decide +kernel)) (fun _ _ _ _ _ => (pg_name (i := 3) SC.nd rfl (by first | exact Or.inl rfl | exact Or.inr rfl))) (fun _ _ _ _ _ => pts_nil) (fun _ _ _ _ _ => (pe_tup (pa_cons (pe_ifExp (pt_cmpR op_eq (pv 0) pe_int (nomark _)) (pe_ix (ixL K) (pv 1) pe_int (fun _ _ => rfl)) (pe_ix (ixL K) (pv 1) (pe_op op_sub (pv 3) pe_int) (fun _ _ => rfl))) (pa_cons (pe_ix (ixL K) (pv 1) (pv 3) (fun _ _ => rfl)) pa_nil))))) 
      (pss_one (ps_ret (pe_call G_law_plot_text (hr.mono (by decide)) rfl T.g_law_plot_text k_law_plot_text b_law_plot_text .nil pass0 (pa_cons (pe_lst (pa_cons (pe_cmpR op_eq (pv 0) pe_int (nomark _)) (pa_cons (pv 1) (pa_cons (pv 4) pa_nil)))) pa_nil))))))), ?_⟩
    have lm : (ws.map V.str).length = ws.length := List.length_map _
    refine ⟨_, rfl, wa, _, rfl, .inl (SqL.of ew), _, rfl, by rw [lm]; omega, by rw [lm]; omega, fun D hD => ?_⟩
    rw [lm, Int.toNat_natCast]
    refine lc_fmRA (badF ws) hD (by rw [sizeLine_eq]; omega) (fun i h acc nx hi s e hacc hnx => ⟨rfl, ?_⟩) (fun H1 s1 e1 => ?_)
    · have e0 : (0 : Int) + (i : Nat) = (i : Int) := by omega
      have ew1 := s _ _ ew
      have hx : (ws.map V.str)[i]? = some (.str ws[i]) := by rw [List.getElem?_map, List.getElem?_eq_getElem hi]; rfl
      have okx := ok _ (List.getElem_mem hi)
      have ef : badF ws i = if smallB ws[i] = true ∧ ws[i] ∉ ws.take i then none else some (.int i) := by
        unfold badF
        rw [List.getElem?_eq_getElem hi]
      refine ⟨_, rfl, _, rfl, wa, _, _, _, rfl, rfl, SqL.of ew1, by rw [e0]; exact atI_nat hx, ws[i], rfl, by omega, okx.2, fun h2 s2 => ⟨_, rfl, ?_⟩⟩
      cases c1 : smallB ws[i] with
      | false =>
        have n1 := hnx h2 s2
        rw [ef, if_neg (fun z => by rw [c1] at z; cases z.1)] at n1
        exact iteT (B := False) (iteT (B := False) ⟨_, rfl, acc, s2 _ _ e, hacc, by rw [e0]; exact n1⟩)
      | true =>
        refine iteF (A := False) ?_
        have ew2 := s2 _ _ ew1
        refine ⟨_, rfl, _, rfl, wa, _, _, _, rfl, rfl, SqL.of ew2, by rw [e0]; exact atI_nat hx, _, rfl, _, rfl, _, rfl, wa, _, rfl, SqL.of ew2, fun u hu => ?_⟩
        rw [e0, cut_to, List.map_take.symm]
        have s3 : Same h2 (upd h2 u (.lst ((ws.take i).map V.str))) := same_new hu
        have e3 : upd h2 u (.lst ((ws.take i).map V.str)) u = some (.lst ((ws.take i).map V.str)) := upd_same
        generalize upd h2 u (.lst ((ws.take i).map V.str)) = h3 at s3 e3 ⊢
        refine ⟨u, _, rfl, .inl (SqL.of e3), rfl, strs_flat _, _, rfl, ?_⟩
        rw [in_strs]
        have n1 := hnx h3 (Same.trans s2 s3)
        by_cases c2 : ws[i] ∈ ws.take i
        · rw [decide_eq_true c2]
          rw [ef, if_neg (fun z => z.2 c2)] at n1
          exact iteT (B := False) ⟨_, rfl, acc, s3 _ _ (s2 _ _ e), hacc, n1⟩
        · rw [decide_eq_false c2]
          rw [ef, if_pos ⟨c1, c2⟩] at n1
          exact iteF (A := False) n1
    · refine ⟨_, rfl, by show 0 ≤ sizeLine; decide, fun t ht => ?_⟩
      have s2 : Same H1 (upd H1 t (.lst [])) := same_new ht
      have e2 : upd H1 t (.lst []) t = some (.lst []) := upd_same
      generalize upd H1 t (.lst []) = H2 at s2 e2 ⊢
      have s12 := Same.trans s1 s2
      obtain ⟨ds, d1, d2, d3, d4⟩ := ints_dp (K := K) (H := H2) _ (badF_int (ws := ws))
      have badQ : (ws = [] ∨ diffB [] ws = false) → ∀ H3, Same H H3 → ∀ p, H3 p = none → Q (.ref p) (upd H3 p (.tup [.str "bad", .int 0])) := fun z H3 s3 p hp => kb z _ p (same_upd s3 (Same.free s3 hp)) (Same.free s3 hp) upd_same
      refine ⟨.list ds, .list [], .lst (SqL.of (s2 _ _ e1)) d1, .lst (SqL.of e2) .nil, list_sh d3 (by omega), rfl, _, rfl, ?_⟩
      rw [eqv_nil]
      cases hd : diffB [] ws with
      | false =>
        have hne : ds.isEmpty = false := by
          cases ds with
          | nil =>
            have := badF_nil.mp (List.eq_nil_of_length_eq_zero d2.symm)
            rw [hd] at this; cases this
          | cons a l => rfl
        rw [hne]
        exact iteT (B := False) (iteT (B := False) ⟨by show 2 ≤ sizeLine; decide, badQ (.inr hd) H2 s12⟩)
      | true =>
        have hne : ds = [] := List.eq_nil_of_length_eq_zero (by rw [d2, badF_nil.mpr hd]; rfl)
        rw [hne]
        refine iteF (A := False) ⟨_, rfl, by show 0 ≤ sizeLine; decide, fun u hu => ?_⟩
        have s3 : Same H2 (upd H2 u (.lst [])) := same_new hu
        have e3 : upd H2 u (.lst []) u = some (.lst (([] : List Str).map V.str)) := upd_same
        generalize upd H2 u (.lst []) = H3 at s3 e3 ⊢
        have s13 := Same.trans s12 s3
        have ew3 := s13 _ _ ew
        refine ⟨.list (ws.map PyData.str), .list [], .lst (SqL.of ew3) (strs_dp ws), .lst (SqL.of e3) .nil, strs_sh (fun x hx => (ok x hx).2), rfl, _, rfl, ?_⟩
        rw [eqv_nil]
        by_cases h0 : ws = []
        · have : (ws.map PyData.str).isEmpty = true := by rw [h0]; rfl
          rw [this]
          exact iteT (B := False) ⟨by show 2 ≤ sizeLine; decide, badQ (.inl h0) H3 s13⟩
        · have : (ws.map PyData.str).isEmpty = false := by
            cases ws with
            | nil => exact absurd rfl h0
            | cons a l => rfl
          rw [this]
          refine iteF (A := False) ?_
          have pos : 0 < ws.length := List.length_pos_iff.mpr h0
          refine ⟨_, rfl, wa, _, rfl, .inl (SqL.of ew3), 1, _, rfl, ⟨by decide, by decide, by rw [lm]; omega, by rw [lm]; omega⟩, fun D2 hD2 => ?_⟩
          rw [lm, show ((ws.length : Int) - 1).toNat = ws.length - 1 by omega]
          have ld : (dueE pick ws).length = ws.length - 1 := by
            unfold dueE starE
            split
            · rw [List.length_map, List.length_tail]
            · rw [List.length_zip, List.length_tail]; omega
          refine lc_range (lo := 1) (n := ws.length - 1) (fun i H => Same H3 H ∧ ∃ as : List Addr, H D2 = some (.lst (as.map V.ref)) ∧ WAt H as ((dueE pick ws).take i)) ⟨same_new hD2, [], upd_same, WAt.nil⟩ (fun i h hi ⟨s, as, e, W⟩ => ?_) (fun h ⟨s, as, e, W⟩ => ?_)
          · have ewh := s _ _ ew3
            have h1 : i + 1 < ws.length := by omega
            have y1 : (ws.map V.str)[i + 1]? = some (.str ws[i + 1]) := by rw [List.getElem?_map, List.getElem?_eq_getElem h1]; rfl
            have x1 : (ws.map V.str)[i]? = some (.str ws[i]) := by rw [List.getElem?_map, List.getElem?_eq_getElem (show i < ws.length by omega)]; rfl
            have x0 : (ws.map V.str)[0]? = some (.str ws[0]) := by rw [List.getElem?_map, List.getElem?_eq_getElem pos]; rfl
            have e1i : (1 : Int) + (i : Nat) = ((i + 1 : Nat) : Int) := by omega
            have e0i : (1 : Int) + (i : Nat) - 1 = ((i : Nat) : Int) := by omega
            have fin : ∀ x : Str, (dueE pick ws)[i]? = some (x, ws[i + 1]) → ∀ t, h t = none → ∃ acc, upd h t (.tup [.str x, .str ws[i + 1]]) D2 = some (.lst acc) ∧ acc.length < sizeLine ∧ Same H3 (upd (upd h t (.tup [.str x, .str ws[i + 1]])) D2 (.lst (acc ++ [V.ref t]))) ∧ ∃ as : List Addr, upd (upd h t (.tup [.str x, .str ws[i + 1]])) D2 (.lst (acc ++ [V.ref t])) D2 = some (.lst (as.map V.ref)) ∧ WAt (upd (upd h t (.tup [.str x, .str ws[i + 1]])) D2 (.lst (acc ++ [V.ref t]))) as ((dueE pick ws).take (i + 1)) := by
              intro x hx t ht
              have s4 : Same h (upd h t (.tup [.str x, .str ws[i + 1]])) := same_new ht
              have e4 : upd h t (.tup [.str x, .str ws[i + 1]]) t = some (.tup [.str x, .str ws[i + 1]]) := upd_same
              generalize upd h t (.tup [.str x, .str ws[i + 1]]) = H5 at s4 e4 ⊢
              have eD := s4 _ _ e
              have W5 := (W.same s4).snoc (e := (x, ws[i + 1])) e4
              have la : as.length ≤ 100 := by
                rw [W.1, List.length_take]; omega
              refine ⟨_, eD, by rw [List.length_map, sizeLine_eq]; omega, same_upd (Same.trans s s4) hD2, as ++ [t], by rw [upd_same, List.map_append]; rfl, ?_⟩
              rw [take_snoc hx]
              exact W5.keep fun b xs z => by rw [upd_ne (ne_of z eD (by intro y; cases y))]; exact z
            refine ⟨rfl, iteT (B := False) ⟨_, rfl, rfl, _, rfl, ?_⟩⟩
            by_cases hp : pick = 1
            · rw [decide_eq_true (show V.int pick = V.int 1 by rw [hp])]
              have hx : (dueE pick ws)[i]? = some (ws[0], ws[i + 1]) := by
                unfold dueE starE
                rw [if_pos hp, List.getElem?_map, List.getElem?_tail, List.getElem?_eq_getElem h1]
                cases ws with
                | nil => exact absurd rfl h0
                | cons a l => rfl
              exact iteT (B := False) ⟨_, rfl, wa, _, 0, _, rfl, rfl, SqL.of ewh, atI_nat x0, _, rfl, _, rfl, wa, _, _, _, rfl, rfl, SqL.of ewh, by rw [e1i]; exact atI_nat y1, by show 2 ≤ sizeLine; decide, fun t ht => fin _ hx t ht⟩
            · rw [decide_eq_false (fun z => hp (V.int.inj z))]
              have hx : (dueE pick ws)[i]? = some (ws[i], ws[i + 1]) := by
                unfold dueE
                rw [if_neg hp, List.getElem?_zip_eq_some]
                exact ⟨List.getElem?_eq_getElem (by omega), by rw [List.getElem?_tail]; exact List.getElem?_eq_getElem h1⟩
              exact iteF (A := False) ⟨_, rfl, _, rfl, _, _, rfl, rfl, wa, _, _, _, rfl, rfl, SqL.of ewh, by rw [e0i]; exact atI_nat x1, _, rfl, _, rfl, wa, _, _, _, rfl, rfl, SqL.of ewh, by rw [e1i]; exact atI_nat y1, by show 2 ≤ sizeLine; decide, fun t ht => fin _ hx t ht⟩
          · have et : (dueE pick ws).take (ws.length - 1) = dueE pick ws := List.take_of_length_le (by rw [ld]; omega)
            rw [et] at W
            have wfd : ∀ e ∈ dueE pick ws, e.1 ∈ ws ∧ e.2 ∈ ws := by
              unfold dueE
              split
              · intro e he
                obtain ⟨l, hl, rfl⟩ := List.mem_map.mp he
                refine ⟨?_, List.mem_of_mem_tail hl⟩
                cases ws with
                | nil => exact absurd rfl h0
                | cons a l => simp
              · exact zip_wf
            have SM : Sml ws (dueE pick ws) := ⟨by omega, by rw [ld]; omega, fun x hx => (ok x hx).1, fun e he => ⟨(ok _ (wfd e he).1).1, (ok _ (wfd e he).2).1⟩⟩
            have s3h := Same.trans s13 s
            refine ⟨_, rfl, rfl, _, rfl, _, rfl, by show 3 ≤ sizeLine; decide, fun pl hpl => ?_⟩
            have ei : decide (V.int pick = V.int 2) = decide (pick = 2) := by
              by_cases q : pick = 2
              · rw [decide_eq_true q, decide_eq_true (by rw [q])]
              · rw [decide_eq_false q, decide_eq_false fun z => q (V.int.inj z)]
            rw [ei]
            have s5 : Same h (upd h pl (.lst [.bl (decide (pick = 2)), .ref wa, .ref D2])) := same_new hpl
            refine ⟨pl, wa, D2, decide (pick = 2), ws, as, dueE pick ws, rfl, ⟨upd_same, s5 _ _ (s _ _ ew3), s5 _ _ e, W.same s5⟩, SM, fun H6 s6 => ?_⟩
            exact ko h0 hd H6 (Same.trans (Same.trans s3h s5) s6)
end
end Yd
set_option Elab.async false
set_option linter.all false
set_option maxRecDepth 100000
set_option maxHeartbeats 16000000
namespace Yd
open PySem PySem.Spec PyProof.Rows L2 Xo
section
variable {P : Program} {w : World} {K : PySem.W.Frag} {mg : Str → Option Value} {base : Heap}
def spMadeL : Sp := fun vs H Q _ => ∃ (wa : Addr) (ws : List Str) (pick : Int), vs = [.int pick, .ref wa] ∧ H wa = some (.lst (ws.map V.str)) ∧ (pick = 0 ∨ pick = 1 ∨ pick = 2) ∧ (ws.length = 0 ∨ ws.length = 1 ∨ ws.length = 4) ∧ (pick = 1 → ws ≠ []) ∧ (∀ x ∈ ws, x.length ≤ 100 ∧ okS x) ∧
  ((ws = [] ∨ diffB [] ws = false) → ∀ (H' : Hp) (r : Addr), Same H H' → H r = none → H' r = some (.tup [.str "bad", .int 0]) → Q (.ref r) H') ∧ (ws ≠ [] → diffB [] ws = true → ∀ H', Same H H' → Q (.str (yardT (decide (pick = 2)) ws (dueE pick ws))) H')
theorem sc_law_row_made : FnScope ["pick", "words", "made", "e"] ["pick", "words"] (defScope s_law_row_made) := ⟨rfl, rfl, rfl, by decide +kernel, rfl, by decide +kernel, by decide +kernel⟩
theorem good_made (T : Tx w K mg) : Good P w K mg base CX0 10 (He.ga K "_law_row_made") ["pick", "words"] spMadeL := by
  obtain ⟨fd, F⟩ := T.f_law_row_made
  have R_in_row := R_in_row (P := P) (w := w) (base := base) T
  have R_in_star := R_in_star (P := P) (w := w) (base := base) T
  have R_in_days := R_in_days (P := P) (w := w) (base := base) T
  refine ⟨fd, F.ok sc_law_row_made (fun vs H Q E h => ?_) (fun cdv A outer s H vs Q E hr h => ?_), F.kp, F.bindsN fun _ _ _ _ _ _ us hl => match us, hl with | [_, _], _ => rfl⟩
  · obtain ⟨_, _, _, rfl, _⟩ := h
    rfl
  · obtain ⟨wa, ws, pick, rfl, ew, hp, hl, hs, ok, kb, ko⟩ := h
    have SC := sc_law_row_made
    have hu := hu_of hr
    refine ⟨_, PSs.nox (pss_cons (ps_try_clauses (Wout := fun _ _ _ _ => False) rfl rfl SC.nd takes0 (fun W pn xe tk _ => 
      (pss_one (ps_if (pt_cmpR op_eq (pv 0) pe_int (nomark _)) 
      (pss_one (ps_set (i := 2) SC.nd rfl (by first | exact Or.inl rfl | exact Or.inr rfl) (pe_ifExp (pt_cmpR (eqQ K rfl hr.units) (pv 1) (pe_lst pa_nil) (nomark _)) (pe_smeth0S (pe_glob (v := .ref (He.ga K "Yard")) rfl T.g_Yard rfl) T.sm_Yard_in_row R_in_row (hr.mono (by decide)) (fun σ => passAt tk σ)) (pe_ifExp (pt_cmpR op_eq (pe_callB (lenQ K) rfl T.n_len (by decide +kernel) (pa_cons (pv 1) pa_nil)) pe_int (nomark _)) (pe_smethS (pe_glob (v := .ref (He.ga K "Yard")) rfl T.g_Yard rfl) T.sm_Yard_in_row R_in_row (hr.mono (by decide)) (fun σ => passAt tk σ) (pa_cons (pe_ix (ixL K) (pv 1) pe_int (fun _ _ => rfl)) pa_nil)) (pe_smethS (pe_glob (v := .ref (He.ga K "Yard")) rfl T.g_Yard rfl) T.sm_Yard_in_row R_in_row (hr.mono (by decide)) (fun σ => passAt tk σ) (pa_cons (pe_ix (ixL K) (pv 1) pe_int (fun _ _ => rfl)) (pa_cons (pe_ix (ixL K) (pv 1) pe_int (fun _ _ => rfl)) (pa_cons (pe_ix (ixL K) (pv 1) pe_int (fun _ _ => rfl)) (pa_cons (pe_ix (ixL K) (pv 1) pe_int (fun _ _ => rfl)) pa_nil))))))))) 
      (pss_one (ps_if (pt_cmpR op_eq (pv 0) pe_int (nomark _)) 
      (pss_one (ps_set (i := 2) SC.nd rfl (by first | exact Or.inl rfl | exact Or.inr rfl) (pe_ifExp (pt_cmpR op_eq (pe_callB (lenQ K) rfl T.n_len (by decide +kernel) (pa_cons (pv 1) pa_nil)) pe_int (nomark _)) (pe_smethS (pe_glob (v := .ref (He.ga K "Yard")) rfl T.g_Yard rfl) T.sm_Yard_in_star R_in_star (hr.mono (by decide)) (fun σ => passAt tk σ) (pa_cons (pe_ix (ixL K) (pv 1) pe_int (fun _ _ => rfl)) pa_nil)) (pe_smethS (pe_glob (v := .ref (He.ga K "Yard")) rfl T.g_Yard rfl) T.sm_Yard_in_star R_in_star (hr.mono (by decide)) (fun σ => passAt tk σ) (pa_cons (pe_ix (ixL K) (pv 1) pe_int (fun _ _ => rfl)) (pa_cons (pe_ix (ixL K) (pv 1) pe_int (fun _ _ => rfl)) (pa_cons (pe_ix (ixL K) (pv 1) pe_int (fun _ _ => rfl)) (pa_cons (pe_ix (ixL K) (pv 1) pe_int (fun _ _ => rfl)) pa_nil)))))))) 
      (pss_one (ps_set (i := 2) SC.nd rfl (by first | exact Or.inl rfl | exact Or.inr rfl) (pe_ifExp (pt_cmpR (eqQ K rfl hr.units) (pv 1) (pe_lst pa_nil) (nomark _)) (pe_smeth0S (pe_glob (v := .ref (He.ga K "Yard")) rfl T.g_Yard rfl) T.sm_Yard_in_days R_in_days (hr.mono (by decide)) (fun σ => passAt tk σ)) (pe_ifExp (pt_cmpR op_eq (pe_callB (lenQ K) rfl T.n_len (by decide +kernel) (pa_cons (pv 1) pa_nil)) pe_int (nomark _)) (pe_smethS (pe_glob (v := .ref (He.ga K "Yard")) rfl T.g_Yard rfl) T.sm_Yard_in_days R_in_days (hr.mono (by decide)) (fun σ => passAt tk σ) (pa_cons (pe_ix (ixL K) (pv 1) pe_int (fun _ _ => rfl)) pa_nil)) (pe_smethS (pe_glob (v := .ref (He.ga K "Yard")) rfl T.g_Yard rfl) T.sm_Yard_in_days R_in_days (hr.mono (by decide)) (fun σ => passAt tk σ) (pa_cons (pe_ix (ixL K) (pv 1) pe_int (fun _ _ => rfl)) (pa_cons (pe_ix (ixL K) (pv 1) pe_int (fun _ _ => rfl)) (pa_cons (pe_ix (ixL K) (pv 1) pe_int (fun _ _ => rfl)) (pa_cons (pe_ix (ixL K) (pv 1) pe_int (fun _ _ => rfl)) pa_nil)))))))))))))) (.cons (i := 3) ⟨rfl, by decide, Or.inl T.g_BadYard⟩ rfl rfl (fun a oe cls d pn hz hf => 
      (pss_one (ps_ret (pe_tup (pa_cons pe_str (pa_cons (pe_xf T.two_BadYard.xf (T.two_BadYard.no "line" (by simp)) hz hf (pv 3)) pa_nil)))))) .nil)) 
      (pss_one (ps_ret (fldQ K rfl (pv 2))))), ?_⟩
    have ll : ∀ x ∈ ws, x.length ≤ 200000 := fun x hx => by have := (ok x hx).1; omega
    have lm : (ws.map V.str).length = ws.length := List.length_map _
    refine ⟨_, rfl, rfl, _, rfl, ?_⟩
    rcases hp with rfl | rfl | rfl
    · rw [decide_eq_true rfl]
      refine iteT (B := False) ⟨_, rfl, by show 0 ≤ sizeLine; decide, fun t ht => ?_⟩
      have s1 : Same H (upd H t (.lst [])) := same_new ht
      have e1 : upd H t (.lst []) t = some (.lst (([] : List Str).map V.str)) := upd_same
      generalize upd H t (.lst []) = H1 at s1 e1 ⊢
      have ew1 := s1 _ _ ew
      refine ⟨.list (ws.map PyData.str), .list [], .lst (SqL.of ew1) (strs_dp ws), .lst (SqL.of e1) .nil, strs_sh (fun x hx => (ok x hx).2), rfl, _, rfl, ?_⟩
      rw [eqv_nil]
      rcases hl with hl | hl | hl
      · obtain rfl : ws = [] := List.eq_nil_of_length_eq_zero hl
        have ewx := ew1
        have sx := s1
        refine iteT (B := False) ?_
        refine ⟨rfl, [], rfl, ll, (by show 0 ≤ 1000; decide), fun z => ?_, fun _ _ q => absurd q (by show ¬ 14 < 0; decide), fun h0 hd hl => ⟨(made_tree h0 hd hl (tree_zip h0)).1, (made_tree h0 hd hl (tree_zip h0)).2, fun H' p dx b we ps N R S as s' Y PL => ?_⟩⟩
        · intro H5 d wd s5 hd5 ed hw
          refine ⟨true, T.ex_BadYard_BadYard, (fun _ a na => ?_), fun z => (by cases z)⟩
          refine ⟨_, rfl, rfl, rfl, d, _, _, rfl, ed, rfl, by show 2 ≤ sizeLine; decide, fun D hD => ?_⟩
          have sz := Same.trans sx s5
          exact kb z _ D (same_upd sz (Same.free sz hD)) (Same.free sz hD) upd_same
        · refine ⟨_, rfl, p, _, _, _, _, rfl, Y.hp, T.cls_Yard, T.a_Yard_text, rfl, ?_⟩
          exact ko h0 hd H' (Same.trans sx s')
      · obtain ⟨a, rfl⟩ : ∃ a, ws = [a] := List.length_eq_one_iff.mp hl
        have ewx := ew1
        have sx := s1
        refine iteF (A := False) ⟨_, rfl, wa, _, rfl, .inl (SqL.of ewx), rfl, _, rfl, ?_⟩
        rw [decide_eq_true (show V.int (([a].map V.str).length : Int) = V.int 1 from rfl)]
        refine iteT (B := False) ?_
        refine ⟨rfl, _, rfl, wa, _, 0, _, rfl, rfl, SqL.of ewx, rfl, [a], rfl, ll, (by show 1 ≤ 1000; decide), fun z => ?_, fun _ _ q => absurd q (by show ¬ 14 < 1; decide), fun h0 hd hl => ⟨(made_tree h0 hd hl (tree_zip h0)).1, (made_tree h0 hd hl (tree_zip h0)).2, fun H' p dx b we ps N R S as s' Y PL => ?_⟩⟩
        · intro H5 d wd s5 hd5 ed hw
          refine ⟨true, T.ex_BadYard_BadYard, (fun _ a na => ?_), fun z => (by cases z)⟩
          refine ⟨_, rfl, rfl, rfl, d, _, _, rfl, ed, rfl, by show 2 ≤ sizeLine; decide, fun D hD => ?_⟩
          have sz := Same.trans sx s5
          exact kb z _ D (same_upd sz (Same.free sz hD)) (Same.free sz hD) upd_same
        · refine ⟨_, rfl, p, _, _, _, _, rfl, Y.hp, T.cls_Yard, T.a_Yard_text, rfl, ?_⟩
          exact ko h0 hd H' (Same.trans sx s')
      · obtain ⟨a, b, c, d, rfl⟩ : ∃ a b c d, ws = [a, b, c, d] := by
          match ws, hl with
          | [a, b, c, d], _ => exact ⟨a, b, c, d, rfl⟩
        have ewx := ew1
        have sx := s1
        refine iteF (A := False) ⟨_, rfl, wa, _, rfl, .inl (SqL.of ewx), rfl, _, rfl, ?_⟩
        rw [decide_eq_false (show ¬ V.int (([a, b, c, d].map V.str).length : Int) = V.int 1 from fun z => absurd (V.int.inj z) (show ¬ ((4 : Int) = 1) by decide))]
        refine iteF (A := False) ?_
        refine ⟨rfl, _, rfl, wa, _, 0, _, rfl, rfl, SqL.of ewx, rfl, _, rfl, wa, _, 1, _, rfl, rfl, SqL.of ewx, rfl, _, rfl, wa, _, 2, _, rfl, rfl, SqL.of ewx, rfl, _, rfl, wa, _, 3, _, rfl, rfl, SqL.of ewx, rfl, [a, b, c, d], rfl, ll, (by show 4 ≤ 1000; decide), fun z => ?_, fun _ _ q => absurd q (by show ¬ 14 < 4; decide), fun h0 hd hl => ⟨(made_tree h0 hd hl (tree_zip h0)).1, (made_tree h0 hd hl (tree_zip h0)).2, fun H' p dx b we ps N R S as s' Y PL => ?_⟩⟩
        · intro H5 d wd s5 hd5 ed hw
          refine ⟨true, T.ex_BadYard_BadYard, (fun _ a na => ?_), fun z => (by cases z)⟩
          refine ⟨_, rfl, rfl, rfl, d, _, _, rfl, ed, rfl, by show 2 ≤ sizeLine; decide, fun D hD => ?_⟩
          have sz := Same.trans sx s5
          exact kb z _ D (same_upd sz (Same.free sz hD)) (Same.free sz hD) upd_same
        · refine ⟨_, rfl, p, _, _, _, _, rfl, Y.hp, T.cls_Yard, T.a_Yard_text, rfl, ?_⟩
          exact ko h0 hd H' (Same.trans sx s')
    · rw [decide_eq_false (show ¬ V.int 1 = V.int 0 from fun z => absurd (V.int.inj z) (show ¬ ((1 : Int) = 0) by decide))]
      refine iteF (A := False) ⟨_, rfl, rfl, _, rfl, ?_⟩
      rw [decide_eq_true rfl]
      refine iteT (B := False) ?_
      rcases hl with hl | hl | hl
      · exact absurd (List.eq_nil_of_length_eq_zero hl) (hs rfl)
      · obtain ⟨a, rfl⟩ : ∃ a, ws = [a] := List.length_eq_one_iff.mp hl
        have ewx := ew
        have sx := Same.refl H
        refine ⟨_, rfl, wa, _, rfl, .inl (SqL.of ewx), rfl, _, rfl, ?_⟩
        rw [decide_eq_true (show V.int (([a].map V.str).length : Int) = V.int 1 from rfl)]
        refine iteT (B := False) ?_
        refine ⟨rfl, _, rfl, wa, _, 0, _, rfl, rfl, SqL.of ewx, rfl, a, [], rfl, ll, (by show 1 ≤ 1000; decide), fun z => ?_, fun _ _ q => absurd q (by show ¬ 14 < 1; decide), fun h0 hd hl => ⟨(made_tree h0 hd hl tree_star).1, (made_tree h0 hd hl tree_star).2, fun H' p dx b we ps N R S as s' Y PL => ?_⟩⟩
        · intro H5 d wd s5 hd5 ed hw
          refine ⟨true, T.ex_BadYard_BadYard, (fun _ a na => ?_), fun z => (by cases z)⟩
          refine ⟨_, rfl, rfl, rfl, d, _, _, rfl, ed, rfl, by show 2 ≤ sizeLine; decide, fun D hD => ?_⟩
          have sz := Same.trans sx s5
          exact kb z _ D (same_upd sz (Same.free sz hD)) (Same.free sz hD) upd_same
        · refine ⟨_, rfl, p, _, _, _, _, rfl, Y.hp, T.cls_Yard, T.a_Yard_text, rfl, ?_⟩
          exact ko h0 hd H' (Same.trans sx s')
      · obtain ⟨a, b, c, d, rfl⟩ : ∃ a b c d, ws = [a, b, c, d] := by
          match ws, hl with
          | [a, b, c, d], _ => exact ⟨a, b, c, d, rfl⟩
        have ewx := ew
        have sx := Same.refl H
        refine ⟨_, rfl, wa, _, rfl, .inl (SqL.of ewx), rfl, _, rfl, ?_⟩
        rw [decide_eq_false (show ¬ V.int (([a, b, c, d].map V.str).length : Int) = V.int 1 from fun z => absurd (V.int.inj z) (show ¬ ((4 : Int) = 1) by decide))]
        refine iteF (A := False) ?_
        refine ⟨rfl, _, rfl, wa, _, 0, _, rfl, rfl, SqL.of ewx, rfl, _, rfl, wa, _, 1, _, rfl, rfl, SqL.of ewx, rfl, _, rfl, wa, _, 2, _, rfl, rfl, SqL.of ewx, rfl, _, rfl, wa, _, 3, _, rfl, rfl, SqL.of ewx, rfl, a, [b, c, d], rfl, ll, (by show 4 ≤ 1000; decide), fun z => ?_, fun _ _ q => absurd q (by show ¬ 14 < 4; decide), fun h0 hd hl => ⟨(made_tree h0 hd hl tree_star).1, (made_tree h0 hd hl tree_star).2, fun H' p dx b we ps N R S as s' Y PL => ?_⟩⟩
        · intro H5 d wd s5 hd5 ed hw
          refine ⟨true, T.ex_BadYard_BadYard, (fun _ a na => ?_), fun z => (by cases z)⟩
          refine ⟨_, rfl, rfl, rfl, d, _, _, rfl, ed, rfl, by show 2 ≤ sizeLine; decide, fun D hD => ?_⟩
          have sz := Same.trans sx s5
          exact kb z _ D (same_upd sz (Same.free sz hD)) (Same.free sz hD) upd_same
        · refine ⟨_, rfl, p, _, _, _, _, rfl, Y.hp, T.cls_Yard, T.a_Yard_text, rfl, ?_⟩
          exact ko h0 hd H' (Same.trans sx s')
    · rw [decide_eq_false (show ¬ V.int 2 = V.int 0 from fun z => absurd (V.int.inj z) (show ¬ ((2 : Int) = 0) by decide))]
      refine iteF (A := False) ⟨_, rfl, rfl, _, rfl, ?_⟩
      rw [decide_eq_false (show ¬ V.int 2 = V.int 1 from fun z => absurd (V.int.inj z) (show ¬ ((2 : Int) = 1) by decide))]
      refine iteF (A := False) ⟨_, rfl, by show 0 ≤ sizeLine; decide, fun t ht => ?_⟩
      have s1 : Same H (upd H t (.lst [])) := same_new ht
      have e1 : upd H t (.lst []) t = some (.lst (([] : List Str).map V.str)) := upd_same
      generalize upd H t (.lst []) = H1 at s1 e1 ⊢
      have ew1 := s1 _ _ ew
      refine ⟨.list (ws.map PyData.str), .list [], .lst (SqL.of ew1) (strs_dp ws), .lst (SqL.of e1) .nil, strs_sh (fun x hx => (ok x hx).2), rfl, _, rfl, ?_⟩
      rw [eqv_nil]
      rcases hl with hl | hl | hl
      · obtain rfl : ws = [] := List.eq_nil_of_length_eq_zero hl
        have ewx := ew1
        have sx := s1
        refine iteT (B := False) ?_
        refine ⟨rfl, [], rfl, ll, (by show 0 ≤ 1000; decide), fun z => ?_, fun _ _ q => absurd q (by show ¬ 14 < 0; decide), fun h0 hd hl => ⟨(made_days h0 hd hl).1, (made_days h0 hd hl).2, fun H' p dx b we ps N R S as s' Y PL => ?_⟩⟩
        · intro H5 d wd s5 hd5 ed hw
          refine ⟨true, T.ex_BadYard_BadYard, (fun _ a na => ?_), fun z => (by cases z)⟩
          refine ⟨_, rfl, rfl, rfl, d, _, _, rfl, ed, rfl, by show 2 ≤ sizeLine; decide, fun D hD => ?_⟩
          have sz := Same.trans sx s5
          exact kb z _ D (same_upd sz (Same.free sz hD)) (Same.free sz hD) upd_same
        · refine ⟨_, rfl, p, _, _, _, _, rfl, Y.hp, T.cls_Yard, T.a_Yard_text, rfl, ?_⟩
          exact ko h0 hd H' (Same.trans sx s')
      · obtain ⟨a, rfl⟩ : ∃ a, ws = [a] := List.length_eq_one_iff.mp hl
        have ewx := ew1
        have sx := s1
        refine iteF (A := False) ⟨_, rfl, wa, _, rfl, .inl (SqL.of ewx), rfl, _, rfl, ?_⟩
        rw [decide_eq_true (show V.int (([a].map V.str).length : Int) = V.int 1 from rfl)]
        refine iteT (B := False) ?_
        refine ⟨rfl, _, rfl, wa, _, 0, _, rfl, rfl, SqL.of ewx, rfl, [a], rfl, ll, (by show 1 ≤ 1000; decide), fun z => ?_, fun _ _ q => absurd q (by show ¬ 14 < 1; decide), fun h0 hd hl => ⟨(made_days h0 hd hl).1, (made_days h0 hd hl).2, fun H' p dx b we ps N R S as s' Y PL => ?_⟩⟩
        · intro H5 d wd s5 hd5 ed hw
          refine ⟨true, T.ex_BadYard_BadYard, (fun _ a na => ?_), fun z => (by cases z)⟩
          refine ⟨_, rfl, rfl, rfl, d, _, _, rfl, ed, rfl, by show 2 ≤ sizeLine; decide, fun D hD => ?_⟩
          have sz := Same.trans sx s5
          exact kb z _ D (same_upd sz (Same.free sz hD)) (Same.free sz hD) upd_same
        · refine ⟨_, rfl, p, _, _, _, _, rfl, Y.hp, T.cls_Yard, T.a_Yard_text, rfl, ?_⟩
          exact ko h0 hd H' (Same.trans sx s')
      · obtain ⟨a, b, c, d, rfl⟩ : ∃ a b c d, ws = [a, b, c, d] := by
          match ws, hl with
          | [a, b, c, d], _ => exact ⟨a, b, c, d, rfl⟩
        have ewx := ew1
        have sx := s1
        refine iteF (A := False) ⟨_, rfl, wa, _, rfl, .inl (SqL.of ewx), rfl, _, rfl, ?_⟩
        rw [decide_eq_false (show ¬ V.int (([a, b, c, d].map V.str).length : Int) = V.int 1 from fun z => absurd (V.int.inj z) (show ¬ ((4 : Int) = 1) by decide))]
        refine iteF (A := False) ?_
        refine ⟨rfl, _, rfl, wa, _, 0, _, rfl, rfl, SqL.of ewx, rfl, _, rfl, wa, _, 1, _, rfl, rfl, SqL.of ewx, rfl, _, rfl, wa, _, 2, _, rfl, rfl, SqL.of ewx, rfl, _, rfl, wa, _, 3, _, rfl, rfl, SqL.of ewx, rfl, [a, b, c, d], rfl, ll, (by show 4 ≤ 1000; decide), fun z => ?_, fun _ _ q => absurd q (by show ¬ 14 < 4; decide), fun h0 hd hl => ⟨(made_days h0 hd hl).1, (made_days h0 hd hl).2, fun H' p dx b we ps N R S as s' Y PL => ?_⟩⟩
        · intro H5 d wd s5 hd5 ed hw
          refine ⟨true, T.ex_BadYard_BadYard, (fun _ a na => ?_), fun z => (by cases z)⟩
          refine ⟨_, rfl, rfl, rfl, d, _, _, rfl, ed, rfl, by show 2 ≤ sizeLine; decide, fun D hD => ?_⟩
          have sz := Same.trans sx s5
          exact kb z _ D (same_upd sz (Same.free sz hD)) (Same.free sz hD) upd_same
        · refine ⟨_, rfl, p, _, _, _, _, rfl, Y.hp, T.cls_Yard, T.a_Yard_text, rfl, ?_⟩
          exact ko h0 hd H' (Same.trans sx s')
end
end Yd
set_option Elab.async false
set_option linter.all false
set_option maxRecDepth 100000
set_option maxHeartbeats 8000000
namespace Yd
open PySem PySem.Spec PyProof.Rows L2 Xo
/-! ### what is told is as it is due -/
/-- scalars, and the names of their types -/
inductive Sc : V → String → Prop where
  | non : Sc .non "NoneType"
  | bl (b : Bool) : Sc (.bl b) "bool"
  | int (i : Int) : Sc (.int i) "int"
  | str (x : Str) : Sc (.str x) "str"
def Lk : Nat → Hp → V → V → Prop
  | 0, _, x, y => x = y ∧ ∃ n, Sc x n
  | k + 1, H, x, y => (x = y ∧ ∃ n, Sc x n) ∨ ∃ (a b : Addr) (xs ys : List V), x = .ref a ∧ y = .ref b ∧ ((H a = some (.lst xs) ∧ H b = some (.lst ys)) ∨ (H a = some (.tup xs) ∧ H b = some (.tup ys))) ∧ xs.length = ys.length ∧ ys.length ≤ 1000 ∧ ∀ (i : Nat) (u v : V), xs[i]? = some u → ys[i]? = some v → Lk k H u v
theorem Lk.keep : ∀ {n : Nat} {H H' : Hp} {x y : V}, Lk n H x y → Same H H' → Lk n H' x y
  | 0, _, _, _, _, h, _ => h
  | n + 1, H, H', x, y, h, s => by
    rcases h with h | ⟨a, b, xs, ys, h1, h2, h3, h5, h6, h7⟩
    · exact .inl h
    · exact .inr ⟨a, b, xs, ys, h1, h2, h3.imp (fun z => ⟨s _ _ z.1, s _ _ z.2⟩) (fun z => ⟨s _ _ z.1, s _ _ z.2⟩), h5, h6, fun i u v hu hv => (h7 i u v hu hv).keep s⟩
theorem Sc.ty {K : PySem.W.Frag} {H : Hp} {x : V} {n : String} (h : Sc x n) : TyX K H x (.type n) := by
  cases h with
  | non => exact .base .non
  | bl b => exact .base (.bl b)
  | int i => exact .base (.int i)
  | str x => exact .base (.str x)
def spLike (n : Nat) : Sp := fun vs H Q _ => ∃ (x y : V), vs = [x, y] ∧ Lk n H x y ∧ ∀ H', Same H H' → Q (.bl true) H'
theorem list_nil_eq {K : PySem.W.Frag} {H : Hp} {a b : Addr} (ha : H a = some (.lst [])) (hb : H b = some (.lst [])) {Q : VK} (h : Q (.bl true) H) : rEqD K (.ref a) (.ref b) H Q :=
  ⟨.list [], .list [], .lst (SqL.of ha) .nil, .lst (SqL.of hb) .nil, rfl, rfl, h⟩
section
variable {P : Program} {w : World} {K : PySem.W.Frag} {mg : Str → Option Value} {base : Heap}
theorem kit_same {a b : String} {r : Bool} (h : kitB a b = some r) : PySem.W.kitOne K (.type a) (.type b) = some r := kit_ty h
theorem scLike : FnScope ["told", "due", "k", "key"] ["told", "due"] (defScope s_law_like) := ⟨rfl, rfl, rfl, by decide +kernel, rfl, by decide +kernel, by decide +kernel⟩
/-- isinstance of a scalar -/
theorem isi_sc {H : Hp} {x : V} {n c : String} {r : Bool} {Q : VK} (h : Sc x n) (k : kitB n c = some r) (q : Q (.bl r) H) : rIsi K [x, .ty c] H Q := ⟨x, .ty c, .type n, .type c, r, rfl, .ty c, h.ty, kit_ty k, q⟩
theorem isi_l {H : Hp} {a : Addr} {xs : List V} {c : String} {r : Bool} {Q : VK} (h : H a = some (.lst xs)) (k : kitB "list" c = some r) (q : Q (.bl r) H) : rIsi K [.ref a, .ty c] H Q := ⟨.ref a, .ty c, .type "list", .type c, r, rfl, .ty c, .base (.lst h), kit_ty k, q⟩
theorem Sc.kits {x : V} {n : String} (h : Sc x n) : kitB n "list" = some false ∧ kitB n "tuple" = some false ∧ kitB n "dict" = some false ∧ ∃ b1 b2 b3, kitB n "bool" = some b1 ∧ kitB n "int" = some b2 ∧ kitB n "str" = some b3 := by
  cases h with
  | non => exact ⟨by decide +kernel, by decide +kernel, by decide +kernel, false, false, false, by decide +kernel, by decide +kernel, by decide +kernel⟩
  | bl b => exact ⟨by decide +kernel, by decide +kernel, by decide +kernel, true, true, false, by decide +kernel, by decide +kernel, by decide +kernel⟩
  | int i => exact ⟨by decide +kernel, by decide +kernel, by decide +kernel, false, true, false, by decide +kernel, by decide +kernel, by decide +kernel⟩
  | str x => exact ⟨by decide +kernel, by decide +kernel, by decide +kernel, false, false, true, by decide +kernel, by decide +kernel, by decide +kernel⟩
theorem Sc.scal {x : V} {n : String} (h : Sc x n) : scal x x = true := by cases h <;> rfl
theorem ne_bb (b : Bool) : (!decide (V.bl b = V.bl b)) = false := by simp
theorem body_like (T : Tx w K mg) (n : Nat) {fd0 : FuncData} {k0 : Nat} {sp0 : Sp} (hk : k0 = n) (G_law_like : FnOk P w K mg base CX0 k0 (He.ga K "_law_like") fd0 ["told", "due"] sp0) (k_law_like : PySem.W.keepIn K (.ref (He.ga K "_law_like")) = true) (b_law_like : Binds K fd0 ["told", "due"] [])
    (hsp : ∀ j, n = j + 1 → sp0 = spLike j) : Good P w K mg base CX0 (n + 1) (He.ga K "_law_like") ["told", "due"] (spLike n) := by
  obtain ⟨fd, F⟩ := T.f_law_like
  refine ⟨fd, F.ok scLike (fun vs H Q E h => ?_) (fun cdv A outer s H vs Q E hr h => ?_), F.kp, F.bindsN fun _ _ _ _ _ _ us hl => match us, hl with | [_, _], _ => rfl⟩
  · obtain ⟨_, _, rfl, _⟩ := h
    rfl
  · obtain ⟨x, y, rfl, hL, kq⟩ := h
    have SC := scLike
    subst hk
    refine ⟨_, PSs.nox (pss_cons (ps_if (PW.pt (pw_or (pt_val (pe_callB (isiQ K) rfl T.n_isinstance (by decide +kernel) (pa_cons (pv 1) (pa_cons (pe_bltn (v := .ty "list") (u := .type "list") rfl T.n_list (by decide +kernel) rfl) pa_nil)))) (pw_or1 (pt_val (pe_callB (isiQ K) rfl T.n_isinstance (by decide +kernel) (pa_cons (pv 1) (pa_cons (pe_bltn (v := .ty "tuple") (u := .type "tuple") rfl T.n_tuple (by decide +kernel) rfl) pa_nil))))))) 
      (pss_cons (ps_if (PW.pt (pw_or (pt_cmpR op_ne (pe_callB (isiQ K) rfl T.n_isinstance (by decide +kernel) (pa_cons (pv 0) (pa_cons (pe_bltn (v := .ty "list") (u := .type "list") rfl T.n_list (by decide +kernel) rfl) pa_nil))) (pe_callB (isiQ K) rfl T.n_isinstance (by decide +kernel) (pa_cons (pv 1) (pa_cons (pe_bltn (v := .ty "list") (u := .type "list") rfl T.n_list (by decide +kernel) rfl) pa_nil))) (nomark _)) (pw_or (pt_cmpR op_ne (pe_callB (isiQ K) rfl T.n_isinstance (by decide +kernel) (pa_cons (pv 0) (pa_cons (pe_bltn (v := .ty "tuple") (u := .type "tuple") rfl T.n_tuple (by decide +kernel) rfl) pa_nil))) (pe_callB (isiQ K) rfl T.n_isinstance (by decide +kernel) (pa_cons (pv 1) (pa_cons (pe_bltn (v := .ty "tuple") (u := .type "tuple") rfl T.n_tuple (by decide +kernel) rfl) pa_nil))) (nomark _)) (pw_or1 (pt_cmpR op_ne (pe_callB (lenQ K) rfl T.n_len (by decide +kernel) (pa_cons (pv 0) pa_nil)) (pe_callB (lenQ K) rfl T.n_len (by decide +kernel) (pa_cons (pv 1) pa_nil)) (nomark _)))))) 
      (pss_one (ps_ret pe_bl)) pss_nil) 
      (pss_one (ps_ret (pe_cmpR (eqQ K rfl hr.units) (pe_lc (own := [("k", 2)]) (g := gName 2) rfl SC.nd (pi_range1 rfl T.n_range (pa_cons (pe_callB (lenQ K) rfl T.n_len (by decide +kernel) (pa_cons (pv 1) pa_nil)) pa_nil)) (blkOk_by (N := ["told", "due", "k", "key"]) (sc := defScope s_law_like) (by decide +kernel)) (fun _ _ _ _ _ => (pg_name (i := 2) SC.nd rfl (by first | exact Or.inl rfl | exact Or.inr rfl))) (fun _ _ _ _ _ => (pts_one (pt_not (pt_val (pe_call G_law_like (hr.mono (Nat.le_refl _)) rfl T.g_law_like k_law_like b_law_like .nil pass0 (pa_cons (pe_ix (Xo.ixLT K) (pv 0) (pv 2) (fun _ _ => rfl)) (pa_cons (pe_ix (Xo.ixLT K) (pv 1) (pv 2) (fun _ _ => rfl)) pa_nil))))))) (fun _ _ _ _ _ => (pv 2))) (pe_lst pa_nil) (nomark _))))) pss_nil) 
      (pss_cons (ps_if (pt_val (pe_callB (isiQ K) rfl T.n_isinstance (by decide +kernel) (pa_cons (pv 1) (pa_cons (pe_bltn (v := .ty "dict") (u := .type "dict") rfl T.n_dict (by decide +kernel) rfl) pa_nil)))) 
      (pss_cons (ps_if (PW.pt (pw_or (pt_not (pt_val (pe_callB (isiQ K) rfl T.n_isinstance (by decide +kernel) (pa_cons (pv 0) (pa_cons (pe_bltn (v := .ty "dict") (u := .type "dict") rfl T.n_dict (by decide +kernel) rfl) pa_nil))))) (pw_or1 (pt_not (pt_val (pe_call G_law_like (hr.mono (Nat.le_refl _)) rfl T.g_law_like k_law_like b_law_like .nil pass0 (pa_cons (pe_callTy (listOf K) rfl T.n_list (by decide +kernel) (pa_cons (pv 0) pa_nil)) (pa_cons (pe_callTy (listOf K) rfl T.n_list (by decide +kernel) (pa_cons (pv 1) pa_nil)) pa_nil)))))))) 
      (pss_one (ps_ret pe_bl)) pss_nil) 
      (pss_one (ps_ret (pe_cmpR (eqQ K rfl hr.units) (pe_lc (own := [("key", 3)]) (g := gName 3) rfl SC.nd (listI K rfl (pv 1)) (blkOk_by (N := ["told", "due", "k", "key"]) (sc := defScope s_law_like) (by decide +kernel)) (fun _ _ _ _ _ => (pg_name (i := 3) SC.nd rfl (by first | exact Or.inl rfl | exact Or.inr rfl))) (fun _ _ _ _ _ => (pts_one (pt_not (pt_val (pe_call G_law_like (hr.mono (Nat.le_refl _)) rfl T.g_law_like k_law_like b_law_like .nil pass0 (pa_cons (pe_ix (Xo.ixLT K) (pv 0) (pv 3) (fun _ _ => rfl)) (pa_cons (pe_ix (Xo.ixLT K) (pv 1) (pv 3) (fun _ _ => rfl)) pa_nil))))))) (fun _ _ _ _ _ => (pv 3))) (pe_lst pa_nil) (nomark _))))) pss_nil) 
      (pss_cons (ps_if (PW.pt (pw_or (pt_cmpR op_ne (pe_callB (isiQ K) rfl T.n_isinstance (by decide +kernel) (pa_cons (pv 0) (pa_cons (pe_bltn (v := .ty "bool") (u := .type "bool") rfl T.n_bool (by decide +kernel) rfl) pa_nil))) (pe_callB (isiQ K) rfl T.n_isinstance (by decide +kernel) (pa_cons (pv 1) (pa_cons (pe_bltn (v := .ty "bool") (u := .type "bool") rfl T.n_bool (by decide +kernel) rfl) pa_nil))) (nomark _)) (pw_or1 (pt_cmpR op_ne (pe_callB (isiQ K) rfl T.n_isinstance (by decide +kernel) (pa_cons (pv 0) (pa_cons (pe_bltn (v := .ty "int") (u := .type "int") rfl T.n_int (by decide +kernel) rfl) pa_nil))) (pe_callB (isiQ K) rfl T.n_isinstance (by decide +kernel) (pa_cons (pv 1) (pa_cons (pe_bltn (v := .ty "int") (u := .type "int") rfl T.n_int (by decide +kernel) rfl) pa_nil))) (nomark _))))) 
      (pss_one (ps_ret pe_bl)) pss_nil) 
      (pss_one (ps_ret (pe_ifExp (pt_cmpR op_isN (pv 1) pe_non (nomark _)) (pe_cmpR op_isN (pv 0) pe_non (nomark _)) (pe_and (pe_cmpR op_eq (pe_callB (isiQ K) rfl T.n_isinstance (by decide +kernel) (pa_cons (pv 0) (pa_cons (pe_bltn (v := .ty "str") (u := .type "str") rfl T.n_str (by decide +kernel) rfl) pa_nil))) (pe_callB (isiQ K) rfl T.n_isinstance (by decide +kernel) (pa_cons (pv 1) (pa_cons (pe_bltn (v := .ty "str") (u := .type "str") rfl T.n_str (by decide +kernel) rfl) pa_nil))) (nomark _)) (pe_one (pe_cmpR op_eq (pv 0) (pv 1) (nomark _)))))))))), ?_⟩
    have hF : (x = y ∧ ∃ n, Sc x n) ∨ ∃ (j : Nat) (a b : Addr) (xs ys : List V), k0 = j + 1 ∧ x = .ref a ∧ y = .ref b ∧ ((H a = some (.lst xs) ∧ H b = some (.lst ys)) ∨ (H a = some (.tup xs) ∧ H b = some (.tup ys))) ∧ xs.length = ys.length ∧ ys.length ≤ 1000 ∧ ∀ (i : Nat) (u v : V), xs[i]? = some u → ys[i]? = some v → Lk j H u v := by
      cases k0 with
      | zero => exact .inl hL
      | succ j =>
        rcases hL with h | ⟨a, b, xs, ys, h1, h2, h3, h5, h6, h7⟩
        · exact .inl h
        · exact .inr ⟨j, a, b, xs, ys, rfl, h1, h2, h3, h5, h6, h7⟩
    rcases hF with ⟨rfl, nm, hs⟩ | ⟨j, a, b, xs, ys, hj, rfl, rfl, hab, hlen, hsm, hall⟩
    · obtain ⟨q1, q2, q3, b1, b2, b3, q4, q5, q6⟩ := hs.kits
      refine ⟨_, rfl, _, _, _, _, _, rfl, .ty _, hs.ty, kit_ty q1, ⟨_, rfl, iteF (A := False) ⟨_, rfl, _, _, _, _, _, rfl, .ty _, hs.ty, kit_ty q2, ⟨_, rfl, iteF (A := False) ?_⟩⟩⟩⟩
      refine ⟨_, rfl, _, _, _, _, _, rfl, .ty _, hs.ty, kit_ty q3, ⟨_, rfl, iteF (A := False) ?_⟩⟩
      refine ⟨_, rfl, _, _, _, _, _, rfl, .ty _, hs.ty, kit_ty q4, ⟨_, rfl, _, _, _, _, _, rfl, .ty _, hs.ty, kit_ty q4, ⟨rfl, _, rfl, ?_⟩⟩⟩
      rw [ne_bb]
      refine iteF (A := False) ?_
      refine ⟨_, rfl, _, _, _, _, _, rfl, .ty _, hs.ty, kit_ty q5, ⟨_, rfl, _, _, _, _, _, rfl, .ty _, hs.ty, kit_ty q5, ⟨rfl, _, rfl, ?_⟩⟩⟩
      rw [ne_bb]
      refine iteF (A := False) ?_
      refine ⟨_, rfl, rfl, _, rfl, ?_⟩
      by_cases c : x = .non
      · subst c
        refine iteT (B := False) ?_
        exact ⟨_, rfl, rfl, kq H fun _ _ z => z⟩
      · rw [decide_eq_false c]
        refine iteF (A := False) ?_
        refine ⟨_, rfl, _, _, _, _, _, rfl, .ty _, hs.ty, kit_ty q6, ⟨_, rfl, _, _, _, _, _, rfl, .ty _, hs.ty, kit_ty q6, ⟨rfl, _, rfl, ?_⟩⟩⟩
        rw [decide_eq_true rfl]
        refine iteT (B := False) ?_
        refine ⟨_, rfl, _, rfl, hs.scal, ?_⟩
        rw [decide_eq_true rfl]
        exact kq H fun _ _ z => z
    · have hsp' := hsp j hj
      subst hsp'
      rcases hab with ⟨ha, hb⟩ | ⟨ha, hb⟩
      · skip
        have k1 : kitB "list" "list" = some true := by decide +kernel
        have k2 : kitB "list" "tuple" = some false := by decide +kernel
        refine ⟨_, rfl, _, _, _, _, _, rfl, .ty _, .base (.lst hb), kit_ty k1, ⟨_, rfl, iteT (B := False) ?_⟩⟩
        refine iteT (B := False) ?_
        refine ⟨_, rfl, _, _, _, _, _, rfl, .ty _, .base (.lst ha), kit_ty k1, ⟨_, rfl, _, _, _, _, _, rfl, .ty _, .base (.lst hb), kit_ty k1, ⟨rfl, _, rfl, ?_⟩⟩⟩
        rw [ne_bb]
        refine iteF (A := False) ?_
        refine ⟨_, rfl, _, _, _, _, _, rfl, .ty _, .base (.lst ha), kit_ty k2, ⟨_, rfl, _, _, _, _, _, rfl, .ty _, .base (.lst hb), kit_ty k2, ⟨rfl, _, rfl, ?_⟩⟩⟩
        rw [ne_bb]
        refine iteF (A := False) ?_
        refine ⟨_, rfl, a, _, rfl, .inl (SqL.of ha), _, rfl, b, _, rfl, .inl (SqL.of hb), rfl, _, rfl, ?_⟩
        have e1 : (!decide (V.int (xs.length : Nat) = V.int (ys.length : Nat))) = false := by rw [hlen]; simp
        rw [e1]
        refine iteF (A := False) ?_
        -- the comprehension
        refine ⟨_, rfl, b, _, rfl, .inl (SqL.of hb), _, rfl, by omega, by omega, fun D hD => ?_⟩
        refine lc_range (lo := 0) (n := (ys.length : Int).toNat) (fun i h => Same H h ∧ h D = some (.lst [])) ⟨same_new hD, upd_same⟩ (fun i h hi ⟨s, e⟩ => ?_) (fun h ⟨s, e2⟩ => ?_)
        · refine ⟨rfl, ?_⟩
          have hi' : i < ys.length := by omega
          obtain ⟨u, hu⟩ : ∃ u, xs[i]? = some u := ⟨_, List.getElem?_eq_getElem (by omega)⟩
          obtain ⟨v, hv⟩ : ∃ v, ys[i]? = some v := ⟨_, List.getElem?_eq_getElem hi'⟩
          refine ⟨_, rfl, _, rfl, .inl ⟨a, _, _, u, rfl, rfl, SqL.of (s _ _ ha), at_of (j := i) (by omega) hu, _, rfl, _, rfl, .inl ⟨b, _, _, v, rfl, rfl, SqL.of (s _ _ hb), at_of (j := i) (by omega) hv, u, v, rfl, (hall i u v hu hv).keep s, fun H2 s2 => ?_⟩⟩⟩
          refine ⟨_, rfl, ?_⟩
          refine iteF (A := False) ?_
          exact ⟨fun a o z => s2 a o (s a o z), s2 _ _ e⟩
        · clear hall
          refine ⟨by show 0 ≤ sizeLine; decide, fun D2 hD2 => ?_⟩
          refine list_nil_eq (a := D) (b := D2) ?_ upd_same ?_
          · rw [upd_ne (ne_of_none e2 hD2)]; exact e2
          · exact kq _ (same_upd s (s.free hD2))
      · skip
        have k1 : kitB "tuple" "list" = some false := by decide +kernel
        have k2 : kitB "tuple" "tuple" = some true := by decide +kernel
        refine ⟨_, rfl, _, _, _, _, _, rfl, .ty _, .base (.tup hb), kit_ty k1, ⟨_, rfl, iteF (A := False) ⟨_, rfl, _, _, _, _, _, rfl, .ty _, .base (.tup hb), kit_ty k2, ⟨_, rfl, ?_⟩⟩⟩⟩
        refine iteT (B := False) ?_
        refine ⟨_, rfl, _, _, _, _, _, rfl, .ty _, .base (.tup ha), kit_ty k1, ⟨_, rfl, _, _, _, _, _, rfl, .ty _, .base (.tup hb), kit_ty k1, ⟨rfl, _, rfl, ?_⟩⟩⟩
        rw [ne_bb]
        refine iteF (A := False) ?_
        refine ⟨_, rfl, _, _, _, _, _, rfl, .ty _, .base (.tup ha), kit_ty k2, ⟨_, rfl, _, _, _, _, _, rfl, .ty _, .base (.tup hb), kit_ty k2, ⟨rfl, _, rfl, ?_⟩⟩⟩
        rw [ne_bb]
        refine iteF (A := False) ?_
        refine ⟨_, rfl, a, _, rfl, .inr (SqT.of ha), _, rfl, b, _, rfl, .inr (SqT.of hb), rfl, _, rfl, ?_⟩
        have e1 : (!decide (V.int (xs.length : Nat) = V.int (ys.length : Nat))) = false := by rw [hlen]; simp
        rw [e1]
        refine iteF (A := False) ?_
        -- the comprehension
        refine ⟨_, rfl, b, _, rfl, .inr (SqT.of hb), _, rfl, by omega, by omega, fun D hD => ?_⟩
        refine lc_range (lo := 0) (n := (ys.length : Int).toNat) (fun i h => Same H h ∧ h D = some (.lst [])) ⟨same_new hD, upd_same⟩ (fun i h hi ⟨s, e⟩ => ?_) (fun h ⟨s, e2⟩ => ?_)
        · refine ⟨rfl, ?_⟩
          have hi' : i < ys.length := by omega
          obtain ⟨u, hu⟩ : ∃ u, xs[i]? = some u := ⟨_, List.getElem?_eq_getElem (by omega)⟩
          obtain ⟨v, hv⟩ : ∃ v, ys[i]? = some v := ⟨_, List.getElem?_eq_getElem hi'⟩
          refine ⟨_, rfl, _, rfl, .inr ⟨a, _, _, u, rfl, rfl, SqT.of (s _ _ ha), at_of (j := i) (by omega) hu, _, rfl, _, rfl, .inr ⟨b, _, _, v, rfl, rfl, SqT.of (s _ _ hb), at_of (j := i) (by omega) hv, u, v, rfl, (hall i u v hu hv).keep s, fun H2 s2 => ?_⟩⟩⟩
          refine ⟨_, rfl, ?_⟩
          refine iteF (A := False) ?_
          exact ⟨fun a o z => s2 a o (s a o z), s2 _ _ e⟩
        · clear hall
          refine ⟨by show 0 ≤ sizeLine; decide, fun D2 hD2 => ?_⟩
          refine list_nil_eq (a := D) (b := D2) ?_ upd_same ?_
          · rw [upd_ne (ne_of_none e2 hD2)]; exact e2
          · exact kq _ (same_upd s (s.free hD2))
theorem good_like (T : Tx w K mg) : ∀ n : Nat, Good P w K mg base CX0 (n + 1) (He.ga K "_law_like") ["told", "due"] (spLike n)
  | 0 => by
    obtain ⟨fd, F⟩ := T.f_law_like
    exact body_like T 0 (k0 := 0) (fd0 := fd) (sp0 := fun _ _ _ _ => False) rfl ⟨fun _ _ _ _ h => h.elim, fun _ _ _ _ _ _ _ _ _ _ _ _ _ h => h.elim⟩ F.kp (F.bindsN fun _ _ _ _ _ _ us hl => match us, hl with | [_, _], _ => rfl) fun j h => by omega
  | n + 1 => by
    obtain ⟨fd0, G, k, b⟩ := good_like T n
    exact body_like T (n + 1) (k0 := n + 1) rfl G k b fun j h => by cases h; rfl
end
end Yd
set_option Elab.async false
set_option linter.all false
set_option maxRecDepth 100000
set_option maxHeartbeats 8000000
/-! Two readings of one outcome are alike. -/
namespace Yd
open PySem PySem.Spec PyProof.Rows L2 Xo
theorem lk_str {H : Hp} (x : Str) : ∀ n, Lk n H (.str x) (.str x)
  | 0 => ⟨rfl, _, .str x⟩
  | n + 1 => .inl ⟨rfl, _, .str x⟩
theorem lk_int {H : Hp} (x : Int) : ∀ n, Lk n H (.int x) (.int x)
  | 0 => ⟨rfl, _, .int x⟩
  | n + 1 => .inl ⟨rfl, _, .int x⟩
theorem lk_bl {H : Hp} (x : Bool) : ∀ n, Lk n H (.bl x) (.bl x)
  | 0 => ⟨rfl, _, .bl x⟩
  | n + 1 => .inl ⟨rfl, _, .bl x⟩
theorem lk_strs {H : Hp} {a b : Addr} {hs : List Str} {n : Nat} (ha : H a = some (.lst (hs.map V.str))) (hb : H b = some (.lst (hs.map V.str))) (l : hs.length ≤ 1000) : Lk (n + 1) H (.ref a) (.ref b) :=
  .inr ⟨a, b, _, _, rfl, rfl, .inl ⟨ha, hb⟩, rfl, by rw [List.length_map]; exact l, fun i u v hu hv => by
    rw [hu] at hv
    cases hv
    rw [List.getElem?_map] at hu
    obtain ⟨x, _, rfl⟩ := Option.map_eq_some_iff.mp hu
    exact lk_str x n⟩
theorem lk_pair {H : Hp} {a b : Addr} {x y : V} {u v : V} {n : Nat} (ha : H a = some (.tup [x, y])) (hb : H b = some (.tup [u, v])) (h1 : Lk n H x u) (h2 : Lk n H y v) : Lk (n + 1) H (.ref a) (.ref b) :=
  .inr ⟨a, b, _, _, rfl, rfl, .inr ⟨ha, hb⟩, rfl, by show 2 ≤ 1000; decide, fun i p q hp hq => by
    match i, hp, hq with
    | 0, hp, hq => cases hp; cases hq; exact h1
    | 1, hp, hq => cases hp; cases hq; exact h2⟩
theorem lk_wires {H : Hp} {a b : Addr} {as bs : List Addr} {es : List Wr} {n : Nat} (ha : H a = some (.lst (as.map V.ref))) (hb : H b = some (.lst (bs.map V.ref))) (W : WAt H as es) (W2 : WAt H bs es) (l : es.length ≤ 1000) : Lk (n + 2) H (.ref a) (.ref b) :=
  .inr ⟨a, b, _, _, rfl, rfl, .inl ⟨ha, hb⟩, by rw [List.length_map, List.length_map, W.1, W2.1], by rw [List.length_map, W2.1]; exact l, fun i u v hu hv => by
    rw [List.getElem?_map] at hu hv
    obtain ⟨p, hp, rfl⟩ := Option.map_eq_some_iff.mp hu
    obtain ⟨q, hq, rfl⟩ := Option.map_eq_some_iff.mp hv
    obtain ⟨e, he, h1⟩ := W.2 i p hp
    obtain ⟨e2, he2, h2⟩ := W2.2 i q hq
    rw [he] at he2
    cases he2
    exact lk_pair h1 h2 (lk_str _ n) (lk_str _ n)⟩
theorem read_like {H : Hp} {r1 r2 : Addr} {o : RdO} (h1 : ReadAt H r1 o) (h2 : ReadAt H r2 o) (l : ∀ c hs es, o = .ok c hs es → hs.length ≤ 1000 ∧ es.length ≤ 1000) : Lk 3 H (.ref r1) (.ref r2) := by
  cases o with
  | bad line => exact lk_pair h1 h2 (lk_str _ 2) (lk_int _ 2)
  | many w n => exact lk_pair h1 h2 (lk_str _ 2) (lk_int _ 2)
  | ok c hs es =>
    obtain ⟨lh, le, as, e1, e2, e3, W⟩ := h1
    obtain ⟨lh2, le2, bs, f1, f2, f3, W2⟩ := h2
    obtain ⟨l1, l2⟩ := l c hs es rfl
    refine .inr ⟨r1, r2, _, _, rfl, rfl, .inr ⟨e1, f1⟩, rfl, by show 4 ≤ 1000; decide, fun i p q hp hq => ?_⟩
    match i, hp, hq with
    | 0, hp, hq => cases hp; cases hq; exact lk_str _ 2
    | 1, hp, hq => cases hp; cases hq; exact lk_bl _ 2
    | 2, hp, hq => cases hp; cases hq; exact lk_strs e2 f2 l1
    | 3, hp, hq => cases hp; cases hq; exact lk_wires e3 f3 W W2 l2
end Yd
set_option Elab.async false
set_option linter.all false
set_option maxRecDepth 100000
set_option maxHeartbeats 8000000
/-! The law's texts in plain Lean: what is read is small; line feeds behind a text; the benches in another order. -/
namespace Yd
open PySem PySem.Spec PyProof.Rows L2 Xo
theorem PlotOk.wf {days : Bool} {hs : List Str} {es : List Wr} (p : PlotOk days hs es) : ∀ e ∈ es, e.1 ∈ hs ∧ e.2 ∈ hs := by
  cases days with
  | true => rw [p.dy rfl]; exact zip_wf
  | false => exact (p.tree rfl).2.1
theorem PlotOk.sml {days : Bool} {hs : List Str} {es : List Wr} (p : PlotOk days hs es) : Sml hs es := by
  have few := p.few
  refine small_len100 (by omega) ?_ p.sm p.wf
  cases days with
  | true => rw [p.dy rfl, List.length_zip]; omega
  | false => have := (p.tree rfl).1; omega
theorem PlotOk.texts {days : Bool} {hs : List Str} {es : List Wr} (p : PlotOk days hs es) : okS (yardT days hs es) ∧ (yardT days hs es).length ≤ 40000 ∧ Txt.split (yardT days hs es) "\n" = rowsT days hs es ∧ readY (yardT days hs es) = rowsY (rowsT days hs es) := by
  have wf : days = false → ∀ e ∈ es, smallB e.1 = true ∧ smallB e.2 = true := fun _ e he => ⟨p.sm _ (p.wf e he).1, p.sm _ (p.wf e he).2⟩
  exact ⟨text_ok p.sm wf, text_short p.sml, text_rows p.sm wf, read_of p.sml p.sm wf⟩
theorem PlotOk.reads {days : Bool} {hs : List Str} {es : List Wr} (p : PlotOk days hs es) : rowsY (rowsT days hs es) = if 14 < hs.length then .many "benches" 14 else .ok days hs es := by
  by_cases h : 14 < hs.length
  · rw [if_pos h]; exact rows_many p.nd p.sm h
  · rw [if_neg h]
    have := rows_back (c := days) p.nd p.sm (by omega) p.ne fun z => ⟨(p.tree z).1, (p.tree z).2.1, (p.tree z).2.2⟩
    rw [this]
    cases days with
    | true => rw [p.dy rfl]; rfl
    | false => rfl
theorem go_plan {c : Bool} : ∀ (rs : List Str) (k : Nat) (hs : List Str) (es : List Wr) (en : Bool), RSt c hs es en → ∀ {c' : Bool} {hs' : List Str} {es' : List Wr}, goY c rs k hs es en = .ok c' hs' es' → RSt c' hs' es' true
  | [], k, hs, es, en, S, c', hs', es', h => by
    unfold goY at h
    cases en with
    | true => rw [if_pos rfl] at h; cases h; exact S
    | false => rw [if_neg (by simp)] at h; cases h
  | r :: rs, k, hs, es, en, S, c', hs', es', h => by
    rw [goY_cons] at h
    cases q : takeY c hs es en (Txt.split r " ") with
    | bad => rw [q] at h; cases h
    | many => rw [q] at h; cases h
    | ok h1 e1 n1 => rw [q] at h; exact go_plan rs _ _ _ _ (S.next q) h
theorem rows_small {rs : List Str} : ∀ (c : Bool) (hs : List Str) (es : List Wr), rowsY rs = .ok c hs es → hs.length ≤ 1000 ∧ es.length ≤ 1000 := fun c hs es h => by
  unfold rowsY at h
  split at h
  · cases h
  · split at h
    · cases h
    · have S := (go_plan _ _ _ _ _ RSt.new h).plan.sml8
      have := S.hn
      have := S.en
      omega
theorem read_rows {x : Str} (h : x.length ≤ 120000) : readY x = rowsY (Txt.split x "\n") := by
  unfold readY
  rw [if_neg (by omega)]
theorem join_snoc (s x : Str) : ∀ l : List Str, l ≠ [] → Str.join s (l ++ [x]) = Str.join s l ++ s ++ x
  | [], h => absurd rfl h
  | [a], _ => rfl
  | a :: b :: l, _ => by
    have ih := join_snoc s x (b :: l) (by simp)
    show a ++ s ++ Str.join s ((b :: l) ++ [x]) = a ++ s ++ Str.join s (b :: l) ++ s ++ x
    rw [ih]
    simp only [app_assoc]
theorem app_empty (x : Str) : x ++ ("" : Str) = x := by
  have e : TL.tl (x ++ ("" : Str)) = TL.tl x := by
    rw [tl_app]
    show TL.tl x ++ [] = TL.tl x
    simp
  exact TL.ext_tl e
theorem rep_succ (z : Str) (n : Nat) : repS z (n + 1) = repS z n ++ z := by
  unfold repS
  rw [List.replicate_succ', List.foldl_append]
  rfl
theorem rep_zero (z : Str) : repS z 0 = ("" : Str) := rfl
theorem rep_len (z : Str) : ∀ n, (repS z n).length = n * z.length
  | 0 => by rw [rep_zero]; show 0 = _; omega
  | n + 1 => by
    rw [rep_succ, str_len, rep_len z n]
    rw [Nat.succ_mul]
theorem rep_ok {z : Str} (h : okS z) : ∀ n, okS (repS z n)
  | 0 => by rw [rep_zero]; show PyData.strOk _ = true; decide +kernel
  | n + 1 => by rw [rep_succ]; exact okS_app (rep_ok h n) h
theorem rep_tl (n : Nat) : TL.tl (repS "\n" n) = List.replicate n 10 := by
  induction n with
  | zero => rfl
  | succ n ih =>
    rw [rep_succ, tl_app, ih, List.replicate_succ']
    rfl
theorem join_feeds {rs : List Str} (h : rs ≠ []) : ∀ k, Txt.join "\n" (rs ++ List.replicate k ("" : Str)) = Txt.join "\n" rs ++ repS "\n" k
  | 0 => by rw [rep_zero, app_empty, List.replicate_zero, List.append_nil]
  | k + 1 => by
    have ih := join_feeds h k
    rw [TL.join_eq, TL.join_eq] at ih ⊢
    rw [List.replicate_succ', ← List.append_assoc, join_snoc _ _ _ (by simp [h]), ih, app_empty, rep_succ, app_assoc]
def headR (c : Bool) : Str := if c = true then "course" else "yard"
def restR (c : Bool) (es : List Wr) : List Str := (if c = true then [] else es.map rowW) ++ [("done" : Str)]
theorem rowsT_eq (c : Bool) (hs : List Str) (es : List Wr) : rowsT c hs es = headR c :: (hs.map (rowB c) ++ restR c es) := by
  cases c with
  | true => unfold rowsT rowB restR headR; simp
  | false =>
    unfold rowsT rowB restR headR
    simp
    exact fun a b _ => rfl
theorem split_feeds {c : Bool} {hs : List Str} {es : List Wr} (sm : ∀ h ∈ hs, smallB h = true) (wf : c = false → ∀ e ∈ es, smallB e.1 = true ∧ smallB e.2 = true) (k : Nat) : Txt.split (yardT c hs es ++ repS "\n" k) "\n" = rowsT c hs es ++ List.replicate k ("" : Str) := by
  have ne : rowsT c hs es ≠ [] := by unfold rowsT; simp
  have e := join_feeds ne k
  unfold yardT
  rw [← e]
  refine TL.split_join (y := ("\n" : Str)) (s := 10) (S := []) (by decide +kernel) (by decide +kernel) (by simp [ne]) (fun p hp m => ?_)
  rcases List.mem_append.mp hp with hp | hp
  · exact (rows_nonl sm wf p hp).1 10 m rfl
  · rw [(List.mem_replicate.mp hp).2] at m
    exact absurd m (by decide +kernel)
theorem go_behind {c : Bool} {hs : List Str} {es : List Wr} {k : Nat} {r : Str} {rest : List Str} (S : RSt c hs es false) (hne : hs ≠ []) (hl : c = true ∨ es.length + 1 = hs.length) : goY c (("done" : Str) :: r :: rest) k hs es false = .bad ((k : Int) + 2) := by
  rw [goY_cons, (done_split _).mpr rfl]
  have tk := take_done (c := c) (hs := hs) (es := es) (les := es) (k0 := ("done" : Str)) (wr := []) S (fun _ => rfl) rfl hne hl
  rw [tk]
  show goY c (r :: rest) (k + 1) hs _ true = _
  rw [goY_cons]
  have e : ∀ es2 ws, takeY c hs es2 true ws = .bad := fun es2 ws => by unfold takeY; rw [if_pos rfl]
  rw [e]
  show RdO.bad (((k + 1 : Nat) : Int) + 1) = _
  rw [show ((k + 1 : Nat) : Int) + 1 = (k : Int) + 2 by omega]
theorem rows_feeds {c : Bool} {hs : List Str} {es : List Wr} (p : PlotOk c hs es) (k : Nat) : rowsY (rowsT c hs es ++ List.replicate (k + 1) ("" : Str)) = if 14 < hs.length then .many "benches" 14 else .bad ((rowsT c hs es).length + 1) := by
  have nd := p.nd
  have sm := p.sm
  rw [rowsT_eq]
  have hy : ¬ (headR c ≠ ("yard" : Str) ∧ headR c ≠ ("course" : Str)) := by
    unfold headR
    cases c
    · exact fun z => z.1 rfl
    · exact fun z => z.2 rfl
  have hc : decide (headR c = ("course" : Str)) = c := by
    unfold headR
    cases c
    · decide +kernel
    · decide +kernel
  show (if headR c ≠ ("yard" : Str) ∧ headR c ≠ ("course" : Str) then RdO.bad 1 else goY (decide (headR c = ("course" : Str))) (hs.map (rowB c) ++ restR c es ++ List.replicate (k + 1) ("" : Str)) 1 [] [] false) = _
  rw [if_neg hy, hc, List.append_assoc]
  by_cases h : 14 < hs.length
  · rw [if_pos h]
    exact go_rows_many _ hs 1 [] (by simpa using nd) sm (by simp) (by simpa using h)
  · rw [if_neg h, go_rows _ hs 1 [] (by simpa using nd) sm (by simpa using h), List.nil_append]
    cases c with
    | true =>
      have e : restR true es ++ List.replicate (k + 1) ("" : Str) = ("done" : Str) :: ("" : Str) :: List.replicate k ("" : Str) := by unfold restR; simp [List.replicate_succ]
      rw [e, go_behind ⟨nd, sm, by omega, fun z => (by cases z), fun e h => (by simp at h), fun _ _ => rfl, fun z => (by cases z), fun _ z => (by cases z)⟩ p.ne (.inl rfl)]
      unfold restR
      simp
      omega
    | false =>
      obtain ⟨t1, t2, t3⟩ := p.tree rfl
      have nr : ∀ e1 a b e2, es = e1 ++ (a, b) :: e2 → ¬ Conn e1 a b := fun e1 a b e2 h => tree_prefix nd t3 t1 h
      have e : restR false es ++ List.replicate (k + 1) ("" : Str) = es.map rowW ++ (("done" : Str) :: ("" : Str) :: List.replicate k ("" : Str)) := by unfold restR; simp [List.replicate_succ]
      rw [e, go_wires sm _ es (1 + hs.length) [] t2 (by simpa using nr), List.nil_append]
      rw [go_behind (tree_rst nd sm (by omega) es t2 nr) p.ne (.inr t1)]
      unfold restR
      simp
      omega
theorem cut_feeds {x : Str} (h : x.length ≤ 40000) : cutS (x ++ repS "\n" (120001 - x.length)) none (some 120000) = x ++ repS "\n" (119999 - x.length + 1) := by
  have l : (x ++ repS "\n" (120001 - x.length)).length = 120001 := by
    rw [str_len, rep_len]
    show x.length + (120001 - x.length) * 1 = _
    omega
  refine TL.ext_tl ?_
  unfold cutS
  rw [l, show HT.sIx 120001 0 none = 0 from rfl, show HT.sIx 120001 120001 (some 120000) = 120000 from by decide +kernel]
  show (((x ++ repS "\n" (120001 - x.length)).cps.toList.drop 0).take (120000 - 0)).toArray.toList = _
  rw [List.drop_zero, Nat.sub_zero, tl_app, rep_tl]
  show (TL.tl (x ++ repS "\n" (120001 - x.length))).take 120000 = _
  rw [tl_app, rep_tl, show 120001 - x.length = (119999 - x.length + 1) + 1 by omega, List.replicate_succ' (n := 119999 - x.length + 1), ← List.append_assoc]
  have lx : (TL.tl x).length = x.length := Array.length_toList
  rw [List.take_append_of_le_length (by rw [List.length_append, List.length_replicate, lx]; omega)]
  exact List.take_of_length_le (by rw [List.length_append, List.length_replicate, lx]; omega)
/-- the benches of a plan in another order -/
theorem Tree.perm {hs hs' : List Str} {es : List Wr} (t : Tree hs es) (p : hs'.Perm hs) : Tree hs' es :=
  ⟨by rw [p.length_eq]; exact t.len, fun e he => ⟨p.mem_iff.mpr (t.wf e he).1, p.mem_iff.mpr (t.wf e he).2⟩, fun a ha b hb => t.conn a (p.mem_iff.mp ha) b (p.mem_iff.mp hb)⟩
theorem PlotOk.treeT {days : Bool} {hs : List Str} {es : List Wr} (p : PlotOk days hs es) : days = false → Tree hs es := fun z => ⟨(p.tree z).1, (p.tree z).2.1, (p.tree z).2.2⟩
theorem PlotOk.other {days : Bool} {hs hs' : List Str} {es : List Wr} (p : PlotOk days hs es) (few : hs.length ≤ 14) (q : hs'.Perm hs) : okS (yardT days hs' es) ∧ (yardT days hs' es).length ≤ 1000000 ∧ readY (yardT days hs' es) = .ok days hs' (if days = true then hs'.zip hs'.tail else es) := by
  have sm : ∀ h ∈ hs', smallB h = true := fun h m => p.sm h (q.mem_iff.mp m)
  have wf : ∀ e ∈ es, e.1 ∈ hs' ∧ e.2 ∈ hs' := fun e he => ⟨q.mem_iff.mpr (p.wf e he).1, q.mem_iff.mpr (p.wf e he).2⟩
  have le : es.length ≤ 30 := p.sml.en
  have S : Sml hs' es := small_len100 (by rw [q.length_eq]; omega) le sm wf
  have ne : hs' ≠ [] := fun z => p.ne (by rw [z] at q; exact List.nil_perm.mp q)
  refine ⟨text_ok sm (fun _ e he => ⟨sm _ (wf e he).1, sm _ (wf e he).2⟩), by have := text_short (c := days) S; omega, ?_⟩
  exact read_ok (q.nodup_iff.mpr p.nd) sm (by rw [q.length_eq]; exact few) ne (fun z => (p.treeT z).perm q) (fun _ => S)
theorem other_rows {c : Bool} {hs : List Str} {es : List Wr} {ys : List V} (p : ys.Perm (((rowsT c hs es).take (1 + hs.length)).drop 1 |>.map V.str)) : ∃ hs' : List Str, hs'.Perm hs ∧ ys = (hs'.map (rowB c)).map V.str ∧ (rowsT c hs es).take 1 ++ hs'.map (rowB c) ++ (rowsT c hs es).drop (1 + hs.length) = rowsT c hs' es := by
  have e : ((rowsT c hs es).take (1 + hs.length)).drop 1 = hs.map (rowB c) := by
    rw [rowsT_eq, Nat.add_comm, List.take_succ_cons, List.drop_succ_cons, List.drop_zero, List.take_append_of_le_length (by rw [List.length_map]; omega), List.take_of_length_le (by rw [List.length_map]; omega)]
  rw [e, List.map_map] at p
  obtain ⟨l, rfl, pl⟩ := perm_map p
  refine ⟨l, pl, by rw [List.map_map], ?_⟩
  rw [rowsT_eq, rowsT_eq, Nat.add_comm 1, List.drop_succ_cons, List.drop_append_of_le_length (by rw [List.length_map]; omega), List.drop_of_length_le (by rw [List.length_map]; omega)]
  simp
theorem PlotOk.rows_len {c : Bool} {hs : List Str} {es : List Wr} (p : PlotOk c hs es) : (rowsT c hs es).length ≤ 34 ∧ hs.length + 2 ≤ (rowsT c hs es).length := by
  have few := p.few
  rw [rowsT_eq]
  unfold restR
  cases c with
  | true => simp; omega
  | false =>
    have := (p.tree rfl).1
    simp; omega
end Yd
set_option Elab.async false
set_option linter.all false
set_option maxRecDepth 100000
set_option maxHeartbeats 8000000
/-! What the law holds on to. -/
namespace Yd
open PySem PySem.Spec PyProof.Rows L2 Xo
theorem passF {X : Cx} : Passes (L2.CX X.prog X.w) X (fun _ _ _ => False) := fun _ _ _ _ _ _ _ h => by
  obtain ⟨_, _, _, _, _, _, _, _, _, _, _, _, h⟩ := h
  exact h.elim
theorem KeepB.get {b c a : Addr} {H H' : Hp} {o : HO} (k : KeepB b H H') (B : Bag H b c) (e : H a = some o) (n : ∀ i r q x m, o ≠ .lst (bagL c i r q x m)) : H' a = some o := k a o e (by
  rintro rfl
  obtain ⟨ns, i, r, q, x, m, B⟩ := B
  rw [B.hb] at e
  exact n _ _ _ _ _ (Option.some.inj e).symm)
theorem strs_nbag {c : Addr} (hs : List Str) : ∀ i r q x m, HO.lst (hs.map V.str) ≠ .lst (bagL c i r q x m) := fun i r q x m z => by
  cases hs with
  | nil => simp [bagL] at z
  | cons a l => simp [bagL] at z
theorem refs_nbag {c : Addr} (as : List Addr) : ∀ i r q x m, HO.lst (as.map V.ref) ≠ .lst (bagL c i r q x m) := fun i r q x m z => by
  match as, z with
  | [], z => simp [bagL] at z
  | [_], z => simp [bagL] at z
  | _ :: _ :: _, z => simp [bagL] at z
theorem plot_nbag {c lh le : Addr} {d : Bool} : ∀ i r q x m, HO.lst [.bl d, .ref lh, .ref le] ≠ .lst (bagL c i r q x m) := fun i r q x m z => by simp [bagL] at z
theorem tup_nbag {c : Addr} (xs : List V) : ∀ i r q x m, HO.tup xs ≠ .lst (bagL c i r q x m) := fun _ _ _ _ _ z => by cases z
theorem WAt.keepB {b c : Addr} {H H' : Hp} {as : List Addr} {es : List Wr} (W : WAt H as es) (k : KeepB b H H') (B : Bag H b c) : WAt H' as es := W.keep fun a xs e => k.get B e (tup_nbag xs)
theorem PlotAt.same {H H' : Hp} {pl lh le : Addr} {days : Bool} {hs : List Str} {as : List Addr} {es : List Wr} (p : PlotAt H pl lh le days hs as es) (s : Same H H') : PlotAt H' pl lh le days hs as es := ⟨s _ _ p.hp, s _ _ p.hh, s _ _ p.he, p.wt.same s⟩
theorem ReadAt.same {H H' : Hp} {r : Addr} {o : RdO} (h : ReadAt H r o) (s : Same H H') : ReadAt H' r o := by
  cases o with
  | bad line => exact s _ _ h
  | many w n => exact s _ _ h
  | ok c hs es =>
    obtain ⟨lh, le, as, e1, e2, e3, W⟩ := h
    exact ⟨lh, le, as, s _ _ e1, s _ _ e2, s _ _ e3, W.same s⟩
theorem ReadAt.keepB {b c : Addr} {H H' : Hp} {r : Addr} {o : RdO} (h : ReadAt H r o) (k : KeepB b H H') (B : Bag H b c) : ReadAt H' r o := by
  cases o with
  | bad line => exact k.get B h (tup_nbag _)
  | many w n => exact k.get B h (tup_nbag _)
  | ok d hs es =>
    obtain ⟨lh, le, as, e1, e2, e3, W⟩ := h
    exact ⟨lh, le, as, k.get B e1 (tup_nbag _), k.get B e2 (strs_nbag _), k.get B e3 (refs_nbag _), W.keepB k B⟩
theorem Bag.same {H H' : Hp} {b c : Addr} (B : Bag H b c) (s : Same H H') : Bag H' b c := bag_keep B s
structure LI (H : Hp) (b c pl lh le dr lr : Addr) (days : Bool) (hs : List Str) (as : List Addr) (es : List Wr) : Prop where
  B : Bag H b c
  P : PlotAt H pl lh le days hs as es
  D : ReadAt H dr (rowsY (rowsT days hs es))
  R : H lr = some (.lst ((rowsT days hs es).map V.str))
section
variable {H H' : Hp} {b c pl lh le dr lr : Addr} {days : Bool} {hs : List Str} {as : List Addr} {es : List Wr}
theorem LI.same (L : LI H b c pl lh le dr lr days hs as es) (s : Same H H') : LI H' b c pl lh le dr lr days hs as es := ⟨L.B.same s, L.P.same s, L.D.same s, s _ _ L.R⟩
theorem LI.keepB (L : LI H b c pl lh le dr lr days hs as es) (k : KeepB b H H') (B : Bag H' b c) : LI H' b c pl lh le dr lr days hs as es :=
  ⟨B, ⟨k.get L.B L.P.hp plot_nbag, k.get L.B L.P.hh (strs_nbag _), k.get L.B L.P.he (refs_nbag _), L.P.wt.keepB k L.B⟩, L.D.keepB k L.B, k.get L.B L.R (strs_nbag _)⟩
theorem LI.ne (L : LI H b c pl lh le dr lr days hs as es) {a : Addr} {l : List Str} (e : H a = some (.lst (l.map V.str))) : a ≠ b := by
  rintro rfl
  obtain ⟨ns, i, r, q, x, m, B⟩ := L.B
  rw [B.hb] at e
  exact strs_nbag l _ _ _ _ _ (Option.some.inj e).symm
end
/-- two readings of one text are alike -/
theorem alike {H : Hp} {r1 r2 : Addr} {x : Str} (h : x.length ≤ 120000) (h1 : ReadAt H r1 (readY x)) (h2 : ReadAt H r2 (rowsY (Txt.split x "\n"))) : Lk 3 H (.ref r1) (.ref r2) := by
  rw [read_rows h] at h1
  exact read_like h1 h2 rows_small
theorem alike_bad {H : Hp} {r1 r2 : Addr} {n : Int} (h1 : ReadAt H r1 (.bad n)) (h2 : H r2 = some (.tup [.str "bad", .int n])) : Lk 3 H (.ref r1) (.ref r2) := lk_pair h1 h2 (lk_str _ 2) (lk_int _ 2)
theorem alike_many {H : Hp} {r1 r2 : Addr} {w : Str} {n : Int} (h1 : ReadAt H r1 (.many w n)) (h2 : H r2 = some (.tup [.str "many", .int n])) : Lk 3 H (.ref r1) (.ref r2) := lk_pair h1 h2 (lk_str _ 2) (lk_int _ 2)
theorem PlotOk.due {days : Bool} {hs : List Str} {es : List Wr} (p : PlotOk days hs es) {H : Hp} {dr : Addr} (h : ReadAt H dr (rowsY (rowsT days hs es))) : ∃ rest, H dr = some (.tup (.str (if 14 < hs.length then ("many" : Str) else ("good" : Str)) :: rest)) := by
  rw [p.reads] at h
  by_cases c : 14 < hs.length
  · rw [if_pos c] at h ⊢
    exact ⟨_, h⟩
  · rw [if_neg c] at h ⊢
    obtain ⟨lh, le, as, e, _⟩ := h
    exact ⟨_, e⟩
theorem Same.keepB {b : Addr} {H H1 H2 : Hp} (k : KeepB b H H1) (s : Same H1 H2) : KeepB b H H2 := k.trans (KeepB.same s)
end Yd
namespace Yd
open PySem PySem.Spec PyProof.Rows L2 Xo
theorem words_sum {m : Nat} : ∀ {l : List Str}, WordsOk m l → (l.map (·.length)).sum ≤ l.length * m
  | [], _ => by simp
  | a :: l, h => by
    have h1 := (h a List.mem_cons_self).1
    have h2 := words_sum (l := l) fun r hr => h r (List.mem_cons_of_mem _ hr)
    rw [List.map_cons, List.sum_cons, List.length_cons, Nat.succ_mul]
    omega
theorem join_len (s : Str) : ∀ l : List Str, (Str.join s l).length ≤ (l.map (·.length)).sum + l.length * s.length
  | [] => by show 0 ≤ _; omega
  | [a] => by
    show a.length ≤ _
    simp
  | a :: b :: l => by
    have ih := join_len s (b :: l)
    show (a ++ s ++ Str.join s (b :: l)).length ≤ _
    rw [str_len, str_len, List.map_cons, List.sum_cons, List.length_cons, Nat.succ_mul]
    omega
/-- rows of words, joined by line feeds -/
theorem rows_text {l : List Str} (h : WordsOk 400 l) (n : l.length ≤ 100) : (l.map (·.length)).sum + l.length * ("\n" : Str).length ≤ 16777216 ∧ (Txt.join "\n" l).length ≤ 40100 ∧ okS (Txt.join "\n" l) := by
  have h1 := words_sum h
  have h2 := join_len ("\n" : Str) l
  have e1 : ("\n" : Str).length = 1 := rfl
  rw [e1] at h2 ⊢
  rw [TL.join_eq]
  refine ⟨by omega, by omega, okS_join (by show PyData.strOk _ = true; decide +kernel) fun r hr => (h r hr).2⟩
theorem WordsOk.mono {m n : Nat} {l : List Str} (h : WordsOk m l) (k : m ≤ n) : WordsOk n l := fun r hr => ⟨by have := (h r hr).1; omega, (h r hr).2⟩
theorem WordsOk.app {m : Nat} {l l' : List Str} (h : WordsOk m l) (h' : WordsOk m l') : WordsOk m (l ++ l') := fun r hr => (List.mem_append.mp hr).elim (h r) (h' r)
theorem WordsOk.sub {m : Nat} {l l' : List Str} (h : WordsOk m l) (s : ∀ x ∈ l', x ∈ l) : WordsOk m l' := fun r hr => h r (s r hr)
theorem PlotOk.words {days : Bool} {hs : List Str} {es : List Wr} (p : PlotOk days hs es) : WordsOk 300 (rowsT days hs es) ∧ WordsOk 8 hs := by
  refine ⟨fun r hr => ⟨rows_le p.sml r hr, (rows_nonl p.sm (fun _ e he => ⟨p.sm _ (p.wf e he).1, p.sm _ (p.wf e he).2⟩) r hr).2⟩, fun r hr => ⟨?_, small_ok (p.sm r hr)⟩⟩
  have := (small_len (p.sm r hr)).1
  have e : r.cps.toList.length = r.length := Array.length_toList
  omega
theorem cut_last {xs : List V} : cutV xs none (some (-1)) = xs.take (xs.length - 1) := by
  unfold cutV
  rw [show HT.sIx xs.length 0 none = 0 from rfl]
  have e : HT.sIx xs.length xs.length (some (-1)) = xs.length - 1 := by
    show (if (-1 : Int) < 0 then ((-1 : Int) + (xs.length : Int)).toNat else min (-1 : Int).toNat xs.length) = _
    rw [if_pos (by decide)]
    omega
  rw [e, List.drop_zero, Nat.sub_zero]
theorem read_empty : readY ("" : Str) = .bad 1 := by
  have e : Txt.split ("" : Str) "\n" = [("" : Str)] := by decide +kernel
  rw [read_rows (by show 0 ≤ _; omega), e]
  unfold rowsY
  simp only
  rw [if_pos ⟨by decide +kernel, by decide +kernel⟩]
theorem cut_mid {xs : List V} {j k : Nat} (h : j ≤ k) (hk : k ≤ xs.length) : cutV xs (some (j : Int)) (some (k : Int)) = (xs.take k).drop j := by
  unfold cutV
  rw [HT.sIx_nat, HT.sIx_nat, Nat.min_eq_left hk, Nat.min_eq_left (by omega), List.drop_take]
theorem empty_app (x : Str) : ("" : Str) ++ x = x := by
  have e : TL.tl (("" : Str) ++ x) = TL.tl x := by
    rw [tl_app]
    show [] ++ TL.tl x = TL.tl x
    simp
  exact TL.ext_tl e
/-- a yard made of a text that can be read -/
theorem yard_new {K : PySem.W.Frag} {x : Str} {c : Bool} {hs : List Str} {es : List Wr} {H1 : Hp} {Qr : Hp → Prop} {E : XK} (ok : okS x) (l : x.length ≤ 1000000) (er : readY x = .ok c hs es) {p dx : Addr} (hp : H1 p = none) (hdx : H1 dx = none)
    (k : ∀ (H' : Hp) (b we ps N R S : Addr) (as : List Addr), Same H1 H' → YdA K H' p dx b we ps N R S c hs as es → Plan hs es → Qr H') :
    spYInit K (.ref p :: ([V.str x] ++ [])) (upd (upd H1 dx (.own p)) p (.ins (He.ga K "Yard") dx [])) (fun v H2 => v = .non ∧ Qr H2) E := by
  have s2 : Same H1 (upd (upd H1 dx (.own p)) p (.ins (He.ga K "Yard") dx [])) := same_upd (same_new hdx) hp
  refine ⟨p, dx, _, rfl, upd_same, .inr ⟨_, rfl, ok, l, fun line e => absurd (er.symm.trans e) (by simp), fun w n e => absurd (er.symm.trans e) (by simp), fun c' hs' es2 e H' b we ps N R S as kp Y PL => ⟨rfl, ?_⟩⟩⟩
  have e := er.symm.trans e
  cases e
  refine k H' b we ps N R S as (fun a o z => kp a o (s2 a o z) ?_) Y PL
  rw [List.mem_singleton]
  rintro rfl
  rw [hp] at z
  cases z
theorem PlotOk.back {days : Bool} {hs : List Str} {es : List Wr} (p : PlotOk days hs es) (few : ¬ 14 < hs.length) : readY (yardT days hs es) = .ok days hs es := by
  rw [p.texts.2.2.2, p.reads, if_neg few]
/-- a yard at o: its text, its benches, whether it is a course -/
def YI (K : PySem.W.Frag) (H : Hp) (o : Addr) (x : Str) (c : Bool) (hs : List Str) : Prop := ∃ (d b : Addr) (fs : List (Str × V)), H o = some (.ins (He.ga K "Yard") d fs) ∧ fs.lookup ("text" : Str) = some (.str x) ∧ fs.lookup ("course" : Str) = some (.bl c) ∧ fs.lookup ("benches" : Str) = some (.ref b) ∧ H b = some (.tup (hs.map V.str))
theorem YI.of {K : PySem.W.Frag} {H : Hp} {p dx b we ps N R S : Addr} {c : Bool} {hs : List Str} {as : List Addr} {es : List Wr} (Y : YdA K H p dx b we ps N R S c hs as es) : YI K H p (yardT c hs es) c hs := ⟨dx, b, _, Y.hp, rfl, rfl, rfl, Y.hb⟩
theorem YI.same {K : PySem.W.Frag} {H H' : Hp} {o : Addr} {x : Str} {c : Bool} {hs : List Str} (y : YI K H o x c hs) (s : Same H H') : YI K H' o x c hs := by
  obtain ⟨d, b, fs, h1, h2, h3, h4, h5⟩ := y
  exact ⟨d, b, fs, s _ _ h1, h2, h3, h4, s _ _ h5⟩
theorem YI.keepB {K : PySem.W.Frag} {H H' : Hp} {b c0 o : Addr} {x : Str} {c : Bool} {hs : List Str} (y : YI K H o x c hs) (k : KeepB b H H') (B : Bag H b c0) : YI K H' o x c hs := by
  obtain ⟨d, b, fs, h1, h2, h3, h4, h5⟩ := y
  exact ⟨d, b, fs, k.get B h1 (fun _ _ _ _ _ z => by cases z), h2, h3, h4, k.get B h5 (tup_nbag _)⟩
theorem lk_flat {H : Hp} {a b : Addr} {xs : List V} {n : Nat} (ha : H a = some (.lst xs)) (hb : H b = some (.lst xs)) (l : xs.length ≤ 1000) (sc : ∀ x ∈ xs, ∃ m, Sc x m) : Lk (n + 1) H (.ref a) (.ref b) :=
  .inr ⟨a, b, _, _, rfl, rfl, .inl ⟨ha, hb⟩, rfl, l, fun i u v hu hv => by
    rw [hu] at hv
    cases hv
    have q := sc u (List.mem_of_getElem? hu)
    cases n with
    | zero => exact ⟨rfl, q⟩
    | succ n => exact .inl ⟨rfl, q⟩⟩
end Yd
set_option Elab.async false
set_option linter.all false
set_option maxRecDepth 100000
set_option maxHeartbeats 32000000
namespace Yd
open PySem PySem.Spec PyProof.Rows L2 Xo
section
variable {P : Program} {w : World} {K : PySem.W.Frag} {mg : Str → Option Value} {base : Heap}
def spLaw (K : PySem.W.Frag) : Sp := fun vs H Q _ => ∃ (a : Addr) (ns : List Int), vs = [.ref a] ∧ SqL K H a (ns.map V.int) ∧ ns.length ≤ 63 ∧ ∀ H', Q (.bl true) H'
theorem sc_law : FnScope ["script", "bag", "plot", "note", "due", "rows", "turn", "bent", "step", "spot", "long", "pick", "words", "few", "many", "one", "two", "other_note", "same"] ["script"] (defScope s_law) := ⟨rfl, rfl, rfl, by decide +kernel, rfl, by decide +kernel, by decide +kernel⟩
theorem ok_law (T : Tx w K mg) {fd : FuncData} (F : FnP K "law" "law" s_law (He.ga K "law") fd) : FnOk P w K mg base CX0 12 (He.ga K "law") fd ["script"] (spLaw K) := by
  obtain ⟨_, G_law_bag, k_law_bag, b_law_bag⟩ := good_bag (P := P) (w := w) (base := base) T
  obtain ⟨_, G_law_draw, k_law_draw, b_law_draw⟩ := good_draw (P := P) (w := w) (base := base) T
  obtain ⟨_, G_law_of, k_law_of, b_law_of⟩ := good_of (P := P) (w := w) (base := base) T
  obtain ⟨_, G_law_mixed, k_law_mixed, b_law_mixed⟩ := good_mixed (P := P) (w := w) (base := base) T
  obtain ⟨_, G_law_names, k_law_names, b_law_names⟩ := good_names (P := P) (w := w) (base := base) T
  obtain ⟨_, G_law_plot, k_law_plot, b_law_plot⟩ := good_plot (P := P) (w := w) (base := base) T
  obtain ⟨_, G_law_plot_text, k_law_plot_text, b_law_plot_text⟩ := good_ptext (P := P) (w := w) (base := base) T
  obtain ⟨_, G_law_read, k_law_read, b_law_read⟩ := good_lread (P := P) (w := w) (base := base) T
  obtain ⟨_, G_law_bend, k_law_bend, b_law_bend⟩ := good_bend (P := P) (w := w) (base := base) T
  obtain ⟨_, G_law_told, k_law_told, b_law_told⟩ := good_told (P := P) (w := w) (base := base) T
  obtain ⟨_, G_law_row_made, k_law_row_made, b_law_row_made⟩ := good_made (P := P) (w := w) (base := base) T
  obtain ⟨_, G_law_row_due, k_law_row_due, b_law_row_due⟩ := good_due (P := P) (w := w) (base := base) T
  obtain ⟨_, G_law_crowd, k_law_crowd, b_law_crowd⟩ := good_crowd (P := P) (w := w) (base := base) T
  obtain ⟨_, G_law_like, k_law_like, b_law_like⟩ := good_like (P := P) (w := w) (base := base) T 3
  obtain ⟨_, G_Yard_init, _, b_Yard_init, kb_Yard⟩ := good_YInitK (P := P) (w := w) (base := base) T
  obtain ⟨_, G_Yard_eq, _, b_Yard_eq⟩ := good_YEq (P := P) (w := w) (base := base) T
  obtain ⟨_, G_Yard_len, _, b_Yard_len⟩ := good_YLen (P := P) (w := w) (base := base) T
  refine F.ok sc_law (fun vs H Q E h => ?_) (fun cdv A outer s H vs Q E hr h => ?_)
  · obtain ⟨_, _, rfl, _⟩ := h
    rfl
  · obtain ⟨a, ns, rfl, hS, hn, kq⟩ := h
    have SC := sc_law
    have hu := hu_of hr
    refine ⟨_, PSs.nox (pss_cons (ps_set (i := 1) SC.nd rfl (by first | exact Or.inl rfl | exact Or.inr rfl) (pe_call G_law_bag (hr.mono (by decide)) rfl T.g_law_bag k_law_bag b_law_bag .nil pass0 (pa_cons (pv 0) pa_nil))) 
      (Evl.pss_cut (ps_set (i := 2) SC.nd rfl (by first | exact Or.inl rfl | exact Or.inr rfl) (pe_ifExp (pt_cmpR op_ne (pe_call G_law_draw (hr.mono (by decide)) rfl T.g_law_draw k_law_draw b_law_draw .nil pass0 (pa_cons (pv 1) (pa_cons pe_int pa_nil))) pe_int (nomark _)) (pe_call G_law_plot (hr.mono (by decide)) rfl T.g_law_plot k_law_plot b_law_plot .nil pass0 (pa_cons (pv 1) (pa_cons pe_int (pa_cons pe_int (pa_cons pe_int pa_nil))))) (pe_call G_law_plot (hr.mono (by decide)) rfl T.g_law_plot k_law_plot b_law_plot .nil pass0 (pa_cons (pv 1) (pa_cons pe_int (pa_cons pe_int (pa_cons pe_int pa_nil))))))) 
      (pss_cons (ps_set (i := 3) SC.nd rfl (by first | exact Or.inl rfl | exact Or.inr rfl) (pe_call G_law_plot_text (hr.mono (by decide)) rfl T.g_law_plot_text k_law_plot_text b_law_plot_text .nil pass0 (pa_cons (pv 2) pa_nil))) 
      (pss_cons (ps_set (i := 4) SC.nd rfl (by first | exact Or.inl rfl | exact Or.inr rfl) (pe_call G_law_read (hr.mono (by decide)) rfl T.g_law_read k_law_read b_law_read .nil pass0 (pa_cons (pv 3) pa_nil))) 
      (Evl.pss_cut (ps_if (PW.pt (pw_or (pt_not (pt_val (pe_call G_law_like (hr.mono (by decide)) rfl T.g_law_like k_law_like b_law_like .nil pass0 (pa_cons (pe_call G_law_told (hr.mono (by decide)) rfl T.g_law_told k_law_told b_law_told .nil pass0 (pa_cons (pv 3) pa_nil)) (pa_cons (pv 4) pa_nil))))) (pw_or1 (pt_cmpR op_ne (pe_ix (ixT K) (pv 4) pe_int (fun _ _ => rfl)) (pe_ifExp (pt_cmpR op_lt (pe_callB (lenQ K) rfl T.n_len (by decide +kernel) (pa_cons (pe_ix (ixL K) (pv 2) pe_int (fun _ _ => rfl)) pa_nil)) pe_int (nomark _)) pe_str pe_str) (nomark _))))) 
      (pss_one (ps_ret pe_bl)) pss_nil) 
      (pss_cons (ps_set (i := 5) SC.nd rfl (by first | exact Or.inl rfl | exact Or.inr rfl) (pe_split (pv 3) pe_str)) 
      (Evl.pss_cut (ps_for PassesOwn.never rfl (pi_range1 rfl T.n_range (pa_cons pe_int pa_nil)) (pg_name (i := 6) SC.nd rfl (by first | exact Or.inl rfl | exact Or.inr rfl)) 
      (pss_cons (ps_set (i := 7) SC.nd rfl (by first | exact Or.inl rfl | exact Or.inr rfl) (pe_callTy (listOf K) rfl T.n_list (by decide +kernel) (pa_cons (pv 5) pa_nil))) 
      (Evl.pss_cut (ps_for PassesOwn.never rfl (pi_range1 rfl T.n_range (pa_cons (pe_call G_law_of (hr.mono (by decide)) rfl T.g_law_of k_law_of b_law_of .nil pass0 (pa_cons (pv 1) (pa_cons (pe_lst (pa_cons pe_int (pa_cons pe_int (pa_cons pe_int (pa_cons pe_int pa_nil))))) pa_nil))) pa_nil)) (pg_name (i := 8) SC.nd rfl (by first | exact Or.inl rfl | exact Or.inr rfl)) 
      (pss_one (ps_set (i := 7) SC.nd rfl (by first | exact Or.inl rfl | exact Or.inr rfl) (pe_call G_law_bend (hr.mono (by decide)) rfl T.g_law_bend k_law_bend b_law_bend .nil pass0 (pa_cons (pv 1) (pa_cons (pv 7) (pa_cons (pe_ix (ixL K) (pv 2) pe_int (fun _ _ => rfl)) pa_nil))))))) 
      (pss_cons (ps_set (i := 9) SC.nd rfl (by first | exact Or.inl rfl | exact Or.inr rfl) (pe_op op_add (pe_op op_add pe_int (pe_callB (lenQ K) rfl T.n_len (by decide +kernel) (pa_cons (pe_ix (ixL K) (pv 2) pe_int (fun _ _ => rfl)) pa_nil))) (pe_call G_law_draw (hr.mono (by decide)) rfl T.g_law_draw k_law_draw b_law_draw .nil pass0 (pa_cons (pv 1) (pa_cons (pe_op op_sub (pe_callB (lenQ K) rfl T.n_len (by decide +kernel) (pa_cons (pv 5) pa_nil)) (pe_callB (lenQ K) rfl T.n_len (by decide +kernel) (pa_cons (pe_ix (ixL K) (pv 2) pe_int (fun _ _ => rfl)) pa_nil))) pa_nil))))) 
      (Evl.pss_cut (ps_if (pt_cmpR op_eq (pv 6) pe_int (nomark _)) 
      (pss_one (ps_set (i := 7) SC.nd rfl (by first | exact Or.inl rfl | exact Or.inr rfl) (pe_op op_cat (pe_op op_cat (pe_slice (slL K) (pv 5) po_none (po_some (pv 9))) (pe_lst (pa_cons (pe_op op_add_str (pe_op op_add_str (pe_op op_add_str pe_str (pe_call G_law_of (hr.mono (by decide)) rfl T.g_law_of k_law_of b_law_of .nil pass0 (pa_cons (pv 1) (pa_cons (pe_ix (ixL K) (pv 2) pe_int (fun _ _ => rfl)) pa_nil)))) pe_str) (pe_call G_law_of (hr.mono (by decide)) rfl T.g_law_of k_law_of b_law_of .nil pass0 (pa_cons (pv 1) (pa_cons (pe_ix (ixL K) (pv 2) pe_int (fun _ _ => rfl)) pa_nil)))) pa_nil))) (pe_slice (slL K) (pv 5) (po_some (pv 9)) po_none)))) pss_nil) 
      (Evl.pss_cut (ps_if (pt_cmpR op_eq (pv 6) pe_int (nomark _)) 
      (pss_one (ps_set (i := 7) SC.nd rfl (by first | exact Or.inl rfl | exact Or.inr rfl) (pe_op op_cat (pe_slice (slL K) (pv 5) po_none (po_some (pv 9))) (pe_slice (slL K) (pv 5) (po_some (pe_op op_add (pv 9) pe_int)) po_none)))) pss_nil) 
      (pss_one (ps_if (pt_not (pt_val (pe_call G_law_like (hr.mono (by decide)) rfl T.g_law_like k_law_like b_law_like .nil pass0 (pa_cons (pe_call G_law_told (hr.mono (by decide)) rfl T.g_law_told k_law_told b_law_told .nil pass0 (pa_cons (pe_join pe_str (pv 7)) pa_nil)) (pa_cons (pe_call G_law_read (hr.mono (by decide)) rfl T.g_law_read k_law_read b_law_read .nil pass0 (pa_cons (pe_join pe_str (pv 7)) pa_nil)) pa_nil))))) 
      (pss_one (ps_ret pe_bl)) pss_nil)))))))) 
      (Evl.pss_cut (ps_if (PW.pt (pw_or (pt_not (pt_val (pe_call G_law_like (hr.mono (by decide)) rfl T.g_law_like k_law_like b_law_like .nil pass0 (pa_cons (pe_call G_law_told (hr.mono (by decide)) rfl T.g_law_told k_law_told b_law_told .nil pass0 (pa_cons (pe_op op_add_str (pv 3) pe_str) pa_nil)) (pa_cons (pe_call G_law_read (hr.mono (by decide)) rfl T.g_law_read k_law_read b_law_read .nil pass0 (pa_cons (pe_op op_add_str (pv 3) pe_str) pa_nil)) pa_nil))))) (pw_or1 (pt_not (pt_val (pe_call G_law_like (hr.mono (by decide)) rfl T.g_law_like k_law_like b_law_like .nil pass0 (pa_cons (pe_call G_law_told (hr.mono (by decide)) rfl T.g_law_told k_law_told b_law_told .nil pass0 (pa_cons (pe_join pe_str (pe_slice (slL K) (pv 5) po_none (po_some (pe_un un_neg pe_int)))) pa_nil)) (pa_cons (pe_call G_law_read (hr.mono (by decide)) rfl T.g_law_read k_law_read b_law_read .nil pass0 (pa_cons (pe_join pe_str (pe_slice (slL K) (pv 5) po_none (po_some (pe_un un_neg pe_int)))) pa_nil)) pa_nil)))))))) 
      (pss_one (ps_ret pe_bl)) pss_nil) 
      (Evl.pss_cut (ps_if (PW.pt (pw_or (pt_not (pt_val (pe_call G_law_like (hr.mono (by decide)) rfl T.g_law_like k_law_like b_law_like .nil pass0 (pa_cons (pe_call G_law_told (hr.mono (by decide)) rfl T.g_law_told k_law_told b_law_told .nil pass0 (pa_cons (pe_call G_law_of (hr.mono (by decide)) rfl T.g_law_of k_law_of b_law_of .nil pass0 (pa_cons (pv 1) (pa_cons (pe_lst (pa_cons pe_non (pa_cons pe_int (pa_cons pe_bl (pa_cons (pe_lst (pa_cons (pv 3) pa_nil)) (pa_cons (pe_tup pa_nil) (pa_cons pe_dnewK pa_nil))))))) pa_nil))) pa_nil)) (pa_cons (pe_tup (pa_cons pe_str (pa_cons pe_int pa_nil))) pa_nil))))) (pw_or1 (pt_not (pt_val (pe_call G_law_like (hr.mono (by decide)) rfl T.g_law_like k_law_like b_law_like .nil pass0 (pa_cons (pe_call G_law_told (hr.mono (by decide)) rfl T.g_law_told k_law_told b_law_told .nil pass0 (pa_cons pe_str pa_nil)) (pa_cons (pe_tup (pa_cons pe_str (pa_cons pe_int pa_nil))) pa_nil)))))))) 
      (pss_one (ps_ret pe_bl)) pss_nil) 
      (pss_cons (ps_set (i := 10) SC.nd rfl (by first | exact Or.inl rfl | exact Or.inr rfl) (pe_op op_add_str (pv 3) (pe_op op_mulS pe_str (pe_op op_sub pe_int (pe_callB call_len_str rfl T.n_len (by decide +kernel) (pa_cons (pv 3) pa_nil)))))) 
      (Evl.pss_cut (ps_if (PW.pt (pw_or (pt_not (pt_val (pe_call G_law_like (hr.mono (by decide)) rfl T.g_law_like k_law_like b_law_like .nil pass0 (pa_cons (pe_call G_law_told (hr.mono (by decide)) rfl T.g_law_told k_law_told b_law_told .nil pass0 (pa_cons (pv 10) pa_nil)) (pa_cons (pe_tup (pa_cons pe_str (pa_cons pe_int pa_nil))) pa_nil))))) (pw_or1 (pt_not (pt_val (pe_call G_law_like (hr.mono (by decide)) rfl T.g_law_like k_law_like b_law_like .nil pass0 (pa_cons (pe_call G_law_told (hr.mono (by decide)) rfl T.g_law_told k_law_told b_law_told .nil pass0 (pa_cons (pe_slice sl_str (pv 10) po_none (po_some pe_int)) pa_nil)) (pa_cons (pe_ifExp (pt_cmpR op_eq (pe_ix (ixT K) (pv 4) pe_int (fun _ _ => rfl)) pe_str (nomark _)) (pv 4) (pe_tup (pa_cons pe_str (pa_cons (pe_op op_add (pe_callB (lenQ K) rfl T.n_len (by decide +kernel) (pa_cons (pv 5) pa_nil)) pe_int) pa_nil)))) pa_nil)))))))) 
      (pss_one (ps_ret pe_bl)) pss_nil) 
      (pss_cons (ps_set (i := 11) SC.nd rfl (by first | exact Or.inl rfl | exact Or.inr rfl) (pe_call G_law_draw (hr.mono (by decide)) rfl T.g_law_draw k_law_draw b_law_draw .nil pass0 (pa_cons (pv 1) (pa_cons pe_int pa_nil)))) 
      (pss_cons (ps_set (i := 12) SC.nd rfl (by first | exact Or.inl rfl | exact Or.inr rfl) (pe_call G_law_mixed (hr.mono (by decide)) rfl T.g_law_mixed k_law_mixed b_law_mixed .nil pass0 (pa_cons (pv 1) (pa_cons (pe_call G_law_names (hr.mono (by decide)) rfl T.g_law_names k_law_names b_law_names .nil pass0 (pa_cons (pv 1) (pa_cons pe_int (pa_cons pe_bl pa_nil)))) pa_nil)))) 
      (Evl.pss_cut (ps_if (pt_cmpR op_eq (pe_call G_law_draw (hr.mono (by decide)) rfl T.g_law_draw k_law_draw b_law_draw .nil pass0 (pa_cons (pv 1) (pa_cons pe_int pa_nil))) pe_int (nomark _)) 
      (pss_one (ps_asg (pe_call G_law_of (hr.mono (by decide)) rfl T.g_law_of k_law_of b_law_of .nil pass0 (pa_cons (pv 1) (pa_cons (pe_lst (pa_cons pe_str (pa_cons pe_str (pa_cons pe_str (pa_cons pe_str (pa_cons pe_str (pa_cons pe_str (pa_cons (pe_ix (ixL K) (pv 12) pe_int (fun _ _ => rfl)) (pa_cons (pe_ix (ixL K) (pv 12) pe_int (fun _ _ => rfl)) pa_nil))))))))) pa_nil))) (pg_sub (pv 12) (pe_call G_law_draw (hr.mono (by decide)) rfl T.g_law_draw k_law_draw b_law_draw .nil pass0 (pa_cons (pv 1) (pa_cons pe_int pa_nil))) pset_listN))) pss_nil) 
      (Evl.pss_cut (ps_for PassesOwn.never rfl (listI K rfl (pe_lst (pa_cons (pv 12) (pa_cons (pe_slice (slL K) (pv 12) po_none (po_some pe_int)) (pa_cons (pe_slice (slL K) (pv 12) po_none (po_some (pe_callTy call_int1 rfl T.n_int (by decide +kernel) (pa_cons (pe_cmpR op_eq (pv 11) pe_int (nomark _)) pa_nil)))) pa_nil))))) (pg_name (i := 13) SC.nd rfl (by first | exact Or.inl rfl | exact Or.inr rfl)) 
      (pss_one (ps_if (pt_not (pt_val (pe_call G_law_like (hr.mono (by decide)) rfl T.g_law_like k_law_like b_law_like .nil pass0 (pa_cons (pe_call G_law_row_made (hr.mono (by decide)) rfl T.g_law_row_made k_law_row_made b_law_row_made .nil pass0 (pa_cons (pv 11) (pa_cons (pv 13) pa_nil))) (pa_cons (pe_call G_law_row_due (hr.mono (by decide)) rfl T.g_law_row_due k_law_row_due b_law_row_due .nil pass0 (pa_cons (pv 11) (pa_cons (pv 13) pa_nil))) pa_nil))))) 
      (pss_one (ps_ret pe_bl)) pss_nil))) 
      (pss_cons (ps_set (i := 14) SC.nd rfl (by first | exact Or.inl rfl | exact Or.inr rfl) (pe_call G_law_names (hr.mono (by decide)) rfl T.g_law_names k_law_names b_law_names .nil pass0 (pa_cons (pv 1) (pa_cons pe_int (pa_cons pe_bl pa_nil))))) 
      (Evl.pss_cut (ps_if (pt_not (pt_val (pe_call G_law_like (hr.mono (by decide)) rfl T.g_law_like k_law_like b_law_like .nil pass0 (pa_cons (pe_call G_law_crowd (hr.mono (by decide)) rfl T.g_law_crowd k_law_crowd b_law_crowd .nil pass0 (pa_cons (pv 14) (pa_cons (pe_cmpR op_eq (pe_call G_law_draw (hr.mono (by decide)) rfl T.g_law_draw k_law_draw b_law_draw .nil pass0 (pa_cons (pv 1) (pa_cons pe_int pa_nil))) pe_int (nomark _)) pa_nil))) (pa_cons (pe_tup (pa_cons pe_str (pa_cons pe_int pa_nil))) pa_nil))))) 
      (pss_one (ps_ret pe_bl)) pss_nil) 
      (Evl.pss_cut (ps_if (pt_cmpR op_gt (pe_callB (lenQ K) rfl T.n_len (by decide +kernel) (pa_cons (pe_ix (ixL K) (pv 2) pe_int (fun _ _ => rfl)) pa_nil)) pe_int (nomark _)) 
      (pss_one (ps_ret pe_bl)) pss_nil) 
      (pss_cons (ps_set (i := 15) SC.nd rfl (by first | exact Or.inl rfl | exact Or.inr rfl) (pe_make T.mk_Yard G_Yard_init (hr.mono (by decide)) rfl T.g_Yard b_Yard_init .nil passF (pa_cons (pv 3) pa_nil))) 
      (pss_cons (ps_set (i := 16) SC.nd rfl (by first | exact Or.inl rfl | exact Or.inr rfl) (pe_makeK0 T.mk_Yard G_Yard_init (hr.mono (by decide)) rfl T.g_Yard kb_Yard passF (pk_cons (pe_op op_add_str pe_str (pv 3)) pk_nil))) 
      (Evl.pss_cut (ps_set (i := 17) SC.nd rfl (by first | exact Or.inl rfl | exact Or.inr rfl) (pe_join pe_str (pe_op op_cat (pe_op op_cat (pe_slice (slL K) (pv 5) po_none (po_some pe_int)) (pe_call G_law_mixed (hr.mono (by decide)) rfl T.g_law_mixed k_law_mixed b_law_mixed .nil pass0 (pa_cons (pv 1) (pa_cons (pe_slice (slL K) (pv 5) (po_some pe_int) (po_some (pe_op op_add pe_int (pe_callB (lenQ K) rfl T.n_len (by decide +kernel) (pa_cons (pe_ix (ixL K) (pv 2) pe_int (fun _ _ => rfl)) pa_nil))))) pa_nil)))) (pe_slice (slL K) (pv 5) (po_some (pe_op op_add pe_int (pe_callB (lenQ K) rfl T.n_len (by decide +kernel) (pa_cons (pe_ix (ixL K) (pv 2) pe_int (fun _ _ => rfl)) pa_nil)))) po_none)))) 
      (Evl.pss_cut (ps_set (i := 18) SC.nd rfl (by first | exact Or.inl rfl | exact Or.inr rfl) (pe_lst (pa_cons (pe_cmpR (op_eqI G_Yard_eq T.m_Yard_eq b_Yard_eq (hr.mono (by decide)) pass0) (pv 15) (pv 16) (nomark _)) (pa_cons (pe_cmpR (op_neI G_Yard_eq T.m_Yard_eq b_Yard_eq T.one_Yard T.ocm_Yard (hr.mono (by decide)) pass0) (pv 15) (pv 16) (nomark _)) (pa_cons (pe_cmpR (op_eqI G_Yard_eq T.m_Yard_eq b_Yard_eq (hr.mono (by decide)) pass0) (pv 15) (pe_make T.mk_Yard G_Yard_init (hr.mono (by decide)) rfl T.g_Yard b_Yard_init .nil passF (pa_cons (pv 17) pa_nil)) (nomark _)) (pa_cons (pe_cmpR (op_eqI G_Yard_eq T.m_Yard_eq b_Yard_eq (hr.mono (by decide)) pass0) (pv 15) (pv 3) (nomark _)) (pa_cons (pe_callB (call_lenI G_Yard_len T.m_Yard_len b_Yard_len (hr.mono (by decide)) pass0) rfl T.n_len (by decide +kernel) (pa_cons (pv 15) pa_nil)) (pa_cons (pe_callB (call_lenI G_Yard_len T.m_Yard_len b_Yard_len (hr.mono (by decide)) pass0) rfl T.n_len (by decide +kernel) (pa_cons (pv 16) pa_nil)) pa_nil)))))))) 
      (pss_one (ps_ret (pe_and (pe_call G_law_like (hr.mono (by decide)) rfl T.g_law_like k_law_like b_law_like .nil pass0 (pa_cons (pv 18) (pa_cons (pe_lst (pa_cons pe_bl (pa_cons pe_bl (pa_cons (pe_cmpR op_eq (pv 17) (pv 3) (nomark _)) (pa_cons pe_bl (pa_cons (pe_callB (lenQ K) rfl T.n_len (by decide +kernel) (pa_cons (pe_ix (ixL K) (pv 2) pe_int (fun _ _ => rfl)) pa_nil)) (pa_cons (pe_callB (lenQ K) rfl T.n_len (by decide +kernel) (pa_cons (pe_ix (ixL K) (pv 2) pe_int (fun _ _ => rfl)) pa_nil)) pa_nil))))))) pa_nil))) (pe_one (pe_call G_law_like (hr.mono (by decide)) rfl T.g_law_like k_law_like b_law_like .nil pass0 (pa_cons (pe_tup (pa_cons (fldQ K rfl (pv 15)) (pa_cons (fldQ K rfl (pv 15)) pa_nil))) (pa_cons (pe_tup (pa_cons (pv 3) (pa_cons (pe_ix (ixL K) (pv 2) pe_int (fun _ _ => rfl)) pa_nil))) pa_nil))))))))))))))))))))))))))))), ?_⟩
    refine ⟨_, rfl, a, ns, rfl, hS, hn, fun b c H1 B1 zb zc s1 => ?_⟩
    refine ⟨fun σ' H' => ∃ (pl lh le : Addr) (days : Bool) (hs : List Str) (as : List Addr) (es : List Wr), σ' = [some (.ref a), some (.ref b), some (.ref pl), none, none, none, none, none, none, none, none, none, none, none, none, none, none, none, none] ∧ Bag H' b c ∧ PlotAt H' pl lh le days hs as es ∧ PlotOk days hs es ∧ pl ≠ b ∧ lh ≠ b ∧ le ≠ b, ?_, ?_⟩
    · refine ⟨_, rfl, b, c, 8, rfl, B1, by decide, by decide, fun r H2 r0 r1 B2 k2 => ?_⟩
      refine ⟨rfl, _, rfl, ite2 (fun _ => ?_) (fun _ => ?_)⟩
      · refine ⟨_, rfl, b, c, 1, 6, rfl, B2, by decide, by decide, by decide, fun pl lh le days hs as es H3 B3 k3 PA PO _ _ nn _ => ?_⟩
        exact ⟨pl, lh, le, days, hs, as, es, rfl, B3, PA, PO, nn.1, nn.2.1, nn.2.2⟩
      · refine ⟨_, rfl, b, c, 13, 16, rfl, B2, by decide, by decide, by decide, fun pl lh le days hs as es H3 B3 k3 PA PO _ _ nn _ => ?_⟩
        exact ⟨pl, lh, le, days, hs, as, es, rfl, B3, PA, PO, nn.1, nn.2.1, nn.2.2⟩
    · rintro σ' H2 ⟨pl, lh, le, days, hs, as, es, rfl, B2, PA, PO, n1, n2, n3⟩
      obtain ⟨tok, tlen, tsp, trd⟩ := PO.texts
      have few := PO.few
      -- the text, read, told
      refine ⟨_, rfl, pl, lh, le, days, hs, as, es, rfl, PA, PO.sml, fun H3 s3 => ?_⟩
      refine ⟨_, rfl, _, rfl, tok, by omega, fun H4 dr s4 hdr RD => ?_⟩
      rw [tsp] at RD
      have s24 := Same.trans s3 s4
      refine ⟨fun σ' H' => σ' = [some (.ref a), some (.ref b), some (.ref pl), some (.str (yardT days hs es)), some (.ref dr), none, none, none, none, none, none, none, none, none, none, none, none, none, none] ∧ Same H4 H', ?_, ?_⟩
      · refine ⟨_, rfl, _, rfl, .inr ⟨_, rfl, tok, by omega, fun H5 tr s5 htr RT => ?_⟩⟩
        refine ⟨_, rfl, _, _, rfl, alike (by omega) RT (by rw [tsp]; exact RD.same s5), fun H6 s6 => ?_⟩
        refine ⟨_, rfl, iteF (A := False) ?_⟩
        obtain ⟨rest, er⟩ := PO.due RD
        have s46 := Same.trans s5 s6
        have PA6 := ((PA.same s24).same s46)
        refine ⟨_, rfl, dr, _, 0, _, rfl, rfl, SqT.of (s46 _ _ er), at_of (j := 0) (by omega) rfl, _, rfl, pl, _, 1, _, rfl, rfl, SqL.of PA6.hp, rfl, lh, _, rfl, .inl (SqL.of PA6.hh), _, _, rfl, rfl, _, rfl, ?_⟩
        rw [List.length_map]
        refine ite2 (fun c1 => ?_) (fun c1 => ?_)
        · have c1' : (hs.length : Int) < 15 := of_decide_eq_true c1
          refine ⟨rfl, _, rfl, ?_⟩
          rw [if_neg (by omega)]
          exact iteF (A := False) ⟨rfl, s46⟩
        · have c1' : ¬ (hs.length : Int) < 15 := fun z => c1 (decide_eq_true z)
          refine ⟨rfl, _, rfl, ?_⟩
          rw [if_pos (by omega)]
          exact iteF (A := False) ⟨rfl, s46⟩
      · rintro σ' H5 ⟨rfl, s5⟩
        have s45 := Same.trans s24 s5
        have PA := PA.same s45
        have B2 := B2.same s45
        have RD := RD.same s5
        -- the rows
        obtain ⟨wr, wh⟩ := PO.words
        obtain ⟨rl1, rl2⟩ := PO.rows_len
        refine ⟨_, rfl, ⟨_, rfl⟩, yardT days hs es, "\n", rfl, rfl, by decide +kernel, by rw [sizeLine_eq]; omega, fun lr hlr => ?_⟩
        rw [tsp]
        have s6 : Same H5 (upd H5 lr (.lst ((rowsT days hs es).map V.str))) := same_new hlr
        have e6 : upd H5 lr (.lst ((rowsT days hs es).map V.str)) lr = some (.lst ((rowsT days hs es).map V.str)) := upd_same
        generalize upd H5 lr (.lst ((rowsT days hs es).map V.str)) = H6 at s6 e6 ⊢
        have L6 : LI H6 b c pl lh le dr lr days hs as es := ⟨B2.same s6, PA.same s6, RD.same s6, e6⟩
        clear B2 PA RD e6
        have hhp : 0 < hs.length := List.length_pos_iff.mpr PO.ne
        refine ⟨fun σ' H' => ∃ v6 v7 v8 v9 : Option V, σ' = [some (.ref a), some (.ref b), some (.ref pl), some (.str (yardT days hs es)), some (.ref dr), some (.ref lr), v6, v7, v8, v9, none, none, none, none, none, none, none, none, none] ∧ LI H' b c pl lh le dr lr days hs as es, ?_, ?_⟩
        · refine ⟨_, rfl, by decide, by decide, ?_⟩
          refine for_range (lo := 0) (n := (6 : Int).toNat) (fun i σ H' => ∃ v6 v7 v8 v9 : Option V, σ = [some (.ref a), some (.ref b), some (.ref pl), some (.str (yardT days hs es)), some (.ref dr), some (.ref lr), v6, v7, v8, v9, none, none, none, none, none, none, none, none, none] ∧ LI H' b c pl lh le dr lr days hs as es) ⟨none, none, none, none, rfl, L6⟩ ?_ (fun σ H' z => z)
          rintro i σ H7 hi ⟨v6, v7, v8, v9, rfl, L7⟩
          refine ⟨_, rfl, lr, _, rfl, .inl (SqL.of L7.R), fun l0 hl0 => ?_⟩
          have s8 : Same H7 (upd H7 l0 (.lst ((rowsT days hs es).map V.str))) := same_new hl0
          have e8 : upd H7 l0 (.lst ((rowsT days hs es).map V.str)) l0 = some (.lst ((rowsT days hs es).map V.str)) := upd_same
          generalize upd H7 l0 (.lst ((rowsT days hs es).map V.str)) = H8 at s8 e8 ⊢
          have L8 := L7.same s8
          -- the bends
          refine ⟨fun σ' H' => ∃ (v8 : Option V) (l1 : Addr) (rows1 : List Str), σ' = [some (.ref a), some (.ref b), some (.ref pl), some (.str (yardT days hs es)), some (.ref dr), some (.ref lr), some (.int (0 + i)), some (.ref l1), v8, v9, none, none, none, none, none, none, none, none, none] ∧ LI H' b c pl lh le dr lr days hs as es ∧ H' l1 = some (.lst (rows1.map V.str)) ∧ rows1.length ≤ 60 ∧ WordsOk 400 rows1, ?_, ?_⟩
          · refine ⟨_, rfl, by show 4 ≤ sizeLine; decide, fun t ht => ?_⟩
            generalize hH : upd H8 t _ = H9
            have s9 : Same H8 H9 := hH ▸ same_new ht
            have e9 : H9 t = some (.lst ([1, 1, 2, 3].map V.int)) := by rw [← hH]; exact upd_same
            clear hH
            have L9 := L8.same s9
            refine ⟨b, c, t, _, rfl, L9.B, e9, (L8.B.ne ht).1, by decide, by decide, fun j x H10 hj B10 k10 => ?_⟩
            obtain ⟨z, hz, rfl⟩ : ∃ z : Int, (1 ≤ z ∧ z ≤ 3) ∧ x = .int z := by
              rw [List.getElem?_map] at hj
              obtain ⟨z, hz, rfl⟩ := Option.map_eq_some_iff.mp hj
              have := List.mem_of_getElem? hz
              have q : ∀ z ∈ ([1, 1, 2, 3] : List Int), 1 ≤ z ∧ z ≤ 3 := by decide
              exact ⟨z, q z this, rfl⟩
            have L10 := L9.keepB k10 B10
            have e10 := k10.get L9.B (s9 _ _ e8) (strs_nbag _)
            refine ⟨z, rfl, by omega, by omega, ?_⟩
            refine for_range (lo := 0) (n := z.toNat) (fun j σ H' => ∃ (v8 : Option V) (l1 : Addr) (rows1 : List Str), σ = [some (.ref a), some (.ref b), some (.ref pl), some (.str (yardT days hs es)), some (.ref dr), some (.ref lr), some (.int (0 + i)), some (.ref l1), v8, v9, none, none, none, none, none, none, none, none, none] ∧ LI H' b c pl lh le dr lr days hs as es ∧ H' l1 = some (.lst (rows1.map V.str)) ∧ rows1 ≠ [] ∧ rows1.length ≤ 40 + j ∧ WordsOk (300 + 8 * j) rows1)
              ⟨v8, l0, _, rfl, L10, e10, (by intro z; rw [z] at rl2; simp at rl2), by omega, wr⟩ ?_ ?_
            · rintro j σ H11 hj' ⟨v8, l1, rows1, rfl, L11, e11, ne11, ln11, w11⟩
              refine ⟨_, rfl, _, rfl, _, rfl, pl, _, 1, _, rfl, rfl, SqL.of L11.P.hp, rfl, b, c, l1, lh, rows1, hs, 300 + 8 * j, rfl, L11.B, e11, L11.P.hh, ne11, by omega, w11, by omega, by omega, PO.ne, by omega, wh, L11.ne e11, L11.ne L11.P.hh, fun l2 rows2 H12 B12 k12 e12 ne12 ln12 w12 nl2 => ?_⟩
              exact ⟨_, l2, rows2, rfl, L11.keepB k12 B12, e12, ne12, by omega, w12.mono (by omega)⟩
            · rintro σ H11 ⟨v8, l1, rows1, rfl, L11, e11, ne11, ln11, w11⟩
              exact ⟨v8, l1, rows1, rfl, L11, e11, by omega, w11.mono (by omega)⟩
          · rintro σ' H9 ⟨v8, l1, rows1, rfl, L9, e9, n9, w9⟩
            have lhl : ((hs.map V.str).length : Int) = hs.length := by rw [List.length_map]
            have lrl : (((rowsT days hs es).map V.str).length : Int) = (rowsT days hs es).length := by rw [List.length_map]
            refine ⟨_, rfl, pl, _, 1, _, rfl, rfl, SqL.of L9.P.hp, rfl, lh, _, rfl, .inl (SqL.of L9.P.hh), _, _, rfl, rfl, _, rfl, _, rfl, lr, _, rfl, .inl (SqL.of L9.R), _, rfl, pl, _, 1, _, rfl, rfl, SqL.of L9.P.hp, rfl, lh, _, rfl, .inl (SqL.of L9.P.hh), _, _, rfl, rfl, b, c, _, rfl, L9.B, by rw [lrl, lhl]; omega, by rw [lrl, lhl]; omega, fun r H10 r0 r1 B10 k10 => ⟨_, _, rfl, rfl, ?_⟩⟩
            rw [lrl, lhl] at r1
            rw [lhl]
            obtain ⟨sn, hsn, hs1, hs2⟩ : ∃ sn : Nat, (1 : Int) + hs.length + r = sn ∧ 1 + hs.length ≤ sn ∧ sn ≤ (rowsT days hs es).length := ⟨((1 : Int) + hs.length + r).toNat, by omega, by omega, by omega⟩
            show gName 9 (V.int ((1 : Int) + hs.length + r)) _ _ _
            rw [hsn]
            have L10 := L9.keepB k10 B10
            have e10 := k10.get L9.B e9 (strs_nbag _)
            clear e9
            have tk : ∀ k : Nat, ((rowsT days hs es).map V.str).take k = ((rowsT days hs es).take k).map V.str := fun k => by rw [List.map_take]
            have dk : ∀ k : Nat, ((rowsT days hs es).map V.str).drop k = ((rowsT days hs es).drop k).map V.str := fun k => by rw [List.map_drop]
            have wr4 : WordsOk 400 (rowsT days hs es) := wr.mono (by omega)
            have tkw : ∀ k, WordsOk 400 ((rowsT days hs es).take k) := fun k => wr4.sub fun x hx => List.mem_of_mem_take hx
            have dkw : ∀ k, WordsOk 400 ((rowsT days hs es).drop k) := fun k => wr4.sub fun x hx => List.mem_of_mem_drop hx
            have tkl : ∀ k, ((rowsT days hs es).take k).length ≤ 34 := fun k => by rw [List.length_take]; omega
            have dkl : ∀ k, ((rowsT days hs es).drop k).length ≤ 34 := fun k => by rw [List.length_drop]; omega
            have ll : ∀ k : Nat, k ≤ 1000 → k ≤ sizeLine := fun k h => by rw [sizeLine_eq]; omega
            -- turn 4
            refine ⟨fun σ' H' => ∃ (l1 : Addr) (rows1 : List Str), σ' = [some (.ref a), some (.ref b), some (.ref pl), some (.str (yardT days hs es)), some (.ref dr), some (.ref lr), some (.int (0 + i)), some (.ref l1), v8, some (.int sn), none, none, none, none, none, none, none, none, none] ∧ LI H' b c pl lh le dr lr days hs as es ∧ H' l1 = some (.lst (rows1.map V.str)) ∧ rows1.length ≤ 100 ∧ WordsOk 400 rows1, ?_, ?_⟩
            · refine ⟨_, rfl, rfl, _, rfl, ite2 (fun _ => ?_) (fun _ => ?_)⟩
              · refine ⟨_, rfl, _, rfl, sn, rfl, lr, _, rfl, SqL.of L10.R, fun p1 hp1 => ?_⟩
                rw [cut_to, tk]
                have s11 : Same H10 (upd H10 p1 (.lst (((rowsT days hs es).take sn).map V.str))) := same_new hp1
                have e11 : upd H10 p1 (.lst (((rowsT days hs es).take sn).map V.str)) p1 = some (.lst (((rowsT days hs es).take sn).map V.str)) := upd_same
                generalize upd H10 p1 (.lst (((rowsT days hs es).take sn).map V.str)) = H11 at s11 e11 ⊢
                have L11 := L10.same s11
                have hm : ∀ {j : Nat} {v : V}, (hs.map V.str)[j]? = some v → ∃ h, v = .str h ∧ h.length ≤ 8 ∧ okS h := fun {j v} q => by
                  rw [List.getElem?_map] at q
                  obtain ⟨h, hh, rfl⟩ := Option.map_eq_some_iff.mp q
                  exact ⟨h, rfl, wh h (List.mem_of_getElem? hh)⟩
                have okw : okS "wire " := by show PyData.strOk _ = true; decide +kernel
                have oks : okS " " := by show PyData.strOk _ = true; decide +kernel
                have lw : ("wire " : Str).length = 5 := rfl
                have ls : (" " : Str).length = 1 := rfl
                refine ⟨_, rfl, _, rfl, pl, _, 1, _, rfl, rfl, SqL.of L11.P.hp, rfl, b, c, lh, _, rfl, L11.B, L11.P.hh, L11.ne L11.P.hh, by rw [List.length_map]; omega, by rw [List.length_map]; omega, fun j1 v1 H12 q1 B12 k12 => ?_⟩
                obtain ⟨h1, rfl, hl1, ho1⟩ := hm q1
                have L12 := L11.keepB k12 B12
                refine ⟨_, _, rfl, rfl, ll _ (by omega), _, _, rfl, rfl, ll _ (by rw [str_len]; omega), ?_⟩
                refine ⟨_, rfl, _, rfl, pl, _, 1, _, rfl, rfl, SqL.of L12.P.hp, rfl, b, c, lh, _, rfl, L12.B, L12.P.hh, L12.ne L12.P.hh, by rw [List.length_map]; omega, by rw [List.length_map]; omega, fun j2 v2 H13 q2 B13 k13 => ?_⟩
                obtain ⟨h2, rfl, hl2, ho2⟩ := hm q2
                have L13 := L12.keepB k13 B13
                refine ⟨_, _, rfl, rfl, ll _ (by rw [str_len, str_len]; omega), ?_⟩
                have e13 := k13.get L12.B (k12.get L11.B e11 (strs_nbag _)) (strs_nbag _)
                have wl : WordsOk 400 [("wire " : Str) ++ h1 ++ (" " : Str) ++ h2] := fun r hr => by
                  rw [List.mem_singleton.mp hr]
                  exact ⟨by rw [str_len, str_len, str_len]; omega, okS_app (okS_app (okS_app okw ho1) oks) ho2⟩
                generalize hw0 : ("wire " : Str) ++ h1 ++ (" " : Str) ++ h2 = wd at wl ⊢
                refine ⟨by show 1 ≤ sizeLine; decide, fun p2 hp2 => ?_⟩
                have s14 : Same H13 (upd H13 p2 (.lst [.str wd])) := same_new hp2
                have e14 : upd H13 p2 (.lst [.str wd]) p2 = some (.lst (([wd] : List Str).map V.str)) := upd_same
                generalize upd H13 p2 (.lst [.str wd]) = H14 at s14 e14 ⊢
                refine ⟨p1, p2, _, _, rfl, rfl, s14 _ _ e13, e14, by rw [List.length_map, List.length_map]; have := tkl sn; exact ll _ (by show _ + 1 ≤ _; omega), fun p3 hp3 => ?_⟩
                rw [← List.map_append]
                have s15 : Same H14 (upd H14 p3 (.lst (((rowsT days hs es).take sn ++ [wd]).map V.str))) := same_new hp3
                have e15 : upd H14 p3 (.lst (((rowsT days hs es).take sn ++ [wd]).map V.str)) p3 = some (.lst (((rowsT days hs es).take sn ++ [wd]).map V.str)) := upd_same
                generalize upd H14 p3 (.lst (((rowsT days hs es).take sn ++ [wd]).map V.str)) = H15 at s15 e15 ⊢
                have L15 := (L13.same s14).same s15
                refine ⟨_, rfl, _, rfl, sn, rfl, lr, _, rfl, SqL.of L15.R, fun p4 hp4 => ?_⟩
                rw [cut_from, dk]
                have s16 : Same H15 (upd H15 p4 (.lst (((rowsT days hs es).drop sn).map V.str))) := same_new hp4
                have e16 : upd H15 p4 (.lst (((rowsT days hs es).drop sn).map V.str)) p4 = some (.lst (((rowsT days hs es).drop sn).map V.str)) := upd_same
                generalize upd H15 p4 (.lst (((rowsT days hs es).drop sn).map V.str)) = H16 at s16 e16 ⊢
                have l3 : ((rowsT days hs es).take sn ++ [wd]).length ≤ 35 := by rw [List.length_append]; have := tkl sn; show _ + 1 ≤ _; omega
                refine ⟨p3, p4, _, _, rfl, rfl, s16 _ _ e15, e16, by rw [List.length_map, List.length_map]; have := dkl sn; exact ll _ (by omega), fun p5 hp5 => ?_⟩
                rw [← List.map_append]
                refine ⟨p5, _, rfl, (L15.same s16).same (same_new hp5), upd_same, ?_, ((tkw sn).app wl).app (dkw sn)⟩
                rw [List.length_append]
                have := dkl sn
                omega
              · exact ⟨l1, rows1, rfl, L10, e10, by omega, w9⟩
            · clear e10 n9 w9
              rintro σ' H11 ⟨l1, rows1, rfl, L11, e11, n11, w11⟩
              -- turn 5
              refine ⟨fun σ' H' => ∃ (l1 : Addr) (rows1 : List Str), σ' = [some (.ref a), some (.ref b), some (.ref pl), some (.str (yardT days hs es)), some (.ref dr), some (.ref lr), some (.int (0 + i)), some (.ref l1), v8, some (.int sn), none, none, none, none, none, none, none, none, none] ∧ LI H' b c pl lh le dr lr days hs as es ∧ H' l1 = some (.lst (rows1.map V.str)) ∧ rows1.length ≤ 100 ∧ WordsOk 400 rows1, ?_, ?_⟩
              · refine ⟨_, rfl, rfl, _, rfl, ite2 (fun _ => ?_) (fun _ => ?_)⟩
                · refine ⟨_, rfl, _, rfl, sn, rfl, lr, _, rfl, SqL.of L11.R, fun p1 hp1 => ?_⟩
                  rw [cut_to, tk]
                  have s12 : Same H11 (upd H11 p1 (.lst (((rowsT days hs es).take sn).map V.str))) := same_new hp1
                  have e12 : upd H11 p1 (.lst (((rowsT days hs es).take sn).map V.str)) p1 = some (.lst (((rowsT days hs es).take sn).map V.str)) := upd_same
                  generalize upd H11 p1 (.lst (((rowsT days hs es).take sn).map V.str)) = H12 at s12 e12 ⊢
                  have L12 := L11.same s12
                  refine ⟨_, rfl, _, rfl, _, _, rfl, rfl, _, rfl, lr, _, rfl, SqL.of L12.R, fun p2 hp2 => ?_⟩
                  rw [show ((sn : Int) + 1) = ((sn + 1 : Nat) : Int) by omega, cut_from, dk]
                  have s13 : Same H12 (upd H12 p2 (.lst (((rowsT days hs es).drop (sn + 1)).map V.str))) := same_new hp2
                  have e13 : upd H12 p2 (.lst (((rowsT days hs es).drop (sn + 1)).map V.str)) p2 = some (.lst (((rowsT days hs es).drop (sn + 1)).map V.str)) := upd_same
                  generalize upd H12 p2 (.lst (((rowsT days hs es).drop (sn + 1)).map V.str)) = H13 at s13 e13 ⊢
                  have l1' := tkl sn
                  have l2' := dkl (sn + 1)
                  refine ⟨p1, p2, _, _, rfl, rfl, s13 _ _ e12, e13, by rw [List.length_map, List.length_map]; exact ll _ (by omega), fun p3 hp3 => ?_⟩
                  rw [← List.map_append]
                  refine ⟨p3, _, rfl, (L12.same s13).same (same_new hp3), upd_same, ?_, (tkw sn).app (dkw (sn + 1))⟩
                  rw [List.length_append]
                  omega
                · exact ⟨l1, rows1, rfl, L11, e11, n11, w11⟩
              · clear e11 n11 w11
                rintro σ' H12 ⟨l1, rows1, rfl, L12, e12, n12, w12⟩
                -- told and read
                obtain ⟨j1, j2, j3⟩ := rows_text w12 n12
                refine ⟨⟨_, rfl⟩, _, rfl, "\n", l1, rows1, rfl, rfl, .inl (SqL.of e12), j1, ?_⟩
                refine ⟨_, rfl, .inr ⟨_, rfl, j3, by omega, fun H13 tr s13 htr RT => ?_⟩⟩
                refine ⟨⟨_, rfl⟩, _, rfl, "\n", l1, rows1, rfl, rfl, .inl (SqL.of (s13 _ _ e12)), j1, _, rfl, j3, by omega, fun H14 rr s14 hrr RR => ?_⟩
                refine ⟨_, _, rfl, alike (by omega) (RT.same s14) RR, fun H15 s15 => ?_⟩
                exact ⟨_, rfl, iteF (A := False) ⟨_, _, _, _, rfl, ((L12.same s13).same s14).same s15⟩⟩
        · clear s3 s4 s24 hdr s5 s45 s6 L6
          rintro σ' H1 ⟨v6, v7, v8, v9, rfl, L1⟩
          have oknl : okS "\n" := by show PyData.strOk _ = true; decide +kernel
          have lnl : ("\n" : Str).length = 1 := rfl
          -- a line feed more, a line less
          refine ⟨fun σ' H' => σ' = [some (.ref a), some (.ref b), some (.ref pl), some (.str (yardT days hs es)), some (.ref dr), some (.ref lr), v6, v7, v8, v9, none, none, none, none, none, none, none, none, none] ∧ LI H' b c pl lh le dr lr days hs as es, ?_, ?_⟩
          · have okn : okS (yardT days hs es ++ "\n") := okS_app tok oknl
            have lnn : (yardT days hs es ++ "\n").length ≤ 40001 := by rw [str_len]; omega
            refine ⟨_, rfl, _, _, rfl, rfl, by rw [sizeLine_eq]; omega, _, rfl, .inr ⟨_, rfl, okn, by omega, fun H2 tr s2 htr RT => ?_⟩⟩
            refine ⟨_, rfl, _, _, rfl, rfl, by rw [sizeLine_eq]; omega, _, rfl, okn, by omega, fun H3 rr s3 hrr RR => ?_⟩
            refine ⟨_, _, rfl, alike (by omega) (RT.same s3) RR, fun H4 s4 => ?_⟩
            refine ⟨_, rfl, iteF (A := False) ?_⟩
            have L4 := ((L1.same s2).same s3).same s4
            have w4 : WordsOk 400 ((rowsT days hs es).take ((rowsT days hs es).length - 1)) := (wr.mono (by omega)).sub fun x hx => List.mem_of_mem_take hx
            obtain ⟨j1, j2, j3⟩ := rows_text w4 (by rw [List.length_take]; omega)
            have ek : cutV ((rowsT days hs es).map V.str) none (some (-1)) = ((rowsT days hs es).take ((rowsT days hs es).length - 1)).map V.str := by rw [cut_last, List.length_map, List.map_take]
            refine ⟨⟨_, rfl⟩, _, rfl, _, rfl, _, rfl, lr, _, rfl, SqL.of L4.R, fun p1 hp1 => ?_⟩
            rw [ek]
            generalize (rowsT days hs es).take ((rowsT days hs es).length - 1) = rw1 at w4 j1 j2 j3 ek ⊢
            have s5 : Same H4 (upd H4 p1 (.lst (rw1.map V.str))) := same_new hp1
            have e5 : upd H4 p1 (.lst (rw1.map V.str)) p1 = some (.lst (rw1.map V.str)) := upd_same
            generalize upd H4 p1 (.lst (rw1.map V.str)) = H5 at s5 e5 ⊢
            refine ⟨"\n", p1, rw1, rfl, rfl, .inl (SqL.of e5), j1, ?_⟩
            refine ⟨_, rfl, .inr ⟨_, rfl, j3, by omega, fun H6 tr6 s6 htr6 RT6 => ?_⟩⟩
            have L6 := (L4.same s5).same s6
            refine ⟨⟨_, rfl⟩, _, rfl, _, rfl, _, rfl, lr, _, rfl, SqL.of L6.R, fun p2 hp2 => ?_⟩
            rw [ek]
            have s7 : Same H6 (upd H6 p2 (.lst (rw1.map V.str))) := same_new hp2
            have e7 : upd H6 p2 (.lst (rw1.map V.str)) p2 = some (.lst (rw1.map V.str)) := upd_same
            generalize upd H6 p2 (.lst (rw1.map V.str)) = H7 at s7 e7 ⊢
            refine ⟨"\n", p2, rw1, rfl, rfl, .inl (SqL.of e7), j1, ?_⟩
            refine ⟨_, rfl, j3, by omega, fun H8 rr s8 hrr RR => ?_⟩
            refine ⟨_, _, rfl, alike (by omega) ((RT6.same s7).same s8) RR, fun H9 s9 => ?_⟩
            exact ⟨_, rfl, iteF (A := False) ⟨rfl, ((L6.same s7).same s8).same s9⟩⟩
          · clear L1
            rintro σ' H1 ⟨rfl, L1⟩
            -- what is no text
            refine ⟨fun σ' H' => σ' = [some (.ref a), some (.ref b), some (.ref pl), some (.str (yardT days hs es)), some (.ref dr), some (.ref lr), v6, v7, v8, v9, none, none, none, none, none, none, none, none, none] ∧ LI H' b c pl lh le dr lr days hs as es, ?_, ?_⟩
            · refine ⟨_, rfl, _, rfl, by show 1 ≤ sizeLine; decide, fun q1 hq1 => ?_⟩
              have s2 : Same H1 (upd H1 q1 (.lst [.str (yardT days hs es)])) := same_new hq1
              have e2 : upd H1 q1 (.lst [.str (yardT days hs es)]) q1 = some (.lst ([yardT days hs es].map V.str)) := upd_same
              generalize upd H1 q1 (.lst [.str (yardT days hs es)]) = H2 at s2 e2 ⊢
              refine ⟨by show 0 ≤ sizeLine; decide, fun q2 hq2 => ?_⟩
              have s3 : Same H2 (upd H2 q2 (.tup [])) := same_new hq2
              have e3 : upd H2 q2 (.tup []) q2 = some (.tup []) := upd_same
              generalize upd H2 q2 (.tup []) = H3 at s3 e3 ⊢
              refine fun q3 hq3 => ?_
              have s4 : Same H3 (upd H3 q3 (.dK [])) := same_new hq3
              have e4 : upd H3 q3 (.dK []) q3 = some (.dK []) := upd_same
              generalize upd H3 q3 (.dK []) = H4 at s4 e4 ⊢
              refine ⟨by show 6 ≤ sizeLine; decide, fun t ht => ?_⟩
              generalize hH : upd H4 t _ = H5
              have s5 : Same H4 H5 := hH ▸ same_new ht
              have e5 : H5 t = some (.lst [.non, .int 7, .bl true, .ref q1, .ref q2, .ref q3]) := by rw [← hH]; exact upd_same
              clear hH
              have L4 := ((L1.same s2).same s3).same s4
              have L5 := L4.same s5
              refine ⟨b, c, t, _, rfl, L5.B, e5, (L4.B.ne ht).1, by show 0 < 6; decide, by show 6 < 1073741824; decide, fun j x H6 hj B6 k6 => ?_⟩
              have L6 := L5.keepB k6 B6
              have f1 := k6.get L5.B (s5 _ _ (s4 _ _ (s3 _ _ e2))) (strs_nbag _)
              have f2 := k6.get L5.B (s5 _ _ (s4 _ _ e3)) (tup_nbag _)
              have f3 := k6.get L5.B (s5 _ _ e4) (fun _ _ _ _ _ z => by cases z)
              have ty : ∃ n, (∀ H', Same H6 H' → TyX K H' x (.type n)) ∧ kitB n "str" = some false := by
                match j, hj with
                | 0, hj => cases hj; exact ⟨_, fun H' s => .base .non, by decide +kernel⟩
                | 1, hj => cases hj; exact ⟨_, fun H' s => .base (.int 7), by decide +kernel⟩
                | 2, hj => cases hj; exact ⟨_, fun H' s => .base (.bl true), by decide +kernel⟩
                | 3, hj => cases hj; exact ⟨_, fun H' s => .base (.lst (s _ _ f1)), by decide +kernel⟩
                | 4, hj => cases hj; exact ⟨_, fun H' s => .base (.tup (s _ _ f2)), by decide +kernel⟩
                | 5, hj => cases hj; exact ⟨_, fun H' s => .base (.dK (s _ _ f3)), by decide +kernel⟩
                | j + 6, hj => cases hj
              obtain ⟨n, ty, kn⟩ := ty
              refine ⟨_, rfl, .inl ⟨n, ty, kn, fun H7 tr s7 htr RT => ?_⟩⟩
              refine ⟨by show 2 ≤ sizeLine; decide, fun u hu => ?_⟩
              have s8 : Same H7 (upd H7 u (.tup [.str "bad", .int 0])) := same_new hu
              have e8 : upd H7 u (.tup [.str "bad", .int 0]) u = some (.tup [.str "bad", .int 0]) := upd_same
              generalize upd H7 u (.tup [.str "bad", .int 0]) = H8 at s8 e8 ⊢
              refine ⟨_, _, rfl, alike_bad (RT.same s8) e8, fun H9 s9 => ?_⟩
              refine ⟨_, rfl, iteF (A := False) ?_⟩
              refine ⟨_, rfl, .inr ⟨_, rfl, by show PyData.strOk _ = true; decide +kernel, by show 0 ≤ _; omega, fun H10 tr s10 htr RT => ?_⟩⟩
              rw [read_empty] at RT
              refine ⟨by show 2 ≤ sizeLine; decide, fun u hu => ?_⟩
              have s11 : Same H10 (upd H10 u (.tup [.str "bad", .int 1])) := same_new hu
              have e11 : upd H10 u (.tup [.str "bad", .int 1]) u = some (.tup [.str "bad", .int 1]) := upd_same
              generalize upd H10 u (.tup [.str "bad", .int 1]) = H11 at s11 e11 ⊢
              refine ⟨_, _, rfl, alike_bad (RT.same s11) e11, fun H12 s12 => ?_⟩
              exact ⟨_, rfl, iteF (A := False) ⟨rfl, (((((L6.same s7).same s8).same s9).same s10).same s11).same s12⟩⟩
            · clear L1
              rintro σ' H1 ⟨rfl, L1⟩
              -- a text that is too long
              have ll : ∀ k : Nat, k ≤ 200000 → k ≤ sizeLine := fun k h => by rw [sizeLine_eq]; omega
              have sub1 : V.int ((120001 : Int) - ((yardT days hs es).length : Nat)) = V.int ((120001 - (yardT days hs es).length : Nat) : Int) := congrArg V.int (by omega)
              have rl := rep_len "\n" (120001 - (yardT days hs es).length)
              rw [lnl] at rl
              refine ⟨_, rfl, _, rfl, _, rfl, ll _ (by omega), _, _, rfl, rfl, "\n", 120001 - (yardT days hs es).length, rfl, sub1, by omega, by omega, rfl, _, _, rfl, rfl, ll _ (by omega), ?_⟩
              have llen : (yardT days hs es ++ repS "\n" (120001 - (yardT days hs es).length)).length = 120001 := by rw [str_len]; omega
              have lok : okS (yardT days hs es ++ repS "\n" (120001 - (yardT days hs es).length)) := okS_app tok (rep_ok oknl _)
              have lrd : readY (yardT days hs es ++ repS "\n" (120001 - (yardT days hs es).length)) = .many "text" 120000 := by unfold readY; rw [if_pos (by omega)]
              have lcut : cutS (yardT days hs es ++ repS "\n" (120001 - (yardT days hs es).length)) none (some 120000) = yardT days hs es ++ repS "\n" (119999 - (yardT days hs es).length + 1) := cut_feeds tlen
              have wf : days = false → ∀ e ∈ es, smallB e.1 = true ∧ smallB e.2 = true := fun _ e he => ⟨PO.sm _ (PO.wf e he).1, PO.sm _ (PO.wf e he).2⟩
              have rl2' := rep_len "\n" (119999 - (yardT days hs es).length + 1)
              rw [lnl] at rl2'
              have clen : (yardT days hs es ++ repS "\n" (119999 - (yardT days hs es).length + 1)).length = 120000 := by rw [str_len]; omega
              have cok : okS (yardT days hs es ++ repS "\n" (119999 - (yardT days hs es).length + 1)) := okS_app tok (rep_ok oknl _)
              have crd : readY (yardT days hs es ++ repS "\n" (119999 - (yardT days hs es).length + 1)) = if 14 < hs.length then .many "benches" 14 else .bad ((rowsT days hs es).length + 1) := by
                rw [read_rows (by omega), split_feeds PO.sm wf]
                exact rows_feeds PO _
              generalize yardT days hs es ++ repS "\n" (119999 - (yardT days hs es).length + 1) = cut at lcut clen cok crd
              generalize yardT days hs es ++ repS "\n" (120001 - (yardT days hs es).length) = long at llen lok lrd lcut ⊢
              clear sub1 rl rl2'
              refine ⟨fun σ' H' => σ' = [some (.ref a), some (.ref b), some (.ref pl), some (.str (yardT days hs es)), some (.ref dr), some (.ref lr), v6, v7, v8, v9, some (.str long), none, none, none, none, none, none, none, none] ∧ LI H' b c pl lh le dr lr days hs as es, ?_, ?_⟩
              · refine ⟨_, rfl, _, rfl, .inr ⟨_, rfl, lok, by omega, fun H2 tr s2 htr RT => ?_⟩⟩
                rw [lrd] at RT
                refine ⟨by show 2 ≤ sizeLine; decide, fun u hu => ?_⟩
                have s3 : Same H2 (upd H2 u (.tup [.str "many", .int 120000])) := same_new hu
                have e3 : upd H2 u (.tup [.str "many", .int 120000]) u = some (.tup [.str "many", .int 120000]) := upd_same
                generalize upd H2 u (.tup [.str "many", .int 120000]) = H3 at s3 e3 ⊢
                refine ⟨_, _, rfl, alike_many (RT.same s3) e3, fun H4 s4 => ?_⟩
                refine ⟨_, rfl, iteF (A := False) ?_⟩
                have L4 := ((L1.same s2).same s3).same s4
                refine ⟨_, rfl, _, rfl, _, rfl, ll _ (by omega), ?_⟩
                rw [lcut]
                refine ⟨_, rfl, .inr ⟨_, rfl, cok, by omega, fun H5 tr5 s5 htr5 RT5 => ?_⟩⟩
                rw [crd] at RT5
                have L5 := L4.same s5
                obtain ⟨rest, er⟩ := PO.due L5.D
                refine ⟨_, rfl, dr, _, 0, _, rfl, rfl, SqT.of er, at_of (j := 0) (by omega) rfl, rfl, _, rfl, ?_⟩
                by_cases c1 : 14 < hs.length
                · rw [if_pos c1] at RT5 ⊢
                  have D5 := L5.D
                  rw [PO.reads, if_pos c1] at D5
                  refine iteT (B := False) ⟨_, rfl, ?_⟩
                  refine ⟨_, _, rfl, alike_many RT5 D5, fun H6 s6 => ?_⟩
                  exact ⟨_, rfl, iteF (A := False) ⟨rfl, L5.same s6⟩⟩
                · rw [if_neg c1] at RT5 ⊢
                  rw [str_dec, decide_eq_false (by decide +kernel)]
                  refine iteF (A := False) ⟨_, rfl, lr, _, rfl, .inl (SqL.of L5.R), _, _, rfl, rfl, by show 2 ≤ sizeLine; decide, fun u hu => ?_⟩
                  rw [List.length_map]
                  generalize hH : upd H5 u _ = H6
                  have s6 : Same H5 H6 := hH ▸ same_new hu
                  have e6 : H6 u = some (.tup [.str "bad", .int ((rowsT days hs es).length + 1)]) := by rw [← hH]; exact upd_same
                  clear hH
                  refine ⟨_, _, rfl, alike_bad (RT5.same s6) e6, fun H7 s7 => ?_⟩
                  exact ⟨_, rfl, iteF (A := False) ⟨rfl, (L5.same s6).same s7⟩⟩
              · clear L1
                rintro σ' H1 ⟨rfl, L1⟩
                -- rows, stars and days
                refine ⟨_, rfl, b, c, 3, rfl, L1.B, by decide, by decide, fun pk H2 p0 p1 B2 k2 => ?_⟩
                have L2 := L1.keepB k2 B2
                refine ⟨_, rfl, _, rfl, b, c, 4, rfl, L2.B, by decide, fun la ns H3 B3 k3 hla ela len4 ndn smn => ?_⟩
                have L3 := L2.keepB k3 B3
                refine ⟨b, c, la, _, rfl, B3, ela, L3.ne ela, by rw [List.length_map]; omega, fun lw ys H4 pm B4 k4 hlw elw => ?_⟩
                have L4 := L3.keepB k4 B4
                obtain ⟨ws, rfl, pw⟩ := perm_map pm
                have lws : ws.length = 4 := by rw [pw.length_eq]; exact len4
                have okws : ∀ x ∈ ws, x.length ≤ 100 ∧ okS x := fun x hx => ⟨small_100 (smn x (pw.mem_iff.mp hx)), small_ok (smn x (pw.mem_iff.mp hx))⟩
                have nlw : lw ≠ b := (B3.ne hlw).1
                have nlc : lw ≠ c := (B3.ne hlw).2
                have k14 : KeepB b H1 H4 := (k2.trans k3).trans k4
                have zlw : H1 lw = none := (k2.trans k3).free nlw hlw
                clear hlw pm hla ela k2 k3 k4 B2 B3 L2 L3
                refine ⟨fun σ' H' => ∃ ws : List Str, σ' = [some (.ref a), some (.ref b), some (.ref pl), some (.str (yardT days hs es)), some (.ref dr), some (.ref lr), v6, v7, v8, v9, some (.str long), some (.int pk), some (.ref lw), none, none, none, none, none, none] ∧ LI H' b c pl lh le dr lr days hs as es ∧ H' lw = some (.lst (ws.map V.str)) ∧ ws.length = 4 ∧ ∀ x ∈ ws, x.length ≤ 100 ∧ okS x, ?_, ?_⟩
                · refine ⟨_, rfl, b, c, 3, rfl, L4.B, by decide, by decide, fun r H5 r0 r1 B5 k5 => ?_⟩
                  have L5 := L4.keepB k5 B5
                  have e5 := k5.get L4.B elw (strs_nbag _)
                  refine ⟨rfl, _, rfl, ite2 (fun _ => ?_) (fun _ => ?_)⟩
                  · obtain ⟨w0, w1, w2, w3, rfl⟩ : ∃ w0 w1 w2 w3, ws = [w0, w1, w2, w3] := by
                      match ws, lws with
                      | [w0, w1, w2, w3], _ => exact ⟨w0, w1, w2, w3, rfl⟩
                    refine ⟨_, rfl, _, rfl, lw, _, 0, _, rfl, rfl, SqL.of e5, rfl, _, rfl, lw, _, 3, _, rfl, rfl, SqL.of e5, rfl, by show 8 ≤ sizeLine; decide, fun t ht => ?_⟩
                    generalize hH : upd H5 t _ = H6
                    have s6 : Same H5 H6 := hH ▸ same_new ht
                    have e6 : H6 t = some (.lst (([("A" : Str), ("" : Str), ("size" : Str), ("abcdefghi" : Str), ("1" : Str), ("a b" : Str), w0, w3] : List Str).map V.str)) := by rw [← hH]; exact upd_same
                    clear hH
                    have L6 := L5.same s6
                    have okl : ∀ y ∈ ([("A" : Str), ("" : Str), ("size" : Str), ("abcdefghi" : Str), ("1" : Str), ("a b" : Str), w0, w3] : List Str), y.length ≤ 100 ∧ okS y := by
                      intro y hy
                      have lit : ∀ y ∈ ([("A" : Str), ("" : Str), ("size" : Str), ("abcdefghi" : Str), ("1" : Str), ("a b" : Str)] : List Str), y.length ≤ 100 ∧ PyData.strOk y = true := by decide +kernel
                      simp only [List.mem_cons, List.mem_nil_iff, or_false] at hy
                      rcases hy with h | h | h | h | h | h | h | h
                      · exact lit y (by rw [h]; simp)
                      · exact lit y (by rw [h]; simp)
                      · exact lit y (by rw [h]; simp)
                      · exact lit y (by rw [h]; simp)
                      · exact lit y (by rw [h]; simp)
                      · exact lit y (by rw [h]; simp)
                      · exact okws y (by rw [h]; simp)
                      · exact okws y (by rw [h]; simp)
                    refine ⟨b, c, t, _, rfl, L6.B, e6, (L5.B.ne ht).1, by show 0 < 8; decide, by show 8 < 1073741824; decide, fun j v H7 hj B7 k7 => ?_⟩
                    obtain ⟨nx, rfl, onx⟩ : ∃ nx, v = .str nx ∧ nx.length ≤ 100 ∧ okS nx := by
                      rw [List.getElem?_map] at hj
                      obtain ⟨z, hz, rfl⟩ := Option.map_eq_some_iff.mp hj
                      exact ⟨z, rfl, okl z (List.mem_of_getElem? hz)⟩
                    have L7 := L6.keepB k7 B7
                    have e7 := k7.get L6.B (s6 _ _ e5) (strs_nbag _)
                    refine ⟨_, rfl, _, rfl, b, c, 4, rfl, B7, by decide, by decide, fun jd H8 j0 j1 B8 k8 => ?_⟩
                    have L8 := L7.keepB k8 B8
                    have e8 := k8.get B7 e7 (strs_nbag _)
                    obtain ⟨jn, hjn⟩ : ∃ jn : Nat, jd = jn := ⟨jd.toNat, by omega⟩
                    subst hjn
                    refine ⟨lw, _, jn, rfl, rfl, e8, by show jn < 4; omega, ?_⟩
                    rw [← List.map_set]
                    have k18 : KeepB b H1 H8 := ((((k14.trans k5).trans (KeepB.same s6)).trans k7).trans k8)
                    refine ⟨_, rfl, L1.keepB (k18.upd' zlw) (B8.upd nlw nlc), upd_same, by rw [List.length_set]; rfl, fun x hx => ?_⟩
                    rcases List.mem_or_eq_of_mem_set hx with h | h
                    · exact okws x h
                    · rw [h]; exact onx
                  · exact ⟨ws, rfl, L5, e5, lws, okws⟩
                · clear lws okws elw pw L4 L1 B4
                  rintro σ' H1 ⟨ws, rfl, L1, elw, lws, okws⟩
                  refine ⟨fun σ' H' => ∃ v13 : Option V, σ' = [some (.ref a), some (.ref b), some (.ref pl), some (.str (yardT days hs es)), some (.ref dr), some (.ref lr), v6, v7, v8, v9, some (.str long), some (.int pk), some (.ref lw), v13, none, none, none, none, none] ∧ LI H' b c pl lh le dr lr days hs as es, ?_, ?_⟩
                  · have tkw : ∀ k : Nat, (ws.map V.str).take k = (ws.take k).map V.str := fun k => by rw [List.map_take]
                    have ct1 : cutV (ws.map V.str) none (some 1) = (ws.take 1).map V.str := (cut_to (k := 1)).trans (tkw 1)
                    refine ⟨_, rfl, _, rfl, _, rfl, lw, _, rfl, SqL.of elw, fun p1 hp1 => ?_⟩
                    rw [ct1]
                    have s2 : Same H1 (upd H1 p1 (.lst ((ws.take 1).map V.str))) := same_new hp1
                    have e2 : upd H1 p1 (.lst ((ws.take 1).map V.str)) p1 = some (.lst ((ws.take 1).map V.str)) := upd_same
                    generalize upd H1 p1 (.lst ((ws.take 1).map V.str)) = H2 at s2 e2 ⊢
                    obtain ⟨n1, en1, ln1, np1⟩ : ∃ n : Nat, (if decide (V.int pk = V.int 1) = true then (1 : Int) else 0) = (n : Int) ∧ n ≤ 1 ∧ (pk = 1 → n = 1) := by
                      by_cases q : pk = 1
                      · exact ⟨1, by rw [if_pos (by rw [q]; simp)]; rfl, by omega, fun _ => rfl⟩
                      · exact ⟨0, by rw [if_neg (by rw [decide_eq_true_eq]; exact fun z => q (V.int.inj z))]; rfl, by omega, fun z => absurd z q⟩
                    refine ⟨_, rfl, _, rfl, rfl, .inr ⟨_, rfl, _, rfl, lw, _, rfl, SqL.of (s2 _ _ elw), fun p2 hp2 => ?_⟩⟩
                    rw [en1, cut_to, tkw]
                    have s3 : Same H2 (upd H2 p2 (.lst ((ws.take n1).map V.str))) := same_new hp2
                    have e3 : upd H2 p2 (.lst ((ws.take n1).map V.str)) p2 = some (.lst ((ws.take n1).map V.str)) := upd_same
                    generalize upd H2 p2 (.lst ((ws.take n1).map V.str)) = H3 at s3 e3 ⊢
                    refine ⟨by show 3 ≤ sizeLine; decide, fun t ht => ?_⟩
                    have s4 : Same H3 (upd H3 t (.lst [.ref lw, .ref p1, .ref p2])) := same_new ht
                    have e4 : upd H3 t (.lst [.ref lw, .ref p1, .ref p2]) t = some (.lst [.ref lw, .ref p1, .ref p2]) := upd_same
                    generalize upd H3 t (.lst [.ref lw, .ref p1, .ref p2]) = H4 at s4 e4 ⊢
                    have L4 := ((L1.same s2).same s3).same s4
                    have f0 := s4 _ _ (s3 _ _ (s2 _ _ elw))
                    have f1 := s4 _ _ (s3 _ _ e2)
                    have f2 := s4 _ _ e3
                    have pick3 : pk = 0 ∨ pk = 1 ∨ pk = 2 := by omega
                    refine ⟨t, rfl, ⟨_, SqL.of e4⟩, ?_⟩
                    refine for_list (K := K) (a := t) (xs := [.ref lw, .ref p1, .ref p2]) (fun j σ H' => ∃ v13 : Option V, σ = [some (.ref a), some (.ref b), some (.ref pl), some (.str (yardT days hs es)), some (.ref dr), some (.ref lr), v6, v7, v8, v9, some (.str long), some (.int pk), some (.ref lw), v13, none, none, none, none, none] ∧ Same H4 H') ⟨none, rfl, fun _ _ z => z⟩ (fun j σ H' _ ⟨_, _, s⟩ => SqL.of (s _ _ e4)) ?_ (fun σ H' ⟨v13, q, s⟩ => ⟨v13, q, L4.same s⟩)
                    rintro j x σ H5 hx ⟨v13, rfl, s5⟩
                    obtain ⟨wa, fs, rfl, ef, lf, nf, okf⟩ : ∃ (wa : Addr) (fs : List Str), x = .ref wa ∧ H4 wa = some (.lst (fs.map V.str)) ∧ (fs.length = 0 ∨ fs.length = 1 ∨ fs.length = 4) ∧ (pk = 1 → fs ≠ []) ∧ ∀ x ∈ fs, x.length ≤ 100 ∧ okS x := by
                      have tn : ∀ k, 1 ≤ k → ws.take k ≠ [] := fun k hk z => by
                        have q := congrArg List.length z
                        rw [List.length_take, lws, List.length_nil] at q
                        omega
                      have tl : ∀ k, k ≤ 1 → (ws.take k).length = 0 ∨ (ws.take k).length = 1 ∨ (ws.take k).length = 4 := fun k hk => by
                        rw [List.length_take, lws]
                        omega
                      match j, hx with
                      | 0, hx => cases hx; exact ⟨lw, ws, rfl, f0, .inr (.inr lws), (fun _ z => by rw [z] at lws; cases lws), okws⟩
                      | 1, hx => cases hx; exact ⟨p1, _, rfl, f1, tl 1 (Nat.le_refl _), (fun _ => tn 1 (Nat.le_refl _)), fun x h => okws x (List.mem_of_mem_take h)⟩
                      | 2, hx => cases hx; exact ⟨p2, _, rfl, f2, tl n1 ln1, (fun q => tn n1 (by rw [np1 q]; exact Nat.le_refl _)), fun x h => okws x (List.mem_of_mem_take h)⟩
                      | j + 3, hx => cases hx
                    have lf14 : fs.length ≤ 14 := by omega
                    have e5 := s5 _ _ ef
                    refine ⟨_, rfl, _, rfl, wa, fs, pk, rfl, e5, pick3, lf, nf, okf, fun bd H6 r6 s6 hr6 er6 => ?_, fun ne hd H6 s6 => ?_⟩
                    · refine ⟨_, rfl, _, rfl, wa, fs, pk, rfl, s6 _ _ e5, lf14, okf, fun _ H7 r7 s7 hr7 er7 => ?_, fun ne hd => ?_⟩
                      · refine ⟨_, _, rfl, lk_pair (n := 2) (s7 _ _ er6) er7 (lk_str _ 2) (lk_int _ 2), fun H8 s8 => ?_⟩
                        exact ⟨_, rfl, iteF (A := False) ⟨_, rfl, Same.trans (Same.trans (Same.trans s5 s6) s7) s8⟩⟩
                      · rcases bd with z | z
                        · exact absurd z ne
                        · rw [z] at hd; cases hd
                    · refine ⟨_, rfl, _, rfl, wa, fs, pk, rfl, s6 _ _ e5, lf14, okf, fun bd => ?_, fun _ _ H7 s7 => ?_⟩
                      · rcases bd with z | z
                        · exact absurd z ne
                        · rw [z] at hd; cases hd
                      · refine ⟨_, _, rfl, lk_str _ 3, fun H8 s8 => ?_⟩
                        exact ⟨_, rfl, iteF (A := False) ⟨_, rfl, Same.trans (Same.trans (Same.trans s5 s6) s7) s8⟩⟩
                  · clear elw L1
                    rintro σ' H1 ⟨v13, rfl, L1⟩
                    -- fifteen names
                    refine ⟨_, rfl, b, c, 15, rfl, L1.B, by decide, fun lm ns H2 B2 k2 hlm elm len15 ndn smn => ?_⟩
                    have L2 := L1.keepB k2 B2
                    refine ⟨fun σ' H' => σ' = [some (.ref a), some (.ref b), some (.ref pl), some (.str (yardT days hs es)), some (.ref dr), some (.ref lr), v6, v7, v8, v9, some (.str long), some (.int pk), some (.ref lw), v13, some (.ref lm), none, none, none, none] ∧ LI H' b c pl lh le dr lr days hs as es, ?_, ?_⟩
                    · refine ⟨_, rfl, _, rfl, b, c, 2, rfl, L2.B, by decide, by decide, fun r H3 r0 r1 B3 k3 => ?_⟩
                      have L3 := L2.keepB k3 B3
                      refine ⟨rfl, lm, ns, _, rfl, k3.get L2.B elm (strs_nbag _), len15, ndn, smn, fun H4 t s4 ht et => ?_⟩
                      refine ⟨by show 2 ≤ sizeLine; decide, fun u hu => ?_⟩
                      have s5 : Same H4 (upd H4 u (.tup [.str "benches", .int 14])) := same_new hu
                      have e5 : upd H4 u (.tup [.str "benches", .int 14]) u = some (.tup [.str "benches", .int 14]) := upd_same
                      generalize upd H4 u (.tup [.str "benches", .int 14]) = H5 at s5 e5 ⊢
                      refine ⟨_, _, rfl, lk_pair (n := 2) (s5 _ _ et) e5 (lk_str _ 2) (lk_int _ 2), fun H6 s6 => ?_⟩
                      exact ⟨_, rfl, iteF (A := False) ⟨rfl, ((L3.same s4).same s5).same s6⟩⟩
                    · clear L1 L2 B2 k2 hlm elm
                      rintro σ' H1 ⟨rfl, L1⟩
                      refine ⟨fun σ' H' => ¬ 14 < hs.length ∧ σ' = [some (.ref a), some (.ref b), some (.ref pl), some (.str (yardT days hs es)), some (.ref dr), some (.ref lr), v6, v7, v8, v9, some (.str long), some (.int pk), some (.ref lw), v13, some (.ref lm), none, none, none, none] ∧ LI H' b c pl lh le dr lr days hs as es, ?_, ?_⟩
                      · refine ⟨_, rfl, pl, _, 1, _, rfl, rfl, SqL.of L1.P.hp, rfl, lh, _, rfl, .inl (SqL.of L1.P.hh), _, _, rfl, rfl, _, rfl, ?_⟩
                        rw [List.length_map]
                        refine ite2 (fun _ => kq _) (fun c1 => ⟨fun z => c1 (decide_eq_true (show (14 : Int) < hs.length by omega)), rfl, L1⟩)
                      · clear L1
                        rintro σ' H1 ⟨f14, rfl, L1⟩
                        have rd := PO.back f14
                        -- the yards
                        refine ⟨_, rfl, fun o1 d1 ho1 hd1 _ => yard_new tok (by omega) rd ho1 hd1 fun H2 b1 we1 ps1 N1 R1 S1 as1 s2 Y1 PL1 => ?_⟩
                        have L2 := L1.same s2
                        refine ⟨_, rfl, _, _, rfl, rfl, (by show 0 + (yardT days hs es).length ≤ _; rw [sizeLine_eq]; omega), ?_⟩
                        rw [empty_app]
                        refine ⟨rfl, rfl, fun o2 d2 ho2 hd2 _ => yard_new tok (by omega) rd ho2 hd2 fun H3 b2 we2 ps2 N2 R2 S2 as2 s3 Y2 PL2 => ?_⟩
                        have L3 := L2.same s3
                        have W1 := (YI.of Y1).same s3
                        have W2 := YI.of Y2
                        clear L1 L2 Y1 Y2 PL1 PL2 s2 s3 ho1 hd1 ho2 hd2
                        -- the benches in another order
                        refine ⟨fun σ' H' => ∃ hs2 : List Str, hs2.Perm hs ∧ σ' = [some (.ref a), some (.ref b), some (.ref pl), some (.str (yardT days hs es)), some (.ref dr), some (.ref lr), v6, v7, v8, v9, some (.str long), some (.int pk), some (.ref lw), v13, some (.ref lm), some (.ref o1), some (.ref o2), some (.str (yardT days hs2 es)), none] ∧ LI H' b c pl lh le dr lr days hs as es ∧ YI K H' o1 (yardT days hs es) days hs ∧ YI K H' o2 (yardT days hs es) days hs, ?_, ?_⟩
                        · have tk : ∀ k : Nat, ((rowsT days hs es).map V.str).take k = ((rowsT days hs es).take k).map V.str := fun k => by rw [List.map_take]
                          have dk : ∀ k : Nat, ((rowsT days hs es).map V.str).drop k = ((rowsT days hs es).drop k).map V.str := fun k => by rw [List.map_drop]
                          have lrl : ((rowsT days hs es).map V.str).length = (rowsT days hs es).length := List.length_map _
                          have e1n : (1 : Int) + (hs.length : Nat) = ((1 + hs.length : Nat) : Int) := by omega
                          have ct1 : cutV ((rowsT days hs es).map V.str) none (some 1) = ((rowsT days hs es).take 1).map V.str := (cut_to (k := 1)).trans (tk 1)
                          have ctm : cutV ((rowsT days hs es).map V.str) (some 1) (some ((1 : Int) + (hs.length : Nat))) = (((rowsT days hs es).take (1 + hs.length)).drop 1).map V.str := by
                            rw [e1n, show (some (1 : Int)) = some ((1 : Nat) : Int) from rfl, cut_mid (by omega) (by rw [lrl]; omega), tk, List.map_drop]
                          have ctd : cutV ((rowsT days hs es).map V.str) (some ((1 : Int) + (hs.length : Nat))) none = ((rowsT days hs es).drop (1 + hs.length)).map V.str := by rw [e1n, cut_from, dk]
                          have ll : ∀ k : Nat, k ≤ 1000 → k ≤ sizeLine := fun k h => by rw [sizeLine_eq]; omega
                          have lhl : ((hs.map V.str).length : Int) = (hs.length : Nat) := by rw [List.length_map]
                          refine ⟨⟨_, rfl⟩, _, rfl, _, rfl, lr, _, rfl, SqL.of L3.R, fun p1 hp1 => ?_⟩
                          rw [ct1]
                          have s4 : Same H3 (upd H3 p1 (.lst (((rowsT days hs es).take 1).map V.str))) := same_new hp1
                          have e4 : upd H3 p1 (.lst (((rowsT days hs es).take 1).map V.str)) p1 = some (.lst (((rowsT days hs es).take 1).map V.str)) := upd_same
                          generalize upd H3 p1 (.lst (((rowsT days hs es).take 1).map V.str)) = H4 at s4 e4 ⊢
                          have L4 := L3.same s4
                          refine ⟨_, rfl, _, rfl, _, rfl, _, rfl, pl, _, 1, _, rfl, rfl, SqL.of L4.P.hp, rfl, lh, _, rfl, .inl (SqL.of L4.P.hh), _, _, rfl, rfl, _, rfl, lr, _, rfl, SqL.of L4.R, fun p2 hp2 => ?_⟩
                          rw [lhl, ctm]
                          have s5 : Same H4 (upd H4 p2 (.lst ((((rowsT days hs es).take (1 + hs.length)).drop 1).map V.str))) := same_new hp2
                          have e5 : upd H4 p2 (.lst ((((rowsT days hs es).take (1 + hs.length)).drop 1).map V.str)) p2 = some (.lst ((((rowsT days hs es).take (1 + hs.length)).drop 1).map V.str)) := upd_same
                          generalize upd H4 p2 (.lst ((((rowsT days hs es).take (1 + hs.length)).drop 1).map V.str)) = H5 at s5 e5 ⊢
                          have L5 := L4.same s5
                          refine ⟨b, c, p2, _, rfl, L5.B, e5, L5.ne e5, by rw [List.length_map, List.length_drop, List.length_take]; omega, fun lx ys H6 pm B6 k6 hlx elx => ?_⟩
                          have L6 := L5.keepB k6 B6
                          obtain ⟨hs2, pp, rfl, eo⟩ := other_rows pm
                          have e6 := k6.get L5.B (s5 _ _ e4) (strs_nbag _)
                          have l2 : hs2.length = hs.length := pp.length_eq
                          refine ⟨p1, lx, _, _, rfl, rfl, e6, elx, by rw [List.length_map, List.length_map, List.length_map, List.length_take]; exact ll _ (by omega), fun p3 hp3 => ?_⟩
                          rw [← List.map_append]
                          generalize hA : (rowsT days hs es).take 1 ++ hs2.map (rowB days) = AA at eo ⊢
                          have lA : AA.length ≤ 20 := by rw [← hA, List.length_append, List.length_take, List.length_map]; omega
                          have s7 : Same H6 (upd H6 p3 (.lst (AA.map V.str))) := same_new hp3
                          have e7 : upd H6 p3 (.lst (AA.map V.str)) p3 = some (.lst (AA.map V.str)) := upd_same
                          generalize upd H6 p3 (.lst (AA.map V.str)) = H7 at s7 e7 ⊢
                          have L7 := L6.same s7
                          refine ⟨_, rfl, _, rfl, pl, _, 1, _, rfl, rfl, SqL.of L7.P.hp, rfl, lh, _, rfl, .inl (SqL.of L7.P.hh), _, _, rfl, rfl, _, rfl, lr, _, rfl, SqL.of L7.R, fun p4 hp4 => ?_⟩
                          rw [lhl, ctd]
                          have s8 : Same H7 (upd H7 p4 (.lst (((rowsT days hs es).drop (1 + hs.length)).map V.str))) := same_new hp4
                          have e8 : upd H7 p4 (.lst (((rowsT days hs es).drop (1 + hs.length)).map V.str)) p4 = some (.lst (((rowsT days hs es).drop (1 + hs.length)).map V.str)) := upd_same
                          generalize upd H7 p4 (.lst (((rowsT days hs es).drop (1 + hs.length)).map V.str)) = H8 at s8 e8 ⊢
                          have L8 := L7.same s8
                          refine ⟨p3, p4, _, _, rfl, rfl, s8 _ _ e7, e8, by rw [List.length_map, List.length_map, List.length_drop]; exact ll _ (by omega), fun p5 hp5 => ?_⟩
                          rw [← List.map_append, eo]
                          have s9 : Same H8 (upd H8 p5 (.lst ((rowsT days hs2 es).map V.str))) := same_new hp5
                          have e9 : upd H8 p5 (.lst ((rowsT days hs2 es).map V.str)) p5 = some (.lst ((rowsT days hs2 es).map V.str)) := upd_same
                          generalize upd H8 p5 (.lst ((rowsT days hs2 es).map V.str)) = H9 at s9 e9 ⊢
                          have S2 : Sml hs2 es := small_len100 (by omega) PO.sml.en (fun h m => PO.sm h (pp.mem_iff.mp m)) (fun e he => ⟨pp.mem_iff.mpr (PO.wf e he).1, pp.mem_iff.mpr (PO.wf e he).2⟩)
                          refine ⟨"\n", p5, _, rfl, rfl, .inl (SqL.of e9), rows_sum S2, ?_⟩
                          have s69 := Same.trans (Same.trans s7 s8) s9
                          have s35 := Same.trans s4 s5
                          exact ⟨hs2, pp, rfl, L8.same s9, ((W1.same s35).keepB k6 L5.B).same s69, ((W2.same s35).keepB k6 L5.B).same s69⟩
                        · clear L3 W1 W2
                          rintro σ' H1 ⟨hs2, pp, rfl, L1, W1, W2⟩
                          obtain ⟨oko, leo, rdo⟩ := PO.other (by omega) pp
                          have Cy := insc_Yard T
                          -- what is the same
                          refine ⟨fun σ' H' => ∃ sm : Addr, σ' = [some (.ref a), some (.ref b), some (.ref pl), some (.str (yardT days hs es)), some (.ref dr), some (.ref lr), v6, v7, v8, v9, some (.str long), some (.int pk), some (.ref lw), v13, some (.ref lm), some (.ref o1), some (.ref o2), some (.str (yardT days hs2 es)), some (.ref sm)] ∧ LI H' b c pl lh le dr lr days hs as es ∧ YI K H' o1 (yardT days hs es) days hs ∧
            H' sm = some (.lst [.bl true, .bl false, .bl (decide (yardT days hs es = yardT days hs2 es)), .bl false, .int (hs.length : Nat), .int (hs.length : Nat)]), ?_, ?_⟩
                          · obtain ⟨d1, b1, f1, a1, a2, a3, a4, a5⟩ := _root_.id W1
                            obtain ⟨d2, b2, f2, c1, c2, c3, c4, c5⟩ := _root_.id W2
                            refine ⟨_, rfl, _, rfl, o1, d1, f1, rfl, a1, .inl ⟨o2, d2, f2, rfl, c1⟩, o1, d1, f1, _, _, rfl, a1, a2, .inl ⟨o2, d2, f2, _, rfl, c1, c2, _, rfl, ?_⟩⟩
                            rw [decide_eq_true rfl]
                            refine ⟨_, rfl, _, rfl, o1, d1, f1, rfl, a1, .inl ⟨o2, d2, f2, rfl, c1⟩, o1, d1, f1, _, _, rfl, a1, a2, .inl ⟨o2, d2, f2, _, rfl, c1, c2, _, rfl, ?_⟩⟩
                            rw [decide_eq_true rfl]
                            refine ⟨_, rfl, _, rfl, fun o3 d3 ho3 hd3 _ => yard_new oko leo rdo ho3 hd3 fun H2 b3 we3 ps3 N3 R3 S3 as3 s2 Y3 PL3 => ?_⟩
                            have e1 := s2 _ _ a1
                            refine ⟨o1, d1, f1, rfl, e1, .inl ⟨o3, d3, _, rfl, Y3.hp⟩, o1, d1, f1, _, _, rfl, e1, a2, .inl ⟨o3, d3, _, _, rfl, Y3.hp, rfl, _, rfl, ?_⟩⟩
                            rw [text_back rdo]
                            refine ⟨_, rfl, _, rfl, o1, d1, f1, rfl, e1, .inr ⟨_, rfl⟩, o1, d1, f1, _, _, rfl, e1, a2, .inr ⟨_, rfl, _, rfl, ?_⟩⟩
                            refine ⟨_, rfl, o1, d1, f1, rfl, e1, o1, d1, b1, f1, hs, rfl, e1, a4, SqT.of (s2 _ _ a5), hs.length, rfl, by omega, ?_⟩
                            refine ⟨_, rfl, o2, d2, f2, rfl, s2 _ _ c1, o2, d2, b2, f2, hs, rfl, s2 _ _ c1, c4, SqT.of (s2 _ _ c5), hs.length, rfl, by omega, ?_⟩
                            refine ⟨by show 6 ≤ sizeLine; decide, fun sm hsm => ?_⟩
                            exact ⟨sm, rfl, (L1.same s2).same (same_new hsm), (W1.same s2).same (same_new hsm), upd_same⟩
                          · clear L1 W1 W2
                            rintro σ' H1 ⟨sm, rfl, L1, W1, esm⟩
                            refine ⟨_, rfl, _, rfl, _, rfl, rfl, _, rfl, pl, _, 1, _, rfl, rfl, SqL.of L1.P.hp, rfl, lh, _, rfl, .inl (SqL.of L1.P.hh), _, rfl, pl, _, 1, _, rfl, rfl, SqL.of L1.P.hp, rfl, lh, _, rfl, .inl (SqL.of L1.P.hh), by show 6 ≤ sizeLine; decide, fun u hu => ?_⟩
                            rw [List.length_map, str_dec, show decide (yardT days hs2 es = yardT days hs es) = decide (yardT days hs es = yardT days hs2 es) from decide_eq_decide.mpr eq_comm]
                            have s2 : Same H1 (upd H1 u (.lst [.bl true, .bl false, .bl (decide (yardT days hs es = yardT days hs2 es)), .bl false, .int (hs.length : Nat), .int (hs.length : Nat)])) := same_new hu
                            have e2 : upd H1 u (.lst [.bl true, .bl false, .bl (decide (yardT days hs es = yardT days hs2 es)), .bl false, .int (hs.length : Nat), .int (hs.length : Nat)]) u = some (.lst [.bl true, .bl false, .bl (decide (yardT days hs es = yardT days hs2 es)), .bl false, .int (hs.length : Nat), .int (hs.length : Nat)]) := upd_same
                            generalize upd H1 u (.lst [.bl true, .bl false, .bl (decide (yardT days hs es = yardT days hs2 es)), .bl false, .int (hs.length : Nat), .int (hs.length : Nat)]) = H2 at s2 e2 ⊢
                            have flat : ∀ x ∈ [V.bl true, .bl false, .bl (decide (yardT days hs es = yardT days hs2 es)), .bl false, .int (hs.length : Nat), .int (hs.length : Nat)], ∃ m, Sc x m := by
                              intro x hx
                              simp only [List.mem_cons, List.mem_nil_iff, or_false] at hx
                              rcases hx with rfl | rfl | rfl | rfl | rfl | rfl
                              · exact ⟨_, .bl _⟩
                              · exact ⟨_, .bl _⟩
                              · exact ⟨_, .bl _⟩
                              · exact ⟨_, .bl _⟩
                              · exact ⟨_, .int _⟩
                              · exact ⟨_, .int _⟩
                            refine ⟨_, _, rfl, lk_flat (s2 _ _ esm) e2 (by show 6 ≤ 1000; decide) flat, fun H3 s3 => ?_⟩
                            have s13 := Same.trans s2 s3
                            have L3 := L1.same s13
                            obtain ⟨d1, b1, f1, a1, a2, a3, a4, a5⟩ := W1.same s13
                            refine ⟨_, rfl, iteT (B := False) ?_⟩
                            refine ⟨_, rfl, o1, _, d1, f1, _, rfl, a1, T.cls_Yard, T.a_Yard_text, a2, _, rfl, o1, _, d1, f1, _, rfl, a1, T.cls_Yard, T.a_Yard_course, a3, by show 2 ≤ sizeLine; decide, fun u1 hu1 => ?_⟩
                            have s4 : Same H3 (upd H3 u1 (.tup [.str (yardT days hs es), .bl days])) := same_new hu1
                            have e4 : upd H3 u1 (.tup [.str (yardT days hs es), .bl days]) u1 = some (.tup [.str (yardT days hs es), .bl days]) := upd_same
                            generalize upd H3 u1 (.tup [.str (yardT days hs es), .bl days]) = H4 at s4 e4 ⊢
                            have L4 := L3.same s4
                            refine ⟨_, rfl, _, rfl, pl, _, 0, _, rfl, rfl, SqL.of L4.P.hp, rfl, by show 2 ≤ sizeLine; decide, fun u2 hu2 => ?_⟩
                            have s5 : Same H4 (upd H4 u2 (.tup [.str (yardT days hs es), .bl days])) := same_new hu2
                            have e5 : upd H4 u2 (.tup [.str (yardT days hs es), .bl days]) u2 = some (.tup [.str (yardT days hs es), .bl days]) := upd_same
                            generalize upd H4 u2 (.tup [.str (yardT days hs es), .bl days]) = H5 at s5 e5 ⊢
                            exact ⟨_, _, rfl, lk_pair (n := 2) (s5 _ _ e4) e5 (lk_str _ 2) (lk_bl _ 2), fun H6 s6 => kq _⟩
end
end Yd
set_option Elab.async false
set_option linter.all false
set_option maxRecDepth 100000
set_option maxHeartbeats 0
namespace Yd
open PySem PySem.Spec PyProof.Rows L2 Xo
theorem facts {P : Program} {w : World} {K : PySem.W.Frag} {h : Heap} {mg : Str → Option Value} {f : Addr} (X : K.In h) (G : h.Ns mainGlobals mg) (hfa : mg ("law" : Str) = some (.ref f)) (c : SaysZ fa fn xl tabs sfn w K) :
    ∃ fd : FuncData, (∀ (s : Shared) (v : Value), BindsTo s fd ⟨[v], []⟩ [("script", v)]) ∧ ∀ base : Heap, K.In base → base.Ns mainGlobals mg → FnOk P w K mg base CX0 12 f fd ["script"] (spLaw K) := by
  have T := tx_of X G c
  have e := hfa.symm.trans T.g_law
  cases e
  obtain ⟨fd, F⟩ := T.f_law
  have b := FunD.bindsA (ps := ["script"]) F fun _ _ _ _ _ _ us hl => match us, hl with | [_], _ => rfl
  exact ⟨fd, fun s v => b s [v] rfl, fun base _ _ => ok_law T F⟩
end Yd
open PySem PySem.W PySem.Calls PyProof.Rows
theorem PySem.Challenge.cw_everywire_k20_yards_there_and_back_holds : PySem.Challenge.rw_everywire_k20_yards_there_and_back.Holds := by
  w_on; o_law
  refine HandSHeadRun.head_any (r := OpenLaw.row PySem.Challenge.rw_everywire_k20_yards_there_and_back) (q := view (OpenLaw.row PySem.Challenge.rw_everywire_k20_yards_there_and_back).prog [44]) (H := Yd.hk) (ob := Yd.ob) (M := 8000) (loose := Yd.loose) (d := HandSHeadRun.topDef (OpenLaw.row PySem.Challenge.rw_everywire_k20_yards_there_and_back).prog 44) (kwd := []) Yd.ob_eq
    (by kernel_rfl) (fun s => by kernel_rfl) Yd.run (by kernel_rfl) (by kernel_rfl) (by kernel_rfl) (by rfl) (by first | assumption | decide +kernel) (by decide +kernel) ⟨rfl, rfl, rfl, rfl, rfl, by decide +kernel⟩ ?hw ?hc
  case hw => w_witness2
  case hc =>
    refine L2.walk_ofE (l := PySem.Challenge.rw_everywire_k20_yards_there_and_back) (n := 63) (k := 12) (x := "script") (CX := L2.CX0) rfl (by decide) (by kernel_rfl) ⟨rfl, by decide, by decide⟩ ?F (fun _ _ _ _ z => z)
    intro w mg fa h Y G hmg0
    obtain ⟨K, KX, c⟩ := Y
    have hmg : mg ("law" : PySem.Str) = some (.ref fa) := by
      have e : (HandSHeadRun.topDef (OpenLaw.row PySem.Challenge.rw_everywire_k20_yards_there_and_back).prog 44).name = ("law" : PySem.Str) := by kernel_rfl
      rw [← e]
      exact hmg0
    obtain ⟨fd, hb, hF⟩ := Yd.facts (P := (PySem.Challenge.rw_everywire_k20_yards_there_and_back).prog) (w := w) KX G hmg c
    exact ⟨K, fd, Yd.spLaw K, KX, hb, fun H a ns hl _ hS => ⟨a, ns, rfl, hS, hl, fun _ => rfl⟩, hF⟩
